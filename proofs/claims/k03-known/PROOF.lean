import PyProof.Rows.All
import Wide.All
import OpenK.AllK
import Wide.FinOn
import HandS.ForMost
import HandS.TupAny
import HandS.TupLe
import HandS.IsInst
import HandS.TupMul
import HandS.Wide
import KE.KDictKeyed
import KE.KeyNested
import HandS.Lambda
import PyProof.Rows.SeqMore
import HandS.Dict
import HandS.SortOrd
import HandS.Iter
import HandS.Deep
import KE.DataCmp
import HandS.TupLen
import KE.GoesMore
import HandS.Exc
import HandS.SortRule
import HandS.SortInts
import HandS.TupSets
import HandS.Style
import KE.KRevSl
import KE.KStateDown
import HandS.More
import HandS.Words
import HandS.WordsExc
import HandS.Defaults
import HandS.Head0
import HandS.Head1
import HandS.Head2
import HandS.HeadEnd
import HandS.HeadHook1
import HandS.HeadHook2
import HandS.ExcInit
import HandS.ExcField
import HandS.ExcIs
import HandS.TryOnly
import KE.KExcSuper
import KE.KExcIs
import KE.KDictCopyH
import KE.KDictOf
import KE.SortUse
import HandS.Nested
import HandS.SortKw
import HandS.EndOwn
import HandS.HeadWalk
import KE.KDictPairs
import KE.KDictDisplayH
import HandS.ExcOwn
import PySem.Challenge.RW_roundguards_k03_known_programs
set_option Elab.async false
set_option linter.all false
set_option maxRecDepth 100000
set_option maxHeartbeats 4000000
/-! G1: data, the small language, its meaning. -/
namespace G
/-- data by value -/
inductive D where
  | non | bl (b : Bool) | int (i : Int) | str (s : List Nat)
  | tup (l : List D) | lst (l : List D) | dct (ks vs : List D)
  deriving Inhabited
inductive EK where
  | round | program | weaving | item | hand | count | ask | order | never | safe | notText | text | many
  deriving DecidableEq
inductive R (α : Type) where
  | ok (a : α) | err (k : EK) (x : Option D) | stuck
abbrev Cell := Option (List D)
def C (α : Type) := Cell → R (α × Cell)
namespace C
variable {α β γ : Type}
def ret (a : α) : C α := fun c => .ok (a, c)
def bnd (m : C α) (f : α → C β) : C β := fun c => match m c with
  | .ok (a, c') => f a c'
  | .err k x => .err k x
  | .stuck => .stuck
def stk : C α := fun _ => .stuck
def opt (o : Option α) : C α := fun c => match o with
  | some a => .ok (a, c)
  | none => .stuck
/-- an error here is no promise -/
def lift (r : R α) : C α := fun c => match r with
  | .ok a => .ok (a, c)
  | .err _ _ => .stuck
  | .stuck => .stuck
def fail (k : EK) (x : Option D) : C α := fun _ => .err k x
theorem ret_bnd (a : α) (f : α → C β) : bnd (ret a) f = f a := rfl
theorem stk_bnd (f : α → C β) : bnd stk f = stk := rfl
theorem bnd_ret (m : C α) : bnd m ret = m := by
  funext c; unfold bnd ret; cases m c <;> rfl
theorem bnd_bnd (m : C α) (f : α → C β) (g : β → C γ) : bnd (bnd m f) g = bnd m fun a => bnd (f a) g := by
  funext c; unfold bnd; cases m c <;> rfl
theorem opt_some (a : α) : opt (some a) = ret a := rfl
theorem opt_none : opt (none : Option α) = stk := rfl
theorem lift_ok (a : α) : lift (.ok a) = ret a := rfl
end C
/-- the longest list -/
def LIM : Nat := 16777216
/-! ### equality -/
mutual
def eqv : D → D → Bool
  | .non, .non => true
  | .bl a, .bl b => a == b
  | .bl a, .int j => (if a then 1 else 0) == j
  | .int i, .bl b => i == (if b then 1 else 0)
  | .int i, .int j => i == j
  | .str x, .str y => x == y
  | .lst xs, .lst ys => eqvs xs ys
  | .tup xs, .tup ys => eqvs xs ys
  | _, _ => false
def eqvs : List D → List D → Bool
  | [], [] => true
  | x :: xs, y :: ys => eqv x y && eqvs xs ys
  | _, _ => false
end
/-- no dict within, not too deep -/
def shp : Nat → D → Bool
  | _, .non => true
  | _, .bl _ => true
  | _, .int _ => true
  | _, .str _ => true
  | n + 1, .tup l => l.all (shp n)
  | n + 1, .lst l => l.all (shp n)
  | _, _ => false
/-- no list and no dict within -/
def flatD : Nat → D → Bool
  | _, .non => true
  | _, .bl _ => true
  | _, .int _ => true
  | _, .str _ => true
  | n + 1, .tup l => l.all (flatD n)
  | _, _ => false
def DEEP : Nat := 60
/-! ### order: of one shape -/
inductive Sh where
  | i | s | t (l : List Sh)
mutual
def hasSh : Sh → D → Bool
  | .i, .int _ => true
  | .s, .str _ => true
  | .t l, .tup ds => hasShs l ds
  | _, _ => false
def hasShs : List Sh → List D → Bool
  | [], [] => true
  | s :: ss, d :: ds => hasSh s d && hasShs ss ds
  | _, _ => false
end
mutual
def shOf : D → Option Sh
  | .int _ => some .i
  | .str _ => some .s
  | .tup ds => (shsOf ds).map .t
  | _ => none
def shsOf : List D → Option (List Sh)
  | [] => some []
  | d :: ds => match shOf d, shsOf ds with
    | some a, some b => some (a :: b)
    | _, _ => none
end
def ltS : List Nat → List Nat → Bool
  | [], [] => false
  | [], _ :: _ => true
  | _ :: _, [] => false
  | x :: xs, y :: ys => if x = y then ltS xs ys else decide (x < y)
mutual
def ltD : D → D → Bool
  | .int a, .int b => decide (a < b)
  | .str a, .str b => ltS a b
  | .tup a, .tup b => ltDs a b
  | _, _ => false
def ltDs : List D → List D → Bool
  | [], [] => false
  | [], _ :: _ => true
  | _ :: _, [] => false
  | x :: xs, y :: ys => if eqv x y then ltDs xs ys else ltD x y
end
/-- a stable sort -/
def insBy {α : Type} (lt : α → α → Bool) (x : α) : List α → List α
  | [] => [x]
  | y :: ys => if lt y x then y :: insBy lt x ys else x :: y :: ys
def sortBy {α : Type} (lt : α → α → Bool) : List α → List α
  | [] => []
  | x :: xs => insBy lt x (sortBy lt xs)
def okSh : Sh → Bool
  | .i => true
  | .t (.i :: _) => true
  | .t (.t _ :: _) => true
  | _ => false
def sameSh (l : List D) : Bool := match l with
  | [] => true
  | d :: _ => match shOf d with
    | some s => okSh s && l.all (hasSh s) && l.all (shp DEEP)
    | none => false
def sortD (l : List D) : Option (List D) := if sameSh l then some (sortBy ltD l) else none
/-! ### operators -/
inductive Op2 where
  | add | sub | mul | fdiv | mod | pow | rep
  deriving DecidableEq
def M64 : Int := 18446744073709551616
def arith : Op2 → D → D → Option D
  | .add, .int a, .int b => some (.int (a + b))
  | .sub, .int a, .int b => some (.int (a - b))
  | .mul, .int a, .int b => if (-M64 < a ∧ a < M64) ∨ (-M64 < b ∧ b < M64) then some (.int (a * b)) else none
  | .fdiv, .int a, .int b => if 0 < b ∧ b < 1073741824 then some (.int (a / b)) else none
  | .mod, .int a, .int b => if 0 < b then some (.int (a % b)) else none
  | .pow, .int a, .int b => if 0 ≤ b ∧ b ≤ 1000 ∧ -M64 < a ∧ a < M64 then some (.int (a ^ b.toNat)) else none
  | .add, .str a, .str b => if a.length + b.length ≤ LIM then some (.str (a ++ b)) else none
  | .add, .tup a, .tup b => if a.length + b.length ≤ LIM then some (.tup (a ++ b)) else none
  | .add, .lst a, .lst b => if a.length + b.length ≤ LIM then some (.lst (a ++ b)) else none
  | .mul, .tup a, .int k => if 0 ≤ k ∧ k ≤ 1000 ∧ a ≠ [] ∧ a.length ≤ 1000 then some (.tup (List.replicate k.toNat a).flatten) else none
  | .rep, .lst a, .int k => if 0 ≤ k ∧ k ≤ 1000 ∧ a.length ≤ 1000 then some (.lst (List.replicate k.toNat a).flatten) else none
  | _, _, _ => none
inductive Cmp where
  | eq | ne | lt | le | gt | ge | is | isn | inn | nin
  deriving DecidableEq
def isFlat : D → Bool
  | .non | .bl _ | .int _ | .str _ => true
  | _ => false
def isNon : D → Bool
  | .non => true
  | _ => false
/-- what may be a dict's key here: tuples of whole numbers and of such tuples -/
def keyb : Nat → D → Bool
  | _, .int _ => true
  | n + 1, .tup l => l.all (keyb n)
  | _, _ => false
def isTupD : D → Bool
  | .tup _ => true
  | _ => false
def keyT (d : D) : Bool := isTupD d && keyb 8 d
def dfind : List D → List D → D → Option D
  | k :: ks, v :: vs, x => if eqv k x then some v else dfind ks vs x
  | _, _, _ => none
/-- a value stored: in its key's place, else behind -/
def dput : List D → List D → D → D → List D × List D
  | k :: ks, v :: vs, x, y => if eqv k x then (k :: ks, y :: vs) else ((k :: (dput ks vs x y).1), (v :: (dput ks vs x y).2))
  | _, _, x, y => ([x], [y])
/-- a whole number -/
def isPlainN : D → Bool
  | .int _ => true
  | _ => false
def memD (x : D) (l : List D) : Bool := l.any fun y => eqv y x
def cmp : Cmp → D → D → Option Bool
  | .eq, a, b => if shp DEEP a && shp DEEP b then some (eqv a b) else none
  | .ne, a, b => if shp DEEP a && shp DEEP b then some (!eqv a b) else none
  | .lt, .int a, .int b => some (decide (a < b))
  | .le, .int a, .int b => some (decide (a ≤ b))
  | .gt, .int a, .int b => some (decide (b < a))
  | .ge, .int a, .int b => some (decide (b ≤ a))
  | .lt, .tup a, .tup b => if a.all isPlainN && b.all isPlainN then some (ltDs a b) else none
  | .le, .tup a, .tup b => if a.all isPlainN && b.all isPlainN then some (!ltDs b a) else none
  | .gt, .tup a, .tup b => if a.all isPlainN && b.all isPlainN then some (ltDs b a) else none
  | .ge, .tup a, .tup b => if a.all isPlainN && b.all isPlainN then some (!ltDs a b) else none
  | .is, a, .non => some (isNon a)
  | .isn, a, .non => some (!isNon a)
  | .is, .bl a, .bl b => some (a == b)
  | .inn, a, .lst l => if shp DEEP a && l.all (shp DEEP) then some (memD a l) else none
  | .nin, a, .lst l => if shp DEEP a && l.all (shp DEEP) then some (!memD a l) else none
  | .inn, a, .tup l => if shp DEEP a && l.all (shp DEEP) then some (memD a l) else none
  | .nin, a, .tup l => if shp DEEP a && l.all (shp DEEP) then some (!memD a l) else none
  | .inn, a, .dct ks vs => if keyT a then some (dfind ks vs a).isSome else none
  | .nin, a, .dct ks vs => if keyT a then some (!(dfind ks vs a).isSome) else none
  | _, _, _ => none
def ixNat (n : Nat) (i : Int) : Option Nat :=
  if 0 ≤ i then (if i < n then some i.toNat else none) else if -(n : Int) ≤ i then some (i + n).toNat else none
def index : D → D → Option D
  | .tup l, .int i => (ixNat l.length i).bind fun j => l[j]?
  | .lst l, .int i => (ixNat l.length i).bind fun j => l[j]?
  | .str l, .int i => if l.length ≤ LIM then (ixNat l.length i).bind fun j => l[j]?.map fun c => .str [c] else none
  | .dct ks vs, x => if keyT x then dfind ks vs x else none
  | _, _ => none
/-- a bound of a slice -/
def sBd (n d : Nat) : Option Int → Nat
  | none => d
  | some v => if v < 0 then (v + n).toNat else min v.toNat n
def cut {α : Type} (l : List α) (lo hi : Nat) : List α := (l.drop lo).take (hi - lo)
def cutO {α : Type} (l : List α) (lo hi : Option Int) : List α := cut l (sBd l.length 0 lo) (sBd l.length l.length hi)
def slice : D → Option Int → Option Int → Option D
  | .tup l, lo, hi => some (.tup (cutO l lo hi))
  | .lst l, lo, hi => some (.lst (cutO l lo hi))
  | .str l, lo, hi => if l.length ≤ LIM then some (.str (cutO l lo hi)) else none
  | _, _, _ => none
/-- the built-in functions -/
inductive Bf where
  | len | int | tuple | list | sorted | sortedSet | sum | max | min | abs
  | isInt | isBool | isTuple | isStr | isSeq | isList
  | dget | dcopy | dsorted | trev | sortedM | dpairs
  | strI | joinS
  deriving DecidableEq
/-- a whole number of one digit, written -/
def dgI (n : Int) : List Nat := if n < 0 then [45, 48 + n.natAbs] else [48 + n.natAbs]
def dStrs : List D → Option (List (List Nat))
  | [] => some []
  | .str s :: l => (dStrs l).map (s :: ·)
  | _ => none
def joinN (s : List Nat) : List (List Nat) → List Nat
  | [] => []
  | [p] => p
  | p :: q :: r => p ++ (s ++ joinN s (q :: r))
def dInts : List D → Option (List Int)
  | [] => some []
  | .int i :: r => (dInts r).map (i :: ·)
  | _ => none
def maxI : List Int → Int
  | [] => 0
  | [a] => a
  | a :: r => max a (maxI r)
def minI : List Int → Int
  | [] => 0
  | [a] => a
  | a :: r => min a (minI r)
def dedup (l : List D) : List D := l.foldl (fun acc x => if memD x acc then acc else acc ++ [x]) []
def intPair : D → Bool
  | .tup [.int a, .int b] => decide (0 ≤ a) && decide (a < 64) && decide (0 ≤ b) && decide (b < 64)
  | _ => false
/-- names of items: no two hash alike -/
def smallKey : D → Bool
  | .tup [.int a, .int b] => decide (0 ≤ a) && decide (a < 4) && decide (0 ≤ b) && decide (b < 8)
  | _ => false
def isIntD : D → Bool
  | .int _ | .bl _ => true
  | _ => false
def isBlD : D → Bool
  | .bl _ => true
  | _ => false
def isStrD : D → Bool
  | .str _ => true
  | _ => false
def isLstD : D → Bool
  | .lst _ => true
  | _ => false
/-- a tuple of three items or more that begins with two whole numbers -/
def mk2 : D → Option (Int × Int)
  | .tup (.int a :: .int b :: _ :: _) => some (a, b)
  | _ => none
def mkD (d : D) : Int × Int := (mk2 d).getD (0, 0)
def ltMk (a b : D) : Bool := decide ((mkD a).1 < (mkD b).1 ∨ (mkD a).1 = (mkD b).1 ∧ (mkD a).2 < (mkD b).2)
def sortM (l : List D) : Option (List D) := if (l.all fun d => (mk2 d).isSome) = true ∧ l.length ≤ 1000 ∧ (l.map mkD).Nodup then some (sortBy ltMk l) else none
/-- a key and its value -/
def pairB : D → Bool
  | .tup [k, _] => keyT k
  | _ => false
def pair1 : D → D
  | .tup [k, _] => k
  | _ => .non
def pair2 : D → D
  | .tup [_, v] => v
  | _ => .non
def dpsts : List D → List D × List D → List D × List D
  | [], a => a
  | x :: xs, a => dpsts xs (dput a.1 a.2 (pair1 x) (pair2 x))
def builtin : Bf → List D → Option D
  | .len, [.tup l] => some (.int l.length)
  | .len, [.lst l] => some (.int l.length)
  | .len, [.dct ks _] => some (.int ks.length)
  | .len, [.str l] => if l.length ≤ LIM then some (.int l.length) else none
  | .int, [.int i] => some (.int i)
  | .int, [.bl b] => some (.int (if b then 1 else 0))
  | .tuple, [.tup l] => some (.tup l)
  | .tuple, [.lst l] => some (.tup l)
  | .list, [.tup l] => some (.lst l)
  | .list, [.lst l] => some (.lst l)
  | .sorted, [.lst l] => (sortD l).map .lst
  | .sortedSet, [.lst l] => if l.all intPair && decide (l.length < 64) then some (.lst (sortBy ltD (dedup l))) else none
  | .sum, [.lst l] => (dInts l).map fun ns => .int ns.sum
  | .max, [.int a, .int b] => some (.int (if b > a then b else a))
  | .min, [.int a, .int b] => some (.int (if b < a then b else a))
  | .max, [.lst l] => if l.isEmpty then none else (dInts l).map fun ns => .int (maxI ns)
  | .min, [.lst l] => if l.isEmpty then none else (dInts l).map fun ns => .int (minI ns)
  | .abs, [.int a] => some (.int (if a < 0 then -a else a))
  | .isInt, [d] => some (.bl (isIntD d))
  | .isBool, [d] => some (.bl (isBlD d))
  | .isTuple, [d] => some (.bl (isTupD d))
  | .isStr, [d] => some (.bl (isStrD d))
  | .isList, [d] => some (.bl (isLstD d))
  | .isSeq, [d] => some (.bl (isTupD d || isLstD d))
  | .dget, [.dct ks vs, x, y] => if keyT x then some ((dfind ks vs x).getD y) else none
  | .dcopy, [.dct ks vs] => if ks.all smallKey then some (.dct ks vs) else none
  | .dsorted, [.dct ks _] => (sortD ks).map .lst
  | .trev, [.tup l] => some (.tup l.reverse)
  | .sortedM, [.lst l] => (sortM l).map .lst
  | .strI, [.int n] => if -10 < n ∧ n < 10 then some (.str (dgI n)) else none
  | .joinS, [.str s, .lst l] => (dStrs l).bind fun ys => if (ys.map (·.length)).sum + ys.length * s.length ≤ LIM then some (.str (joinN s ys)) else none
  | .dpairs, [.lst l] => if l.all pairB = true ∧ l.length ≤ 1000000 then some (.dct (dpsts l ([], [])).1 (dpsts l ([], [])).2) else none
  | _, _ => none
/-! ### the small language -/
inductive Tg where
  | nm (i : Nat) | tp (l : List Tg)
mutual
inductive Ex where
  | var (i : Nat)
  | cst (d : D)
  | tup (es : List Ex)
  | lst (es : List Ex)
  | op (o : Op2) (a b : Ex)
  | neg (a : Ex)
  | cmp (o : Cmp) (a b : Ex)
  | cmp2 (o o' : Cmp) (a b c : Ex)
  | and (a b : Ex)
  | or (a b : Ex)
  | not (a : Ex)
  | ite (c a b : Ex)
  | ix (a b : Ex)
  | slc (a lo hi : Ex)
  | blt (f : Bf) (es : List Ex)
  | call (f : Nat) (es : List Ex)
  | callM (f : Nat) (es : List Ex)
  | cellIx (k : Ex)
  | comp (own : List Nat) (elt : Ex) (t : Tg) (it : Wlk) (ifs : List Ex)
  | dnew
  | errIs (ks : List EK)
  | errFld (k : EK)
/-- what is walked -/
inductive Wlk where
  | seq (e : Ex)
  | rng (es : List Ex)
  | enm (a : Ex)
end
/-- where a call's answer goes -/
inductive XT where
  | drop | set (t : Tg) | ret
inductive Stm where
  | asg (t : Tg) (e : Ex)
  | asgF (t : Tg) (e : Ex)
  | own (chk : Bool) (i : Nat) (e : Ex)
  | app (chk : Bool) (i : Nat) (e : Ex)
  | par (ts : List (Bool × Nat)) (es : List Ex)
  | setC (k e : Ex)
  | newC (i : Nat) (es : List Ex)
  | ite (chk : Bool) (c : Ex) (a b : List Stm)
  | forS (chk : Bool) (t : Tg) (it : Wlk) (b : List Stm)
  | ret (chk : Bool) (e : Ex)
  | expr (chk : Bool) (e : Ex)
  | never
  | setD (chk : Bool) (i : Nat) (k e : Ex)
  | move (i j : Nat)
  | forK (t : Tg) (i : Nat) (b : List Stm)
  | forO (t : Tg) (i : Nat) (b : List Stm)
  | whl (chk : Bool) (c : Ex) (b : List Stm)
  | pop (t : Tg) (i : Nat)
  | aug (o : Op2) (i : Nat) (e : Ex)
  | augI (chk : Bool) (o : Op2) (i : Nat) (k e : Ex)
  | xcall (t : XT) (f : Nat) (es : List Ex)
  | raise (k : EK) (e : Option Ex)
  | tryS (t : XT) (f : Nat) (es : List Ex) (i : Nat) (h : List Stm)
  | ext (i : Nat) (e : Ex)
  | upd (i : Nat) (e : Ex)
  | frz (k j : Nat)
  | asgK (i : Nat) (own : List Nat) (elt : Ex) (t : Tg) (j : Nat) (ifs : List Ex)
def partD : Ex → D → Option (Option Int)
  | .cst .non, _ => some none
  | _, .int i => some (some i)
  | _, _ => none
/-- the names' values -/
abbrev Env := List (Option D)
def get : Env → Nat → Option D
  | [], _ => none
  | x :: _, 0 => x
  | _ :: r, n + 1 => get r n
def put : Env → Nat → Option D → Env
  | [], _, _ => []
  | _ :: r, 0, v => v :: r
  | x :: r, n + 1, v => x :: put r n v
def wip (ρ : Env) : List Nat → Env
  | [] => ρ
  | v :: vs => put (wip ρ vs) v none
structure Tab where
  fn : Nat → Option (List D → R D)
  mt : Nat → Option (List D → List D → R (D × List D))
  exn : Option (EK × Option D) := none
def isOwnD : D → Bool
  | .lst _ => true
  | .dct _ _ => true
  | _ => false
mutual
def assign : Tg → D → Env → Option Env
  | .nm i, d, ρ => some (put ρ i (some d))
  | .tp l, .tup ds, ρ => assigns l ds ρ
  | _, _, _ => none
def assigns : List Tg → List D → Env → Option Env
  | [], [], ρ => some ρ
  | t :: ts, d :: ds, ρ => match assign t d ρ with
    | some ρ' => assigns ts ds ρ'
    | none => none
  | _, _, _ => none
end
def asBool : D → C Bool
  | .bl b => C.ret b
  | _ => C.stk
/-- a list comprehension's turns -/
def lcL (set : D → Option Env) (test : Env → C Bool) (elt : Env → C D) : List D → C (List D)
  | [] => C.ret []
  | x :: xs => C.bnd (C.opt (set x)) fun ρ => C.bnd (test ρ) fun b =>
    if b then C.bnd (elt ρ) fun y => C.bnd (lcL set test elt xs) fun ys => C.ret (y :: ys)
    else lcL set test elt xs
def rngN : Nat → Int → List D
  | 0, _ => []
  | n + 1, lo => .int lo :: rngN n (lo + 1)
def rngDn : Nat → Int → List D
  | 0, _ => []
  | n + 1, hi => .int hi :: rngDn n (hi - 1)
def midI (a : Int) : Prop := -1000000 ≤ a ∧ a ≤ 1000000
instance (a : Int) : Decidable (midI a) := inferInstanceAs (Decidable (_ ∧ _))
def rngD : List D → Option (List D)
  | [.int n] => if midI n then some (rngN n.toNat 0) else none
  | [.int a, .int b] => if midI a ∧ midI b then some (rngN (b - a).toNat a) else none
  | [.int a, .int b, .int c] => if midI a ∧ midI b ∧ c = -1 then some (rngDn (a - b).toNat a) else none
  | _ => none
def enumD : Nat → List D → List D
  | _, [] => []
  | n, x :: xs => .tup [.int n, x] :: enumD (n + 1) xs
def seqD : D → Option (List D)
  | .lst l => some l
  | .tup l => some l
  | _ => none
def callMR (g : List D → List D → R (D × List D)) (vs : List D) : C D := fun c => match c with
  | some cs => match g vs cs with
    | .ok (d, cs') => .ok (d, some cs')
    | .err _ _ => .stuck
    | .stuck => .stuck
  | none => .stuck
def errFldD (k : EK) : Option (EK × Option D) → Option D
  | some (k', some d) => if k' = k then some d else none
  | _ => none
def errIsD (ks : List EK) : Option (EK × Option D) → Option D
  | some (k, _) => some (.bl (ks.contains k))
  | none => none
def hasCell : C Unit := fun c => match c with
  | some _ => .ok ((), c)
  | none => .stuck
def cellAt (d : D) : C D := fun c => match c with
  | some cs => match index (.lst cs) d with
    | some x => .ok (x, c)
    | none => .stuck
  | none => .stuck
mutual
def ev (Φ : Tab) : Ex → Env → C D
  | .var i, ρ => C.opt (get ρ i)
  | .cst d, _ => C.ret d
  | .tup es, ρ => C.bnd (evs Φ es ρ) fun vs => if vs.length ≤ LIM then C.ret (.tup vs) else C.stk
  | .lst es, ρ => C.bnd (evs Φ es ρ) fun vs => if vs.length ≤ LIM then C.ret (.lst vs) else C.stk
  | .op o a b, ρ => C.bnd (ev Φ a ρ) fun x => C.bnd (ev Φ b ρ) fun y => C.opt (arith o x y)
  | .neg a, ρ => C.bnd (ev Φ a ρ) fun x => match x with
    | .int i => C.ret (.int (-i))
    | _ => C.stk
  | .cmp o a b, ρ => C.bnd (ev Φ a ρ) fun x => C.bnd (ev Φ b ρ) fun y => C.bnd (C.opt (cmp o x y)) fun k => C.ret (.bl k)
  | .cmp2 o o' a b c, ρ => C.bnd (ev Φ a ρ) fun x => C.bnd (ev Φ b ρ) fun y => C.bnd (C.opt (cmp o x y)) fun k =>
    if k then C.bnd (ev Φ c ρ) fun z => C.bnd (C.opt (cmp o' y z)) fun k => C.ret (.bl k) else C.ret (.bl false)
  | .and a b, ρ => C.bnd (ev Φ a ρ) fun x => C.bnd (asBool x) fun k => if k then ev Φ b ρ else C.ret (.bl false)
  | .or a b, ρ => C.bnd (ev Φ a ρ) fun x => C.bnd (asBool x) fun k => if k then C.ret (.bl true) else ev Φ b ρ
  | .not a, ρ => C.bnd (ev Φ a ρ) fun x => C.bnd (asBool x) fun k => C.ret (.bl (!k))
  | .ite c a b, ρ => C.bnd (ev Φ c ρ) fun x => C.bnd (asBool x) fun k => if k then ev Φ a ρ else ev Φ b ρ
  | .ix a b, ρ => C.bnd (ev Φ a ρ) fun x => C.bnd (ev Φ b ρ) fun y => C.opt (index x y)
  | .slc a lo hi, ρ => C.bnd (ev Φ a ρ) fun x => C.bnd (ev Φ lo ρ) fun y => C.bnd (ev Φ hi ρ) fun z => C.bnd (C.opt (partD lo y)) fun l => C.bnd (C.opt (partD hi z)) fun u => C.opt (slice x l u)
  | .blt f es, ρ => C.bnd (evs Φ es ρ) fun vs => C.opt (builtin f vs)
  | .call f es, ρ => C.bnd (evs Φ es ρ) fun vs => match Φ.fn f with
    | some g => C.lift (g vs)
    | none => C.stk
  | .callM f es, ρ => C.bnd hasCell fun _ => C.bnd (evs Φ es ρ) fun vs => match Φ.mt f with
    | some g => callMR g vs
    | none => C.stk
  | .cellIx k, ρ => C.bnd hasCell fun _ => C.bnd (ev Φ k ρ) cellAt
  | .comp own elt t it ifs, ρ => C.bnd (evI Φ it ρ) fun xs =>
    C.bnd (lcL (fun x => assign t x (wip ρ own)) (evC Φ ifs) (ev Φ elt) xs) fun ys => C.ret (.lst ys)
  | .dnew, _ => C.ret (.dct [] [])
  | .errIs ks, _ => C.opt (errIsD ks Φ.exn)
  | .errFld k, _ => C.opt (errFldD k Φ.exn)
def evs (Φ : Tab) : List Ex → Env → C (List D)
  | [], _ => C.ret []
  | e :: es, ρ => C.bnd (ev Φ e ρ) fun v => C.bnd (evs Φ es ρ) fun vs => C.ret (v :: vs)
/-- a comprehension's tests -/
def evC (Φ : Tab) : List Ex → Env → C Bool
  | [], _ => C.ret true
  | e :: _, ρ => C.bnd (ev Φ e ρ) asBool
/-- what a loop walks -/
def evI (Φ : Tab) : Wlk → Env → C (List D)
  | .rng es, ρ => C.bnd (evs Φ es ρ) fun vs => C.opt (rngD vs)
  | .enm a, ρ => C.bnd (ev Φ a ρ) fun x => C.bnd (C.opt (seqD x)) fun xs => C.ret (enumD 0 xs)
  | .seq e, ρ => C.bnd (ev Φ e ρ) fun x => C.opt (seqD x)
end
/-! ### no expression ends in an error -/
class NE {α : Type} (m : C α) : Prop where
  ne : ∀ c k x, m c ≠ .err k x
section
variable {α β : Type}
instance ne_ret (a : α) : NE (C.ret a) := ⟨fun _ _ _ h => by cases h⟩
instance ne_stk : NE (C.stk : C α) := ⟨fun _ _ _ h => by cases h⟩
instance ne_opt (o : Option α) : NE (C.opt o) := ⟨fun _ _ _ h => by cases o <;> cases h⟩
instance ne_lift (r : R α) : NE (C.lift r) := ⟨fun _ _ _ h => by cases r <;> cases h⟩
theorem ne_bnd {m : C α} {f : α → C β} (h1 : NE m) (h2 : ∀ a, NE (f a)) : NE (C.bnd m f) := ⟨fun c k x h => by
  unfold C.bnd at h
  cases e : m c with
  | ok z => rw [e] at h; exact (h2 z.1).ne _ _ _ h
  | err a b => exact h1.ne _ _ _ e
  | stuck => rw [e] at h; cases h⟩
theorem ne_ite {b : Prop} [Decidable b] {m n : C α} (h1 : NE m) (h2 : NE n) : NE (if b then m else n) := by
  split
  · exact h1
  · exact h2
instance ne_hasCell : NE hasCell := ⟨fun c _ _ h => by cases c <;> cases h⟩
instance ne_cellAt (d : D) : NE (cellAt d) := ⟨fun c k x h => by
  cases c with
  | none => cases h
  | some cs =>
    unfold cellAt at h
    dsimp only at h
    cases e : index (.lst cs) d <;> rw [e] at h <;> cases h⟩
instance ne_asBool (d : D) : NE (asBool d) := by cases d <;> first | exact ne_ret _ | exact ne_stk
instance ne_callMR (g : List D → List D → R (D × List D)) (vs : List D) : NE (callMR g vs) := ⟨fun c k x h => by
  cases c with
  | none => cases h
  | some cs =>
    unfold callMR at h
    dsimp only at h
    cases e : g vs cs with
    | ok z => rw [e] at h; cases h
    | err a b => rw [e] at h; cases h
    | stuck => rw [e] at h; cases h⟩
theorem ne_lcL {set : D → Option Env} {test : Env → C Bool} {elt : Env → C D} (h1 : ∀ ρ, NE (test ρ)) (h2 : ∀ ρ, NE (elt ρ)) : ∀ xs, NE (lcL set test elt xs)
  | [] => by unfold lcL; exact ne_ret _
  | x :: xs => by
    unfold lcL
    exact ne_bnd (ne_opt _) fun ρ => ne_bnd (h1 ρ) fun b => ne_ite (ne_bnd (h2 ρ) fun y => ne_bnd (ne_lcL h1 h2 xs) fun ys => ne_ret _) (ne_lcL h1 h2 xs)
end
mutual
theorem ne_ev (Φ : Tab) : ∀ (e : Ex) (ρ : Env), NE (ev Φ e ρ)
  | .var i, ρ => by unfold ev; exact ne_opt _
  | .cst d, _ => by unfold ev; exact ne_ret _
  | .tup es, ρ => by unfold ev; exact ne_bnd (ne_evs Φ es ρ) fun vs => ne_ite (ne_ret _) ne_stk
  | .lst es, ρ => by unfold ev; exact ne_bnd (ne_evs Φ es ρ) fun vs => ne_ite (ne_ret _) ne_stk
  | .op o a b, ρ => by unfold ev; exact ne_bnd (ne_ev Φ a ρ) fun x => ne_bnd (ne_ev Φ b ρ) fun y => ne_opt _
  | .neg a, ρ => by unfold ev; exact ne_bnd (ne_ev Φ a ρ) fun x => by cases x <;> first | exact ne_ret _ | exact ne_stk
  | .cmp o a b, ρ => by unfold ev; exact ne_bnd (ne_ev Φ a ρ) fun x => ne_bnd (ne_ev Φ b ρ) fun y => ne_bnd (ne_opt _) fun k => ne_ret _
  | .cmp2 o o' a b c, ρ => by unfold ev; exact ne_bnd (ne_ev Φ a ρ) fun x => ne_bnd (ne_ev Φ b ρ) fun y => ne_bnd (ne_opt _) fun k => ne_ite (ne_bnd (ne_ev Φ c ρ) fun z => ne_bnd (ne_opt _) fun k => ne_ret _) (ne_ret _)
  | .and a b, ρ => by unfold ev; exact ne_bnd (ne_ev Φ a ρ) fun x => ne_bnd (ne_asBool _) fun k => ne_ite (ne_ev Φ b ρ) (ne_ret _)
  | .or a b, ρ => by unfold ev; exact ne_bnd (ne_ev Φ a ρ) fun x => ne_bnd (ne_asBool _) fun k => ne_ite (ne_ret _) (ne_ev Φ b ρ)
  | .not a, ρ => by unfold ev; exact ne_bnd (ne_ev Φ a ρ) fun x => ne_bnd (ne_asBool _) fun k => ne_ret _
  | .ite c a b, ρ => by unfold ev; exact ne_bnd (ne_ev Φ c ρ) fun x => ne_bnd (ne_asBool _) fun k => ne_ite (ne_ev Φ a ρ) (ne_ev Φ b ρ)
  | .ix a b, ρ => by unfold ev; exact ne_bnd (ne_ev Φ a ρ) fun x => ne_bnd (ne_ev Φ b ρ) fun y => ne_opt _
  | .slc a lo hi, ρ => by unfold ev; exact ne_bnd (ne_ev Φ a ρ) fun x => ne_bnd (ne_ev Φ lo ρ) fun y => ne_bnd (ne_ev Φ hi ρ) fun z => ne_bnd (ne_opt _) fun l => ne_bnd (ne_opt _) fun u => ne_opt _
  | .blt f es, ρ => by unfold ev; exact ne_bnd (ne_evs Φ es ρ) fun vs => ne_opt _
  | .call f es, ρ => by
    unfold ev
    exact ne_bnd (ne_evs Φ es ρ) fun vs => by
      cases Φ.fn f with
      | none => exact ne_stk
      | some g => exact ne_lift _
  | .callM f es, ρ => by
    unfold ev
    exact ne_bnd ne_hasCell fun _ => ne_bnd (ne_evs Φ es ρ) fun vs => by
      cases Φ.mt f with
      | none => exact ne_stk
      | some g => exact ne_callMR _ _
  | .cellIx k, ρ => by unfold ev; exact ne_bnd ne_hasCell fun _ => ne_bnd (ne_ev Φ k ρ) fun d => ne_cellAt d
  | .comp own elt t it ifs, ρ => by unfold ev; exact ne_bnd (ne_evI Φ it ρ) fun xs => ne_bnd (ne_lcL (fun ρ => ne_evC Φ ifs ρ) (fun ρ => ne_ev Φ elt ρ) xs) fun ys => ne_ret _
  | .dnew, _ => by unfold ev; exact ne_ret _
  | .errIs ks, _ => by unfold ev; exact ne_opt _
  | .errFld k, _ => by unfold ev; exact ne_opt _
theorem ne_evs (Φ : Tab) : ∀ (es : List Ex) (ρ : Env), NE (evs Φ es ρ)
  | [], _ => by unfold evs; exact ne_ret _
  | e :: es, ρ => by unfold evs; exact ne_bnd (ne_ev Φ e ρ) fun v => ne_bnd (ne_evs Φ es ρ) fun vs => ne_ret _
theorem ne_evC (Φ : Tab) : ∀ (es : List Ex) (ρ : Env), NE (evC Φ es ρ)
  | [], _ => by unfold evC; exact ne_ret _
  | e :: _, ρ => by unfold evC; exact ne_bnd (ne_ev Φ e ρ) fun d => ne_asBool d
theorem ne_evI (Φ : Tab) : ∀ (it : Wlk) (ρ : Env), NE (evI Φ it ρ)
  | .rng es, ρ => by unfold evI; exact ne_bnd (ne_evs Φ es ρ) fun vs => ne_opt _
  | .enm a, ρ => by unfold evI; exact ne_bnd (ne_ev Φ a ρ) fun x => ne_bnd (ne_opt _) fun xs => ne_ret _
  | .seq e, ρ => by unfold evI; exact ne_bnd (ne_ev Φ e ρ) fun x => ne_opt _
end
instance (Φ : Tab) (e : Ex) (ρ : Env) : NE (ev Φ e ρ) := ne_ev Φ e ρ
instance (Φ : Tab) (e : List Ex) (ρ : Env) : NE (evs Φ e ρ) := ne_evs Φ e ρ
instance (Φ : Tab) (e : Wlk) (ρ : Env) : NE (evI Φ e ρ) := ne_evI Φ e ρ
inductive Fl where
  | nx (ρ : Env) | rt (d : D)
/-- a loop's turns -/
def forL (set : D → Env → Option Env) (body : Env → C Fl) : List D → Env → C Fl
  | [], ρ => C.ret (.nx ρ)
  | x :: xs, ρ => C.bnd (C.opt (set x ρ)) fun ρ1 => C.bnd (body ρ1) fun f => match f with
    | .nx ρ2 => forL set body xs ρ2
    | .rt d => C.ret (.rt d)
/-- turns that go on to the next alone: no return, no error -/
def onlyNx (m : C Fl) : C Fl := fun c => match m c with
  | .ok (.nx ρ, c') => .ok (.nx ρ, c')
  | _ => .stuck
def forN (set : D → Env → Option Env) (body : Env → C Fl) : List D → Env → C Fl
  | [], ρ => C.ret (.nx ρ)
  | x :: xs, ρ => C.bnd (C.opt (set x ρ)) fun ρ1 => C.bnd (onlyNx (body ρ1)) fun f => match f with
    | .nx ρ2 => forN set body xs ρ2
    | .rt _ => C.stk
theorem onlyNx_ok {m : C Fl} {c c' : Cell} {f : Fl} (h : onlyNx m c = .ok (f, c')) : ∃ ρ, f = .nx ρ ∧ m c = .ok (.nx ρ, c') := by
  unfold onlyNx at h
  split at h
  · rename_i ρ c2 e
    cases h
    exact ⟨ρ, rfl, e⟩
  · cases h
instance ne_onlyNx (m : C Fl) : NE (onlyNx m) := ⟨fun c k x h => by
  unfold onlyNx at h
  split at h <;> cases h⟩
theorem forN_of {set : D → Env → Option Env} {body : Env → C Fl} : ∀ {xs : List D} {ρ ρ' : Env} {c c' : Cell}, forL set body xs ρ c = .ok (.nx ρ', c') → forN set body xs ρ c = .ok (.nx ρ', c')
  | [], _, _, _, _, h => h
  | x :: xs, ρ, ρ', c, c', h => by
    unfold forL C.bnd at h
    unfold forN C.bnd
    cases e : C.opt (set x ρ) c with
    | ok z =>
      rw [e] at h
      dsimp only at h ⊢
      cases e2 : body z.1 z.2 with
      | ok f =>
        rw [e2] at h
        obtain ⟨f, c2⟩ := f
        cases f with
        | nx ρ2 =>
          have e3 : onlyNx (body z.1) z.2 = .ok (.nx ρ2, c2) := by unfold onlyNx; rw [e2]
          rw [e3]
          exact forN_of h
        | rt d => cases h
      | err k x => rw [e2] at h; cases h
      | stuck => rw [e2] at h; cases h
    | err k x => rw [e] at h; cases h
    | stuck => rw [e] at h; cases h
def appD : Option D → D → Option D
  | some (.lst l), d => if l.length < LIM then some (.lst (l ++ [d])) else none
  | _, _ => none
def guard (b : Bool) : C Unit := if b then C.ret () else C.stk
def setCell (k d : D) : C Unit := fun c => match c, k with
  | some cs, .int i => match ixNat cs.length i with
    | some j => .ok ((), some (cs.set j d))
    | none => .stuck
  | _, _ => .stuck
def newCell (vs : List D) : C Unit := fun c => match c with
  | none => if vs.length ≤ LIM then .ok ((), some vs) else .stuck
  | some _ => .stuck
def freeAt : Env → Nat → Bool
  | [], _ => false
  | none :: _, 0 => true
  | some _ :: _, 0 => false
  | _ :: r, n + 1 => freeAt r n
def isLst : D → Bool
  | .lst _ => true
  | _ => false
/-- without the cell -/
def noCell {α : Type} (m : C α) : C α := fun c => match m none with
  | .ok (a, _) => .ok (a, c)
  | .err k x => .err k x
  | .stuck => .stuck
def hide {α : Type} (b : Bool) (m : C α) : C α := if b then noCell m else m
instance ne_guard (b : Bool) : NE (guard b) := by unfold guard; exact ne_ite (ne_ret _) ne_stk
instance ne_setCell (k d : D) : NE (setCell k d) := ⟨fun c k' x h => by
  cases c with
  | none => cases h
  | some cs =>
    cases k with
    | int i =>
      unfold setCell at h
      dsimp only at h
      cases e : ixNat cs.length i <;> rw [e] at h <;> cases h
    | _ => cases h⟩
instance ne_newCell (vs : List D) : NE (newCell vs) := ⟨fun c k x h => by
  cases c with
  | some cs => cases h
  | none =>
    unfold newCell at h
    dsimp only at h
    split at h <;> cases h⟩
instance ne_noCell {α : Type} (m : C α) [i : NE m] : NE (noCell m) := ⟨fun c k x h => by
  unfold noCell at h
  cases e : m none with
  | ok z => rw [e] at h; cases h
  | err a b => exact i.ne _ _ _ e
  | stuck => rw [e] at h; cases h⟩
instance ne_hide {α : Type} (b : Bool) (m : C α) [i : NE m] : NE (hide b m) := by
  unfold hide
  exact ne_ite (ne_noCell m) i
def parPut : List (Bool × Nat) → List D → Env → Option Env
  | [], [], ρ => some ρ
  | (b, i) :: ts, d :: ds, ρ => if b && !isOwnD d then none else parPut ts ds (put ρ i (some d))
  | _, _, _ => none
def setDct : Option D → D → D → Option D
  | some (.dct ks vs), x, d => if keyT x = true ∧ ks.length < LIM then some (.dct (dput ks vs x d).1 (dput ks vs x d).2) else none
  | _, _, _ => none
def keysD : Option D → Option (List D)
  | some (.dct ks _) => some ks
  | _ => none
def itemsD : Option D → Option (List D)
  | some (.lst l) => some l
  | _ => none
def extD : List D → D → Option D
  | l, .lst m => if l.length + m.length ≤ LIM then some (.lst (l ++ m)) else none
  | _, _ => none
/-- (item, time): no two hash alike -/
def smallTm : D → Bool
  | .tup [.tup [.int a, .int b], .int t] => decide (0 ≤ a) && decide (a < 3) && decide (0 ≤ b) && decide (b < 5) && decide (0 ≤ t) && decide (t < 48)
  | _ => false
def dputs : List D → List D → List D → List D → List D × List D
  | ks, vs, k :: ks2, v :: vs2 => dputs (dput ks vs k v).1 (dput ks vs k v).2 ks2 vs2
  | ks, vs, _, _ => (ks, vs)
def updD : Option D → D → Option D
  | some (.dct ks vs), .dct ks2 vs2 => if ks2.all smallTm = true ∧ ks.length + ks2.length ≤ LIM then some (.dct (dputs ks vs ks2 vs2).1 (dputs ks vs ks2 vs2).2) else none
  | _, _ => none
def frzD : Option D → Option D
  | some (.lst l) => some (.lst l)
  | some (.dct ks vs) => some (.dct ks vs)
  | _ => none
def itemI : Option D → D → Option Int
  | some (.lst l), .int i => match (ixNat l.length i).bind fun j => l[j]? with
    | some (.int n) => some n
    | _ => none
  | _, _ => none
def setI : Option D → D → D → Option D
  | some (.lst l), .int i, d => (ixNat l.length i).map fun j => .lst (l.set j d)
  | _, _, _ => none
def isPlainI : D → Bool
  | .int _ => true
  | _ => false
def popD : Option D → Option (D × List D)
  | some (.lst l) => l[l.length - 1]?.map fun d => (d, l.dropLast)
  | _ => none
/-- the turns of a while that are looked at -/
def WH : Nat := 1000000
def whileL (t : Env → C Bool) (body : Env → C Fl) : Nat → Env → C Fl
  | 0, _ => C.stk
  | n + 1, ρ => C.bnd (t ρ) fun k => if k then C.bnd (body ρ) fun f => match f with
    | .nx ρ2 => whileL t body n ρ2
    | .rt d => C.ret (.rt d)
    else C.ret (.nx ρ)
def xdone (ρ : Env) : XT → D → C Fl
  | .drop, _ => C.ret (.nx ρ)
  | .set t, d => C.bnd (C.opt (assign t d ρ)) fun ρ' => C.ret (.nx ρ')
  | .ret, d => C.ret (.rt d)
abbrev Tab.inn (Φ : Tab) (k : EK) (x : Option D) : Tab := ⟨Φ.fn, Φ.mt, some (k, x)⟩
mutual
def ex : Tab → Stm → Env → C Fl
  | Φ, .asg t e, ρ => C.bnd (ev Φ e ρ) fun d => C.bnd (C.opt (assign t d ρ)) fun ρ' => C.ret (.nx ρ')
  | Φ, .asgF t e, ρ => C.bnd (noCell (ev Φ e ρ)) fun d => C.bnd (guard (flatD DEEP d)) fun _ => C.bnd (C.opt (assign t d ρ)) fun ρ' => C.ret (.nx ρ')
  | Φ, .own chk i e, ρ => C.bnd (hide chk (ev Φ e ρ)) fun d => match d with
    | .lst l => C.bnd (guard (!chk || l.all (flatD DEEP))) fun _ => C.ret (.nx (put ρ i (some d)))
    | .dct ks vs => C.bnd (guard (!chk || (ks.all (flatD DEEP) && vs.all (flatD DEEP)))) fun _ => C.ret (.nx (put ρ i (some d)))
    | _ => C.stk
  | Φ, .app chk i e, ρ => C.bnd (hide chk (ev Φ e ρ)) fun d => C.bnd (guard (!chk || flatD DEEP d)) fun _ => C.bnd (C.opt (appD (get ρ i) d)) fun x => C.ret (.nx (put ρ i (some x)))
  | Φ, .par ts es, ρ => C.bnd (evs Φ es ρ) fun vs => C.bnd (C.opt (parPut ts vs ρ)) fun ρ' => C.ret (.nx ρ')
  | Φ, .setC k e, ρ => C.bnd (ev Φ e ρ) fun d => C.bnd hasCell fun _ => C.bnd (ev Φ k ρ) fun j => C.bnd (setCell j d) fun _ => C.ret (.nx ρ)
  | Φ, .newC i es, ρ => C.bnd (evs Φ es ρ) fun vs => C.bnd (guard (freeAt ρ i)) fun _ => C.bnd (newCell vs) fun _ => C.ret (.nx ρ)
  | Φ, .ite chk c a b, ρ => C.bnd (hide chk (ev Φ c ρ)) fun x => C.bnd (asBool x) fun k => if k then exs Φ a ρ else exs Φ b ρ
  | Φ, .forS chk t it b, ρ => C.bnd (hide chk (evI Φ it ρ)) fun xs => C.bnd (guard (!chk || xs.all (flatD DEEP))) fun _ => forL (assign t) (exs Φ b) xs ρ
  | Φ, .ret chk e, ρ => C.bnd (hide chk (ev Φ e ρ)) fun d => C.ret (.rt d)
  | Φ, .expr chk e, ρ => C.bnd (hide chk (ev Φ e ρ)) fun _ => C.ret (.nx ρ)
  | _, .never, _ => C.stk
  | Φ, .setD chk i k e, ρ => C.bnd (hide chk (ev Φ e ρ)) fun d => C.bnd (hide chk (ev Φ k ρ)) fun x => C.bnd (guard (!chk || (flatD DEEP d && flatD DEEP x))) fun _ => C.bnd (C.opt (setDct (get ρ i) x d)) fun y => C.ret (.nx (put ρ i (some y)))
  | _, .move i j, ρ => C.bnd (C.opt (get ρ j)) fun d => C.bnd (guard (isOwnD d && decide (i ≠ j))) fun _ => C.ret (.nx (put (put ρ j none) i (some d)))
  | Φ, .forK t i b, ρ => C.bnd (C.opt (keysD (get ρ i))) fun ks => forN (assign t) (exs Φ b) ks ρ
  | Φ, .forO t i b, ρ => C.bnd (C.opt (itemsD (get ρ i))) fun ks => forN (assign t) (exs Φ b) ks ρ
  | Φ, .whl chk c b, ρ => whileL (fun ρ => C.bnd (hide chk (ev Φ c ρ)) asBool) (exs Φ b) WH ρ
  | Φ, .aug o i e, ρ => C.bnd (C.opt (get ρ i)) fun x => C.bnd (guard (match x with | .int _ => true | _ => false)) fun _ => C.bnd (ev Φ e ρ) fun y => C.bnd (C.opt (arith o x y)) fun z => C.ret (.nx (put ρ i (some z)))
  | Φ, .augI chk o i k e, ρ => C.bnd (hide chk (ev Φ k ρ)) fun j => C.bnd (C.opt (itemI (get ρ i) j)) fun x => C.bnd (hide chk (ev Φ e ρ)) fun y => C.bnd (guard (isPlainI y)) fun _ => C.bnd (C.opt (arith o (.int x) y)) fun z => C.bnd (C.opt (setI (get ρ i) j z)) fun d => C.ret (.nx (put ρ i (some d)))
  | _, .pop t i, ρ => C.bnd (C.opt (popD (get ρ i))) fun x => C.bnd (C.opt (assign t x.1 (put ρ i (some (.lst x.2))))) fun ρ' => C.ret (.nx ρ')
  | Φ, .xcall t f es, ρ => C.bnd (evs Φ es ρ) fun vs => match Φ.fn f with
    | some g => match g vs with
      | .ok d => xdone ρ t d
      | .err k x => C.fail k x
      | .stuck => C.stk
    | none => C.stk
  | _, .raise k none, _ => C.fail k none
  | Φ, .raise k (some e), ρ => C.bnd (ev Φ e ρ) fun d => C.fail k (some d)
  | Φ, .tryS t f es i h, ρ => C.bnd (evs Φ es ρ) fun vs => C.bnd (guard (freeAt ρ i)) fun _ => match Φ.fn f with
    | some g => match g vs with
      | .ok d => xdone ρ t d
      | .err k x => exs (Φ.inn k x) h ρ
      | .stuck => C.stk
    | none => C.stk
  | Φ, .ext i e, ρ => C.bnd (C.opt (itemsD (get ρ i))) fun l => C.bnd (ev Φ e ρ) fun d => C.bnd (C.opt (extD l d)) fun x => C.ret (.nx (put ρ i (some x)))
  | Φ, .asgK i own elt t j ifs, ρ => C.bnd (C.opt (keysD (get ρ j))) fun ks => C.bnd (lcL (fun x => assign t x (wip ρ own)) (evC Φ ifs) (ev Φ elt) ks) fun ys => C.ret (.nx (put ρ i (some (.lst ys))))
  | Φ, .upd i e, ρ => C.bnd (ev Φ e ρ) fun d => C.bnd (C.opt (updD (get ρ i) d)) fun x => C.ret (.nx (put ρ i (some x)))
  | Φ, .frz k j, ρ => C.bnd (C.opt (frzD (get ρ j))) fun d => C.bnd (guard (decide (k ≠ j))) fun _ => C.ret (.nx (put (put ρ j none) k (some d)))
def exs : Tab → List Stm → Env → C Fl
  | _, [], ρ => C.ret (.nx ρ)
  | Φ, s :: ss, ρ => C.bnd (ex Φ s ρ) fun f => match f with
    | .nx ρ' => exs Φ ss ρ'
    | .rt d => C.ret (.rt d)
end
def flD : Fl → D
  | .rt d => d
  | .nx _ => .non
/-- a def: its arguments, then empty names -/
def env0 (n : Nat) (vs : List D) : Env := vs.map some ++ List.replicate (n - vs.length) none
/-- a def without the cell -/
def runF (Φ : Tab) (n : Nat) (b : List Stm) (vs : List D) : R D := match exs Φ b (env0 n vs) none with
  | .ok (f, _) => .ok (flD f)
  | .err k x => .err k x
  | .stuck => .stuck
/-- a def whose first parameter is the cell -/
def runM (Φ : Tab) (n : Nat) (b : List Stm) (vs cs : List D) : R (D × List D) := match exs Φ b (none :: env0 n vs) (some cs) with
  | .ok (f, some cs') => .ok (flD f, cs')
  | .ok (_, none) => .stuck
  | .err k x => .err k x
  | .stuck => .stuck
end G
/-! G2: what stands in the heap for the data; the readings of the small language. -/
namespace G
open PySem L2
/-- the names that the code objects of a table bear -/
class TQ where
  nm : Addr → Str
  /-- which places hold tables -/
  is : Addr → Prop
/-- no table of code objects -/
class NTb (o : HO) : Prop where
  ne : ∀ ps, o ≠ .tbl ps
instance (xs : List V) : NTb (.lst xs) := ⟨fun _ z => by cases z⟩
instance (xs : List V) : NTb (.tup xs) := ⟨fun _ z => by cases z⟩
instance (o : Obj) (u : HO) : NTb (.frz o u) := ⟨fun _ z => by cases z⟩
instance (xs : List (Key × V)) : NTb (.dK xs) := ⟨fun _ z => by cases z⟩
instance (xs : List (List Key × V)) : NTb (.dT xs) := ⟨fun _ z => by cases z⟩
instance (S : Int → Bool) (n : Nat) : NTb (.set S n) := ⟨fun _ z => by cases z⟩
instance (C dx : Addr) (fs : List (Str × V)) : NTb (.ins C dx fs) := ⟨fun _ z => by cases z⟩
instance (x : Addr) : NTb (.own x) := ⟨fun _ z => by cases z⟩
instance (fs : List (Str × V)) : NTb (.xd fs) := ⟨fun _ z => by cases z⟩
instance (f x : Addr) : NTb (.met f x) := ⟨fun _ z => by cases z⟩
instance (lo hi : Int) : NTb (.rng lo hi) := ⟨fun _ z => by cases z⟩
instance (P : Heap → Prop) : NTb (.ext P) := ⟨fun _ z => by cases z⟩
abbrev NoT (G : Hp) : Prop := ∀ p ps, G p ≠ some (.tbl ps)
abbrev TabG [TQ] (H : Hp) (P : Addr) : Prop := LamX.TabS H P (TQ.nm P)
abbrev TB [TQ] (H : Hp) : Prop := ∀ P, TQ.is P → TabG H P
/-! ### data in the heap -/
mutual
/-- the key that a datum is -/
def keyOf : D → Option NestedKey
  | .int i => some (.num i)
  | .tup l => (keysOf l).map .tup
  | _ => none
def keysOf : List D → Option (List NestedKey)
  | [] => some []
  | d :: ds => match keyOf d, keysOf ds with
    | some a, some b => some (a :: b)
    | _, _ => none
end
/-- at a: a dict with keys of any depth; its entries: the key, where the key's tuple stands, the value -/
def dkO (a : Addr) (xs : List (NestedKey × Addr × V)) : HO := .ext fun h => (a == sysModules) = false ∧ ∃ (o : Obj) (es : Array DictEntry) (ep : Nat) (us : List (NestedKey × Addr × Value)),
  Paired (fun (p : NestedKey × Addr × V) (q : NestedKey × Addr × Value) => p.1 = q.1 ∧ p.2.1 = q.2.1 ∧ L2.RelV p.2.2 q.2.2) xs us ∧ h.get? a = some o ∧ o.ExactDict ∧ o.data = .dict es ep ∧ ∀ w : World, es.toList = us.map fun x => (⟨x.1.hash w, .ref x.2.1, x.2.2⟩ : DictEntry)
def okS (s : List Nat) : Prop := PyData.strOk (⟨s.toArray⟩ : Str) = true
mutual
def Rep (K : PySem.W.Frag) (H : Hp) : D → V → Prop
  | .non, v => v = .non
  | .bl b, v => v = .bl b
  | .int i, v => v = .int i
  | .str s, v => v = .str ⟨s.toArray⟩ ∧ okS s
  | .tup l, v => ∃ a vs, v = .ref a ∧ SqT K H a vs ∧ Reps K H l vs ∧ l.length ≤ LIM
  | .lst l, v => ∃ a vs, v = .ref a ∧ SqL K H a vs ∧ Reps K H l vs ∧ l.length ≤ LIM
  | .dct ks vs, v => ∃ a xs, v = .ref a ∧ Rd H a (dkO a xs) ∧ keysOf ks = some (xs.map (·.1)) ∧ ks.all keyT = true ∧ (xs.map (·.1)).Nodup ∧ ks.length ≤ LIM ∧ Reps K H ks (xs.map fun x => V.ref x.2.1) ∧ Reps K H vs (xs.map (·.2.2))
def Reps (K : PySem.W.Frag) (H : Hp) : List D → List V → Prop
  | [], vs => vs = []
  | d :: ds, vs => ∃ x xs, vs = x :: xs ∧ Rep K H d x ∧ Reps K H ds xs
end
section
variable {K : PySem.W.Frag} {H H' : Hp}
theorem same_rd {a : Addr} {u : HO} (e : Same H H') (h : Rd H a u) : Rd H' a u := by
  rcases h with h | ⟨o, h⟩
  · exact .inl (e _ _ h)
  · exact .inr ⟨o, e _ _ h⟩
theorem same_l {a : Addr} {xs : List V} (e : Same H H') (h : SqL K H a xs) : SqL K H' a xs := e.seq h
theorem same_t {a : Addr} {xs : List V} (e : Same H H') (h : SqT K H a xs) : SqT K H' a xs := by
  rcases h with h | h
  · exact .inl (same_rd e h)
  · exact .inr h
mutual
theorem Rep.mono (e : Same H H') : ∀ {d : D} {v : V}, Rep K H d v → Rep K H' d v
  | .non, _, h => h
  | .bl _, _, h => h
  | .int _, _, h => h
  | .str _, _, h => h
  | .tup l, _, h => by
    obtain ⟨a, vs, e1, h1, h2, h3⟩ := h
    exact ⟨a, vs, e1, same_t e h1, Reps.mono e h2, h3⟩
  | .lst l, _, h => by
    obtain ⟨a, vs, e1, h1, h2, h3⟩ := h
    exact ⟨a, vs, e1, same_l e h1, Reps.mono e h2, h3⟩
  | .dct ks vs, _, h => by
    obtain ⟨a, xs, e1, h1, h2, h3, h4, h5, h6, h7⟩ := h
    exact ⟨a, xs, e1, same_rd e h1, h2, h3, h4, h5, Reps.mono e h6, Reps.mono e h7⟩
theorem Reps.mono (e : Same H H') : ∀ {ds : List D} {vs : List V}, Reps K H ds vs → Reps K H' ds vs
  | [], _, h => h
  | d :: ds, _, h => by
    obtain ⟨x, xs, e1, h1, h2⟩ := h
    exact ⟨x, xs, e1, Rep.mono e h1, Reps.mono e h2⟩
end
theorem Reps.length : ∀ {ds : List D} {vs : List V}, Reps K H ds vs → ds.length = vs.length
  | [], _, h => by cases h; rfl
  | d :: ds, _, h => by
    obtain ⟨x, xs, rfl, h1, h2⟩ := h
    simp [Reps.length h2]
theorem Reps.get : ∀ {ds : List D} {vs : List V} {i : Nat} {d : D}, Reps K H ds vs → ds[i]? = some d → ∃ v, vs[i]? = some v ∧ Rep K H d v
  | [], _, _, _, h, e => by simp at e
  | d :: ds, _, 0, _, h, e => by
    obtain ⟨x, xs, rfl, h1, h2⟩ := h
    simp at e
    subst e
    exact ⟨x, rfl, h1⟩
  | d :: ds, _, i + 1, y, h, e => by
    obtain ⟨x, xs, rfl, h1, h2⟩ := h
    obtain ⟨v, q1, q2⟩ := Reps.get (i := i) (d := y) h2 (by simpa using e)
    exact ⟨v, by simpa using q1, q2⟩
theorem Reps.get' : ∀ {ds : List D} {vs : List V} {i : Nat} {v : V}, Reps K H ds vs → vs[i]? = some v → ∃ d, ds[i]? = some d ∧ Rep K H d v := fun {ds vs i v} h e => by
  have hl := h.length
  have hi : i < vs.length := (List.getElem?_eq_some_iff.mp e).1
  have hd : ds[i]? = some (ds[i]'(by omega)) := by simp [hl, hi]
  obtain ⟨w, q1, q2⟩ := h.get hd
  rw [e] at q1
  cases q1
  exact ⟨_, hd, q2⟩
theorem Reps.append : ∀ {ds es : List D} {vs ws : List V}, Reps K H ds vs → Reps K H es ws → Reps K H (ds ++ es) (vs ++ ws)
  | [], es, _, _, h, h' => by cases h; exact h'
  | d :: ds, es, _, _, h, h' => by
    obtain ⟨x, xs, rfl, h1, h2⟩ := h
    exact ⟨x, _, rfl, h1, Reps.append h2 h'⟩
theorem Reps.snoc {ds : List D} {vs : List V} {d : D} {v : V} (h : Reps K H ds vs) (h' : Rep K H d v) : Reps K H (ds ++ [d]) (vs ++ [v]) := h.append ⟨v, [], rfl, h', rfl⟩
theorem Reps.take : ∀ {ds : List D} {vs : List V} (n : Nat), Reps K H ds vs → Reps K H (ds.take n) (vs.take n)
  | _, _, 0, _ => rfl
  | [], _, n + 1, h => by cases h; rfl
  | d :: ds, _, n + 1, h => by
    obtain ⟨x, xs, rfl, h1, h2⟩ := h
    exact ⟨x, _, rfl, h1, Reps.take n h2⟩
theorem Reps.drop : ∀ {ds : List D} {vs : List V} (n : Nat), Reps K H ds vs → Reps K H (ds.drop n) (vs.drop n)
  | _, _, 0, h => h
  | [], _, n + 1, h => by cases h; rfl
  | d :: ds, _, n + 1, h => by
    obtain ⟨x, xs, rfl, h1, h2⟩ := h
    exact Reps.drop n h2
theorem Reps.set : ∀ {ds : List D} {vs : List V} {d : D} {v : V} (i : Nat), Reps K H ds vs → Rep K H d v → Reps K H (ds.set i d) (vs.set i v)
  | [], _, _, _, _, h, _ => by cases h; rfl
  | d :: ds, _, _, _, 0, h, h' => by
    obtain ⟨x, xs, rfl, h1, h2⟩ := h
    exact ⟨_, _, rfl, h', h2⟩
  | d :: ds, _, _, _, i + 1, h, h' => by
    obtain ⟨x, xs, rfl, h1, h2⟩ := h
    exact ⟨_, _, rfl, h1, Reps.set i h2 h'⟩
theorem Reps.mem {ds : List D} {vs : List V} (h : Reps K H ds vs) {d : D} (m : d ∈ ds) : ∃ v, v ∈ vs ∧ Rep K H d v := by
  obtain ⟨i, hi⟩ := List.mem_iff_getElem?.mp m
  obtain ⟨v, q1, q2⟩ := h.get hi
  exact ⟨v, List.mem_of_getElem? q1, q2⟩
theorem Reps.nil : Reps K H [] [] := rfl
theorem Reps.one {d : D} {v : V} (h : Rep K H d v) : Reps K H [d] [v] := ⟨v, [], rfl, h, rfl⟩
theorem reps1 {d : D} {vs : List V} (h : Reps K H [d] vs) : ∃ v, vs = [v] ∧ Rep K H d v := by
  obtain ⟨x, xs, rfl, h1, h2⟩ := h
  cases h2
  exact ⟨x, rfl, h1⟩
theorem reps2 {d e : D} {vs : List V} (h : Reps K H [d, e] vs) : ∃ v w, vs = [v, w] ∧ Rep K H d v ∧ Rep K H e w := by
  obtain ⟨x, xs, rfl, h1, h2⟩ := h
  obtain ⟨y, rfl, h3⟩ := reps1 h2
  exact ⟨x, y, rfl, h1, h3⟩
end
/-- a list or a dict that may still be changed: at a in H, its items laid down in G -/
def OwnR (K : PySem.W.Frag) (G H : Hp) (a : Addr) : D → Prop
  | .lst l => ∃ vs, H a = some (.lst vs) ∧ Reps K G l vs ∧ l.length ≤ LIM
  | .dct ks vs => ∃ xs, H a = some (dkO a xs) ∧ keysOf ks = some (xs.map (·.1)) ∧ ks.all keyT = true ∧ (xs.map (·.1)).Nodup ∧ ks.length ≤ LIM ∧ Reps K G ks (xs.map fun x => V.ref x.2.1) ∧ Reps K G vs (xs.map (·.2.2))
  | _ => False
/-- what is told of a list or of such a dict -/
def isOwnO : HO → Bool
  | .lst _ => true
  | .ext _ => true
  | .frz _ u => isOwnO u
  | _ => false
theorem ntb_own {o : HO} (h : isOwnO o = true) : NTb o := ⟨fun ps z => by rw [z] at h; cases h⟩
section
variable {K : PySem.W.Frag} {G G' H H' : Hp} {a : Addr} {d : D}
theorem OwnR.at (h : OwnR K G H a d) : ∃ o, H a = some o ∧ isOwnO o = true := by
  cases d with
  | lst l => obtain ⟨vs, h1, _⟩ := h; exact ⟨_, h1, rfl⟩
  | dct ks vs => obtain ⟨xs, h1, _⟩ := h; exact ⟨_, h1, rfl⟩
  | _ => exact h.elim
theorem OwnR.is (h : OwnR K G H a d) : isOwnD d = true := by
  cases d with
  | lst l => rfl
  | dct ks vs => rfl
  | _ => exact h.elim
theorem OwnR.mono (h : OwnR K G H a d) (e : Same G G') (e2 : ∀ o, H a = some o → H' a = some o) : OwnR K G' H' a d := by
  cases d with
  | lst l => obtain ⟨vs, h1, h2, h3⟩ := h; exact ⟨vs, e2 _ h1, h2.mono e, h3⟩
  | dct ks vs => obtain ⟨xs, h1, h2, h3, h4, h5, h6, h7⟩ := h; exact ⟨xs, e2 _ h1, h2, h3, h4, h5, h6.mono e, h7.mono e⟩
  | _ => exact h.elim
/-- laid down -/
theorem OwnR.rep (h : OwnR K G H a d) (e : Same G G') (e2 : ∀ o, H a = some o → G' a = some o) : Rep K G' d (.ref a) := by
  cases d with
  | lst l => obtain ⟨vs, h1, h2, h3⟩ := h; exact ⟨a, vs, rfl, .of (e2 _ h1), h2.mono e, h3⟩
  | dct ks vs => obtain ⟨xs, h1, h2, h3, h4, h5, h6, h7⟩ := h; exact ⟨a, xs, rfl, .of (e2 _ h1), h2, h3, h4, h5, h6.mono e, h7.mono e⟩
  | _ => exact h.elim
end
/-- no table of code objects, no code object -/
def plainO (a : Addr) (o : HO) : Prop := (∀ ps, o ≠ .tbl ps) ∧ ∀ q, o ≠ LamX.CodeO a q
theorem plain_lst (a : Addr) (xs : List V) : plainO a (.lst xs) := ⟨fun _ z => (by cases z), fun q z => (by unfold LamX.CodeO at z; cases z)⟩
theorem plain_frz (a : Addr) (o : Obj) (u : HO) : plainO a (.frz o u) := ⟨fun _ z => (by cases z), fun q z => (by unfold LamX.CodeO at z; cases z)⟩
theorem plain_dk (a : Addr) (xs : List (NestedKey × Addr × V)) : plainO a (dkO a xs) := ⟨fun _ z => (by unfold dkO at z; cases z), fun q z => by
  unfold dkO LamX.CodeO at z
  injection z with z
  have hg : ({ objs := Array.replicate (a + 1) { cls := .none, data := .fields #[.none, .str q 0] } } : Heap).get? a = some { cls := .none, data := .fields #[.none, .str q 0] } := by
    unfold Heap.get?
    dsimp only
    rw [Array.getElem?_replicate, if_pos (Nat.lt_succ_self a)]
  have h := congrFun z ({ objs := Array.replicate (a + 1) { cls := .none, data := .fields #[.none, .str q 0] } } : Heap)
  have h2 := h.mpr ⟨_, _, 0, hg, rfl, rfl⟩
  obtain ⟨_, o, es, ep, us, _, h3, _, h4, _⟩ := h2
  rw [hg] at h3
  cases h3
  cases h4⟩
/-- the same, the dict perhaps held still -/
def OwnL (K : PySem.W.Frag) (lk : Bool) (G H : Hp) (a : Addr) (d : D) : Prop := OwnR K G H a d ∨ (lk = true ∧ ∃ od u, H a = some (.frz od u) ∧ OwnR K G (upd H a u) a d)
section
variable {K : PySem.W.Frag} {G G' H H' : Hp} {a : Addr} {d : D} {lk : Bool}
theorem OwnL.at (h : OwnL K lk G H a d) : ∃ o, H a = some o ∧ isOwnO o = true := by
  rcases h with h | ⟨_, od, u, h1, h2⟩
  · exact h.at
  · obtain ⟨o, h3, h4⟩ := h2.at
    rw [upd_same] at h3
    cases h3
    exact ⟨_, h1, h4⟩
theorem OwnL.ntb (h : OwnL K lk G H a d) {o : HO} (ho : H a = some o) : ∀ ps, o ≠ .tbl ps := by
  obtain ⟨o', h1, h2⟩ := h.at
  rw [ho] at h1
  cases h1
  exact (ntb_own h2).ne
theorem OwnL.plain (h : OwnL K lk G H a d) : ∃ u, H a = some u ∧ plainO a u := by
  rcases h with h | ⟨_, od, u, h1, h2⟩
  · cases d with
    | lst l => obtain ⟨vs, h1, _⟩ := h; exact ⟨_, h1, plain_lst _ _⟩
    | dct ks vs => obtain ⟨xs, h1, _⟩ := h; exact ⟨_, h1, plain_dk _ _⟩
    | _ => exact h.elim
  · exact ⟨_, h1, plain_frz _ _ _⟩
theorem OwnL.is (h : OwnL K lk G H a d) : isOwnD d = true := by
  rcases h with h | ⟨_, od, u, h1, h2⟩
  · exact h.is
  · exact h2.is
theorem OwnL.mono (h : OwnL K lk G H a d) (e : Same G G') (e2 : ∀ o, H a = some o → H' a = some o) : OwnL K lk G' H' a d := by
  rcases h with h | ⟨hl, od, u, h1, h2⟩
  · exact .inl (h.mono e e2)
  · exact .inr ⟨hl, od, u, e2 _ h1, h2.mono e fun o q => by rw [upd_same] at q ⊢; exact q⟩
theorem OwnL.rep (h : OwnL K lk G H a d) (e : Same G G') (e2 : ∀ o, H a = some o → G' a = some o) : Rep K G' d (.ref a) := by
  rcases h with h | ⟨hl, od, u, h1, h2⟩
  · exact h.rep e e2
  · have q : ∀ u', u' = u → Rd G' a u' := fun u' z => by subst z; exact .inr ⟨od, e2 _ h1⟩
    cases d with
    | lst l => obtain ⟨vs, h1, h2, h3⟩ := h2; rw [upd_same] at h1; cases h1; exact ⟨a, vs, rfl, .inl (q _ rfl), h2.mono e, h3⟩
    | dct ks vs => obtain ⟨xs, h1, h2, h3, h4, h5, h6, h7⟩ := h2; rw [upd_same] at h1; cases h1; exact ⟨a, xs, rfl, q _ rfl, h2, h3, h4, h5, h6.mono e, h7.mono e⟩
    | _ => exact h2.elim
theorem OwnL.free (h : OwnL K lk G H a d) (hl : lk = false) : OwnR K G H a d := by
  rcases h with h | ⟨hl', _⟩
  · exact h
  · rw [hl] at hl'; cases hl'
end
/-! ### how the heap goes on: G what is laid down for good, H all; lc the cell -/
structure Ext [TQ] (lc : Option Addr) (G H G' H' : Hp) : Prop where
  same : ∀ p o, lc ≠ some p → (∀ ps, o ≠ .tbl ps) → H p = some o → H' p = some o
  sub : Same G G'
  inn : Same G' H'
  fresh : ∀ p o, G p = none → H p = some o → G' p = none
  cell : ∀ p o, lc = some p → H p = some o → ∃ o', H' p = some o'
  tab : ∀ P, TabG H P → TabG H' P
  tbl : ∀ p ps, H p = some (.tbl ps) → ∃ ps', H' p = some (.tbl ps')
  nt : NoT G → NoT G'
theorem NoT.upd {G : Hp} {p : Addr} {o : HO} (h : NoT G) (ho : ∀ ps, o ≠ .tbl ps) : NoT (L2.upd G p o) := fun q ps e => by
  by_cases z : q = p
  · subst z
    rw [upd_same] at e
    exact ho ps (Option.some.inj e)
  · rw [upd_ne z] at e
    exact h q ps e
theorem tab_new [TQ] {H : Hp} {p P : Addr} {o : HO} (h : H p = none) (t : TabG H P) : TabG (upd H p o) P := LamX.TabS.ext t fun q u e => by rw [upd_ne (ne_of_none e h)]; exact e
theorem tbl_new {H : Hp} {p q : Addr} {o : HO} {ps : Array Value} (h : H p = none) (e : H q = some (.tbl ps)) : ∃ ps', upd H p o q = some (.tbl ps') := ⟨ps, by rw [upd_ne (ne_of_none e h)]; exact e⟩
theorem tab_at [TQ] {H : Hp} {p P : Addr} {u o : HO} (hu : H p = some u) (pu : plainO p u) (t : TabG H P) : TabG (upd H p o) P := by
  obtain ⟨ps, h1, h2, h3⟩ := t
  have hP : P ≠ p := fun z => by
    rw [z, hu] at h1
    exact pu.1 ps (Option.some.inj h1)
  refine ⟨ps, by rw [upd_ne hP]; exact h1, h2, fun pos cv hc => ?_⟩
  obtain ⟨c, e1, e2⟩ := h3 pos cv hc
  have hc : c ≠ p := fun z => by
    rw [z, hu] at e2
    exact pu.2 _ (Option.some.inj e2)
  exact ⟨c, e1, by rw [upd_ne hc]; exact e2⟩
theorem tbl_at {H : Hp} {p q : Addr} {u o : HO} {ps : Array Value} (hu : H p = some u) (pu : ∀ ps, u ≠ .tbl ps) (e : H q = some (.tbl ps)) : ∃ ps', upd H p o q = some (.tbl ps') := ⟨ps, by
  have hq : q ≠ p := fun z => by
    rw [z, hu] at e
    exact pu ps (Option.some.inj e)
  rw [upd_ne hq]
  exact e⟩
section
variable [TQ] {lc : Option Addr} {G H G1 H1 G2 H2 : Hp}
/-- an own thing is written -/
theorem Ext.put (e : Ext lc G H G1 H1) {a : Addr} {u o : HO} (h0 : H a = none) (hg : G1 a = none) (hu : H1 a = some u) (pu : plainO a u) : Ext lc G H G1 (upd H1 a o) where
  same := fun q v hq n z => by rw [upd_ne (ne_of_none z h0)]; exact e.same q v hq n z
  sub := e.sub
  inn := fun q v z => by
    rw [upd_ne (fun y => by rw [y, hg] at z; cases z)]
    exact e.inn q v z
  fresh := e.fresh
  cell := fun q v hq z => by rw [upd_ne (ne_of_none z h0)]; exact e.cell q v hq z
  tab := fun P t => tab_at hu pu (e.tab P t)
  tbl := fun q ps z => by
    obtain ⟨ps', z'⟩ := e.tbl q ps z
    exact tbl_at hu pu.1 z'
  nt := e.nt
theorem Ext.refl (h : Same G H) : Ext lc G H G H := ⟨fun _ _ _ _ e => e, Same.refl G, h, fun _ _ e _ => e, fun _ o _ e => ⟨o, e⟩, fun _ t => t, fun _ ps e => ⟨ps, e⟩, id⟩
theorem Ext.there (a : Ext lc G H G1 H1) {p : Addr} {o : HO} (h : H p = some o) : ∃ o', H1 p = some o' := by
  by_cases e : lc = some p
  · exact a.cell p o e h
  · by_cases z : ∃ ps, o = .tbl ps
    · obtain ⟨ps, rfl⟩ := z
      obtain ⟨ps', h'⟩ := a.tbl p ps h
      exact ⟨_, h'⟩
    · exact ⟨o, a.same p o e (fun ps q => z ⟨ps, q⟩) h⟩
theorem Ext.trans (a : Ext lc G H G1 H1) (b : Ext lc G1 H1 G2 H2) : Ext lc G H G2 H2 where
  same := fun p o h n e => b.same p o h n (a.same p o h n e)
  sub := a.sub.trans b.sub
  inn := b.inn
  fresh := fun p o h e => by
    obtain ⟨o', e'⟩ := a.there e
    exact b.fresh p o' (a.fresh p o h e) e'
  cell := fun p o h e => by
    obtain ⟨o', e'⟩ := a.cell p o h e
    exact b.cell p o' h e'
  tab := fun P t => b.tab P (a.tab P t)
  tbl := fun p ps e => by
    obtain ⟨ps', e'⟩ := a.tbl p ps e
    exact b.tbl p ps' e'
  nt := fun h => b.nt (a.nt h)
theorem Ext.free (a : Ext lc G H G1 H1) {p : Addr} (h : H1 p = none) : H p = none := by
  cases e : H p with
  | none => rfl
  | some o =>
    obtain ⟨o', e'⟩ := a.there e
    rw [h] at e'
    cases e'
theorem Ext.new {p : Addr} {o : HO} (hs : Same G H) (h : H p = none) [no : NTb o] : Ext lc G H (upd G p o) (upd H p o) where
  same := fun q u _ _ e => by rw [upd_ne (ne_of_none e h)]; exact e
  sub := fun q u e => by rw [upd_ne (ne_of_none (hs _ _ e) h)]; exact e
  inn := fun q u e => by
    by_cases z : q = p
    · subst z; rw [upd_same] at e ⊢; exact e
    · rw [upd_ne z] at e ⊢; exact hs _ _ e
  fresh := fun q u e e' => by rw [upd_ne (ne_of_none e' h)]; exact e
  cell := fun q u _ e => ⟨u, by rw [upd_ne (ne_of_none e h)]; exact e⟩
  tab := fun P t => tab_new h t
  tbl := fun q ps e => tbl_new h e
  nt := fun n => n.upd no.ne
/-- laid, but not for good -/
theorem Ext.lay {p : Addr} {o : HO} (hs : Same G H) (h : H p = none) : Ext lc G H G (upd H p o) where
  same := fun q u _ _ e => by rw [upd_ne (ne_of_none e h)]; exact e
  sub := Same.refl G
  inn := fun q u e => by rw [upd_ne (ne_of_none (hs _ _ e) h)]; exact hs _ _ e
  fresh := fun q u e e' => e
  cell := fun q u _ e => ⟨u, by rw [upd_ne (ne_of_none e h)]; exact e⟩
  tab := fun P t => tab_new h t
  tbl := fun q ps e => tbl_new h e
  nt := id
/-- made for good -/
theorem Ext.fix {p : Addr} {o : HO} (a : Ext lc G H G1 H1) (h0 : H p = none) (h1 : H1 p = some o) (hn : G1 p = none) [no : NTb o] : Ext lc G H (upd G1 p o) H1 where
  same := a.same
  sub := fun q u e => by
    have : q ≠ p := fun z => by
      subst z
      rw [a.sub _ _ e] at hn
      cases hn
    rw [upd_ne this]
    exact a.sub _ _ e
  inn := fun q u e => by
    by_cases z : q = p
    · subst z; rw [upd_same] at e; cases e; exact h1
    · rw [upd_ne z] at e; exact a.inn _ _ e
  fresh := fun q u e e' => by rw [upd_ne (ne_of_none e' h0)]; exact a.fresh _ _ e e'
  cell := a.cell
  tab := a.tab
  tbl := a.tbl
  nt := fun n => (a.nt n).upd no.ne
theorem Ext.any (a : Ext none G H G1 H1) : Ext lc G H G1 H1 :=
  ⟨fun p o _ n e => a.same p o (by simp) n e, a.sub, a.inn, a.fresh, fun p o _ e => a.there e, a.tab, a.tbl, a.nt⟩
end
variable [TQ]
/-- the cell -/
def CellR (K : PySem.W.Frag) (lc : Option Addr) (G H : Hp) : Cell → Prop
  | none => lc = none
  | some cs => ∃ l vs, lc = some l ∧ G l = none ∧ H l = some (.lst vs) ∧ Reps K G cs vs
theorem CellR.ext {K : PySem.W.Frag} {lc : Option Addr} {G H G1 H1 : Hp} {c : Cell} (h : CellR K lc G H c) (e : Ext none G H G1 H1) : CellR K lc G1 H1 c := by
  cases c with
  | none => exact h
  | some cs =>
    obtain ⟨l, vs, e1, e2, e3, e4⟩ := h
    exact ⟨l, vs, e1, e.fresh _ _ e2 e3, e.same _ _ (by simp) (fun _ z => by cases z) e3, e4.mono e.sub⟩
theorem CellR.has {K : PySem.W.Frag} {lc : Option Addr} {G H : Hp} {c : Cell} (h : CellR K lc G H c) {l : Addr} (e : lc = some l) : ∃ o, H l = some o := by
  cases c with
  | none => rw [show lc = none from h] at e; cases e
  | some cs =>
    obtain ⟨l0, vs, e1, e2, e3, e4⟩ := h
    rw [e1] at e
    cases e
    exact ⟨_, e3⟩
theorem CellR.new {K : PySem.W.Frag} {lc : Option Addr} {G H : Hp} {c : Cell} {p : Addr} {o : HO} [NTb o] (h : CellR K lc G H c) (hs : Same G H) (hp : H p = none) : CellR K lc (upd G p o) (upd H p o) c := h.ext (.new hs hp)
/-! ### errors -/
/-- where an error's class lies, and its field -/
abbrev XC := EK → Option (Addr × Option Str)
/-- the error that is caught: its name's slot, its object, its class, its dict -/
structure Xn where
  i : Nat
  a : Addr
  cls : Value
  d : Option Addr
def ExR (K : PySem.W.Frag) (xc : XC) (k : EK) (x : Option D) (cls : Value) (d : Option Addr) (G : Hp) : Prop := match xc k, x with
  | some (C, none), none => cls = .ref C ∧ d = none
  | some (C, some f), some y => cls = .ref C ∧ ∃ a v, d = some a ∧ G a = some (.xd [(f, v)]) ∧ Rep K G y v
  | _, _ => False
theorem ExR.mono {K : PySem.W.Frag} {xc : XC} {k : EK} {x : Option D} {cls : Value} {d : Option Addr} {G G' : Hp} (h : ExR K xc k x cls d G) (e : Same G G') : ExR K xc k x cls d G' := by
  unfold ExR at h ⊢
  split at h
  · exact h
  · obtain ⟨h1, a, v, h2, h3, h4⟩ := h
    exact ⟨h1, a, v, h2, e _ _ h3, h4.mono e⟩
  · exact h
/-! ### readings -/
/-- a place where code stands: the names that may be read, the cell's name -/
structure Pl where
  K : PySem.W.Frag
  Φ : Tab
  S : Nat → Bool
  cell : Option Nat
  xc : XC
  xn : Option Xn
/-- the caught error stands in its name -/
def XnOk (P : Pl) (G : Hp) (σ : L2.St) : Prop := ∀ z, P.xn = some z → σ[z.i]? = some (some (.ref z.a)) ∧ ∃ k x, P.Φ.exn = some (k, x) ∧ ExR P.K P.xc k x z.cls z.d G
theorem XnOk.mono {P : Pl} {G G' : Hp} {σ : L2.St} (h : XnOk P G σ) (e : Same G G') : XnOk P G' σ := fun z hz => by
  obtain ⟨h1, k, x, h2, h3⟩ := h z hz
  exact ⟨h1, k, x, h2, h3.mono e⟩
structure RelE (P : Pl) (lc : Option Addr) (G : Hp) (ρ : Env) (σ : L2.St) : Prop where
  val : ∀ i d, P.S i = true → get ρ i = some d → ∃ v, σ[i]? = some (some v) ∧ Rep P.K G d v
  cel : ∀ i l, P.cell = some i → lc = some l → σ[i]? = some (some (.ref l))
  len : ρ.length = σ.length
theorem RelE.mono {P : Pl} {lc : Option Addr} {G G' : Hp} {ρ : Env} {σ : L2.St} (h : RelE P lc G ρ σ) (e : Same G G') : RelE P lc G' ρ σ :=
  ⟨fun i d hs hd => by
    obtain ⟨v, q1, q2⟩ := h.val i d hs hd
    exact ⟨v, q1, q2.mono e⟩, h.cel, h.len⟩
def OutE (P : Pl) (lc : Option Addr) (G H : Hp) (r : R (D × Cell)) (Q : VK) : Prop := match r with
  | .ok (d, c) => ∀ v G' H', Ext lc G H G' H' → Rep P.K G' d v → CellR P.K lc G' H' c → Q v H'
  | _ => False
/-- a new list, not laid down for good -/
def OutF (P : Pl) (lc : Option Addr) (G H : Hp) (r : R (D × Cell)) (Q : VK) : Prop := match r with
  | .ok (d, c) => isOwnD d = true ∧ ∀ p G' H', Ext lc G H G' H' → H p = none → G' p = none → OwnR P.K G' H' p d → CellR P.K lc G' H' c → Q (.ref p) H'
  | _ => False
def OutA (P : Pl) (lc : Option Addr) (G H : Hp) (r : R (List D × Cell)) (Q : List V → Hp → Prop) : Prop := match r with
  | .ok (ds, c) => ∀ vs G' H', Ext lc G H G' H' → Reps P.K G' ds vs → CellR P.K lc G' H' c → Q vs H'
  | _ => False
def OutT (P : Pl) (lc : Option Addr) (G H : Hp) (r : R (D × Cell)) (Q : Bool → Hp → Prop) : Prop := match r with
  | .ok (.bl b, c) => ∀ G' H', Ext lc G H G' H' → CellR P.K lc G' H' c → Q b H'
  | _ => False
structure At (P : Pl) (lc : Option Addr) (G H : Hp) (ρ : Env) (σ : L2.St) (c : Cell) : Prop where
  inn : Same G H
  rel : RelE P lc G ρ σ
  cel : CellR P.K lc G H c
  exn : XnOk P G σ
  nt : NoT G
  tb : TB H
theorem At.step {P : Pl} {lc : Option Addr} {G H G1 H1 : Hp} {ρ : Env} {σ : L2.St} {c c1 : Cell} (a : At P lc G H ρ σ c) (e : Ext lc G H G1 H1) (h : CellR P.K lc G1 H1 c1) : At P lc G1 H1 ρ σ c1 :=
  ⟨e.inn, a.rel.mono e.sub, h, a.exn.mono e.sub, e.nt a.nt, fun P z => e.tab P (a.tb P z)⟩
def tE (P : Pl) (e : Ex) : TE := fun σ H Q => ∃ lc G ρ c, At P lc G H ρ σ c ∧ OutE P lc G H (ev P.Φ e ρ c) Q
def tF (P : Pl) (e : Ex) : TE := fun σ H Q => ∃ lc G ρ c, At P lc G H ρ σ c ∧ OutF P lc G H (ev P.Φ e ρ c) Q
def tA (P : Pl) (es : List Ex) : TA := fun σ H Q => ∃ lc G ρ c, At P lc G H ρ σ c ∧ OutA P lc G H (evs P.Φ es ρ c) Q
def tT (P : Pl) (e : Ex) : TT := fun σ H Q => ∃ lc G ρ c, At P lc G H ρ σ c ∧ OutT P lc G H (ev P.Φ e ρ c) Q
theorem _root_.L2.PE.imp {X : Cx} {e : Expr} {t t' : TE} (h : PE X e t) (i : ∀ σ H Q, t' σ H Q → t σ H Q) : PE X e t' := ⟨fun pins s σ H Q I q => h.run pins s σ H Q I (i σ H Q q)⟩
theorem _root_.L2.PT.imp {X : Cx} {e : Expr} {t t' : TT} (h : PT X e t) (i : ∀ σ H Q, t' σ H Q → t σ H Q) : PT X e t' := ⟨fun pins s σ H Q I q => h.run pins s σ H Q I (i σ H Q q)⟩
theorem _root_.L2.PA.imp {X : Cx} {e : List Expr} {t t' : TA} (h : PA X e t) (i : ∀ σ H Q, t' σ H Q → t σ H Q) : PA X e t' := ⟨fun pos pins s σ H Q I q => h.run pos pins s σ H Q I (i σ H Q q)⟩
theorem _root_.L2.PS.imp {X : Cx} {e : Stmt} {t t' : TS} (h : PS X e t) (i : ∀ D σ H, t' D σ H → t D σ H) : PS X e t' := ⟨fun pins s σ H D I q => h.run pins s σ H D I (i D σ H q)⟩
theorem _root_.L2.PSs.imp {X : Cx} {e : List Stmt} {t t' : TS} (h : PSs X e t) (i : ∀ D σ H, t' D σ H → t D σ H) : PSs X e t' := ⟨fun pins s σ H D I q => h.run pins s σ H D I (i D σ H q)⟩
section
variable {P : Pl} {lc : Option Addr} {G H G1 H1 : Hp} {ρ : Env} {σ : L2.St} {c : Cell} {Q : VK}
theorem OutE.ext {r : R (D × Cell)} (h : OutE P lc G H r Q) (e : Ext lc G H G1 H1) : OutE P lc G1 H1 r Q := by
  cases r with
  | ok x => exact fun v G' H' e' => h v G' H' (e.trans e')
  | err _ _ => exact h
  | stuck => exact h
theorem OutF.ext {r : R (D × Cell)} (h : OutF P lc G H r Q) (e : Ext lc G H G1 H1) : OutF P lc G1 H1 r Q := by
  cases r with
  | ok x =>
    obtain ⟨e1, h⟩ := h
    exact ⟨e1, fun p G' H' e' hp => h p G' H' (e.trans e') (e.free hp)⟩
  | err _ _ => exact h
  | stuck => exact h
theorem OutA.ext {r : R (List D × Cell)} {Q : List V → Hp → Prop} (h : OutA P lc G H r Q) (e : Ext lc G H G1 H1) : OutA P lc G1 H1 r Q := by
  cases r with
  | ok x => exact fun v G' H' e' => h v G' H' (e.trans e')
  | err _ _ => exact h
  | stuck => exact h
theorem OutT.ext {r : R (D × Cell)} {Q : Bool → Hp → Prop} (h : OutT P lc G H r Q) (e : Ext lc G H G1 H1) : OutT P lc G1 H1 r Q := by
  cases r with
  | ok x =>
    obtain ⟨d, c'⟩ := x
    cases d with
    | bl b => exact fun G' H' e' => h G' H' (e.trans e')
    | _ => exact h
  | err _ _ => exact h
  | stuck => exact h
/-- the first of two steps -/
theorem out_bnd {α : Type} {Z : Option Addr → Hp → Hp → R (α × Cell) → Prop} {m : C D} {f : D → C α} (h : Z lc G H (C.bnd m f c)) (zk : ∀ k x, ¬ Z lc G H (.err k x)) (zs : ¬ Z lc G H .stuck) (ze : ∀ {G1 H1 : Hp} {r}, Z lc G H r → Ext lc G H G1 H1 → Z lc G1 H1 r)
    (k : ∀ d c1 v G1 H1, Ext lc G H G1 H1 → Rep P.K G1 d v → CellR P.K lc G1 H1 c1 → Z lc G1 H1 (f d c1) → Q v H1) : OutE P lc G H (m c) Q := by
  unfold C.bnd at h
  cases e : m c with
  | ok x =>
    rw [e] at h
    exact fun v G' H' e' r' c' => k x.1 x.2 v G' H' e' r' c' (ze h e')
  | err a b => rw [e] at h; exact (zk _ _ h).elim
  | stuck => rw [e] at h; exact (zs h).elim
theorem oe {m : C D} {f : D → C D} {Q0 : VK} (h : OutE P lc G H (C.bnd m f c) Q0)
    (k : ∀ d c1 v G1 H1, Ext lc G H G1 H1 → Rep P.K G1 d v → CellR P.K lc G1 H1 c1 → OutE P lc G1 H1 (f d c1) Q0 → Q v H1) : OutE P lc G H (m c) Q :=
  out_bnd (Z := fun lc G H r => OutE P lc G H r Q0) h (fun _ _ z => z) (fun z => z) (fun z e => z.ext e) k
theorem of {m : C D} {f : D → C D} {Q0 : VK} (h : OutF P lc G H (C.bnd m f c) Q0)
    (k : ∀ d c1 v G1 H1, Ext lc G H G1 H1 → Rep P.K G1 d v → CellR P.K lc G1 H1 c1 → OutF P lc G1 H1 (f d c1) Q0 → Q v H1) : OutE P lc G H (m c) Q :=
  out_bnd (Z := fun lc G H r => OutF P lc G H r Q0) h (fun _ _ z => z) (fun z => z) (fun z e => z.ext e) k
theorem oa {m : C D} {f : D → C (List D)} {Q0 : List V → Hp → Prop} (h : OutA P lc G H (C.bnd m f c) Q0)
    (k : ∀ d c1 v G1 H1, Ext lc G H G1 H1 → Rep P.K G1 d v → CellR P.K lc G1 H1 c1 → OutA P lc G1 H1 (f d c1) Q0 → Q v H1) : OutE P lc G H (m c) Q :=
  out_bnd (Z := fun lc G H r => OutA P lc G H r Q0) h (fun _ _ z => z) (fun z => z) (fun z e => z.ext e) k
theorem ot {m : C D} {f : D → C D} {Q0 : Bool → Hp → Prop} (h : OutT P lc G H (C.bnd m f c) Q0)
    (k : ∀ d c1 v G1 H1, Ext lc G H G1 H1 → Rep P.K G1 d v → CellR P.K lc G1 H1 c1 → OutT P lc G1 H1 (f d c1) Q0 → Q v H1) : OutE P lc G H (m c) Q :=
  out_bnd (Z := fun lc G H r => OutT P lc G H r Q0) h (fun _ _ z => z) (fun z => z) (fun z e => z.ext e) k
theorem out_bndA {α : Type} {Z : Option Addr → Hp → Hp → R (α × Cell) → Prop} {m : C (List D)} {f : List D → C α} {Q : List V → Hp → Prop} (h : Z lc G H (C.bnd m f c)) (zk : ∀ k x, ¬ Z lc G H (.err k x)) (zs : ¬ Z lc G H .stuck) (ze : ∀ {G1 H1 : Hp} {r}, Z lc G H r → Ext lc G H G1 H1 → Z lc G1 H1 r)
    (k : ∀ d c1 v G1 H1, Ext lc G H G1 H1 → Reps P.K G1 d v → CellR P.K lc G1 H1 c1 → Z lc G1 H1 (f d c1) → Q v H1) : OutA P lc G H (m c) Q := by
  unfold C.bnd at h
  cases e : m c with
  | ok x =>
    rw [e] at h
    exact fun v G' H' e' r' c' => k x.1 x.2 v G' H' e' r' c' (ze h e')
  | err a b => rw [e] at h; exact (zk _ _ h).elim
  | stuck => rw [e] at h; exact (zs h).elim
theorem ae {m : C (List D)} {f : List D → C D} {Q0 : VK} {Q : List V → Hp → Prop} (h : OutE P lc G H (C.bnd m f c) Q0)
    (k : ∀ d c1 v G1 H1, Ext lc G H G1 H1 → Reps P.K G1 d v → CellR P.K lc G1 H1 c1 → OutE P lc G1 H1 (f d c1) Q0 → Q v H1) : OutA P lc G H (m c) Q :=
  out_bndA (Z := fun lc G H r => OutE P lc G H r Q0) h (fun _ _ z => z) (fun z => z) (fun z e => z.ext e) k
theorem af {m : C (List D)} {f : List D → C D} {Q0 : VK} {Q : List V → Hp → Prop} (h : OutF P lc G H (C.bnd m f c) Q0)
    (k : ∀ d c1 v G1 H1, Ext lc G H G1 H1 → Reps P.K G1 d v → CellR P.K lc G1 H1 c1 → OutF P lc G1 H1 (f d c1) Q0 → Q v H1) : OutA P lc G H (m c) Q :=
  out_bndA (Z := fun lc G H r => OutF P lc G H r Q0) h (fun _ _ z => z) (fun z => z) (fun z e => z.ext e) k
theorem aa {m : C (List D)} {f : List D → C (List D)} {Q0 Q : List V → Hp → Prop} (h : OutA P lc G H (C.bnd m f c) Q0)
    (k : ∀ d c1 v G1 H1, Ext lc G H G1 H1 → Reps P.K G1 d v → CellR P.K lc G1 H1 c1 → OutA P lc G1 H1 (f d c1) Q0 → Q v H1) : OutA P lc G H (m c) Q :=
  out_bndA (Z := fun lc G H r => OutA P lc G H r Q0) h (fun _ _ z => z) (fun z => z) (fun z e => z.ext e) k
/-- a known value at the end -/
theorem OutE.out {d : D} {v : V} (h : OutE P lc G H (.ok (d, c)) Q) (hs : Same G H) (r : Rep P.K G d v) (hc : CellR P.K lc G H c) : Q v H := h v G H (.refl hs) r hc
theorem OutE.opt {o : Option D} (h : OutE P lc G H (C.opt o c) Q) : ∃ d, o = some d ∧ OutE P lc G H (.ok (d, c)) Q := by
  cases o with
  | none => exact h.elim
  | some d => exact ⟨d, rfl, h⟩
/-- a new tuple at the end -/
theorem OutE.newT {l : List D} {vs : List V} {p : Addr} (h : OutE P lc G H (.ok (.tup l, c)) Q) (hs : Same G H) (r : Reps P.K G l vs) (hl : l.length ≤ LIM) (hc : CellR P.K lc G H c) (hp : H p = none) : Q (.ref p) (upd H p (.tup vs)) :=
  h _ (upd G p (.tup vs)) _ (.new hs hp) ⟨p, vs, rfl, .of upd_same, r.mono (Ext.new (lc := lc) hs hp).sub, hl⟩ (hc.new hs hp)
/-- a fresh list is a list -/
theorem OutE.fresh {r : R (D × Cell)} {c0 : Cell} (h : OutE P lc G H r Q) (hc0 : CellR P.K lc G H c0) (hl : ∀ d c', r = .ok (d, c') → isOwnD d = true) : OutF P lc G H r Q := by
  cases r with
  | ok x =>
    obtain ⟨d, c'⟩ := x
    refine ⟨hl d c' rfl, fun p G' H' e hp hg hw hc => ?_⟩
    obtain ⟨o, hh, hho⟩ := hw.at
    haveI := ntb_own hho
    have e2 := e.fix hp hh hg
    have s2 : Same G' (upd G' p o) := fun q u hq => by
      rw [upd_ne (fun z => by subst z; rw [hg] at hq; cases hq)]
      exact hq
    refine h (.ref p) (upd G' p o) H' e2 (hw.rep s2 fun o' ho' => by rw [hh] at ho'; cases ho'; exact upd_same) ?_
    cases c' with
    | none => exact hc
    | some cs =>
      obtain ⟨l0, ws, q1, q2, q3, q4⟩ := hc
      have hne : l0 ≠ p := fun z => by
        subst z
        obtain ⟨o', q⟩ := hc0.has q1
        rw [hp] at q
        cases q
      exact ⟨l0, ws, q1, by rw [upd_ne hne]; exact q2, q3, q4.mono s2⟩
  | err _ _ => exact h
  | stuck => exact h
end
end G
/-! G3: the expressions, construct by construct. -/
namespace G
open PySem L2
variable [TQ]
theorem OpR.or {X : Cx} {f : Value → Value → Sem Value} {r r' : R2} (h : OpR X f r) (h' : OpR X f r') : OpR X f (fun x y H Q => r x y H Q ∨ r' x y H Q) := by
  intro pins s σ H x y v u Q I rx ry q
  rcases q with q | q
  · exact h pins s σ H x y v u Q I rx ry q
  · exact h' pins s σ H x y v u Q I rx ry q
/-- list + list, of any lists that are read -/
def rCatS (K : PySem.W.Frag) : R2 := fun x y H Q => ∃ l b xs zs, x = .ref l ∧ y = .ref b ∧ SqL K H l xs ∧ SqL K H b zs ∧ xs.length + zs.length ≤ sizeLine ∧ ∀ p, H p = none → Q (.ref p) (upd H p (.lst (xs ++ zs)))
theorem op_catS {X : Cx} : OpR X (binaryOp .Add) (rCatS X.K) := by
  intro pins s σ H x y v u Q I rx ry h
  obtain ⟨l, b, xs, zs, rfl, rfl, hH, hB, hz, q⟩ := h
  cases rx
  cases ry
  obtain ⟨its, r, pl, hl⟩ := I.list hH
  obtain ⟨its2, r2, pl2, hl2⟩ := I.list hB
  obtain ⟨⟨cls, dd, data, sl⟩, n, ho, hc, hdd, hd⟩ := id pl
  obtain ⟨⟨cls2, dd2, data2, sl2⟩, n2, ho2, hc2, hdd2, hd2⟩ := id pl2
  simp only at hc hd hc2 hd2
  subst hc hd hc2 hd2
  have l1 := r.length
  have l2 := r2.length
  have e : its.toArray ++ its2.toArray = (its ++ its2).toArray := by simp
  refine concat_meets ⟨_, ho, rfl⟩ ⟨_, ho2, rfl⟩ PySem.noFill_list_add PySem.seq_list_add PySem.F.slot_list_add PySem.F.entry_list_add (PySem.F.args_list_add_2 _ _) (PyProof.Rows.list_addW l b its.toArray its2.toArray n n2 dd dd2 sl sl2 (by simp; omega)) ⟨ho, ho2, ?_⟩
  rw [e]
  exact ⟨.ref _, _, I.lnew (t' := s.toks) (r.append r2) (by rw [List.length_append]; omega), rfl, q _ I.fresh⟩
section
variable {X : Cx} {P : Pl} {pos : Pos}
/-- the place is the context's -/
structure Ok (P : Pl) (X : Cx) : Prop where
  K : P.K = X.K
  calm : X.calm = true
  hu : X.A.units + 150 < cLine
  xn : P.xn = none
theorem Ok.hu1 (h : Ok P X) : X.A.units + 1 < cLine := by have := h.hu; omega
theorem Ok.hu64 (h : Ok P X) : X.A.units + 64 < cLine := by have := h.hu; omega
theorem Ok.hu0 (h : Ok P X) : X.A.units < cLine := by have := h.hu; omega
/-! ### names, constants -/
theorem ge_var {i : Nat} {x : Str} (hS : P.S i = true) (hN : X.N[i]? = some x) (hv : Vis X.env.scope x) (hd : (x == ("__debug__" : Str)) = false) (hcd : (x == ("__classdict__" : Str)) = false) : PE X (.Name x pos) (tE P (.var i)) := by
  refine (pe_var hN hv hd hcd).imp fun σ H Q ⟨lc, G, ρ, c, a, h⟩ => ?_
  unfold ev at h
  obtain ⟨d, e, h⟩ := h.opt
  obtain ⟨v, e1, r⟩ := a.rel.val i d hS e
  exact ⟨v, e1, h.out a.inn r a.cel⟩
theorem ge_cst {e : Expr} {d : D} {v : V} (h : PE X e (tC v)) (r : ∀ H, Rep P.K H d v) : PE X e (tE P (.cst d)) := by
  refine h.imp fun σ H Q ⟨lc, G, ρ, c, a, h⟩ => ?_
  unfold ev at h
  exact OutE.out (d := d) h a.inn (r _) a.cel
/-! ### argument lists -/
theorem ga_nil : PA X [] (tA P []) := by
  refine pa_nil.imp fun σ H Q ⟨lc, G, ρ, c, a, h⟩ => ?_
  unfold evs at h
  exact h [] G H (.refl a.inn) rfl a.cel
theorem ga_cons {e : Expr} {es : List Expr} {x : Ex} {xs : List Ex} (he : PE X e (tE P x)) (hs : PA X es (tA P xs)) (hst : starEach (e :: es) X.env = (false, eval e X.env) :: starEach es X.env) : PA X (e :: es) (tA P (x :: xs)) := by
  refine (pa_cons he hs hst).imp fun σ H Q ⟨lc, G, ρ, c, a, h⟩ => ?_
  unfold evs at h
  refine ⟨lc, G, ρ, c, a, oa h fun d c1 v G1 H1 e1 r1 k1 h1 => ?_⟩
  refine ⟨lc, G1, ρ, c1, a.step e1 k1, aa h1 fun ds c2 vs G2 H2 e2 r2 k2 h2 => ?_⟩
  exact h2 _ G2 H2 (.refl e2.inn) ⟨v, vs, rfl, r1.mono e2.sub, r2⟩ k2
/-! ### displays -/
theorem ge_tup {es : List Expr} {xs : List Ex} {x1} (h : PA X es (tA P xs)) : PE X (.Tuple es x1 pos) (tE P (.tup xs)) := by
  refine (pe_tup h).imp fun σ H Q ⟨lc, G, ρ, c, a, h⟩ => ?_
  unfold ev at h
  refine ⟨lc, G, ρ, c, a, ae h fun ds c1 vs G1 H1 e1 r1 k1 h1 => ?_⟩
  have hl := r1.length
  by_cases hz : ds.length ≤ LIM
  · rw [if_pos hz] at h1
    exact ⟨by show vs.length ≤ sizeLine; rw [← hl]; exact hz, fun p hp => OutE.newT h1 e1.inn r1 hz k1 hp⟩
  · rw [if_neg hz] at h1
    exact h1.elim
theorem gf_lst {es : List Expr} {xs : List Ex} (h : PA X es (tA P xs)) : PE X (.List es pos) (tF P (.lst xs)) := by
  refine (pe_lst h).imp fun σ H Q ⟨lc, G, ρ, c, a, h⟩ => ?_
  unfold ev at h
  refine ⟨lc, G, ρ, c, a, af h fun ds c1 vs G1 H1 e1 r1 k1 h1 => ?_⟩
  have hl := r1.length
  by_cases hz : ds.length ≤ LIM
  · rw [if_pos hz] at h1
    obtain ⟨_, h1⟩ := h1
    refine ⟨by show vs.length ≤ sizeLine; rw [← hl]; exact hz, fun p hp => ?_⟩
    have k2 : CellR P.K lc G1 (upd H1 p (.lst vs)) c1 := by
      cases c1 with
      | none => exact k1
      | some cs =>
        obtain ⟨l0, ws, q1, q2, q3, q4⟩ := k1
        exact ⟨l0, ws, q1, q2, by rw [upd_ne (ne_of_none q3 hp)]; exact q3, q4⟩
    refine h1 p G1 _ (.lay e1.inn hp) hp ?_ ⟨vs, upd_same, r1, hz⟩ k2
    cases q : G1 p with
    | none => rfl
    | some o => rw [e1.inn _ _ q] at hp; cases hp
  · rw [if_neg hz] at h1
    exact h1.elim
/-! ### operators -/
theorem lenLim {n : Nat} : n ≤ LIM ↔ n ≤ sizeLine := Iff.rfl
/-- how a rule of values serves an operation of data -/
def Serves (P : Pl) (f : D → D → Option D) (r : R2) : Prop := ∀ {lc : Option Addr} {G H : Hp} {c : Cell} {Q : VK} {x y : D} {v u : V}, Same G H → Rep P.K G x v → Rep P.K G y u → CellR P.K lc G H c → OutE P lc G H (C.opt (f x y) c) Q → r v u H Q
theorem ge_op {o : Op2} {op : Operator} {r : R2} {a b : Expr} {x y : Ex} (hr : OpR X (binaryOp op) r) (sv : Serves P (arith o) r) (ha : PE X a (tE P x)) (hb : PE X b (tE P y)) : PE X (.BinOp a op b pos) (tE P (.op o x y)) := by
  refine (pe_op hr ha hb).imp fun σ H Q ⟨lc, G, ρ, c, a, h⟩ => ?_
  unfold ev at h
  refine ⟨lc, G, ρ, c, a, oe h fun d c1 v G1 H1 e1 r1 k1 h1 => ?_⟩
  refine ⟨lc, G1, ρ, c1, a.step e1 k1, oe h1 fun d2 c2 v2 G2 H2 e2 r2 k2 h2 => ?_⟩
  exact sv e2.inn (r1.mono e2.sub) r2 k2 h2
theorem sv_ii {o : Op2} {f : D → D → Option D} {g : Int → Int → V} {Cn : Int → Int → Prop} (h : ∀ x y d, f x y = some d → ∃ i j k, x = .int i ∧ y = .int j ∧ d = .int k ∧ g i j = .int k ∧ Cn i j) : Serves P f (rI Cn g) := by
  intro lc G H c Q x y v u hs rx ry k q
  obtain ⟨d, e, q⟩ := q.opt
  obtain ⟨i, j, z, rfl, rfl, rfl, e2, cn⟩ := h _ _ _ e
  cases rx
  cases ry
  exact ⟨i, j, rfl, rfl, cn, by rw [e2]; exact q.out hs rfl k⟩
end
theorem ite_some {α : Type} {c : Prop} [Decidable c] {a d : α} (h : (if c then some a else none) = some d) : c ∧ a = d := by
  by_cases hc : c
  · rw [if_pos hc] at h; exact ⟨hc, Option.some.inj h⟩
  · rw [if_neg hc] at h; cases h
section
variable {X : Cx} {P : Pl} {pos : Pos}
def rAddG (K : PySem.W.Frag) : R2 := fun x y H Q => rI0 (fun i j => .int (i + j)) x y H Q ∨ (∃ i j, x = .str i ∧ y = .str j ∧ i.length + j.length ≤ sizeLine ∧ Q (.str (i ++ j)) H) ∨ rCatA K x y H Q ∨ rCatS K x y H Q
theorem op_addG : OpR X (binaryOp .Add) (rAddG X.K) := OpR.or op_add (OpR.or op_add_str (OpR.or op_catA op_catS))
theorem strApp (a b : List Nat) : (⟨a.toArray⟩ : Str) ++ (⟨b.toArray⟩ : Str) = ⟨(a ++ b).toArray⟩ := by
  show (⟨a.toArray ++ b.toArray⟩ : Str) = _
  simp
theorem strLen (a : List Nat) : (⟨a.toArray⟩ : Str).length = a.length := by
  show a.toArray.size = a.length
  simp
theorem okS_app {a b : List Nat} (h : okS a) (h' : okS b) : okS (a ++ b) := by
  unfold okS PyData.strOk at *
  simp only [List.all_toArray, List.all_append, Bool.and_eq_true] at *
  exact ⟨h, h'⟩
theorem okS_iff {a : List Nat} : okS a ↔ ∀ c ∈ a, c < 0x110000 := by
  unfold okS PyData.strOk
  simp [List.all_eq_true]
theorem sv_add : Serves P (arith .add) (rAddG P.K) := by
  intro lc G H c Q x y v u hs rx ry k q
  obtain ⟨d, e, q⟩ := q.opt
  cases x <;> cases y <;> first | (simp [arith] at e; done) | skip
  · cases rx; cases ry
    cases e
    exact .inl ⟨_, _, rfl, rfl, q.out hs rfl k⟩
  · rename_i a b
    obtain ⟨rfl, ha⟩ := rx
    obtain ⟨rfl, hb⟩ := ry
    obtain ⟨hz, rfl⟩ := ite_some e
    refine .inr (.inl ⟨_, _, rfl, rfl, by rw [strLen, strLen]; exact hz, ?_⟩)
    rw [strApp]
    exact q.out hs ⟨rfl, okS_app ha hb⟩ k
  · rename_i a b
    obtain ⟨p, xs, rfl, h1, h2, h3⟩ := rx
    obtain ⟨p', ys, rfl, h1', h2', h3'⟩ := ry
    obtain ⟨hz, rfl⟩ := ite_some e
    have l1 := h2.length
    have l2 := h2'.length
    refine .inr (.inr (.inl ⟨p, p', xs, ys, rfl, rfl, same_t hs h1, same_t hs h1', by rw [← l1, ← l2]; exact hz, fun e => ?_, fun e e' => ?_, fun e e' p2 hp => ?_⟩))
    · have : a = [] := List.eq_nil_of_length_eq_zero (by rw [l1, e]; rfl)
      subst this
      rw [List.nil_append] at q
      exact q.out hs ⟨p', ys, rfl, h1', h2', h3'⟩ k
    · have : b = [] := List.eq_nil_of_length_eq_zero (by rw [l2, e']; rfl)
      subst this
      rw [List.append_nil] at q
      exact q.out hs ⟨p, xs, rfl, h1, h2, h3⟩ k
    · exact q.newT hs (h2.append h2') (by rw [List.length_append]; exact hz) k hp
  · rename_i a b
    obtain ⟨p, xs, rfl, h1, h2, h3⟩ := rx
    obtain ⟨p', ys, rfl, h1', h2', h3'⟩ := ry
    obtain ⟨hz, rfl⟩ := ite_some e
    have l1 := h2.length
    have l2 := h2'.length
    refine .inr (.inr (.inr ⟨p, p', xs, ys, rfl, rfl, same_l hs h1, same_l hs h1', by rw [← l1, ← l2]; exact hz, fun p2 hp => ?_⟩))
    have s2 : Same G (upd G p2 (.lst (xs ++ ys))) := (Ext.new (lc := lc) hs hp).sub
    exact q _ _ _ (.new hs hp) ⟨p2, _, rfl, .of upd_same, (h2.append h2').mono s2, by rw [List.length_append]; exact hz⟩ (k.new hs hp)
theorem ge_add {a b : Expr} {x y : Ex} (ok : Ok P X) (ha : PE X a (tE P x)) (hb : PE X b (tE P y)) : PE X (.BinOp a .Add b pos) (tE P (.op .add x y)) := by
  have sv : Serves P (arith .add) (rAddG P.K) := sv_add
  rw [ok.K] at sv
  exact ge_op op_addG sv ha hb
theorem ge_sub {a b : Expr} {x y : Ex} (ha : PE X a (tE P x)) (hb : PE X b (tE P y)) : PE X (.BinOp a .Sub b pos) (tE P (.op .sub x y)) := by
  refine ge_op (r := rI (fun _ _ => True) fun i j => .int (i - j)) (opI fun _ _ _ _ _ _ _ _ q => PyProof.Rows.sub_int q) (sv_ii (o := .sub) fun x y d e => ?_) ha hb
  cases x <;> cases y <;> first | (simp [arith] at e; done) | skip
  cases e
  exact ⟨_, _, _, rfl, rfl, rfl, rfl, trivial⟩
theorem ge_fdiv {a b : Expr} {x y : Ex} (ha : PE X a (tE P x)) (hb : PE X b (tE P y)) : PE X (.BinOp a .FloorDiv b pos) (tE P (.op .fdiv x y)) := by
  refine ge_op op_fdiv (sv_ii (o := .fdiv) fun x y d e => ?_) ha hb
  cases x <;> cases y <;> first | (simp [arith] at e; done) | skip
  obtain ⟨hz, rfl⟩ := ite_some e
  exact ⟨_, _, _, rfl, rfl, rfl, rfl, hz⟩
theorem ge_mod {a b : Expr} {x y : Ex} (ha : PE X a (tE P x)) (hb : PE X b (tE P y)) : PE X (.BinOp a .Mod b pos) (tE P (.op .mod x y)) := by
  refine ge_op op_mod (sv_ii (o := .mod) fun x y d e => ?_) ha hb
  cases x <;> cases y <;> first | (simp [arith] at e; done) | skip
  obtain ⟨hz, rfl⟩ := ite_some e
  exact ⟨_, _, _, rfl, rfl, rfl, rfl, hz⟩
theorem m64 : M64 = 2 ^ 64 := by decide
theorem ge_pow {a b : Expr} {x y : Ex} (ha : PE X a (tE P x)) (hb : PE X b (tE P y)) : PE X (.BinOp a .Pow b pos) (tE P (.op .pow x y)) := by
  refine ge_op op_pow (sv_ii (o := .pow) fun x y d e => ?_) ha hb
  cases x <;> cases y <;> first | (simp [arith] at e; done) | skip
  obtain ⟨⟨h1, h2, h3, h4⟩, rfl⟩ := ite_some e
  refine ⟨_, _, _, rfl, rfl, rfl, rfl, h1, by omega, ?_⟩
  rw [m64] at h3 h4
  omega
def rMulG (K : PySem.W.Frag) : R2 := fun x y H Q => rI CMul (fun i j => .int (i * j)) x y H Q ∨ rRepT K x y H Q
theorem sv_mul : Serves P (fun x y => match x, y with | .tup a, .int k => if 2 ≤ k then arith .mul x y else none | .lst _, _ => none | _, _ => arith .mul x y) (rMulG P.K) := by
  intro lc G H c Q x y v u hs rx ry k q
  obtain ⟨d, e, q⟩ := q.opt
  cases x <;> cases y <;> first | (simp [arith] at e; done) | skip
  · cases rx; cases ry
    obtain ⟨hz, rfl⟩ := ite_some e
    rw [m64] at hz
    exact .inl ⟨_, _, rfl, rfl, hz, q.out hs rfl k⟩
  · rename_i a j
    obtain ⟨p, xs, rfl, h1, h2, h3⟩ := rx
    cases ry
    obtain ⟨hj, e⟩ : 2 ≤ j ∧ arith .mul (.tup a) (.int j) = some d := by
      by_cases hj : 2 ≤ j
      · exact ⟨hj, by simpa [hj] using e⟩
      · exact absurd e (by simp [hj])
    obtain ⟨⟨g1, g2, g3, g4⟩, rfl⟩ := ite_some e
    have l1 := h2.length
    have rep : ∀ n : Nat, Reps P.K G (List.replicate n a).flatten (List.replicate n xs).flatten := fun n => by
      induction n with
      | zero => exact rfl
      | succ n ih => rw [List.replicate_succ, List.replicate_succ, List.flatten_cons, List.flatten_cons]; exact h2.append ih
    refine .inr ⟨p, j, xs, rfl, rfl, same_t hs h1, fun e => g3 (List.eq_nil_of_length_eq_zero (by rw [l1, e]; rfl)), hj, g2, by omega, fun p2 hp => ?_⟩
    refine q.newT hs (rep _) ?_ k hp
    rw [PyProof.Rows.lm_len_rep_flat]
    have : j.toNat * a.length ≤ 1000 * 1000 := Nat.mul_le_mul (by omega) g4
    exact Nat.le_trans this (by decide)
end
end G
/-! GK: dicts with keys of any depth. -/
namespace G
open PySem L2
variable [TQ]
/-! ### keys -/
mutual
theorem keyOf_depth : ∀ {n : Nat} {d : D} {k : NestedKey}, keyb n d = true → keyOf d = some k → k.depth ≤ n
  | _, .int _, _, _, h => by cases h; exact Nat.zero_le _
  | 0, .tup l, _, hb, _ => by simp [keyb] at hb
  | n + 1, .tup l, k, hb, h => by
    rw [keyOf, Option.map_eq_some_iff] at h
    obtain ⟨ks, e, rfl⟩ := h
    have hb : l.all (keyb n) = true := hb
    have := keysOf_depth hb e
    show NestedKey.depthAll ks + 1 ≤ n + 1
    omega
  | _, .non, _, _, h => by cases h
  | _, .bl _, _, _, h => by cases h
  | _, .str _, _, _, h => by cases h
  | _, .lst _, _, _, h => by cases h
  | _, .dct _ _, _, _, h => by cases h
theorem keysOf_depth : ∀ {n : Nat} {l : List D} {ks : List NestedKey}, l.all (keyb n) = true → keysOf l = some ks → NestedKey.depthAll ks ≤ n
  | _, [], _, _, h => by cases h; exact Nat.zero_le _
  | n, d :: ds, ks, hb, h => by
    rw [List.all_cons, Bool.and_eq_true] at hb
    rw [keysOf] at h
    cases e1 : keyOf d with
    | none => rw [e1] at h; cases h
    | some a =>
      cases e2 : keysOf ds with
      | none => rw [e1, e2] at h; cases h
      | some b =>
        rw [e1, e2] at h
        cases h
        have := keyOf_depth hb.1 e1
        have := keysOf_depth hb.2 e2
        show max _ _ ≤ n
        omega
end
mutual
theorem keyOf_some : ∀ {n : Nat} {d : D}, keyb n d = true → ∃ k, keyOf d = some k
  | _, .int i, _ => ⟨_, rfl⟩
  | 0, .tup l, hb => by simp [keyb] at hb
  | n + 1, .tup l, hb => by
    have hb : l.all (keyb n) = true := hb
    obtain ⟨ks, e⟩ := keysOf_some hb
    exact ⟨.tup ks, by rw [keyOf, e]; rfl⟩
  | n, .non, h => by cases n <;> cases h
  | n, .bl _, h => by cases n <;> cases h
  | n, .str _, h => by cases n <;> cases h
  | n, .lst _, h => by cases n <;> cases h
  | n, .dct _ _, h => by cases n <;> cases h
theorem keysOf_some : ∀ {n : Nat} {l : List D}, l.all (keyb n) = true → ∃ ks, keysOf l = some ks
  | _, [], _ => ⟨[], rfl⟩
  | n, d :: ds, hb => by
    rw [List.all_cons, Bool.and_eq_true] at hb
    obtain ⟨a, e1⟩ := keyOf_some hb.1
    obtain ⟨b, e2⟩ := keysOf_some hb.2
    exact ⟨a :: b, by rw [keysOf, e1, e2]⟩
end
mutual
theorem keyOf_hash : ∀ {d : D} {k : NestedKey}, keyOf d = some k → ∀ w w' : World, k.hash w = k.hash w'
  | .int i, _, h, _, _ => by cases h; rfl
  | .tup l, k, h, w, w' => by
    rw [keyOf, Option.map_eq_some_iff] at h
    obtain ⟨ks, e, rfl⟩ := h
    show reduceHash _ = reduceHash _
    rw [keysOf_hash e w w']
  | .non, _, h, _, _ => by cases h
  | .bl _, _, h, _, _ => by cases h
  | .str _, _, h, _, _ => by cases h
  | .lst _, _, h, _, _ => by cases h
  | .dct _ _, _, h, _, _ => by cases h
theorem keysOf_hash : ∀ {l : List D} {ks : List NestedKey}, keysOf l = some ks → ∀ w w' : World, NestedKey.hashes w ks = NestedKey.hashes w' ks
  | [], _, h, _, _ => by cases h; rfl
  | d :: ds, ks, h, w, w' => by
    rw [keysOf] at h
    cases e1 : keyOf d with
    | none => rw [e1] at h; cases h
    | some a =>
      cases e2 : keysOf ds with
      | none => rw [e1, e2] at h; cases h
      | some b =>
        rw [e1, e2] at h
        cases h
        show _ :: _ = _ :: _
        rw [keyOf_hash e1 w w', keysOf_hash e2 w w']
end
mutual
/-- equal data, equal keys -/
theorem key_eqv : ∀ {a b : D} {j k : NestedKey}, keyOf a = some j → keyOf b = some k → eqv a b = decide (j = k)
  | .int i, .int i', _, _, h, h' => by
    cases h; cases h'
    show (i == i') = _
    by_cases e : i = i'
    · subst e; simp
    · simp [e]
  | .int i, .tup l, _, _, h, h' => by
    cases h
    rw [keyOf, Option.map_eq_some_iff] at h'
    obtain ⟨ks, _, rfl⟩ := h'
    simp [eqv]
  | .tup l, .int i, _, _, h, h' => by
    cases h'
    rw [keyOf, Option.map_eq_some_iff] at h
    obtain ⟨ks, _, rfl⟩ := h
    simp [eqv]
  | .tup l, .tup m, _, _, h, h' => by
    rw [keyOf, Option.map_eq_some_iff] at h h'
    obtain ⟨ks, e, rfl⟩ := h
    obtain ⟨ks', e', rfl⟩ := h'
    show eqvs l m = _
    rw [keys_eqv e e']
    simp
  | .non, _, _, _, h, _ => by cases h
  | .bl _, _, _, _, h, _ => by cases h
  | .str _, _, _, _, h, _ => by cases h
  | .lst _, _, _, _, h, _ => by cases h
  | .dct _ _, _, _, _, h, _ => by cases h
  | .int _, .non, _, _, _, h => by cases h
  | .int _, .bl _, _, _, _, h => by cases h
  | .int _, .str _, _, _, _, h => by cases h
  | .int _, .lst _, _, _, _, h => by cases h
  | .int _, .dct _ _, _, _, _, h => by cases h
  | .tup _, .non, _, _, _, h => by cases h
  | .tup _, .bl _, _, _, _, h => by cases h
  | .tup _, .str _, _, _, _, h => by cases h
  | .tup _, .lst _, _, _, _, h => by cases h
  | .tup _, .dct _ _, _, _, _, h => by cases h
theorem keys_eqv : ∀ {a b : List D} {j k : List NestedKey}, keysOf a = some j → keysOf b = some k → eqvs a b = decide (j = k)
  | [], [], _, _, h, h' => by cases h; cases h'; rfl
  | [], d :: ds, _, k, h, h' => by
    cases h
    rw [keysOf] at h'
    cases e1 : keyOf d with
    | none => rw [e1] at h'; cases h'
    | some a =>
      cases e2 : keysOf ds with
      | none => rw [e1, e2] at h'; cases h'
      | some b => rw [e1, e2] at h'; cases h'; simp [eqvs]
  | d :: ds, [], _, _, h, h' => by
    cases h'
    rw [keysOf] at h
    cases e1 : keyOf d with
    | none => rw [e1] at h; cases h
    | some a =>
      cases e2 : keysOf ds with
      | none => rw [e1, e2] at h; cases h
      | some b => rw [e1, e2] at h; cases h; simp [eqvs]
  | d :: ds, d' :: ds', _, _, h, h' => by
    rw [keysOf] at h h'
    cases e1 : keyOf d with
    | none => rw [e1] at h; cases h
    | some a =>
      cases e2 : keysOf ds with
      | none => rw [e1, e2] at h; cases h
      | some b =>
        cases e3 : keyOf d' with
        | none => rw [e3] at h'; cases h'
        | some a' =>
          cases e4 : keysOf ds' with
          | none => rw [e3, e4] at h'; cases h'
          | some b' =>
            rw [e1, e2] at h
            rw [e3, e4] at h'
            cases h
            cases h'
            rw [eqvs, key_eqv e1 e3, keys_eqv e2 e4]
            by_cases z : a = a' <;> by_cases z' : b = b' <;> simp [z, z']
end
theorem keysOf_at : ∀ {l : List D} {ks : List NestedKey}, keysOf l = some ks → ∀ {i : Nat} {k : NestedKey}, ks[i]? = some k → ∃ d, l[i]? = some d ∧ keyOf d = some k
  | [], _, h, i, k, e => by cases h; simp at e
  | d :: ds, ks, h, i, k, e => by
    rw [keysOf] at h
    cases e1 : keyOf d with
    | none => rw [e1] at h; cases h
    | some a =>
      cases e2 : keysOf ds with
      | none => rw [e1, e2] at h; cases h
      | some b =>
        rw [e1, e2] at h
        cases h
        cases i with
        | zero => cases e; exact ⟨d, rfl, e1⟩
        | succ i => exact keysOf_at e2 e
theorem keysOf_len : ∀ {l : List D} {ks : List NestedKey}, keysOf l = some ks → ks.length = l.length
  | [], _, h => by cases h; rfl
  | d :: ds, ks, h => by
    rw [keysOf] at h
    cases e1 : keyOf d with
    | none => rw [e1] at h; cases h
    | some a =>
      cases e2 : keysOf ds with
      | none => rw [e1, e2] at h; cases h
      | some b =>
        rw [e1, e2] at h
        cases h
        simp [keysOf_len e2]
section
variable {X : Cx} {pins : List (Addr × Obj)} {σ : St} {G H : Hp} {s : Shared}
mutual
theorem key_is (I : Inv X pins σ H s) (hs : Same G H) : ∀ {d : D} {v : V} {u : Value} {k : NestedKey}, Rep X.K G d v → keyOf d = some k → L2.RelV v u → NestedIs s.heap k u
  | .int i, v, u, k, r, h, ru => by
    cases h
    cases (show v = .int i from r)
    obtain ⟨t, rfl⟩ := ru
    exact .int i t
  | .tup l, v, u, k, r, h, ru => by
    rw [keyOf, Option.map_eq_some_iff] at h
    obtain ⟨ks, e, rfl⟩ := h
    obtain ⟨a, vs, rfl, h1, h2, h3⟩ := r
    cases (show u = .ref a from ru)
    obtain ⟨its, rv, ht, _⟩ := I.tuple (same_t hs h1)
    obtain ⟨o, g1, g2, n, g3⟩ := ht
    exact .tup g1 g2 g3 (by simpa using keys_are I hs h2 e rv)
  | .non, _, _, _, _, h, _ => by cases h
  | .bl _, _, _, _, _, h, _ => by cases h
  | .str _, _, _, _, _, h, _ => by cases h
  | .lst _, _, _, _, _, h, _ => by cases h
  | .dct _ _, _, _, _, _, h, _ => by cases h
theorem keys_are (I : Inv X pins σ H s) (hs : Same G H) : ∀ {l : List D} {vs : List V} {us : List Value} {ks : List NestedKey}, Reps X.K G l vs → keysOf l = some ks → Vals vs us → NestedAll s.heap ks us
  | [], vs, us, ks, r, h, ru => by
    cases h
    cases (show vs = [] from r)
    cases ru
    exact .nil
  | d :: ds, vs, us, ks, r, h, ru => by
    obtain ⟨x, xs, rfl, r1, r2⟩ := r
    rw [keysOf] at h
    cases e1 : keyOf d with
    | none => rw [e1] at h; cases h
    | some a =>
      cases e2 : keysOf ds with
      | none => rw [e1, e2] at h; cases h
      | some b =>
        rw [e1, e2] at h
        cases h
        cases ru with
        | cons ru rus => exact .cons (key_is I hs r1 e1 ru) (keys_are I hs r2 e2 rus)
end
end
/-! ### a dict as data -/
structure DkAt (K : PySem.W.Frag) (G : Hp) (ks vs : List D) (xs : List (NestedKey × Addr × V)) : Prop where
  keys : keysOf ks = some (xs.map (·.1))
  kt : ks.all keyT = true
  nd : (xs.map (·.1)).Nodup
  len : ks.length ≤ LIM
  rk : Reps K G ks (xs.map fun x => V.ref x.2.1)
  rv : Reps K G vs (xs.map (·.2.2))
abbrev RelE3 : NestedKey × Addr × V → NestedKey × Addr × Value → Prop := fun p q => p.1 = q.1 ∧ p.2.1 = q.2.1 ∧ L2.RelV p.2.2 q.2.2
theorem pair_keys {xs : List (NestedKey × Addr × V)} {us : List (NestedKey × Addr × Value)} (h : Paired RelE3 xs us) : us.map (·.1) = xs.map (·.1) := by
  induction h with
  | nil => rfl
  | cons h _ ih => simp [ih, h.1]
theorem keyT_two {d : D} (h : keyT d = true) : ∃ l, d = .tup l ∧ keyb 8 d = true := by
  unfold keyT at h
  rw [Bool.and_eq_true] at h
  cases d with
  | tup l => exact ⟨l, rfl, h.2⟩
  | _ => cases h.1
section
variable {X : Cx} {pins : List (Addr × Obj)} {σ : St} {G H : Hp} {s : Shared} {a : Addr} {ks vs : List D} {xs : List (NestedKey × Addr × V)}
theorem xkey_is (I : Inv X pins σ H s) (hs : Same G H) {d : D} {b : Addr} {k : NestedKey} (r : Rep X.K G d (.ref b)) (h : keyOf d = some k) (ht : keyT d = true) : (nestedKind X.prog X.w).is s.heap k b := by
  obtain ⟨l, rfl, hb⟩ := keyT_two ht
  exact ⟨key_is I hs r h rfl, keyOf_depth hb h⟩
/-- the dict's own object -/
theorem dk_of (I : Inv X pins σ H s) (hs : Same G H) (e : Rd H a (dkO a xs)) (D : DkAt X.K G ks vs xs) : (a == sysModules) = false ∧ ∃ us, Paired RelE3 xs us ∧ s.heap.DictOfH (nestedKind X.prog X.w) a us := by
  have ok : ObjOk X.prog X.w H s.heap a (dkO a xs) := e.ok I.hok
  obtain ⟨⟨hd, o, es, ep, us, hp, h1, h2, h3, h4⟩, _⟩ := ok
  refine ⟨hd, us, hp, o, es, ep, h1, h2, h3, h4 X.w, fun x hx => ?_, ?_⟩
  · obtain ⟨i, hi⟩ := List.mem_iff_getElem?.mp hx
    have hk : (xs.map (·.1))[i]? = some x.1 := by rw [← pair_keys hp, List.getElem?_map, hi]; rfl
    obtain ⟨d, hd1, hd2⟩ := keysOf_at D.keys hk
    have ht : keyT d = true := List.all_eq_true.mp D.kt d (List.mem_of_getElem? hd1)
    obtain ⟨v, hv, rv⟩ := D.rk.get hd1
    have hb : ∃ y, xs[i]? = some y ∧ y.1 = x.1 ∧ y.2.1 = x.2.1 := by
      have : ∀ {xs : List (NestedKey × Addr × V)} {us : List (NestedKey × Addr × Value)}, Paired RelE3 xs us → ∀ {i : Nat} {x : NestedKey × Addr × Value}, us[i]? = some x → ∃ y, xs[i]? = some y ∧ y.1 = x.1 ∧ y.2.1 = x.2.1 := by
        intro xs us h
        induction h with
        | nil => intro i x e; simp at e
        | cons h _ ih =>
          intro i x e
          cases i with
          | zero => cases e; exact ⟨_, rfl, h.1, h.2.1⟩
          | succ i => exact ih e
      exact this hp hi
    obtain ⟨y, hy1, hy2, hy3⟩ := hb
    rw [List.getElem?_map, hy1] at hv
    cases hv
    rw [← hy3]
    exact xkey_is I hs rv hd2 ht
  · rw [pair_keys hp]; exact D.nd
/-- the search -/
theorem find_ok {K : PySem.W.Frag} {d : D} {k : NestedKey} (hk : keyOf d = some k) : ∀ {ks vs : List D} {xs : List (NestedKey × Addr × V)} {us : List (NestedKey × Addr × Value)}, keysOf ks = some (xs.map (·.1)) → Reps K G vs (xs.map (·.2.2)) → Paired RelE3 xs us →
    match dfind ks vs d with
    | some e => ∃ b y u, atKey us k = some (b, u) ∧ L2.RelV y u ∧ Rep K G e y
    | none => atKey us k = none
  | [], vs, xs, us, h, _, hp => by
    have : xs = [] := by
      have := keysOf_len h
      simpa using this
    subst this
    cases hp
    rfl
  | d' :: ks, vs, xs, us, h, hv, hp => by
    rw [keysOf] at h
    cases e1 : keyOf d' with
    | none => rw [e1] at h; cases h
    | some a =>
      cases e2 : keysOf ks with
      | none => rw [e1, e2] at h; cases h
      | some b =>
        rw [e1, e2] at h
        cases hp with
        | nil => cases h
        | @cons p q ps qs hq hp =>
          have h : a :: b = p.1 :: ps.map (·.1) := Option.some.inj h
          injection h with h1 h2
          subst h1 h2
          cases vs with
          | nil => cases (show List.map _ _ = [] from hv)
          | cons v vs =>
            obtain ⟨y, ys, e3, r1, r2⟩ := hv
            injection e3 with e4 e5
            subst e4 e5
            have ek := key_eqv e1 hk
            rw [dfind, ek]
            by_cases z : p.1 = k
            · rw [decide_eq_true z, if_pos rfl]
              refine ⟨q.2.1, p.2.2, q.2.2, ?_, hq.2.2, r1⟩
              unfold atKey
              rw [List.find?_cons, ← hq.1, decide_eq_true z]
              rfl
            · rw [decide_eq_false z, if_neg (by decide)]
              have ih := find_ok hk (ks := ks) (vs := vs) e2 r2 hp
              have e6 : atKey (q :: qs) k = atKey qs k := by
                unfold atKey
                rw [List.find?_cons, ← hq.1, decide_eq_false z]
              rw [e6]
              exact ih
end
end G
/-! GL: what is done with dicts. -/
namespace G
open PySem L2 PySem.Spec PyProof.Rows
variable [TQ]
theorem line20 : (150 : Nat) ≤ cLine := by decide +kernel
/-! ### a value stored -/
def xput : List (NestedKey × Addr × V) → NestedKey → Addr → V → List (NestedKey × Addr × V)
  | p :: ps, k, b, v => if p.1 = k then (p.1, p.2.1, v) :: ps else p :: xput ps k b v
  | [], k, b, v => [(k, b, v)]
def uput : List (NestedKey × Addr × Value) → NestedKey → Addr → Value → List (NestedKey × Addr × Value)
  | p :: ps, k, b, v => if p.1 = k then (p.1, p.2.1, v) :: ps else p :: uput ps k b v
  | [], k, b, v => [(k, b, v)]
theorem put_none {k : NestedKey} {v : Value} : ∀ {us : List (NestedKey × Addr × Value)}, k ∉ us.map (·.1) → us.map (putAt k v) = us
  | [], _ => rfl
  | p :: ps, h => by
    simp only [List.map_cons, List.mem_cons, not_or] at h
    rw [List.map_cons, put_none h.2]
    unfold putAt
    rw [if_neg (fun z => h.1 z.symm)]
theorem stored_u {k : NestedKey} {b : Addr} {v : Value} : ∀ {us : List (NestedKey × Addr × Value)}, (us.map (·.1)).Nodup → storedH us k b v = uput us k b v
  | [], _ => rfl
  | p :: ps, h => by
    rw [List.map_cons, List.nodup_cons] at h
    have ih := stored_u (k := k) (b := b) (v := v) h.2
    unfold storedH at ih ⊢
    rw [uput]
    by_cases e : p.1 = k
    · rw [if_pos e]
      have : (atKey (p :: ps) k).isSome = true := by
        unfold atKey
        rw [List.find?_cons, decide_eq_true e]
        rfl
      rw [if_pos this, List.map_cons, put_none (by rw [← e]; exact h.1)]
      unfold putAt
      rw [if_pos e]
    · rw [if_neg e]
      have a : atKey (p :: ps) k = atKey ps k := by
        unfold atKey
        rw [List.find?_cons, decide_eq_false e]
      rw [a]
      by_cases q : (atKey ps k).isSome = true
      · rw [if_pos q] at ih ⊢
        rw [List.map_cons, ih]
        unfold putAt
        rw [if_neg e]
      · rw [if_neg q] at ih ⊢
        rw [List.cons_append, ih]
theorem pair_put {k : NestedKey} {b : Addr} {v : V} {u : Value} (r : L2.RelV v u) : ∀ {xs : List (NestedKey × Addr × V)} {us : List (NestedKey × Addr × Value)}, Paired RelE3 xs us → Paired RelE3 (xput xs k b v) (uput us k b u)
  | _, _, .nil => .cons ⟨rfl, rfl, r⟩ .nil
  | _, _, .cons (a := p) (b := q) h t => by
    rw [xput, uput]
    by_cases e : p.1 = k
    · rw [if_pos e, if_pos (h.1 ▸ e)]
      exact .cons ⟨h.1, h.2.1, r⟩ t
    · rw [if_neg e, if_neg (fun z => e (h.1.trans z))]
      exact .cons h (pair_put r t)
theorem xput_keys {k : NestedKey} {b : Addr} {v : V} : ∀ {xs : List (NestedKey × Addr × V)}, (xput xs k b v).map (·.1) = if k ∈ xs.map (·.1) then xs.map (·.1) else xs.map (·.1) ++ [k]
  | [] => rfl
  | p :: ps => by
    rw [xput]
    by_cases e : p.1 = k
    · rw [if_pos e, List.map_cons, if_pos (by simp [e])]
      rfl
    · rw [if_neg e, List.map_cons, List.map_cons, xput_keys]
      by_cases q : k ∈ ps.map (·.1)
      · rw [if_pos q, if_pos (List.mem_cons_of_mem _ q)]
      · rw [if_neg q, if_neg (by simp only [List.mem_cons, not_or]; exact ⟨fun z => e z.symm, q⟩)]
        rfl
theorem xput_nd {k : NestedKey} {b : Addr} {v : V} {xs : List (NestedKey × Addr × V)} (h : (xs.map (·.1)).Nodup) : ((xput xs k b v).map (·.1)).Nodup := by
  rw [xput_keys]
  split
  · exact h
  · rename_i q
    rw [List.nodup_append]
    refine ⟨h, by simp, fun a ha c hc => ?_⟩
    rw [List.mem_singleton] at hc
    subst hc
    exact fun z => q (z ▸ ha)
theorem dput_len : ∀ {ks vs : List D} {x y : D}, ks.length = vs.length → (dput ks vs x y).1.length ≤ ks.length + 1
  | [], [], _, _, _ => by simp [dput]
  | k :: ks, v :: vs, x, y, h => by
    rw [dput]
    split
    · simp
    · have := dput_len (x := x) (y := y) (show ks.length = vs.length by simpa using h)
      simp
      omega
  | [], _ :: _, _, _, h => by simp at h
  | _ :: _, [], _, _, h => by simp at h
theorem dput_ok {K : PySem.W.Frag} {G : Hp} {x y : D} {k : NestedKey} {b : Addr} {v : V} (hx : keyT x = true) (hk : keyOf x = some k) (rx : Rep K G x (.ref b)) (ry : Rep K G y v) : ∀ {ks vs : List D} {xs : List (NestedKey × Addr × V)}, keysOf ks = some (xs.map (·.1)) → ks.all keyT = true → Reps K G ks (xs.map fun x => V.ref x.2.1) → Reps K G vs (xs.map (·.2.2)) →
    keysOf (dput ks vs x y).1 = some ((xput xs k b v).map (·.1)) ∧ (dput ks vs x y).1.all keyT = true ∧ Reps K G (dput ks vs x y).1 ((xput xs k b v).map fun x => V.ref x.2.1) ∧ Reps K G (dput ks vs x y).2 ((xput xs k b v).map (·.2.2))
  | [], vs, xs, h, _, _, hv => by
    have : xs = [] := by simpa using keysOf_len h
    subst this
    have : vs = [] := by
      cases vs with
      | nil => rfl
      | cons v vs => obtain ⟨_, _, e, _⟩ := hv; cases e
    subst this
    refine ⟨?_, by simp [dput, hx], ⟨_, _, rfl, rx, rfl⟩, ⟨_, _, rfl, ry, rfl⟩⟩
    show keysOf [x] = _
    rw [keysOf, hk]
    rfl
  | d :: ks, vs, xs, h, ht, hr, hv => by
    rw [List.all_cons, Bool.and_eq_true] at ht
    rw [keysOf] at h
    cases e1 : keyOf d with
    | none => rw [e1] at h; cases h
    | some a =>
      cases e2 : keysOf ks with
      | none => rw [e1, e2] at h; cases h
      | some c =>
        rw [e1, e2] at h
        cases xs with
        | nil => cases h
        | cons p ps =>
          have h : a :: c = p.1 :: ps.map (·.1) := Option.some.inj h
          injection h with h1 h2
          subst h1 h2
          obtain ⟨z, zs, e3, r1, r2⟩ := hr
          injection e3 with e4 e5
          subst e4 e5
          cases vs with
          | nil => cases (show List.map _ _ = [] from hv)
          | cons w vs =>
            obtain ⟨z, zs, e3, r3, r4⟩ := hv
            injection e3 with e4 e5
            subst e4 e5
            rw [dput, xput, key_eqv e1 hk]
            by_cases q : p.1 = k
            · rw [decide_eq_true q, if_pos rfl, if_pos q]
              refine ⟨?_, ?_, ⟨_, _, rfl, r1, r2⟩, ⟨_, _, rfl, ry, r4⟩⟩
              · rw [keysOf, e1, e2]; rfl
              · rw [List.all_cons, ht.1, ht.2]; rfl
            · rw [decide_eq_false q, if_neg (by decide), if_neg q]
              obtain ⟨i1, i2, i3, i4⟩ := dput_ok hx hk rx ry (ks := ks) (vs := vs) (xs := ps) e2 ht.2 r2 r4
              refine ⟨?_, ?_, ⟨_, _, rfl, r1, i3⟩, ⟨_, _, rfl, r3, i4⟩⟩
              · rw [keysOf, e1, i1]; rfl
              · rw [List.all_cons, ht.1, i2]; rfl
theorem DkAt.put {K : PySem.W.Frag} {G : Hp} {ks vs : List D} {xs : List (NestedKey × Addr × V)} (A : DkAt K G ks vs xs) {x y : D} {k : NestedKey} {b : Addr} {v : V} (hx : keyT x = true) (hk : keyOf x = some k) (rx : Rep K G x (.ref b)) (ry : Rep K G y v) (hl : ks.length < LIM) :
    DkAt K G (dput ks vs x y).1 (dput ks vs x y).2 (xput xs k b v) := by
  obtain ⟨h1, h2, h3, h4⟩ := dput_ok hx hk rx ry A.keys A.kt A.rk A.rv
  refine ⟨h1, h2, xput_nd A.nd, ?_, h3, h4⟩
  have l1 := A.rk.length
  have l2 := A.rv.length
  have := dput_len (x := x) (y := y) (show ks.length = vs.length by rw [l1, l2]; simp)
  omega
theorem keysOf_hashes {l : List D} {ks : List NestedKey} (h : keysOf l = some ks) : ∀ k ∈ ks, ∀ w w' : World, k.hash w = k.hash w' := fun k hk w w' => by
  obtain ⟨i, hi⟩ := List.mem_iff_getElem?.mp hk
  obtain ⟨d, _, hd⟩ := keysOf_at h hi
  exact keyOf_hash hd w w'
/-- a dict described -/
theorem dkO_of {P : Program} {w : World} {H : Hp} {h : Heap} {a : Addr} {ks : List D} {xs : List (NestedKey × Addr × V)} {us : List (NestedKey × Addr × Value)} (hd : (a == sysModules) = false) (hk : keysOf ks = some (xs.map (·.1))) (hp : Paired RelE3 xs us) (dd : h.DictOfH (nestedKind P w) a us) : ObjOk P w H h a (dkO a xs) := by
  obtain ⟨o, es, ep, h1, h2, h3, h4, h5, h6⟩ := dd
  refine ⟨⟨hd, o, es, ep, us, hp, h1, h2, h3, fun w' => ?_⟩, ⟨o, h1⟩, fun g1 g2 ⟨q0, q1, q2, q3, q4, q5, q6, q7, q8, q9⟩ z => ⟨q0, q1, q2, q3, q4, q5, z _ q6, q7, q8, q9⟩⟩
  rw [h4]
  refine List.map_congr_left fun x hx => ?_
  have : x.1 ∈ xs.map (·.1) := by rw [← pair_keys hp]; exact List.mem_map_of_mem hx
  show (⟨x.1.hash w, _, _⟩ : DictEntry) = _
  rw [keysOf_hashes hk x.1 this w w']
section
variable {X : Cx} {pins : List (Addr × Obj)} {σ : L2.St} {G H : Hp} {s : Shared} {a : Addr} {ks vs : List D} {xs : List (NestedKey × Addr × V)} {A : Around} {E : Value → Shared → Prop} {x : D} {y : V} {u : Value}
theorem room_in1 {P : Program} {w : World} (h : A.units + 20 < cLine) : (nestedKind P w).room A.in1 := by
  show A.units + 1 + 8 < cLine
  omega
theorem dk_key (I : Inv X pins σ H s) (hs : Same G H) (hx : keyT x = true) (r : Rep X.K G x y) (ry : RelV y u) : ∃ b k, y = .ref b ∧ u = .ref b ∧ keyOf x = some k ∧ (nestedKind X.prog X.w).is s.heap k b := by
  obtain ⟨l, rfl, hb⟩ := keyT_two hx
  obtain ⟨k, hk⟩ := keyOf_some hb
  obtain ⟨b, zs, rfl, h1, h2, h3⟩ := id r
  exact ⟨b, k, rfl, ry, hk, xkey_is I hs r hk hx⟩
theorem dk_getItem {e : D} {Q : Value → Shared → Prop} (hu : A.units + 20 < cLine) (I : Inv X pins σ H s) (hs : Same G H) (ea : Rd H a (dkO a xs)) (D : DkAt X.K G ks vs xs) (hx : keyT x = true) (r : Rep X.K G x y) (ry : RelV y u) (hf : dfind ks vs x = some e)
    (h : ∀ z w' s', Inv X pins σ H s' → Rep X.K G e z → RelV z w' → Q w' s') : wpAny (model X.prog X.w) A (getItem (.ref a) u) Q E s := by
  obtain ⟨b, k, rfl, rfl, hk, hi⟩ := dk_key I hs hx r ry
  obtain ⟨hd, us, hp, dd⟩ := dk_of I hs ea D
  have f := find_ok (K := X.K) (G := G) hk D.keys D.rv hp
  rw [hf] at f
  obtain ⟨b', z, u, f1, f2, f3⟩ := f
  exact wpAny_getItem_heap (room_in1 hu) hi dd f1 (h z u _ (I.tok _) f3 f2)
theorem dk_isSome {us : List (NestedKey × Addr × Value)} {k : NestedKey} (hk : keyOf x = some k) (D : DkAt X.K G ks vs xs) (hp : Paired RelE3 xs us) : (atKey us k).isSome = (dfind ks vs x).isSome := by
  have f := find_ok (K := X.K) (G := G) hk D.keys D.rv hp
  cases e : dfind ks vs x with
  | none => rw [e] at f; rw [f]; rfl
  | some z => rw [e] at f; obtain ⟨b', z, u, f1, f2, f3⟩ := f; rw [f1]; rfl
theorem dk_in {Q : Value → Shared → Prop} (hu : A.units + 20 < cLine) (I : Inv X pins σ H s) (hs : Same G H) (ea : Rd H a (dkO a xs)) (D : DkAt X.K G ks vs xs) (hx : keyT x = true) (r : Rep X.K G x y) (ry : RelV y u)
    (h : ∀ s', Inv X pins σ H s' → Q (.bool (dfind ks vs x).isSome) s') : wpAny (model X.prog X.w) A (compareOp .In u (.ref a)) Q E s := by
  obtain ⟨b, k, rfl, rfl, hk, hi⟩ := dk_key I hs hx r ry
  obtain ⟨hd, us, hp, dd⟩ := dk_of I hs ea D
  refine wpAny_in_heap (room_in1 hu) hi hd dd ?_
  rw [dk_isSome hk D hp]
  exact h _ (I.tok _)
theorem dk_notIn {Q : Value → Shared → Prop} (hu : A.units + 20 < cLine) (I : Inv X pins σ H s) (hs : Same G H) (ea : Rd H a (dkO a xs)) (D : DkAt X.K G ks vs xs) (hx : keyT x = true) (r : Rep X.K G x y) (ry : RelV y u)
    (h : ∀ s', Inv X pins σ H s' → Q (.bool (!(dfind ks vs x).isSome)) s') : wpAny (model X.prog X.w) A (compareOp .NotIn u (.ref a)) Q E s := by
  obtain ⟨b, k, rfl, rfl, hk, hi⟩ := dk_key I hs hx r ry
  obtain ⟨hd, us, hp, dd⟩ := dk_of I hs ea D
  refine wpAny_notIn_heap (room_in1 hu) hi hd dd ?_
  rw [dk_isSome hk D hp]
  exact h _ (I.tok _)
theorem dk_get {y2 : V} {u2 : Value} {d2 : _root_.G.D} {Q : Value → Shared → Prop} (hu : A.units + 20 < cLine) (I : Inv X pins σ H s) (hs : Same G H) (ea : Rd H a (dkO a xs)) (D : DkAt X.K G ks vs xs) (hx : keyT x = true) (r : Rep X.K G x y) (ry : RelV y u) (r2 : Rep X.K G d2 y2) (ry2 : RelV y2 u2)
    (h : ∀ z w' s', Inv X pins σ H s' → Rep X.K G ((dfind ks vs x).getD d2) z → RelV z w' → Q w' s') : wpAny (model X.prog X.w) A (call (.builtin "dict.get") [.ref a, u, u2]) Q E s := by
  obtain ⟨b, k, rfl, rfl, hk, hi⟩ := dk_key I hs hx r ry
  obtain ⟨hd, us, hp, dd⟩ := dk_of I hs ea D
  refine call_meetsIn PySem.F.slot_dict_get dd.typeIs PySem.F.entry_dict_get (PySem.F.args_dict_get_3 _ _ _) (meetsH_dict_get_default (nestedKind X.prog X.w) a b hd u2) ⟨room_in1 hu, k, us, hi, dd, ?_⟩
  have f := find_ok (K := X.K) (G := G) hk D.keys D.rv hp
  cases e : dfind ks vs x with
  | none =>
    rw [e] at f h
    rw [f]
    exact h y2 u2 _ (I.tok _) r2 ry2
  | some z =>
    rw [e] at f h
    obtain ⟨b', z, u, f1, f2, f3⟩ := f
    rw [f1]
    exact h z u _ (I.tok _) f3 f2
theorem dk_setItem {v : V} {w' : Value} {Q : Unit → Shared → Prop} (hu : A.units + 20 < cLine) (I : Inv X pins σ H s) (hs : Same G H) (ea : H a = some (dkO a xs)) (D : DkAt X.K G ks vs xs) (hx : keyT x = true) (r : Rep X.K G x y) (ry : RelV y u) (rv : RelV v w') (hl : ks.length < LIM)
    (h : ∀ b k s', y = .ref b → keyOf x = some k → Inv X pins σ (upd H a (dkO a (xput xs k b v))) s' → Q () s') : wpAny (model X.prog X.w) A (setItem (.ref a) u w') Q E s := by
  obtain ⟨b, k, rfl, rfl, hk, hi⟩ := dk_key I hs hx r ry
  obtain ⟨hd, us, hp, dd⟩ := dk_of I hs (.of ea) D
  have hz : us.length ≤ sizeLine := by
    have l1 := D.rk.length
    have l2 := Paired.length hp
    rw [List.length_map] at l1
    rw [← l2, ← l1]
    exact Nat.le_of_lt hl
  refine wpAny_setItem_heap (hsz := hz) (room_in1 hu) hi dd fun h' dd' hb => h b k _ rfl hk ?_
  have hn : (us.map (·.1)).Nodup := by rw [pair_keys hp]; exact D.nd
  rw [stored_u hn] at dd'
  have hk' : ∃ ks', keysOf ks' = some ((xput xs k b v).map (·.1)) := by
    rw [xput_keys]
    split
    · exact ⟨ks, D.keys⟩
    · refine ⟨ks ++ [x], ?_⟩
      have app : ∀ {l : List _root_.G.D} {m : List NestedKey}, keysOf l = some m → keysOf (l ++ [x]) = some (m ++ [k]) := by
        intro l
        induction l with
        | nil => intro m e; cases e; rw [List.nil_append, keysOf, hk]; rfl
        | cons d l ih =>
          intro m e
          rw [keysOf] at e
          cases e1 : keyOf d with
          | none => rw [e1] at e; cases e
          | some a =>
            cases e2 : keysOf l with
            | none => rw [e1, e2] at e; cases e
            | some c =>
              rw [e1, e2] at e
              cases e
              rw [List.cons_append, keysOf, e1, ih e2]
              rfl
      exact app D.keys
  obtain ⟨ks', hk'⟩ := hk'
  obtain ⟨o, es, ep, ho, h2⟩ := id dd'
  exact d_write I (by rw [ea]; exact True.intro) hb ⟨o, ho⟩ (dkO_of hd hk' (pair_put rv hp) dd')
theorem dk_new {Q : Value → Shared → Prop} (I : Inv X pins σ H s) (h : ∀ p s', H p = none → Inv X pins σ (upd H p (dkO p [])) s' → Q (.ref p) s') {env : PySem.Env} {pos : Pos} : wpAny (model X.prog X.w) A (eval (.Dict [] [] pos) env) Q E s := by
  refine wpAny_Dict_empty (h _ _ (I.hok.fresh (Nat.le_refl _)) (I.laid (a := s.heap.objs.size) (o := dkO s.heap.objs.size []) (t' := s.toks) (fun _ _ q => Heap.get?_push_of_some _ q) (Nat.le_refl _) ?_))
  refine dkO_of (ks := []) (us := []) (beq_eq_false_iff_ne.mpr (Ne.symm (Nat.ne_of_lt I.big))) rfl .nil ?_
  exact ⟨_, #[], 0, Heap.get?_push_size _ rfl, ⟨rfl, rfl, rfl⟩, rfl, rfl, fun x hx => (by cases hx), List.nodup_nil⟩
end
end G
namespace G
open PySem L2 PySem.Spec PyProof.Rows
variable [TQ]
/-! ### isinstance -/
inductive TyG (K : PySem.W.Frag) (H : Hp) : V → Value → Prop where
  | x {x : V} {t : Value} (h : TyX K H x t) : TyG K H x t
  | d {a : Addr} {xs : List (NestedKey × Addr × V)} (h : Rd H a (dkO a xs)) : TyG K H (.ref a) (.type "dict")
section
variable {X : Cx} {pins : List (Addr × Obj)} {σ : L2.St} {H : Hp} {s : Shared}
theorem kit_ofG {x : V} {u t : Value} (I : Inv X pins σ H s) (rx : RelV x u) (ty : TyG X.K H x t) : ∃ P : Heap → Prop, PySem.W.KitX X.K u t P ∧ P s.heap ∧ u ≠ .builtin "__main__.__loader__#opaque" := by
  cases ty with
  | x h => exact kit_of I rx h
  | @d a xs h =>
    cases (show u = Value.ref a from rx)
    obtain ⟨⟨hd, o, es, ep, us, hp, h1, h2, _⟩, _⟩ := (show ObjOk X.prog X.w H s.heap a (dkO a xs) from h.ok I.hok)
    exact ⟨_, PySem.W.kitx_dict, ⟨o, h1, h2.1⟩, fun z => nomatch z⟩
end
def rIsiG (K : PySem.W.Frag) : List V → Hp → VK → Prop := fun xs H Q => ∃ (x c : V) (t u : Value) (b : Bool), xs = [x, c] ∧ ClsV c u ∧ TyG K H x t ∧ PySem.W.kitOne K t u = some b ∧ Q (.bl b) H
def rIsiTG (K : PySem.W.Frag) : List V → Hp → VK → Prop := fun xs H Q => ∃ (x : V) (tp : Addr) (cs : List V) (t : Value) (us : List Value) (b : Bool), xs = [x, .ref tp] ∧ H tp = some (.tup cs) ∧ Paired ClsV cs us ∧ TyG K H x t ∧ PySem.W.kitAny K t us = some b ∧ Q (.bl b) H
section
variable {X : Cx}
theorem call_isiG : CallR X (.builtin "isinstance") (rIsiG X.K) := by
  intro pins s σ H xs us Q I r h
  obtain ⟨x, c, t, u, b, rfl, k, ty, e, q⟩ := h
  obtain ⟨u1, u2, rfl, r1, r2⟩ := vals2 r
  have e2 := k.eq r2
  subst e2
  obtain ⟨P, Z, p, hx⟩ := kit_ofG I r1 ty
  exact PySem.W.kia_one Z I.kIn p e hx fun tk => ⟨.bl b, H, I.tok tk, rfl, q⟩
theorem call_isiTG : CallR X (.builtin "isinstance") (rIsiTG X.K) := by
  intro pins s σ H xs us Q I r h
  obtain ⟨x, tp, cs, t, ws, b, rfl, hT, k, ty, e, q⟩ := h
  obtain ⟨u1, u2, rfl, r1, r2⟩ := vals2 r
  cases (show u2 = Value.ref tp from r2)
  obtain ⟨P, Z, p, hx⟩ := kit_ofG I r1 ty
  obtain ⟨_, its, rv, o, h1, h2, n, h3⟩ := (show ObjOk X.prog X.w H s.heap tp (.tup cs) from I.hok tp _ hT)
  have e3 := ClsV.all k rv
  subst e3
  obtain ⟨oc, od, dt, sl⟩ := o
  simp only at h2 h3
  subst h2 h3
  exact PySem.W.kia_tup Z I.kIn p h1 e hx fun tk => ⟨.bl b, H, I.tok tk, rfl, q⟩
/-! ### d[k], k in d, as rules of values -/
def rInK (K : PySem.W.Frag) (g : Bool → Bool) : R2 := fun x y H Q => ∃ a xs G ks vs d, y = .ref a ∧ Same G H ∧ Rd H a (dkO a xs) ∧ DkAt K G ks vs xs ∧ keyT d = true ∧ Rep K G d x ∧ Q (.bl (g (dfind ks vs d).isSome)) H
theorem op_inK (hu : X.A.units + 20 < cLine) : OpR X (compareOp .In) (rInK X.K fun b => b) := by
  intro pins s σ H x y v u Q I rx ry h
  obtain ⟨a, xs, G, ks, vs, d, rfl, hs, ea, D, hd, r, q⟩ := h
  cases ry
  exact dk_in hu I hs ea D hd r rx fun s' I' => ⟨.bl _, H, I', rfl, q⟩
theorem op_ninK (hu : X.A.units + 20 < cLine) : OpR X (compareOp .NotIn) (rInK X.K fun b => !b) := by
  intro pins s σ H x y v u Q I rx ry h
  obtain ⟨a, xs, G, ks, vs, d, rfl, hs, ea, D, hd, r, q⟩ := h
  cases ry
  exact dk_notIn hu I hs ea D hd r rx fun s' I' => ⟨.bl _, H, I', rfl, q⟩
def rIxK (K : PySem.W.Frag) : R2 := fun x y H Q => ∃ a xs G ks vs d e, x = .ref a ∧ Same G H ∧ Rd H a (dkO a xs) ∧ DkAt K G ks vs xs ∧ keyT d = true ∧ Rep K G d y ∧ dfind ks vs d = some e ∧ ∀ z, Rep K G e z → Q z H
theorem ix_dk (hu : X.A.units + 20 < cLine) : IxR X (rIxK X.K) := by
  intro value slice pins s σ H x y v u Q I rx ry h hs
  obtain ⟨a, xs, G, ks, vs, d, e, rfl, sg, ea, D, hd, r, hf, q⟩ := h
  cases rx
  obtain ⟨_, us, hp, dd⟩ := dk_of I sg ea D
  exact tail_any dd.typeIs PySem.F.slot_dict_getitem.lookup (dk_getItem hu I sg ea D hd r ry hf fun z w' s' I' rz rv => ⟨z, H, I', rv, q z rz⟩) hs
/-- d[k] = v -/
def rSetK (K : PySem.W.Frag) : V → V → V → Hp → (Hp → Prop) → Prop := fun o i v H Q => ∃ a xs G ks vs d, o = .ref a ∧ Same G H ∧ H a = some (dkO a xs) ∧ DkAt K G ks vs xs ∧ keyT d = true ∧ Rep K G d i ∧ ks.length < LIM ∧ ∀ b k, i = .ref b → keyOf d = some k → Q (upd H a (dkO a (xput xs k b v)))
theorem set_dk (hu : X.A.units + 20 < cLine) : PSet X (rSetK X.K) := by
  intro pins s σ H o i v ov iv u Q I ro ri rv h
  obtain ⟨a, xs, G, ks, vs, d, rfl, sg, ea, D, hd, r, hl, q⟩ := h
  cases ro
  exact dk_setItem hu I sg ea D hd r ri rv hl fun b k s' e1 e2 I' => ⟨_, I', q b k e1 e2⟩
end
end G
/-! G4: the expressions, further. -/
namespace L2
open PySem PySem.Spec PyProof.Rows
theorem tuple_mulW1 (l : Addr) (items : Array Value) (n : Nat) (dd : Option Addr) (sl : Array (Option Value)) (u : Tok) :
    Meets (Builtin.«tuple.__mul__» ⟨[.ref l, .int 1 u], []⟩) (fun _ R s => s.heap.get? l = some { cls := .type "tuple", dict := dd, data := .seq items n, slots := sl } ∧ R (.ok (.ret (Value.ref l))) s) :=
  .of_wp fun prog w A R s h => by
    obtain ⟨hp, g, d, tk, os⟩ := s
    obtain ⟨hl, h⟩ := h
    have f1 := AutoSeq1.idx_int
    wp_walk using wpAny_loadPart' hl
    exact ⟨_, rfl, h⟩
def rRepT1 (K : PySem.W.Frag) : R2 := fun x y H Q => ∃ l xs, x = .ref l ∧ y = .int 1 ∧ SqT K H l xs ∧ Q (.ref l) H
theorem op_repT1 {X : Cx} : OpR X (binaryOp .Mult) (rRepT1 X.K) := by
  intro pins s σ H x y v u Q I rx ry h
  obtain ⟨l, xs, rfl, rfl, hT, q⟩ := h
  cases rx
  obtain ⟨t, rfl⟩ := ry
  obtain ⟨its, r, ⟨⟨cls, dd, data, sl⟩, ho, hc, n, hd⟩, hs⟩ := I.tuple hT
  simp only at hc hd
  subst hc hd
  refine wpAny_binaryOp_repeat_ref (T := "tuple") (U := "int") (by decide) ⟨_, ho, rfl⟩ (fun s' => typeIs_int s' 1 t) noFill_tuple_mul F.fills_int_mul F.slot_int_rmul repeat_tuple F.slot_int_index.lookup
    (call_meets F.slot_int_rmul (typeIs_int s 1 t) F.entry_int_rmul (F.args_int_rmul_2 _ _) (int_rmul_tuple 1 t l its.toArray n dd sl)
      ⟨ho, rfl, ⟨_, ho, rfl⟩, call_meets F.slot_tuple_mul ⟨_, ho, rfl⟩ F.entry_tuple_mul (F.args_tuple_mul_2 _ _) (tuple_mulW1 l its.toArray n dd sl t) ⟨ho, ?_⟩⟩)
  exact ⟨.ref l, H, I, rfl, q⟩
theorem tuple_mulW0 (l : Addr) (items : Array Value) (n : Nat) (dd : Option Addr) (sl : Array (Option Value)) (u : Tok) (he : items.isEmpty = false) :
    Meets (Builtin.«tuple.__mul__» ⟨[.ref l, .int 0 u], []⟩) (fun _ R s => s.heap.get? l = some { cls := .type "tuple", dict := dd, data := .seq items n, slots := sl } ∧
      R (.ok (.ret (Value.ref s.heap.objs.size))) { s with heap := s.heap.push { cls := Value.type "tuple", data := Data.seq #[] }, toks := s.toks }) :=
  .of_wp fun prog w A R s h => by
    obtain ⟨hp, g, d, tk, os⟩ := s
    obtain ⟨hl, h⟩ := h
    have f1 := AutoSeq1.idx_int
    have c1 : (items.isEmpty || (0 : Int) == 1) = false := by rw [he]; rfl
    have c2 : (decide ((0 : Int) ≤ 0) || items.isEmpty) = true := by rw [he]; rfl
    wp_walk using wpAny_loadPart' hl
    repeat (first
      | (refine wpAny_ite_false (decide_eq_false (by rw [c1]; exact Bool.false_ne_true)) ?_; wp_walk using wpAny_loadPart' hl)
      | (refine wpAny_ite_true (decide_eq_true c2) ?_; wp_walk using wpAny_loadPart' hl))
    exact ⟨_, rfl, h⟩
def rRepT0 (K : PySem.W.Frag) : R2 := fun x y H Q => ∃ l xs, x = .ref l ∧ y = .int 0 ∧ SqT K H l xs ∧ xs ≠ [] ∧ ∀ p, H p = none → Q (.ref p) (upd H p (.tup []))
theorem op_repT0 {X : Cx} : OpR X (binaryOp .Mult) (rRepT0 X.K) := by
  intro pins s σ H x y v u Q I rx ry h
  obtain ⟨l, xs, rfl, rfl, hT, hne, q⟩ := h
  cases rx
  obtain ⟨t, rfl⟩ := ry
  obtain ⟨its, r, ⟨⟨cls, dd, data, sl⟩, ho, hc, n, hd⟩, hs⟩ := I.tuple hT
  simp only at hc hd
  subst hc hd
  have he : its.toArray.isEmpty = false := by
    have := r.length
    cases its with
    | nil => cases xs with
      | nil => exact absurd rfl hne
      | cons _ _ => simp at this
    | cons _ _ => rfl
  refine wpAny_binaryOp_repeat_ref (T := "tuple") (U := "int") (by decide) ⟨_, ho, rfl⟩ (fun s' => typeIs_int s' 0 t) noFill_tuple_mul F.fills_int_mul F.slot_int_rmul repeat_tuple F.slot_int_index.lookup
    (call_meets F.slot_int_rmul (typeIs_int s 0 t) F.entry_int_rmul (F.args_int_rmul_2 _ _) (int_rmul_tuple 0 t l its.toArray n dd sl)
      ⟨ho, rfl, ⟨_, ho, rfl⟩, call_meets F.slot_tuple_mul ⟨_, ho, rfl⟩ F.entry_tuple_mul (F.args_tuple_mul_2 _ _) (tuple_mulW0 l its.toArray n dd sl t he) ⟨ho, ?_⟩⟩)
  exact ⟨.ref _, _, I.laid (t' := s.toks) (o := .tup []) (fun b ob q => Heap.get?_push_of_some _ q) (Nat.le_refl _) ⟨Nat.zero_le _, [], .nil, IsTup.new _ _⟩, rfl, q _ (I.hok.fresh (Nat.le_refl _))⟩
end L2
namespace G
open PySem L2
variable [TQ]
section
variable {X : Cx} {P : Pl} {pos : Pos}
theorem ge_mul {a b : Expr} {x y : Ex} (ok : Ok P X) (ha : PE X a (tE P x)) (hb : PE X b (tE P y)) : PE X (.BinOp a .Mult b pos) (tE P (.op .mul x y)) := by
  have op : OpR X (binaryOp .Mult) (fun x y H Q => rMulG X.K x y H Q ∨ rRepT1 X.K x y H Q ∨ rRepT0 X.K x y H Q) := OpR.or (OpR.or op_mul op_repT) (OpR.or op_repT1 op_repT0)
  rw [← ok.K] at op
  refine ge_op op ?_ ha hb
  intro lc G H c Q x y v u hs rx ry k q
  obtain ⟨d, e, q'⟩ := q.opt
  cases x <;> cases y <;> first | (simp [arith] at e; done) | skip
  · exact .inl (sv_mul hs rx ry k q)
  · rename_i a j
    obtain ⟨⟨g1, g2, g3, g4⟩, e2⟩ := ite_some e
    by_cases hj : 2 ≤ j
    · refine .inl (sv_mul hs rx ry k (x := .tup a) (y := .int j) ?_)
      simp only [hj, if_true]
      exact q
    · by_cases hj0 : j = 0
      · subst hj0
        obtain ⟨p, xs, rfl, h1, h2, h3⟩ := rx
        cases ry
        refine .inr (.inr ⟨p, xs, rfl, rfl, same_t hs h1, fun e => g3 (List.eq_nil_of_length_eq_zero (by rw [h2.length, e]; rfl)), fun p2 hp => ?_⟩)
        have e3 : d = .tup [] := by rw [← e2]; simp
        subst e3
        exact q'.newT hs (vs := []) rfl (Nat.zero_le _) k hp
      have hj1 : j = 1 := by omega
      subst hj1
      obtain ⟨p, xs, rfl, h1, h2, h3⟩ := rx
      cases ry
      refine .inr (.inl ⟨p, xs, rfl, rfl, same_t hs h1, ?_⟩)
      refine q'.out hs ?_ k
      rw [← e2]
      have : (List.replicate (Int.toNat 1) a).flatten = a := by simp
      rw [this]
      exact ⟨p, xs, rfl, h1, h2, h3⟩
/-! ### comparisons -/
mutual
def toPy : D → PyData
  | .non => .none
  | .bl b => .bool b
  | .int i => .int i
  | .str s => .str ⟨s.toArray⟩
  | .tup l => .tuple (toPys l)
  | .lst l => .list (toPys l)
  | .dct _ _ => .none
def toPys : List D → List PyData
  | [] => []
  | d :: ds => toPy d :: toPys ds
end
mutual
theorem toPy_lay : ∀ {n : Nat} {d : D} {K : PySem.W.Frag} {H : Hp} {v : V}, shp n d = true → Rep K H d v → (toPy d).canLay0 = true ∧ (toPy d).depth ≤ n
  | n, .non, _, _, _, _, _ => ⟨by simp [toPy, PyData.canLay0], by simp [toPy, PyData.depth]⟩
  | n, .bl _, _, _, _, _, _ => ⟨by simp [toPy, PyData.canLay0], by simp [toPy, PyData.depth]⟩
  | n, .int _, _, _, _, _, _ => ⟨by simp [toPy, PyData.canLay0], by simp [toPy, PyData.depth]⟩
  | n, .str s, _, _, _, _, r => ⟨by simp only [toPy, PyData.canLay0]; exact r.2, by simp [toPy, PyData.depth]⟩
  | 0, .tup _, _, _, _, h, _ => by simp [shp] at h
  | n + 1, .tup l, K, H, _, h, r => by
    obtain ⟨a, vs, _, _, r2, _⟩ := r
    have := toPys_lay (n := n) (l := l) (by simpa [shp] using h) r2
    exact ⟨by simpa [toPy, PyData.canLay0] using this.1, by simp only [toPy, PyData.depth]; omega⟩
  | 0, .lst _, _, _, _, h, _ => by simp [shp] at h
  | n + 1, .lst l, K, H, _, h, r => by
    obtain ⟨a, vs, _, _, r2, _⟩ := r
    have := toPys_lay (n := n) (l := l) (by simpa [shp] using h) r2
    exact ⟨by simpa [toPy, PyData.canLay0] using this.1, by simp only [toPy, PyData.depth]; omega⟩
  | n, .dct _ _, _, _, _, h, _ => by cases n <;> simp [shp] at h
theorem toPys_lay : ∀ {n : Nat} {l : List D} {K : PySem.W.Frag} {H : Hp} {vs : List V}, (∀ d ∈ l, shp n d = true) → Reps K H l vs → PyData.canLayAll0 (toPys l) = true ∧ PyData.depthAll (toPys l) ≤ n
  | n, [], _, _, _, _, _ => ⟨by simp [toPys, PyData.canLayAll0], by simp [toPys, PyData.depthAll]⟩
  | n, d :: ds, K, H, _, h, r => by
    obtain ⟨x, xs, _, r1, r2⟩ := r
    have h1 := toPy_lay (n := n) (d := d) (h d List.mem_cons_self) r1
    have h2 := toPys_lay (n := n) (l := ds) (fun e he => h e (List.mem_cons_of_mem _ he)) r2
    refine ⟨by simp [toPys, PyData.canLayAll0, h1.1, h2.1], ?_⟩
    simp only [toPys, PyData.depthAll]
    omega
end
mutual
theorem toPy_dp : ∀ {n : Nat} {d : D} {K : PySem.W.Frag} {H : Hp} {v : V}, shp n d = true → Rep K H d v → Dp K H v (toPy d)
  | n, .non, _, _, _, _, r => by cases r; exact .non
  | n, .bl _, _, _, _, _, r => by cases r; exact .bl _
  | n, .int _, _, _, _, _, r => by cases r; exact .int _
  | n, .str s, _, _, _, _, r => by obtain ⟨rfl, _⟩ := r; exact .str _
  | 0, .tup _, _, _, _, h, _ => by simp [shp] at h
  | n + 1, .tup l, K, H, _, h, r => by
    obtain ⟨a, vs, rfl, h1, r2, _⟩ := r
    exact .tup h1 (toPys_dp (n := n) (l := l) (by simpa [shp] using h) r2)
  | 0, .lst _, _, _, _, h, _ => by simp [shp] at h
  | n + 1, .lst l, K, H, _, h, r => by
    obtain ⟨a, vs, rfl, h1, r2, _⟩ := r
    exact .lst h1 (toPys_dp (n := n) (l := l) (by simpa [shp] using h) r2)
  | n, .dct _ _, _, _, _, h, _ => by cases n <;> simp [shp] at h
theorem toPys_dp : ∀ {n : Nat} {l : List D} {K : PySem.W.Frag} {H : Hp} {vs : List V}, (∀ d ∈ l, shp n d = true) → Reps K H l vs → DpAll K H vs (toPys l)
  | n, [], _, _, _, _, r => by cases r; exact .nil
  | n, d :: ds, K, H, _, h, r => by
    obtain ⟨x, xs, rfl, r1, r2⟩ := r
    exact .cons (toPy_dp (n := n) (d := d) (h d List.mem_cons_self) r1) (toPys_dp (n := n) (l := ds) (fun e he => h e (List.mem_cons_of_mem _ he)) r2)
end
mutual
theorem toPy_eqv : ∀ (a b : D) {n m : Nat}, shp n a = true → shp m b = true → PyData.eqv (toPy a) (toPy b) = eqv a b
  | .non, b, _, _, ha, hb => by cases b <;> simp [toPy, PyData.eqv, eqv] <;> (rename_i m; cases m <;> simp [shp] at hb)
  | .bl _, b, _, _, ha, hb => by cases b <;> simp [toPy, PyData.eqv, eqv] <;> (rename_i m; cases m <;> simp [shp] at hb)
  | .int _, b, _, _, ha, hb => by cases b <;> simp [toPy, PyData.eqv, eqv] <;> (rename_i m; cases m <;> simp [shp] at hb)
  | .str x, b, _, _, ha, hb => by
    cases b with
    | str y =>
      simp only [toPy, PyData.eqv, eqv]
      rw [Bool.eq_iff_iff]
      simp
    | _ => simp [toPy, PyData.eqv, eqv] <;> (rename_i m; cases m <;> simp [shp] at hb)
  | .tup x, b, n, m, ha, hb => by
    cases b with
    | tup y =>
      cases n with
      | zero => simp [shp] at ha
      | succ n =>
        cases m with
        | zero => simp [shp] at hb
        | succ m => simp only [toPy, PyData.eqv, eqv]; exact toPys_eqv x y (by simpa [shp] using ha) (by simpa [shp] using hb)
    | _ => simp [toPy, PyData.eqv, eqv] <;> (cases m <;> simp [shp] at hb)
  | .lst x, b, n, m, ha, hb => by
    cases b with
    | lst y =>
      cases n with
      | zero => simp [shp] at ha
      | succ n =>
        cases m with
        | zero => simp [shp] at hb
        | succ m => simp only [toPy, PyData.eqv, eqv]; exact toPys_eqv x y (by simpa [shp] using ha) (by simpa [shp] using hb)
    | _ => simp [toPy, PyData.eqv, eqv] <;> (cases m <;> simp [shp] at hb)
  | .dct _ _, b, n, _, ha, hb => by cases n <;> simp [shp] at ha
theorem toPys_eqv : ∀ (a b : List D) {n m : Nat}, (∀ d ∈ a, shp n d = true) → (∀ d ∈ b, shp m d = true) → PyData.eqvAll (toPys a) (toPys b) = eqvs a b
  | [], b, _, _, ha, hb => by cases b <;> simp [toPys, PyData.eqvAll, eqvs]
  | d :: ds, b, n, m, ha, hb => by
    cases b with
    | nil => simp [toPys, PyData.eqvAll, eqvs]
    | cons e es =>
      simp only [toPys, PyData.eqvAll, eqvs]
      rw [toPy_eqv d e (ha d List.mem_cons_self) (hb e List.mem_cons_self), toPys_eqv ds es (fun x hx => ha x (List.mem_cons_of_mem _ hx)) (fun x hx => hb x (List.mem_cons_of_mem _ hx))]
end
theorem shaped_of {d : D} {n : Nat} {K : PySem.W.Frag} {H : Hp} {v : V} (h : shp n d = true) (r : Rep K H d v) (hn : n ≤ 64) : SeqAt.shaped (toPy d) = true := by
  obtain ⟨h1, h2⟩ := toPy_lay h r
  unfold SeqAt.shaped
  rw [h1, Bool.true_and]
  exact decide_eq_true (by omega)
theorem toPys_map : ∀ l : List D, toPys l = l.map toPy
  | [] => rfl
  | d :: ds => by rw [toPys, toPys_map ds, List.map_cons]
/-- how a rule of values serves a comparison of data -/
def ServesC (P : Pl) (o : Cmp) (r : R2) : Prop := ∀ {G H : Hp} {Q : VK} {x y : D} {v u : V} {k : Bool}, Same G H → Rep P.K G x v → Rep P.K G y u → cmp o x y = some k → Q (.bl k) H → r v u H Q
theorem Rep.up {K : PySem.W.Frag} {G H : Hp} {d : D} {v : V} (r : Rep K G d v) (s : Same G H) : Rep K H d v := r.mono s
theorem sc_eq : ServesC P .eq (rEqD P.K) := by
  intro G H Q x y v u k hs rx ry e q
  obtain ⟨h, rfl⟩ := ite_some (show (if (shp DEEP x && shp DEEP y) = true then some (eqv x y) else none) = some k from e)
  rw [Bool.and_eq_true] at h
  refine ⟨_, _, toPy_dp h.1 (rx.up hs), toPy_dp h.2 (ry.up hs), shaped_of h.1 rx (by decide), shaped_of h.2 ry (by decide), ?_⟩
  rw [toPy_eqv x y h.1 h.2]
  exact q
theorem sc_ne : ServesC P .ne (rNeD P.K) := by
  intro G H Q x y v u k hs rx ry e q
  obtain ⟨h, rfl⟩ := ite_some (show (if (shp DEEP x && shp DEEP y) = true then some (!eqv x y) else none) = some k from e)
  rw [Bool.and_eq_true] at h
  refine ⟨_, _, toPy_dp h.1 (rx.up hs), toPy_dp h.2 (ry.up hs), shaped_of h.1 rx (by decide), shaped_of h.2 ry (by decide), ?_⟩
  rw [toPy_eqv x y h.1 h.2]
  exact q
/-- tuples of whole numbers, in their order -/
def rOrd (K : PySem.W.Frag) (f : PyData → PyData → Bool) : R2 := fun x y H Q => ∃ d e, Dp K H x d ∧ Dp K H y e ∧ PySem.W.alike d e = true ∧ d ≠ .none ∧ SeqAt.shaped d = true ∧ Q (.bl (f d e)) H
theorem room_ord {A : Around} {d e : PyData} (h : SeqAt.shaped d = true) (hu : A.units + 65 < cLine) : A.units + min d.depth e.depth < cLine := by
  have h1 := SeqAt.depth_of_shaped h
  have h2 : min d.depth e.depth ≤ d.depth := Nat.min_le_left _ _
  omega
theorem op_ltO (hu : X.A.units + 65 < cLine) : OpR X (compareOp .Lt) (rOrd X.K PySem.W.dataLt) := by
  intro pins s σ H x y v u Q I rx ry h
  obtain ⟨d, e, hd, he, ha, hn, hs, q⟩ := h
  obtain ⟨as, r1⟩ := Dp.reads I d x v hd rx
  obtain ⟨bs, r2⟩ := Dp.reads I e y u he ry
  exact PySem.W.lt_data r1 r2 ha hn (room_ord hs hu) ⟨.bl _, H, I, rfl, q⟩
theorem op_gtO (hu : X.A.units + 65 < cLine) : OpR X (compareOp .Gt) (rOrd X.K fun d e => PySem.W.dataLt e d) := by
  intro pins s σ H x y v u Q I rx ry h
  obtain ⟨d, e, hd, he, ha, hn, hs, q⟩ := h
  obtain ⟨as, r1⟩ := Dp.reads I d x v hd rx
  obtain ⟨bs, r2⟩ := Dp.reads I e y u he ry
  exact PySem.W.gt_data r1 r2 ha hn (room_ord hs hu) ⟨.bl _, H, I, rfl, q⟩
theorem op_leO (hu : X.A.units + 65 < cLine) : OpR X (compareOp .LtE) (rOrd X.K fun d e => !PySem.W.dataLt e d) := by
  intro pins s σ H x y v u Q I rx ry h
  obtain ⟨d, e, hd, he, ha, hn, hs, q⟩ := h
  obtain ⟨as, r1⟩ := Dp.reads I d x v hd rx
  obtain ⟨bs, r2⟩ := Dp.reads I e y u he ry
  exact PySem.W.le_data r1 r2 ha hn (room_ord hs hu) ⟨.bl _, H, I, rfl, q⟩
theorem op_geO (hu : X.A.units + 65 < cLine) : OpR X (compareOp .GtE) (rOrd X.K fun d e => !PySem.W.dataLt d e) := by
  intro pins s σ H x y v u Q I rx ry h
  obtain ⟨d, e, hd, he, ha, hn, hs, q⟩ := h
  obtain ⟨as, r1⟩ := Dp.reads I d x v hd rx
  obtain ⟨bs, r2⟩ := Dp.reads I e y u he ry
  exact PySem.W.ge_data r1 r2 ha hn (room_ord hs hu) ⟨.bl _, H, I, rfl, q⟩
theorem ints_alike : ∀ {a b : List D}, a.all isPlainN = true → b.all isPlainN = true → PySem.W.alikeAll (toPys a) (toPys b) = true
  | [], _, _, _ => by simp [toPys, PySem.W.alikeAll]
  | _ :: _, [], _, _ => by simp [toPys, PySem.W.alikeAll]
  | x :: a, y :: b, ha, hb => by
    rw [List.all_cons, Bool.and_eq_true] at ha hb
    obtain ⟨h1, h2⟩ := ha
    obtain ⟨h3, h4⟩ := hb
    cases x <;> first | cases h1 | skip
    cases y <;> first | cases h3 | skip
    rw [toPys, toPys, PySem.W.alikeAll, ints_alike h2 h4]
    rfl
theorem ints_lt : ∀ {a b : List D}, a.all isPlainN = true → b.all isPlainN = true → PySem.W.dataLt (.tuple (toPys a)) (.tuple (toPys b)) = ltDs a b
  | [], [], _, _ => by rw [PySem.W.dataLt_tuple]; rfl
  | [], y :: b, _, hb => by
    rw [PySem.W.dataLt_tuple, ← PySem.W.firstLt_toks _ _ (ints_alike (a := []) (b := y :: b) rfl hb)]
    rfl
  | x :: a, [], ha, _ => by
    rw [PySem.W.dataLt_tuple, ← PySem.W.firstLt_toks _ _ (ints_alike (a := x :: a) (b := []) ha rfl)]
    rfl
  | x :: a, y :: b, ha, hb => by
    rw [List.all_cons, Bool.and_eq_true] at ha hb
    obtain ⟨h1, h2⟩ := ha
    obtain ⟨h3, h4⟩ := hb
    have ih := ints_lt h2 h4
    rw [PySem.W.dataLt_tuple] at ih ⊢
    cases x <;> first | cases h1 | skip
    cases y <;> first | cases h3 | skip
    rename_i n m
    rw [toPys, toPys, PySem.W.toks_all_cons, PySem.W.toks_all_cons, PyProof.Rows.lex_self (O := PyProof.Rows.itemOrd)]
    show PyProof.Rows.lexLt PyProof.Rows.itemOrd (Sum.inl n :: PySem.W.keyToksAll (toPys a)) (Sum.inl m :: PySem.W.keyToksAll (toPys b)) = _
    rw [ltDs]
    show _ = if (n == m) = true then ltDs a b else ltD (.int n) (.int m)
    by_cases h : n = m
    · subst h
      rw [PyProof.Rows.lex_self (O := PyProof.Rows.itemOrd), ih, if_pos (by simp)]
    · rw [PyProof.Rows.lex_diff (O := PyProof.Rows.itemOrd) (by simpa using h), if_neg (by simpa using h)]
      rfl
theorem ints_shp {a : List D} {n : Nat} (h : a.all isPlainN = true) : shp (n + 1) (.tup a) = true := by
  show a.all (shp n) = true
  refine List.all_eq_true.mpr fun x hx => ?_
  have := List.all_eq_true.mp h x hx
  cases x <;> first | cases this | skip
  cases n <;> rfl
theorem sc_ordT {o : Cmp} {f : PyData → PyData → Bool} {g : List D → List D → Bool} (hc : ∀ a b, cmp o (.tup a) (.tup b) = if a.all isPlainN && b.all isPlainN then some (g a b) else none) (hf : ∀ a b, a.all isPlainN = true → b.all isPlainN = true → f (.tuple (toPys a)) (.tuple (toPys b)) = g a b)
    {G H : Hp} {Q : VK} {a b : List D} {v u : V} {k : Bool} (hs : Same G H) (rx : Rep P.K G (.tup a) v) (ry : Rep P.K G (.tup b) u) (e : cmp o (.tup a) (.tup b) = some k) (q : Q (.bl k) H) : rOrd P.K f v u H Q := by
  rw [hc] at e
  obtain ⟨h, rfl⟩ := ite_some e
  rw [Bool.and_eq_true] at h
  have s1 := ints_shp (n := 5) h.1
  have s2 := ints_shp (n := 5) h.2
  refine ⟨_, _, toPy_dp s1 (rx.up hs), toPy_dp s2 (ry.up hs), ?_, (by intro z; cases z), shaped_of s1 rx (by decide), ?_⟩
  · show PySem.W.alikeAll (toPys a) (toPys b) = true
    exact ints_alike h.1 h.2
  · rw [show f (toPy (.tup a)) (toPy (.tup b)) = g a b from hf a b h.1 h.2]
    exact q
theorem sc_lt : ServesC P .lt (fun x y H Q => rI0 (fun i j => .bl (decide (i < j))) x y H Q ∨ rOrd P.K PySem.W.dataLt x y H Q) := by
  intro G H Q x y v u k hs rx ry e q
  cases x <;> cases y <;> first | (simp [cmp] at e; done) | skip
  · cases rx; cases ry; cases e
    exact .inl ⟨_, _, rfl, rfl, q⟩
  · exact .inr (sc_ordT (o := .lt) (g := ltDs) (fun _ _ => rfl) (fun _ _ h1 h2 => ints_lt h1 h2) hs rx ry e q)
theorem sc_le : ServesC P .le (fun x y H Q => rI0 (fun i j => .bl (decide (i ≤ j))) x y H Q ∨ rOrd P.K (fun d e => !PySem.W.dataLt e d) x y H Q) := by
  intro G H Q x y v u k hs rx ry e q
  cases x <;> cases y <;> first | (simp [cmp] at e; done) | skip
  · cases rx; cases ry; cases e
    exact .inl ⟨_, _, rfl, rfl, q⟩
  · exact .inr (sc_ordT (o := .le) (g := fun a b => !ltDs b a) (fun _ _ => rfl) (fun _ _ h1 h2 => by rw [ints_lt h2 h1]) hs rx ry e q)
theorem sc_gt : ServesC P .gt (fun x y H Q => rI0 (fun i j => .bl (decide (j < i))) x y H Q ∨ rOrd P.K (fun d e => PySem.W.dataLt e d) x y H Q) := by
  intro G H Q x y v u k hs rx ry e q
  cases x <;> cases y <;> first | (simp [cmp] at e; done) | skip
  · cases rx; cases ry; cases e
    exact .inl ⟨_, _, rfl, rfl, q⟩
  · exact .inr (sc_ordT (o := .gt) (g := fun a b => ltDs b a) (fun _ _ => rfl) (fun _ _ h1 h2 => by rw [ints_lt h2 h1]) hs rx ry e q)
theorem sc_ge : ServesC P .ge (fun x y H Q => rI0 (fun i j => .bl (decide (j ≤ i))) x y H Q ∨ rOrd P.K (fun d e => !PySem.W.dataLt d e) x y H Q) := by
  intro G H Q x y v u k hs rx ry e q
  cases x <;> cases y <;> first | (simp [cmp] at e; done) | skip
  · cases rx; cases ry; cases e
    exact .inl ⟨_, _, rfl, rfl, q⟩
  · exact .inr (sc_ordT (o := .ge) (g := fun a b => !ltDs a b) (fun _ _ => rfl) (fun _ _ h1 h2 => by rw [ints_lt h1 h2]) hs rx ry e q)
theorem op_ltG (ok : Ok P X) : OpR X (compareOp .Lt) (fun x y H Q => rI0 (fun i j => .bl (decide (i < j))) x y H Q ∨ rOrd P.K PySem.W.dataLt x y H Q) := by
  rw [ok.K]
  exact OpR.or op_lt (op_ltO (by have := ok.hu; omega))
theorem op_leG (ok : Ok P X) : OpR X (compareOp .LtE) (fun x y H Q => rI0 (fun i j => .bl (decide (i ≤ j))) x y H Q ∨ rOrd P.K (fun d e => !PySem.W.dataLt e d) x y H Q) := by
  rw [ok.K]
  exact OpR.or op_le (op_leO (by have := ok.hu; omega))
theorem op_gtG (ok : Ok P X) : OpR X (compareOp .Gt) (fun x y H Q => rI0 (fun i j => .bl (decide (j < i))) x y H Q ∨ rOrd P.K (fun d e => PySem.W.dataLt e d) x y H Q) := by
  rw [ok.K]
  exact OpR.or op_gt (op_gtO (by have := ok.hu; omega))
theorem op_geG (ok : Ok P X) : OpR X (compareOp .GtE) (fun x y H Q => rI0 (fun i j => .bl (decide (j ≤ i))) x y H Q ∨ rOrd P.K (fun d e => !PySem.W.dataLt d e) x y H Q) := by
  rw [ok.K]
  exact OpR.or op_ge (op_geO (by have := ok.hu; omega))
def rIsG : R2 := fun x y H Q => (y = .non ∧ Q (.bl (decide (x = .non))) H) ∨ (∃ a b, x = .bl a ∧ y = .bl b ∧ Q (.bl (decide (a = b))) H)
theorem op_isG : OpR X (compareOp .Is) rIsG := OpR.or op_isN op_is_bl
theorem rep_non {K : PySem.W.Frag} {H : Hp} {d : D} {v : V} (r : Rep K H d v) : decide (v = .non) = isNon d := by
  cases d with
  | non => cases r; rfl
  | bl b => cases r; rfl
  | int b => cases r; rfl
  | str b => obtain ⟨rfl, _⟩ := r; rfl
  | tup b => obtain ⟨a, vs, rfl, _⟩ := r; rfl
  | lst b => obtain ⟨a, vs, rfl, _⟩ := r; rfl
  | dct b c => obtain ⟨a, xs, rfl, _⟩ := r; rfl
theorem sc_is : ServesC P .is rIsG := by
  intro G H Q x y v u k hs rx ry e q
  by_cases hy : y = .non
  · subst hy
    have e : isNon x = k := by cases x <;> simpa [cmp] using e
    cases ry
    exact .inl ⟨rfl, by rw [rep_non rx, e]; exact q⟩
  · cases x <;> cases y <;> first | (simp [cmp] at e; done) | (exact absurd rfl hy) | skip
    cases rx; cases ry; cases e
    refine .inr ⟨_, _, rfl, rfl, ?_⟩
    rw [← Bool.beq_eq_decide_eq]
    exact q
theorem sc_isn : ServesC P .isn (fun x y H Q => y = .non ∧ Q (.bl (!decide (x = .non))) H) := by
  intro G H Q x y v u k hs rx ry e q
  cases y <;> first | (cases x <;> simp [cmp] at e; done) | skip
  have e : (!isNon x) = k := by cases x <;> simpa [cmp] using e
  cases ry
  refine ⟨rfl, ?_⟩
  rw [rep_non rx, e]
  exact q
theorem rep_l {K : PySem.W.Frag} {H : Hp} {l : List D} {v : V} {n : Nat} (h : l.all (shp n) = true) (r : Rep K H (.lst l) v) (hn : n ≤ 60) : Dp K H v (.list (toPys l)) ∧ SeqAt.shaped (.list (toPys l)) = true := by
  have h1 : shp (n + 1) (.lst l) = true := h
  exact ⟨toPy_dp h1 r, shaped_of h1 r (by omega)⟩
theorem mem_py {l : List D} {x : D} {n m : Nat} (h : shp n x = true) (hl : l.all (shp m) = true) : ((toPys l).any fun z => PyData.eqv z (toPy x)) = memD x l := by
  rw [toPys_map, List.any_map]
  unfold memD
  rw [Bool.eq_iff_iff, List.any_eq_true, List.any_eq_true]
  constructor
  · rintro ⟨y, hy, e⟩
    exact ⟨y, hy, by rw [← toPy_eqv y x (List.all_eq_true.mp hl y hy) h]; exact e⟩
  · rintro ⟨y, hy, e⟩
    exact ⟨y, hy, by show PyData.eqv (toPy y) (toPy x) = true; rw [toPy_eqv y x (List.all_eq_true.mp hl y hy) h]; exact e⟩
theorem rep_dk {K : PySem.W.Frag} {G : Hp} {ks vs : List D} {v : V} (r : Rep K G (.dct ks vs) v) : ∃ a xs, v = .ref a ∧ Rd G a (dkO a xs) ∧ DkAt K G ks vs xs := by
  obtain ⟨a, xs, e, h1, h2, h3, h4, h5, h6, h7⟩ := r
  exact ⟨a, xs, e, h1, h2, h3, h4, h5, h6, h7⟩
theorem rep_t {K : PySem.W.Frag} {H : Hp} {l : List D} {v : V} {n : Nat} (h : l.all (shp n) = true) (r : Rep K H (.tup l) v) (hn : n ≤ 60) : Dp K H v (.tuple (toPys l)) ∧ SeqAt.shaped (.tuple (toPys l)) = true := by
  have h1 : shp (n + 1) (.tup l) = true := h
  exact ⟨toPy_dp h1 r, shaped_of h1 r (by omega)⟩
def rInT (K : PySem.W.Frag) (f : Bool → Bool) : R2 := fun x y H Q => ∃ d ds, Dp K H x d ∧ Dp K H y (.tuple ds) ∧ SeqAt.shaped d = true ∧ SeqAt.shaped (.tuple ds) = true ∧ Q (.bl (f (ds.any fun z => PyData.eqv z d))) H
theorem op_inT (hu : X.A.units + 65 < cLine) : OpR X (compareOp .In) (rInT X.K fun b => b) := by
  intro pins s σ H x y v u Q I rx ry h
  obtain ⟨d, ds, hd, he, sd, se, q⟩ := h
  obtain ⟨as, r1⟩ := Dp.reads I d x v hd rx
  obtain ⟨bs, r2⟩ := Dp.reads I (.tuple ds) y u he ry
  exact SeqAt.in_tuple_reads r2 r1 (SeqAt.canLay_of_shaped se) (SeqAt.canLay_of_shaped sd) (PyProof.Rows.room_in_shaped sd hu) ⟨.bl _, H, I, rfl, q⟩
theorem op_notInT (hu : X.A.units + 65 < cLine) : OpR X (compareOp .NotIn) (rInT X.K fun b => !b) := by
  intro pins s σ H x y v u Q I rx ry h
  obtain ⟨d, ds, hd, he, sd, se, q⟩ := h
  obtain ⟨as, r1⟩ := Dp.reads I d x v hd rx
  obtain ⟨bs, r2⟩ := Dp.reads I (.tuple ds) y u he ry
  exact SeqAt.notIn_tuple_reads r2 r1 (SeqAt.canLay_of_shaped se) (SeqAt.canLay_of_shaped sd) (PyProof.Rows.room_in_shaped sd hu) ⟨.bl _, H, I, rfl, q⟩
theorem sc_in : ServesC P .inn (fun x y H Q => rInD P.K x y H Q ∨ rInT P.K (fun b => b) x y H Q ∨ rInK P.K (fun b => b) x y H Q) := by
  intro G H Q x y v u k hs rx ry e q
  cases y with
  | lst l =>
    obtain ⟨h, rfl⟩ := ite_some (show (if (shp DEEP x && l.all (shp DEEP)) = true then some (memD x l) else none) = some k from by cases x <;> exact e)
    rw [Bool.and_eq_true] at h
    obtain ⟨d1, d2⟩ := rep_l h.2 (ry.up hs) (Nat.le_refl _)
    refine .inl ⟨_, _, toPy_dp h.1 (rx.up hs), d1, shaped_of h.1 rx (by decide), d2, ?_⟩
    rw [mem_py h.1 h.2]
    exact q
  | tup l =>
    obtain ⟨h, rfl⟩ := ite_some (show (if (shp DEEP x && l.all (shp DEEP)) = true then some (memD x l) else none) = some k from by cases x <;> exact e)
    rw [Bool.and_eq_true] at h
    obtain ⟨d1, d2⟩ := rep_t h.2 (ry.up hs) (Nat.le_refl _)
    refine .inr (.inl ⟨_, _, toPy_dp h.1 (rx.up hs), d1, shaped_of h.1 rx (by decide), d2, ?_⟩)
    rw [mem_py h.1 h.2]
    exact q
  | dct ks vs =>
    obtain ⟨h, rfl⟩ := ite_some (show (if keyT x = true then some (dfind ks vs x).isSome else none) = some k from by cases x <;> exact e)
    obtain ⟨a, xs, rfl, h1, h2⟩ := rep_dk ry
    exact .inr (.inr ⟨a, xs, G, ks, vs, x, rfl, hs, same_rd hs h1, h2, h, rx, q⟩)
  | _ => cases x <;> simp [cmp] at e
theorem sc_nin : ServesC P .nin (fun x y H Q => rNotInD P.K x y H Q ∨ rInT P.K (fun b => !b) x y H Q ∨ rInK P.K (fun b => !b) x y H Q) := by
  intro G H Q x y v u k hs rx ry e q
  cases y with
  | lst l =>
    obtain ⟨h, rfl⟩ := ite_some (show (if (shp DEEP x && l.all (shp DEEP)) = true then some (!memD x l) else none) = some k from by cases x <;> exact e)
    rw [Bool.and_eq_true] at h
    obtain ⟨d1, d2⟩ := rep_l h.2 (ry.up hs) (Nat.le_refl _)
    refine .inl ⟨_, _, toPy_dp h.1 (rx.up hs), d1, shaped_of h.1 rx (by decide), d2, ?_⟩
    rw [mem_py h.1 h.2]
    exact q
  | tup l =>
    obtain ⟨h, rfl⟩ := ite_some (show (if (shp DEEP x && l.all (shp DEEP)) = true then some (!memD x l) else none) = some k from by cases x <;> exact e)
    rw [Bool.and_eq_true] at h
    obtain ⟨d1, d2⟩ := rep_t h.2 (ry.up hs) (Nat.le_refl _)
    refine .inr (.inl ⟨_, _, toPy_dp h.1 (rx.up hs), d1, shaped_of h.1 rx (by decide), d2, ?_⟩)
    rw [mem_py h.1 h.2]
    exact q
  | dct ks vs =>
    obtain ⟨h, rfl⟩ := ite_some (show (if keyT x = true then some (!(dfind ks vs x).isSome) else none) = some k from by cases x <;> exact e)
    obtain ⟨a, xs, rfl, h1, h2⟩ := rep_dk ry
    exact .inr (.inr ⟨a, xs, G, ks, vs, x, rfl, hs, same_rd hs h1, h2, h, rx, q⟩)
  | _ => cases x <;> simp [cmp] at e
theorem op_inG (ok : Ok P X) : OpR X (compareOp .In) (fun x y H Q => rInD P.K x y H Q ∨ rInT P.K (fun b => b) x y H Q ∨ rInK P.K (fun b => b) x y H Q) := by
  rw [ok.K]
  exact OpR.or (op_inD (by have := ok.hu; omega)) (OpR.or (op_inT (by have := ok.hu; omega)) (op_inK (by have := ok.hu; omega)))
theorem op_ninG (ok : Ok P X) : OpR X (compareOp .NotIn) (fun x y H Q => rNotInD P.K x y H Q ∨ rInT P.K (fun b => !b) x y H Q ∨ rInK P.K (fun b => !b) x y H Q) := by
  rw [ok.K]
  exact OpR.or (op_notInD (by have := ok.hu; omega)) (OpR.or (op_notInT (by have := ok.hu; omega)) (op_ninK (by have := ok.hu; omega)))
theorem ge_cmp {o : Cmp} {op : CmpOp} {r : R2} {a b : Expr} {x y : Ex} (hr : OpR X (compareOp op) r) (sv : ServesC P o r) (ha : PE X a (tE P x)) (hb : PE X b (tE P y)) (hm : behindInMarks op b = false) : PE X (.Compare a [op] [b] pos) (tE P (.cmp o x y)) := by
  refine (pe_cmpR hr ha hb hm).imp fun σ H Q ⟨lc, G, ρ, c, a, h⟩ => ?_
  unfold ev at h
  refine ⟨lc, G, ρ, c, a, oe h fun d c1 v G1 H1 e1 r1 k1 h1 => ?_⟩
  refine ⟨lc, G1, ρ, c1, a.step e1 k1, oe h1 fun d2 c2 v2 G2 H2 e2 r2 k2 h2 => ?_⟩
  cases e : cmp o d d2 with
  | none => rw [e] at h2; exact h2.elim
  | some k =>
    rw [e] at h2
    exact sv e2.inn (r1.mono e2.sub) r2 e (OutE.out (d := .bl k) h2 e2.inn rfl k2)
theorem gt_cmp {o : Cmp} {op : CmpOp} {r : R2} {a b : Expr} {x y : Ex} (hr : OpR X (compareOp op) r) (sv : ServesC P o r) (ha : PE X a (tE P x)) (hb : PE X b (tE P y)) (hm : behindInMarks op b = false) : PT X (.Compare a [op] [b] pos) (tT P (.cmp o x y)) := by
  refine (pt_cmpR hr ha hb hm).imp fun σ H Q ⟨lc, G, ρ, c, a, h⟩ => ?_
  unfold ev at h
  refine ⟨lc, G, ρ, c, a, ot h fun d c1 v G1 H1 e1 r1 k1 h1 => ?_⟩
  refine ⟨lc, G1, ρ, c1, a.step e1 k1, ot h1 fun d2 c2 v2 G2 H2 e2 r2 k2 h2 => ?_⟩
  cases e : cmp o d d2 with
  | none => rw [e] at h2; exact h2.elim
  | some k =>
    rw [e] at h2
    exact sv e2.inn (r1.mono e2.sub) r2 e ⟨k, rfl, h2 _ _ (.refl e2.inn) k2⟩
theorem ge_cmp2 {o o' : Cmp} {op op' : CmpOp} {r r' : R2} {a b d : Expr} {x y z : Ex} (hr : OpR X (compareOp op) r) (hr' : OpR X (compareOp op') r') (sv : ServesC P o r) (sv' : ServesC P o' r') (ha : PE X a (tE P x)) (hb : PE X b (tE P y)) (hd : PE X d (tE P z))
    (hm : lastMarks [op, op'] [b, d] = false) : PE X (.Compare a [op, op'] [b, d] pos) (tE P (.cmp2 o o' x y z)) := by
  refine (pe_chain hr hr' ha hb hd hm).imp fun σ H Q ⟨lc, G, ρ, c, a, h⟩ => ?_
  unfold ev at h
  refine ⟨lc, G, ρ, c, a, oe h fun d c1 v G1 H1 e1 r1 k1 h1 => ?_⟩
  refine ⟨lc, G1, ρ, c1, a.step e1 k1, oe h1 fun d2 c2 v2 G2 H2 e2 r2 k2 h2 => ?_⟩
  cases e : cmp o d d2 with
  | none => rw [e] at h2; exact h2.elim
  | some k =>
    rw [e] at h2
    refine sv e2.inn (r1.mono e2.sub) r2 e ⟨k, rfl, ?_⟩
    cases k with
    | false => exact OutE.out (d := .bl false) h2 e2.inn rfl k2
    | true =>
      refine ⟨lc, G2, ρ, c2, (a.step e1 k1).step e2 k2, oe h2 fun d3 c3 v3 G3 H3 e3 r3 k3 h3 => ?_⟩
      cases e' : cmp o' d2 d3 with
      | none => rw [e'] at h3; exact h3.elim
      | some k' =>
        rw [e'] at h3
        exact sv' e3.inn (r2.mono e3.sub) r3 e' (OutE.out (d := .bl k') h3 e3.inn rfl k3)
theorem gt_cmp2 {o o' : Cmp} {op op' : CmpOp} {r r' : R2} {a b d : Expr} {x y z : Ex} (hr : OpR X (compareOp op) r) (hr' : OpR X (compareOp op') r') (sv : ServesC P o r) (sv' : ServesC P o' r') (ha : PE X a (tE P x)) (hb : PE X b (tE P y)) (hd : PE X d (tE P z))
    (hm : lastMarks [op, op'] [b, d] = false) : PT X (.Compare a [op, op'] [b, d] pos) (tT P (.cmp2 o o' x y z)) := by
  refine (pt_chain hr hr' ha hb hd hm).imp fun σ H Q ⟨lc, G, ρ, c, a, h⟩ => ?_
  unfold ev at h
  refine ⟨lc, G, ρ, c, a, ot h fun d c1 v G1 H1 e1 r1 k1 h1 => ?_⟩
  refine ⟨lc, G1, ρ, c1, a.step e1 k1, ot h1 fun d2 c2 v2 G2 H2 e2 r2 k2 h2 => ?_⟩
  cases e : cmp o d d2 with
  | none => rw [e] at h2; exact h2.elim
  | some k =>
    rw [e] at h2
    refine sv e2.inn (r1.mono e2.sub) r2 e ⟨k, rfl, ?_⟩
    cases k with
    | false => exact ⟨false, rfl, h2 _ _ (.refl e2.inn) k2⟩
    | true =>
      refine ⟨lc, G2, ρ, c2, (a.step e1 k1).step e2 k2, ot h2 fun d3 c3 v3 G3 H3 e3 r3 k3 h3 => ?_⟩
      cases e' : cmp o' d2 d3 with
      | none => rw [e'] at h3; exact h3.elim
      | some k' =>
        rw [e'] at h3
        exact sv' e3.inn (r2.mono e3.sub) r3 e' ⟨k', rfl, h3 _ _ (.refl e3.inn) k3⟩
/-! ### and, or, not, if else -/
theorem asB {lc : Option Addr} {G H : Hp} {c : Cell} {d : D} {α : Type} {f : Bool → C α} {Z : R (α × Cell) → Prop} (h : Z (C.bnd (asBool d) f c)) (zs : ¬ Z .stuck) : ∃ b, d = .bl b ∧ Z (f b c) := by
  cases d with
  | bl b => exact ⟨b, rfl, h⟩
  | _ => exact (zs h).elim
theorem ge_and {a b : Expr} {rest : List Expr} {x y : Ex} (ha : PE X a (tE P x)) (hb : PE X (.BoolOp .And (b :: rest) pos) (tE P y)) : PE X (.BoolOp .And (a :: b :: rest) pos) (tE P (.and x y)) := by
  refine (pe_and ha hb).imp fun σ H Q ⟨lc, G, ρ, c, a, h⟩ => ?_
  unfold ev at h
  refine ⟨lc, G, ρ, c, a, oe h fun d c1 v G1 H1 e1 r1 k1 h1 => ?_⟩
  obtain ⟨b, rfl, h1⟩ := asB (lc := lc) (G := G1) (H := H1) (Z := fun r => OutE P lc G1 H1 r Q) h1 (fun z => z)
  cases r1
  refine ⟨b, rfl, ?_⟩
  cases b with
  | true => exact ⟨lc, G1, ρ, c1, a.step e1 k1, h1⟩
  | false => exact OutE.out (d := .bl false) h1 e1.inn rfl k1
theorem ge_or {a b : Expr} {rest : List Expr} {x y : Ex} (ha : PE X a (tE P x)) (hb : PE X (.BoolOp .Or (b :: rest) pos) (tE P y)) : PE X (.BoolOp .Or (a :: b :: rest) pos) (tE P (.or x y)) := by
  refine (pe_or ha hb).imp fun σ H Q ⟨lc, G, ρ, c, a, h⟩ => ?_
  unfold ev at h
  refine ⟨lc, G, ρ, c, a, oe h fun d c1 v G1 H1 e1 r1 k1 h1 => ?_⟩
  obtain ⟨b, rfl, h1⟩ := asB (lc := lc) (G := G1) (H := H1) (Z := fun r => OutE P lc G1 H1 r Q) h1 (fun z => z)
  cases r1
  refine ⟨b, rfl, ?_⟩
  cases b with
  | false => exact ⟨lc, G1, ρ, c1, a.step e1 k1, h1⟩
  | true => exact OutE.out (d := .bl true) h1 e1.inn rfl k1
theorem ge_not {a : Expr} {x : Ex} (ha : PE X a (tE P x)) : PE X (.UnaryOp .Not a pos) (tE P (.not x)) := by
  refine (pe_not ha).imp fun σ H Q ⟨lc, G, ρ, c, a, h⟩ => ?_
  unfold ev at h
  refine ⟨lc, G, ρ, c, a, oe h fun d c1 v G1 H1 e1 r1 k1 h1 => ?_⟩
  obtain ⟨b, rfl, h1⟩ := asB (lc := lc) (G := G1) (H := H1) (Z := fun r => OutE P lc G1 H1 r Q) h1 (fun z => z)
  cases r1
  exact ⟨b, rfl, OutE.out (d := .bl (!b)) h1 e1.inn rfl k1⟩
theorem gw_and {a b : Expr} {rest : List Expr} {x y : Ex} (ha : PT X a (tT P x)) (hb : PW X (.BoolOp .And (b :: rest) pos) (tT P y)) : PW X (.BoolOp .And (a :: b :: rest) pos) (tT P (.and x y)) := by
  refine ⟨fun wh pins s σ H Q I h => (pw_and ha hb).run wh pins s σ H Q I ?_⟩
  obtain ⟨lc, G, ρ, c, a, h⟩ := h
  unfold ev at h
  refine ⟨lc, G, ρ, c, a, ?_⟩
  unfold C.bnd at h
  cases e : ev P.Φ x ρ c with
  | ok r =>
    obtain ⟨d, c1⟩ := r
    rw [e] at h
    obtain ⟨b, rfl, h1⟩ := asB (lc := lc) (G := G) (H := H) (Z := fun r => OutT P lc G H r Q) h (fun z => z)
    intro G1 H1 e1 k1
    cases b with
    | true => exact ⟨lc, G1, ρ, c1, a.step e1 k1, OutT.ext h1 e1⟩
    | false => exact h1 G1 H1 e1 k1
  | err _ _ => rw [e] at h; exact h.elim
  | stuck => rw [e] at h; exact h.elim
theorem gw_or {a b : Expr} {rest : List Expr} {x y : Ex} (ha : PT X a (tT P x)) (hb : PW X (.BoolOp .Or (b :: rest) pos) (tT P y)) : PW X (.BoolOp .Or (a :: b :: rest) pos) (tT P (.or x y)) := by
  refine ⟨fun wh pins s σ H Q I h => (pw_or ha hb).run wh pins s σ H Q I ?_⟩
  obtain ⟨lc, G, ρ, c, a, h⟩ := h
  unfold ev at h
  refine ⟨lc, G, ρ, c, a, ?_⟩
  unfold C.bnd at h
  cases e : ev P.Φ x ρ c with
  | ok r =>
    obtain ⟨d, c1⟩ := r
    rw [e] at h
    obtain ⟨b, rfl, h1⟩ := asB (lc := lc) (G := G) (H := H) (Z := fun r => OutT P lc G H r Q) h (fun z => z)
    intro G1 H1 e1 k1
    cases b with
    | false => exact ⟨lc, G1, ρ, c1, a.step e1 k1, OutT.ext h1 e1⟩
    | true => exact h1 G1 H1 e1 k1
  | err _ _ => rw [e] at h; exact h.elim
  | stuck => rw [e] at h; exact h.elim
theorem gt_not {a : Expr} {x : Ex} (ha : PT X a (tT P x)) : PT X (.UnaryOp .Not a pos) (tT P (.not x)) := by
  refine (pt_not ha).imp fun σ H Q ⟨lc, G, ρ, c, a, h⟩ => ?_
  unfold ev at h
  refine ⟨lc, G, ρ, c, a, ?_⟩
  unfold C.bnd at h
  cases e : ev P.Φ x ρ c with
  | ok r =>
    obtain ⟨d, c1⟩ := r
    rw [e] at h
    obtain ⟨b, rfl, h1⟩ := asB (lc := lc) (G := G) (H := H) (Z := fun r => OutT P lc G H r Q) h (fun z => z)
    exact fun G1 H1 e1 k1 => h1 G1 H1 e1 k1
  | err _ _ => rw [e] at h; exact h.elim
  | stuck => rw [e] at h; exact h.elim
/-- any expression as a test -/
theorem gt_val {e : Expr} {x : Ex} (h : PE X e (tE P x)) (he : ∀ whole, isTrue e X.env whole = (do let v ← whole; standAt e.pos; holding [v] (truthy v))) : PT X e (tT P x) := by
  refine (pt_val h he).imp fun σ H Q ⟨lc, G, ρ, c, a, h⟩ => ⟨lc, G, ρ, c, a, ?_⟩
  cases e : ev P.Φ x ρ c with
  | ok r =>
    obtain ⟨d, c1⟩ := r
    rw [e] at h
    cases d with
    | bl b => exact fun v G1 H1 e1 r1 k1 => ⟨b, r1, h G1 H1 e1 k1⟩
    | _ => exact h.elim
  | err _ _ => rw [e] at h; exact h.elim
  | stuck => rw [e] at h; exact h.elim
theorem ge_ite {t a b : Expr} {x y z : Ex} (ht : PT X t (tT P x)) (ha : PE X a (tE P y)) (hb : PE X b (tE P z)) : PE X (.IfExp t a b pos) (tE P (.ite x y z)) := by
  refine (pe_ifExp ht ha hb).imp fun σ H Q ⟨lc, G, ρ, c, a, h⟩ => ?_
  unfold ev at h
  refine ⟨lc, G, ρ, c, a, ?_⟩
  unfold C.bnd at h
  cases e : ev P.Φ x ρ c with
  | ok r =>
    obtain ⟨d, c1⟩ := r
    rw [e] at h
    obtain ⟨b, rfl, h1⟩ := asB (lc := lc) (G := G) (H := H) (Z := fun r => OutE P lc G H r Q) h (fun z => z)
    intro G1 H1 e1 k1
    cases b with
    | true => exact ⟨lc, G1, ρ, c1, a.step e1 k1, OutE.ext h1 e1⟩
    | false => exact ⟨lc, G1, ρ, c1, a.step e1 k1, OutE.ext h1 e1⟩
  | err _ _ => rw [e] at h; exact h.elim
  | stuck => rw [e] at h; exact h.elim
end
end G
/-! G5: subscripts, slices, calls. -/
namespace G
open PySem L2
variable [TQ]
section
variable {X : Cx} {P : Pl} {pos : Pos}
theorem ixN_eq (n : Nat) (i : Int) : ixN n i = ixNat n i := rfl
theorem atI_eq {α : Type} (l : List α) (i : Int) : atI l i = (ixNat l.length i).bind fun j => l[j]? := rfl
theorem ixNat_lt {n : Nat} {i : Int} {j : Nat} (h : ixNat n i = some j) : j < n := by
  unfold ixNat at h
  split at h
  · split at h
    · cases h; omega
    · cases h
  · split at h
    · cases h; omega
    · cases h
theorem ite_some' {α : Type} {c : Prop} [Decidable c] {o : Option α} {d : α} (h : (if c then o else none) = some d) : c ∧ o = some d := by
  by_cases hc : c
  · rw [if_pos hc] at h; exact ⟨hc, h⟩
  · rw [if_neg hc] at h; cases h
theorem ge_ix {a b : Expr} {x y : Ex} (ok : Ok P X) (ha : PE X a (tE P x)) (hb : PE X b (tE P y)) (hp : PlainIx b) : PE X (.Subscript a b pos) (tE P (.ix x y)) := by
  refine (pe_ix (IxR.or ix_seq (ix_dk (by have := ok.hu; omega))) ha hb hp).imp fun σ H Q ⟨lc, G, ρ, c, a, h⟩ => ?_
  unfold ev at h
  refine ⟨lc, G, ρ, c, a, oe h fun d c1 v G1 H1 e1 r1 k1 h1 => ?_⟩
  refine ⟨lc, G1, ρ, c1, a.step e1 k1, oe h1 fun d2 c2 v2 G2 H2 e2 r2 k2 h2 => ?_⟩
  obtain ⟨w, e, h3⟩ := h2.opt
  have r1 := r1.mono e2.sub
  rw [ok.K] at r1 r2
  by_cases hdd : ∃ ks vs, d = .dct ks vs
  · obtain ⟨ks, vs, rfl⟩ := hdd
    obtain ⟨hk, hf⟩ := ite_some' (show (if keyT d2 = true then dfind ks vs d2 else none) = some w from by cases d2 <;> exact e)
    obtain ⟨p, xs, rfl, q1, q2⟩ := rep_dk r1
    exact .inr ⟨p, xs, G2, ks, vs, d2, w, rfl, e2.inn, same_rd e2.inn q1, q2, hk, r2, hf, fun z rz => OutE.out (d := w) h3 e2.inn (by rw [ok.K]; exact rz) k2⟩
  refine .inl ?_
  cases d2 with
  | int i =>
    cases r2
    cases d with
    | str z =>
      obtain ⟨rfl, hs⟩ := r1
      have e : (if z.length ≤ LIM then (ixNat z.length i).bind fun j => z[j]?.map fun c => D.str [c] else none) = some w := e
      by_cases hz : z.length ≤ LIM
      case neg => rw [if_neg hz] at e; cases e
      rw [if_pos hz] at e
      obtain ⟨j, hj, e⟩ := Option.bind_eq_some_iff.mp e
      obtain ⟨ch, hc, rfl⟩ := Option.map_eq_some_iff.mp e
      refine .inr (.inr ⟨_, _, ch, rfl, rfl, by rw [strLen]; exact hz, ?_, ?_⟩)
      · show atI z.toArray.toList i = some ch
        rw [List.toList_toArray, atI_eq, hj]
        exact hc
      · refine OutE.out (d := .str [ch]) h3 e2.inn ⟨rfl, ?_⟩ k2
        rw [okS_iff] at hs ⊢
        intro c hcm
        rw [List.mem_singleton] at hcm
        subst hcm
        exact hs _ (List.mem_of_getElem? hc)
    | tup l =>
      obtain ⟨p, xs, rfl, h1', h2', h3'⟩ := r1
      simp only [index] at e
      obtain ⟨j, hj, e⟩ := Option.bind_eq_some_iff.mp e
      obtain ⟨v, hv, rv⟩ := h2'.get e
      refine .inr (.inl ⟨p, xs, i, v, rfl, rfl, same_t e2.inn h1', ?_, OutE.out (d := w) h3 e2.inn (by rw [ok.K]; exact rv) k2⟩)
      rw [atI_eq, ← h2'.length, hj]
      exact hv
    | lst l =>
      obtain ⟨p, xs, rfl, h1', h2', h3'⟩ := r1
      simp only [index] at e
      obtain ⟨j, hj, e⟩ := Option.bind_eq_some_iff.mp e
      obtain ⟨v, hv, rv⟩ := h2'.get e
      refine .inl ⟨p, xs, i, v, rfl, rfl, same_l e2.inn h1', ?_, OutE.out (d := w) h3 e2.inn (by rw [ok.K]; exact rv) k2⟩
      rw [atI_eq, ← h2'.length, hj]
      exact hv
    | dct ks vs => exact absurd ⟨ks, vs, rfl⟩ hdd
    | _ => simp [index] at e
  | _ => cases d <;> first | (exact absurd ⟨_, _, rfl⟩ hdd) | simp [index] at e
/-! ### calls of built-ins by values -/
def ServesB (P : Pl) (f : Bf) (r : List V → Hp → VK → Prop) : Prop := ∀ {lc : Option Addr} {G H : Hp} {c : Cell} {Q : VK} {ds : List D} {vs : List V}, Same G H → Reps P.K G ds vs → CellR P.K lc G H c → OutE P lc G H (C.opt (builtin f ds) c) Q → r vs H Q
theorem ge_blt {f : Bf} {e : Expr} {es : List Ex} {r : List V → Hp → VK → Prop} {t : TA} (h : PE X e (tCB r t)) (ht : ∀ σ H Q, tA P es σ H Q → t σ H Q) (sv : ServesB P f r) : PE X e (tE P (.blt f es)) := by
  refine h.imp fun σ H Q ⟨lc, G, ρ, c, a, h⟩ => ?_
  unfold ev at h
  exact ht _ _ _ ⟨lc, G, ρ, c, a, ae h fun ds c1 vs G1 H1 e1 r1 k1 h1 => sv e1.inn r1 k1 h1⟩
def ServesF (P : Pl) (f : Bf) (r : List V → Hp → VK → Prop) : Prop := ∀ {lc : Option Addr} {G H : Hp} {c : Cell} {Q : VK} {ds : List D} {vs : List V}, Same G H → Reps P.K G ds vs → CellR P.K lc G H c → OutF P lc G H (C.opt (builtin f ds) c) Q → r vs H Q
theorem gf_blt {f : Bf} {e : Expr} {es : List Ex} {r : List V → Hp → VK → Prop} {t : TA} (h : PE X e (tCB r t)) (ht : ∀ σ H Q, tA P es σ H Q → t σ H Q) (sv : ServesF P f r) : PE X e (tF P (.blt f es)) := by
  refine h.imp fun σ H Q ⟨lc, G, ρ, c, a, h⟩ => ?_
  unfold ev at h
  exact ht _ _ _ ⟨lc, G, ρ, c, a, af h fun ds c1 vs G1 H1 e1 r1 k1 h1 => sv e1.inn r1 k1 h1⟩
theorem OutF.opt {P : Pl} {lc : Option Addr} {G H : Hp} {c : Cell} {Q : VK} {o : Option D} (h : OutF P lc G H (C.opt o c) Q) : ∃ d, o = some d ∧ OutF P lc G H (.ok (d, c)) Q := by
  cases o with
  | none => exact h.elim
  | some d => exact ⟨d, rfl, h⟩
theorem CellR.lay {K : PySem.W.Frag} {lc : Option Addr} {G H : Hp} {c : Cell} {p : Addr} {o : HO} (h : CellR K lc G H c) (hp : H p = none) : CellR K lc G (upd H p o) c := by
  cases c with
  | none => exact h
  | some cs =>
    obtain ⟨l0, ws, q1, q2, q3, q4⟩ := h
    exact ⟨l0, ws, q1, q2, by rw [upd_ne (ne_of_none q3 hp)]; exact q3, q4⟩
/-- a fresh list at the end -/
theorem OutF.out {P : Pl} {lc : Option Addr} {G H : Hp} {c : Cell} {Q : VK} {l : List D} {vs : List V} {p : Addr} (h : OutF P lc G H (.ok (.lst l, c)) Q) (hs : Same G H) (r : Reps P.K G l vs) (hz : l.length ≤ LIM) (hc : CellR P.K lc G H c) (hp : H p = none) : Q (.ref p) (upd H p (.lst vs)) := by
  obtain ⟨_, h⟩ := h
  refine h p G _ (.lay hs hp) hp ?_ ⟨vs, upd_same, r, hz⟩ (hc.lay hp)
  cases q : G p with
  | none => rfl
  | some o => rw [hs _ _ q] at hp; cases hp
def rLenD (K : PySem.W.Frag) : List V → Hp → VK → Prop := fun us H Q => ∃ a xs G ks vs, us = [.ref a] ∧ Same G H ∧ Rd H a (dkO a xs) ∧ DkAt K G ks vs xs ∧ Q (.int ks.length) H
theorem call_len_dk : CallR X (.builtin "len") (rLenD X.K) := by
  intro pins s σ H us0 us Q I r h
  obtain ⟨a, xs, G, ks, vs, rfl, hs, ea, A, q⟩ := h
  obtain ⟨u, rfl, rx⟩ := vals1 r
  obtain rfl : u = Value.ref a := rx
  obtain ⟨hsm, ys, hp, dd⟩ := dk_of I hs ea A
  have l1 : ks.length = ys.length := by
    have h1 := A.rk.length
    rw [List.length_map] at h1
    rw [h1, Paired.length hp]
  have hlim : ks.length ≤ 16777216 := A.len
  refine call_len_dictH hsm dd (by omega) ?_
  rw [← l1]
  exact ⟨.int ks.length, H, I.tok _, ⟨s.toks + 1, rfl⟩, q⟩
def rLenG (K : PySem.W.Frag) : List V → Hp → VK → Prop := fun xs H Q => ((∃ p ys, xs = [.ref p] ∧ (SqL K H p ys ∨ SqT K H p ys) ∧ Q (.int ys.length) H) ∨ (∃ z, xs = [.str z] ∧ z.length ≤ sizeLine ∧ Q (.int z.length) H)) ∨ rLenD K xs H Q
theorem call_lenG : CallR X (.builtin "len") (rLenG X.K) := (call_len_seq.or call_len_str).or call_len_dk
theorem sb_len : ServesB P .len (rLenG P.K) := by
  intro lc G H c Q ds vs hs r k q
  obtain ⟨d, e, q⟩ := q.opt
  match ds, e with
  | [.tup l], e =>
    obtain ⟨v, rfl, p, xs, rfl, h1, h2, h3⟩ := reps1 r
    cases e
    refine .inl (.inl ⟨p, xs, rfl, .inr (same_t hs h1), ?_⟩)
    rw [← h2.length]
    exact q.out hs rfl k
  | [.lst l], e =>
    obtain ⟨v, rfl, p, xs, rfl, h1, h2, h3⟩ := reps1 r
    cases e
    refine .inl (.inl ⟨p, xs, rfl, .inl (same_l hs h1), ?_⟩)
    rw [← h2.length]
    exact q.out hs rfl k
  | [.dct ks ws], e =>
    obtain ⟨v, rfl, p, xs, rfl, h1, h2, h3, h4, h5, h6, h7⟩ := reps1 r
    cases e
    exact .inr ⟨p, xs, G, ks, ws, rfl, hs, same_rd hs h1, ⟨h2, h3, h4, h5, h6, h7⟩, q.out hs rfl k⟩
  | [.str l], e =>
    obtain ⟨v, rfl, rfl, h1⟩ := reps1 r
    obtain ⟨hz, rfl⟩ := ite_some e
    refine .inl (.inr ⟨_, rfl, by rw [strLen]; exact hz, ?_⟩)
    rw [strLen]
    exact q.out hs rfl k
theorem sb_int : ServesB P .int (fun xs H Q => (∃ i, xs = [.int i] ∧ Q (.int i) H) ∨ ∃ k, xs = [.bl k] ∧ Q (.int (if k then 1 else 0)) H) := by
  intro lc G H c Q ds vs hs r k q
  obtain ⟨d, e, q⟩ := q.opt
  match ds, e with
  | [.int i], e =>
    obtain ⟨v, rfl, rfl⟩ := reps1 r
    cases e
    exact .inl ⟨_, rfl, q.out hs rfl k⟩
  | [.bl i], e =>
    obtain ⟨v, rfl, rfl⟩ := reps1 r
    cases e
    exact .inr ⟨_, rfl, q.out hs rfl k⟩
theorem sb_tuple : ServesB P .tuple (fun xs H Q => ∃ p ys, xs = [.ref p] ∧ ((SqL P.K H p ys ∧ ∀ l, H l = none → Q (.ref l) (upd H l (.tup ys))) ∨ (SqT P.K H p ys ∧ Q (.ref p) H))) := by
  intro lc G H c Q ds vs hs r k q
  obtain ⟨d, e, q⟩ := q.opt
  match ds, e with
  | [.tup l], e =>
    obtain ⟨v, rfl, p, xs, rfl, h1, h2, h3⟩ := reps1 r
    cases e
    exact ⟨p, xs, rfl, .inr ⟨same_t hs h1, q.out hs ⟨p, xs, rfl, h1, h2, h3⟩ k⟩⟩
  | [.lst l], e =>
    obtain ⟨v, rfl, p, xs, rfl, h1, h2, h3⟩ := reps1 r
    cases e
    exact ⟨p, xs, rfl, .inl ⟨same_l hs h1, fun l hl => q.newT hs h2 h3 k hl⟩⟩
theorem sf_list : ServesF P .list (fun xs H Q => ∃ p ys, xs = [.ref p] ∧ (SqL P.K H p ys ∨ SqT P.K H p ys) ∧ ∀ l, H l = none → Q (.ref l) (upd H l (.lst ys))) := by
  intro lc G H c Q ds vs hs r k q
  obtain ⟨d, e, q⟩ := q.opt
  match ds, e with
  | [.tup l], e =>
    obtain ⟨v, rfl, p, xs, rfl, h1, h2, h3⟩ := reps1 r
    cases e
    exact ⟨p, xs, rfl, .inr (same_t hs h1), fun l hl => q.out hs h2 h3 k hl⟩
  | [.lst l], e =>
    obtain ⟨v, rfl, p, xs, rfl, h1, h2, h3⟩ := reps1 r
    cases e
    exact ⟨p, xs, rfl, .inl (same_l hs h1), fun l hl => q.out hs h2 h3 k hl⟩
theorem dInts_reps {K : PySem.W.Frag} {G : Hp} : ∀ {l : List D} {ns : List Int} {vs : List V}, dInts l = some ns → Reps K G l vs → vs = ns.map V.int
  | [], ns, vs, e, r => by cases e; cases r; rfl
  | .int i :: l, ns, vs, e, r => by
    obtain ⟨x, xs, rfl, rfl, r⟩ := r
    obtain ⟨ms, e1, rfl⟩ := Option.map_eq_some_iff.mp (show (dInts l).map (i :: ·) = some ns from e)
    rw [dInts_reps e1 r]
    rfl
theorem sb_sum : ServesB P .sum (rSum P.K) := by
  intro lc G H c Q ds vs hs r k q
  obtain ⟨d, e, q⟩ := q.opt
  match ds, e with
  | [.lst l], e =>
    obtain ⟨v, rfl, p, xs, rfl, h1, h2, h3⟩ := reps1 r
    obtain ⟨ns, e1, rfl⟩ := Option.map_eq_some_iff.mp (show (dInts l).map (fun ns => D.int ns.sum) = some d from e)
    refine ⟨p, ns, rfl, ?_, q.out hs rfl k⟩
    rw [← dInts_reps e1 h2]
    exact same_l hs h1
theorem maxI_mem : ∀ {l : List Int}, l ≠ [] → maxI l ∈ l
  | [a], _ => by simp [maxI]
  | a :: b :: r, _ => by
    have := maxI_mem (l := b :: r) (by simp)
    show max a (maxI (b :: r)) ∈ _
    rcases Int.le_total a (maxI (b :: r)) with h | h
    · rw [Int.max_eq_right h]; exact List.mem_cons_of_mem _ this
    · rw [Int.max_eq_left h]; exact List.mem_cons_self
theorem maxI_le : ∀ {l : List Int} {y : Int}, y ∈ l → y ≤ maxI l
  | [a], y, h => by simp at h; simp [maxI, h]
  | a :: b :: r, y, h => by
    show y ≤ max a (maxI (b :: r))
    rcases List.mem_cons.mp h with h | h
    · subst h; exact Int.le_max_left _ _
    · exact Int.le_trans (maxI_le h) (Int.le_max_right _ _)
theorem minI_mem : ∀ {l : List Int}, l ≠ [] → minI l ∈ l
  | [a], _ => by simp [minI]
  | a :: b :: r, _ => by
    have := minI_mem (l := b :: r) (by simp)
    show min a (minI (b :: r)) ∈ _
    rcases Int.le_total a (minI (b :: r)) with h | h
    · rw [Int.min_eq_left h]; exact List.mem_cons_self
    · rw [Int.min_eq_right h]; exact List.mem_cons_of_mem _ this
theorem minI_le : ∀ {l : List Int} {y : Int}, y ∈ l → minI l ≤ y
  | [a], y, h => by simp at h; simp [minI, h]
  | a :: b :: r, y, h => by
    show min a (minI (b :: r)) ≤ y
    rcases List.mem_cons.mp h with h | h
    · subst h; exact Int.min_le_left _ _
    · exact Int.le_trans (Int.min_le_right _ _) (minI_le h)
def rMaxG (K : PySem.W.Frag) : List V → Hp → VK → Prop := fun xs H Q => (∃ i j, xs = [.int i, .int j] ∧ Q (.int (if j > i then j else i)) H) ∨ rMax K xs H Q
theorem call_maxG (hc : X.calm = true) : CallR X (.builtin "max") (rMaxG X.K) := (call_max2 hc).or (cr_max hc)
def rMinG (K : PySem.W.Frag) : List V → Hp → VK → Prop := fun xs H Q => (∃ i j, xs = [.int i, .int j] ∧ Q (.int (if j < i then j else i)) H) ∨ rMin K xs H Q
theorem call_minG (hc : X.calm = true) : CallR X (.builtin "min") (rMinG X.K) := (call_min2 hc).or (cr_min hc)
theorem dInts_ne : ∀ {l : List D} {ns : List Int}, dInts l = some ns → l.isEmpty = false → ns ≠ []
  | .int i :: l, ns, e, _ => by
    obtain ⟨ms, e1, rfl⟩ := Option.map_eq_some_iff.mp (show (dInts l).map (i :: ·) = some ns from e)
    simp
theorem sb_max : ServesB P .max (rMaxG P.K) := by
  intro lc G H c Q ds vs hs r k q
  obtain ⟨d, e, q⟩ := q.opt
  match ds, e with
  | [.int a, .int b], e =>
    obtain ⟨v, w, rfl, rfl, rfl⟩ := reps2 r
    cases e
    exact .inl ⟨_, _, rfl, q.out hs rfl k⟩
  | [.lst l], e =>
    obtain ⟨v, rfl, p, xs, rfl, h1, h2, h3⟩ := reps1 r
    have e : (if l.isEmpty then none else (dInts l).map fun ns => D.int (maxI ns)) = some d := e
    cases hl : l.isEmpty with
    | true => rw [hl] at e; cases e
    | false =>
      rw [hl] at e
      obtain ⟨ns, e1, rfl⟩ := Option.map_eq_some_iff.mp (show (dInts l).map (fun ns => D.int (maxI ns)) = some d from e)
      have hne := dInts_ne e1 hl
      refine .inr ⟨p, ns, rfl, ?_, List.length_pos_iff.mpr hne, fun m hm hle => ?_⟩
      · rw [← dInts_reps e1 h2]
        exact same_l hs h1
      · have : m = maxI ns := Int.le_antisymm (maxI_le hm) (hle _ (maxI_mem hne))
        rw [this]
        exact q.out hs rfl k
theorem sb_min : ServesB P .min (rMinG P.K) := by
  intro lc G H c Q ds vs hs r k q
  obtain ⟨d, e, q⟩ := q.opt
  match ds, e with
  | [.int a, .int b], e =>
    obtain ⟨v, w, rfl, rfl, rfl⟩ := reps2 r
    cases e
    exact .inl ⟨_, _, rfl, q.out hs rfl k⟩
  | [.lst l], e =>
    obtain ⟨v, rfl, p, xs, rfl, h1, h2, h3⟩ := reps1 r
    have e : (if l.isEmpty then none else (dInts l).map fun ns => D.int (minI ns)) = some d := e
    cases hl : l.isEmpty with
    | true => rw [hl] at e; cases e
    | false =>
      rw [hl] at e
      obtain ⟨ns, e1, rfl⟩ := Option.map_eq_some_iff.mp (show (dInts l).map (fun ns => D.int (minI ns)) = some d from e)
      have hne := dInts_ne e1 hl
      refine .inr ⟨p, ns, rfl, ?_, List.length_pos_iff.mpr hne, fun m hm hle => ?_⟩
      · rw [← dInts_reps e1 h2]
        exact same_l hs h1
      · have : m = minI ns := Int.le_antisymm (hle _ (minI_mem hne)) (minI_le hm)
        rw [this]
        exact q.out hs rfl k
theorem sb_abs : ServesB P .abs (fun xs H Q => ∃ i, xs = [.int i] ∧ Q (.int (if i < 0 then -i else i)) H) := by
  intro lc G H c Q ds vs hs r k q
  obtain ⟨d, e, q⟩ := q.opt
  match ds, e with
  | [.int i], e =>
    obtain ⟨v, rfl, rfl⟩ := reps1 r
    cases e
    exact ⟨_, rfl, q.out hs rfl k⟩
/-! ### isinstance -/
def tyName : D → String
  | .non => "NoneType"
  | .bl _ => "bool"
  | .int _ => "int"
  | .str _ => "str"
  | .tup _ => "tuple"
  | .lst _ => "list"
  | .dct _ _ => "dict"
theorem rep_ty {K : PySem.W.Frag} {H : Hp} : ∀ {d : D} {v : V}, Rep K H d v → TyG K H v (.type (tyName d))
  | .non, _, r => by cases r; exact .x (.base .non)
  | .bl _, _, r => by cases r; exact .x (.base (.bl _))
  | .int _, _, r => by cases r; exact .x (.base (.int _))
  | .str _, _, r => by obtain ⟨rfl, _⟩ := r; exact .x (.base (.str _))
  | .tup _, _, r => by
    obtain ⟨a, vs, rfl, (h | ⟨o, h⟩) | ⟨o, its, n, h, hc, _⟩, _⟩ := r
    · exact .x (.base (.tup h))
    · exact .x (.fTuple h)
    · exact .x (.kTuple h hc)
  | .lst _, _, r => by
    obtain ⟨a, vs, rfl, (h | ⟨o, h⟩) | ⟨o, its, n, h, hc, _⟩, _⟩ := r
    · exact .x (.base (.lst h))
    · exact .x (.base (.frz h))
    · exact .x (.kList h hc)
  | .dct _ _, _, r => by
    obtain ⟨a, xs, rfl, h1, _⟩ := rep_dk r
    exact .d h1
def kOk (T : String) (g : D → Bool) : D → Bool
  | d => decide (kitB (tyName d) T = some (g d))
theorem kOk_of {T : String} {g : D → Bool} {d : D} {K : PySem.W.Frag} {H : Hp} {v : V} (h : kOk T g d = true) (r : Rep K H d v) : kitB (tyName d) T = some (g d) := of_decide_eq_true h
/-- isinstance(x, T) -/
theorem gi_one {f : Bf} {T : String} {x : Ex} {e : Expr} (ok : Ok P X) (g : D → Bool) (h : PE X e (tCB (rIsiG X.K) (tCons (tE P x) (tCons (tC (.ty T)) tNil)))) (hk : ∀ d, kOk T g d = true)
    (hf : ∀ d, builtin f [d] = some (.bl (g d))) : PE X e (tE P (.blt f [x])) := by
  refine h.imp fun σ H Q ⟨lc, G, ρ, c, a, h⟩ => ?_
  unfold ev evs evs at h
  refine ⟨lc, G, ρ, c, a, ?_⟩
  rw [C.bnd_bnd] at h
  refine oe h fun d c1 v G1 H1 e1 r1 k1 h1 => ?_
  have h1 : OutE P lc G1 H1 (C.opt (builtin f [d]) c1) Q := h1
  rw [hf d] at h1
  show rIsiG X.K [v, .ty T] H1 Q
  refine ⟨v, _, .type (tyName d), _, g d, rfl, .ty T, ?_, ?_, OutE.out (d := .bl (g d)) h1 e1.inn rfl k1⟩
  · have := rep_ty (r1.up e1.inn)
    rw [ok.K] at this
    exact this
  · exact kit_ty (kOk_of (hk d) r1)
theorem gi_two {f : Bf} {T T' : String} {x : Ex} {e : Expr} (ok : Ok P X) (g g' : D → Bool) (h : PE X e (tCB (rIsiTG X.K) (tCons (tE P x) (tCons (tTup (tCons (tC (.ty T)) (tCons (tC (.ty T')) tNil))) tNil))))
    (hk : ∀ d, kOk T g d = true) (hk' : ∀ d, kOk T' g' d = true)
    (hf : ∀ d, builtin f [d] = some (.bl (g d || g' d))) : PE X e (tE P (.blt f [x])) := by
  refine h.imp fun σ H Q ⟨lc, G, ρ, c, a, h⟩ => ?_
  unfold ev evs evs at h
  refine ⟨lc, G, ρ, c, a, ?_⟩
  rw [C.bnd_bnd] at h
  refine oe h fun d c1 v G1 H1 e1 r1 k1 h1 => ?_
  have h1 : OutE P lc G1 H1 (C.opt (builtin f [d]) c1) Q := h1
  rw [hf d] at h1
  refine ⟨by show 2 ≤ sizeLine; decide, fun p hp => ?_⟩
  have hn : Ext lc G1 H1 G1 (upd H1 p (.tup [.ty T, .ty T'])) := .lay e1.inn hp
  show rIsiTG X.K [v, .ref p] (upd H1 p (.tup [.ty T, .ty T'])) Q
  refine ⟨v, p, _, .type (tyName d), [.type T, .type T'], g d || g' d, rfl, upd_same, .cons (.ty T) (.cons (.ty T') .nil), ?_, ?_, OutE.out (d := .bl (g d || g' d)) (OutE.ext h1 hn) hn.inn rfl (k1.lay hp)⟩
  · have := rep_ty ((r1.up hn.inn))
    rw [ok.K] at this
    exact this
  · have kk : kitB (tyName d) T = some (g d) ∧ kitB (tyName d) T' = some (g' d) := ⟨kOk_of (hk d) r1, kOk_of (hk' d) r1⟩
    refine kitAny_cons (kit_ty kk.1) (fun e => ?_) fun e => by rw [e]; rfl
    refine kitAny_cons (kit_ty kk.2) (fun e' => by rw [e, e']; exact kitAny_nil) fun e' => by rw [e']; simp
theorem kInt : ∀ d, kOk "int" isIntD d = true := fun d => by cases d <;> first | rfl | (simp only [kOk, tyName, isIntD]; decide +kernel)
theorem kBool : ∀ d, kOk "bool" isBlD d = true := fun d => by cases d <;> first | rfl | (simp only [kOk, tyName, isBlD]; decide +kernel)
theorem kTup : ∀ d, kOk "tuple" isTupD d = true := fun d => by cases d <;> first | rfl | (simp only [kOk, tyName, isTupD]; decide +kernel)
theorem kStr : ∀ d, kOk "str" isStrD d = true := fun d => by cases d <;> first | rfl | (simp only [kOk, tyName, isStrD]; decide +kernel)
theorem kLst : ∀ d, kOk "list" isLstD d = true := fun d => by cases d <;> first | rfl | (simp only [kOk, tyName, isLstD]; decide +kernel)
end
end G
/-! G6: enumerate over a tuple. -/
namespace PySem
open AutoSeq1 (wpAny_loadPart')
theorem meets_enumerate_newT (l : Addr) (items : Array Value) (n : Nat) (dct : Option Addr) (sl : Array (Option Value)) :
    Meets (Builtin.«enumerate.__new__» ⟨[.type "enumerate", .ref l], []⟩) (fun _ R s => s.heap.get? l = some { cls := .type "tuple", dict := dct, data := .seq items n, slots := sl } ∧
      R (.ok (.ret (.ref (s.heap.push { cls := .type "tuple_iterator", data := .fields #[.ref l, .int 0 0] }).objs.size)))
        { s with heap := (s.heap.push { cls := .type "tuple_iterator", data := .fields #[.ref l, .int 0 0] }).push { cls := .type "enumerate", data := .fields #[.none, .bool false, .ref s.heap.objs.size, rawInt 0, .none, .none] } }) :=
  .of_wp fun prog w A R s h => by
    obtain ⟨hp, g, d, tk, os⟩ := s; obtain ⟨hl, h⟩ := h
    have hsub := sub_enumerate
    have hL : Heap.IsTuple (Shared.heap ⟨hp, g, d, tk, os⟩) l items := ⟨_, hl, rfl, n, rfl⟩
    wp_walk using wpAny_loadPart' hl
    refine wpAny_stack_any fun st => wpAny_pure ?_
    split
    · rename_i c _ _ _ _ _
      cases (c == Value.type "enumerate")
      · wp_walk using wpAny_loadPart' hl, wpAny_pyIter_tuple hL
        exact ⟨_, rfl, h⟩
      · wp_walk using wpAny_loadPart' hl, wpAny_pyIter_tuple hL
        exact ⟨_, rfl, h⟩
    · wp_walk using wpAny_loadPart' hl, wpAny_pyIter_tuple hL
      exact ⟨_, rfl, h⟩
section
variable {prog : Program} {w : World} {A : Around} {E : Value → Shared → Prop} {s : Shared}
theorem call_enumerate_tuple {l : Addr} {items : Array Value} {Q : Value → Shared → Prop} (hL : s.heap.IsTuple l items)
    (h : ∀ h', IsEnum h' (s.heap.objs.size + 1) s.heap.objs.size 0 .none → h'.IsTupleIter s.heap.objs.size l 0 → h'.objs.size = s.heap.objs.size + 2 →
      (∀ b o, s.heap.get? b = some o → h'.get? b = some o) → Q (.ref (s.heap.objs.size + 1)) { s with heap := h' }) :
    wpAny (model prog w) A (call (.type "enumerate") [.ref l]) Q E s := by
  obtain ⟨⟨c, dct, dt, sl⟩, hl, hc, n, hd⟩ := hL
  replace hc : c = .type "tuple" := hc
  replace hd : dt = .seq items n := hd
  subst hc hd
  refine callType_new F.called_enumerate (by decide) (F.typeCall_enumerate_1 _) (F.newCall_enumerate_1 _) (fun obj => F.args_object_init_2 obj _) F.entry_enumerate_new
    (meets_enumerate_newT l items n dct sl) ⟨hl, ?_⟩
  have hz : (s.heap.push { cls := .type "tuple_iterator", data := .fields #[.ref l, .int 0 0] }).objs.size = s.heap.objs.size + 1 := Heap.size_push ..
  show _ ∧ _
  rw [hz]
  have he : IsEnum ((s.heap.push { cls := .type "tuple_iterator", data := .fields #[.ref l, .int 0 0] }).push
      { cls := .type "enumerate", data := .fields #[.none, .bool false, .ref s.heap.objs.size, rawInt 0, .none, .none] }) (s.heap.objs.size + 1) s.heap.objs.size 0 .none := by
    have := Heap.get?_push_size (s.heap.push { cls := .type "tuple_iterator", data := .fields #[.ref l, .int 0 0] })
      (o := { cls := .type "enumerate", data := .fields #[.none, .bool false, .ref s.heap.objs.size, rawInt 0, .none, .none] }) rfl
    rw [hz] at this; exact this
  refine ⟨⟨_, he, rfl⟩, h _ he ⟨_, Heap.get?_push_of_some _ (Heap.get?_push_size _ rfl), rfl, rfl⟩ (by rw [Heap.size_push, hz]) fun b o x => Heap.get?_push_of_some _ (Heap.get?_push_of_some _ x)⟩
end
end PySem
namespace L2
open PySem PySem.Spec PyProof.Rows
def IteT (K : PySem.W.Frag) (a : Addr) : It :=
  ⟨fun i H => ∃ (xs : List V) (x : V), SqT K H a xs ∧ xs[i]? = some x, fun i H v H' => ∃ T x, v = .ref T ∧ H T = none ∧ H' = upd H T (.tup [.int (i : Nat), x]) ∧ ∀ xs, SqT K H a xs → xs[i]? = some x, fun i H => ∃ xs : List V, SqT K H a xs ∧ xs.length ≤ i⟩
theorem turn_enumT {P : Program} {w : World} {K : PySem.W.Frag} {elts : List Expr} {kk : Nat} {tpos : Pos} (a e it : Addr) :
    Turn P w K (.Tuple elts kk tpos) (IteT K a) [e, it] e (fun i h => (∃ old, IsEnum h e it ((i : Nat) : Int) old) ∧ h.IsTupleIter it a i ∧ e ≠ it) where
  mem := by simp
  obj := fun i h st b hb => by
    obtain ⟨⟨old, he⟩, ⟨o, ho, hc, hd⟩, _⟩ := st
    have e' : b = e ∨ b = it := by simpa using hb
    rcases e' with z | z
    · rw [z]; exact ⟨_, he, fun v q => nomatch q⟩
    · rw [z]; exact ⟨o, ho, fun v q => by rw [hd] at q; cases q⟩
  keep := fun i h h' st k => let ⟨⟨old, he⟩, hi, hne⟩ := st; ⟨⟨old, k e (by simp) _ he⟩, hi.at fun o q => k it (by simp) o q, hne⟩
  item := by
    intro X hP hw hK hc i pins s σ H E I hf st hg
    subst hP hw hK
    obtain ⟨⟨old, he⟩, hit, hne⟩ := st
    obtain ⟨xs, x, hq, hx⟩ := hg
    obtain ⟨its, rv, p, hz⟩ := I.tuple hq
    obtain ⟨u, hu, ru⟩ := rv.get hx
    have hp : s.heap.IsTuple a its.toArray := p
    have hel : e < s.heap.objs.size := Heap.lt_size he
    have hil : it < s.heap.objs.size := by obtain ⟨_, q, _⟩ := id hit; exact Heap.lt_size q
    have nat : a ≠ it := fun z => by
      obtain ⟨o, ho, h2, _⟩ := id hp
      obtain ⟨o', ho', h2', _⟩ := id hit
      rw [z, ho'] at ho
      cases ho
      rw [h2'] at h2
      exact absurd h2 (by decide)
    have nae : e ≠ a := fun z => by
      obtain ⟨o, ho, h2, _⟩ := id hp
      rw [← z, he] at ho
      cases ho
      exact absurd h2 (by show ¬ (Value.type "enumerate" = Value.type "tuple"); decide)
    have D := Draws.tuple (prog := X.prog) (w := X.w) (A := X.A.in1) (I.ok.hd hc) it a nat its.toArray
    have hlt : i < its.toArray.size := by
      have := (List.getElem?_eq_some_iff.mp hu).1
      simpa using this
    refine wpAny_pyNext_enum_itemD D he ⟨hit, hp⟩ hlt hne (by simp [hne, nae]) fun v h' tk hv ho hit' hT hsz hk => ?_
    have hvu : v = u := by
      have hv' : its.toArray[i]? = some v := hv
      rw [show its.toArray[i]? = its[i]? by simp, hu] at hv'
      exact (Option.some.inj hv').symm
    subst hvu
    refine ⟨_, rfl, wpAny_letOwnedTupleGo_enum (s := { s with heap := h', toks := tk + 1 }) ho fun h'' he' sb => ?_⟩
    have hT2 : h''.get? s.heap.objs.size = some { cls := .type "tuple", data := .seq #[.int i tk, v] } := (sb.2 _ (Nat.ne_of_gt hel)).trans hT
    have new : ObjOk X.prog X.w (upd H s.heap.objs.size (.tup [.int (i : Nat), x])) h'' s.heap.objs.size (.tup [.int (i : Nat), x]) :=
      ⟨by show 2 ≤ sizeLine; decide, [.int i tk, v], .cons ⟨_, rfl⟩ (.cons ru .nil), ⟨_, hT2, rfl, _, rfl⟩⟩
    have I1 : Inv X pins σ (upd H s.heap.objs.size (.tup [.int (i : Nat), x])) { s with heap := h'', toks := tk + 1 } :=
      I.turnedNew (ch := [e, it]) (fun b ob hb q => (sb.2 b (fun z => hb (by simp [z]))).trans (hk b ob (fun z => hb (by simp [z])) (fun z => hb (by simp [z])) q)) hf (Nat.le_refl _) new
    refine ⟨.ref s.heap.objs.size, _, I1, rfl, ⟨_, x, rfl, I.hok.fresh (Nat.le_refl _), rfl, fun ys hy => by rw [I.tuple_inj hy hq]; exact hx⟩, ⟨⟨v, ?_⟩, hit'.1.at fun o q => (sb.2 it (Ne.symm hne)).trans q, hne⟩, fun b hb => ?_⟩
    · have e1 : ((i + 1 : Nat) : Int) = (i : Int) + 1 := by omega
      rw [e1]; exact he'
    · have hb' : b < s.heap.objs.size := by
        have e' : b = e ∨ b = it := by simpa using hb
        rcases e' with z | z
        · rw [z]; exact hel
        · rw [z]; exact hil
      rw [upd_ne (Nat.ne_of_lt hb')]
      exact (hf b hb).1
  done := by
    intro X hP hw hK hc i pins s σ H E I hf st hg
    subst hP hw hK
    obtain ⟨⟨old, he⟩, hit, hne⟩ := st
    obtain ⟨xs, hq, hx⟩ := hg
    obtain ⟨its, rv, p, hz⟩ := I.tuple hq
    have hp : s.heap.IsTuple a its.toArray := p
    obtain ⟨f0, f1, f2, f3, f4, f5⟩ := hf it (by simp)
    have nat : a ≠ it := fun z => by
      obtain ⟨o, ho, h2, _⟩ := id hp
      obtain ⟨o', ho', h2', _⟩ := id hit
      rw [z, ho'] at ho
      cases ho
      rw [h2'] at h2
      exact absurd h2 (by decide)
    have hl := rv.length
    have hT : s.TypeIs (.ref e) "enumerate" := ⟨_, he, rfl⟩
    unfold pyNext
    refine wpAny_bind (wpAny_attempt (wpAny_callSpecial?_slot (name := Str.ofString "__next__") hT F.slot_enumerate_next
      (wpAny_call_entry F.slot_enumerate_next hT F.entry_enumerate_next ?_ (F.args_enumerate_next_1 _))))
    show wpAny _ _ (field (.ref e) 2 >>= _) _ _ _
    refine wpAny_bind (wpAny_field he rfl (x := .ref it) rfl ?_)
    refine wpAny_bind (wpAny_nextOf_tuple_end (A := X.A.in1) (I.ok.hd hc) hit hp (by simp; omega) fun h' y he' hx' => ?_)
    obtain ⟨o, ho, hc'⟩ := hx'
    refine wpAny_bind (wpAny_isInstance (T := "StopIteration") (b := true) ⟨o, ho, hc'⟩ isSubtype_stop ?_)
    exact wpAny_pure ⟨rfl, I.turned (t' := s.toks) (fun b o hb q => he' b o hb q) f0 f1 f3 f4 f5⟩
  self := fun A i s Q E st h => let ⟨⟨_, he⟩, _⟩ := st; wpAny_pyIter_enum he h
def iEnumT (K : PySem.W.Frag) (ta : TA) : TI := fun σ H R => ta σ H fun vs H1 => ∃ a xs, vs = [.ref a] ∧ ((SqL K H1 a xs ∧ R (Ite K a) H1) ∨ (SqT K H1 a xs ∧ R (IteT K a) H1))
theorem pi_enumT {X : Cx} {e : Expr} {ta : TA} {p pos tpos : Pos} {elts : List Expr} {kk : Nat} (hg : Gl X "enumerate") (hm : X.mg "enumerate" = none) (ha : PA X [e] ta) (hs : starEach [e] X.env = [(false, eval e X.env)]) :
    PI X (.Tuple elts kk tpos) (.Call (.Name "enumerate" p) [e] [] pos) (iEnumT X.K ta) := by
  refine ⟨fun pins s σ H R I h => ?_⟩
  refine Call_ (ld_blt I hg hm boot_enumerate (PyProof.Rows.callWith_type1 (thn (ha.run pos pins s σ H _ I h) fun us s1 ⟨vs, H1, I1, r1, q1⟩ => ?_) hs rfl))
  obtain ⟨a, xs, ex, q⟩ := q1
  subst ex
  have hle : ∀ {b : Addr}, b = s1.heap.objs.size + 1 ∨ b = s1.heap.objs.size → s1.heap.objs.size ≤ b := fun {b} e' => by
    rcases e' with z | z
    · rw [z]; exact Nat.le_add_right _ _
    · rw [z]; exact Nat.le_refl _
  cases r1 with
  | cons r rr =>
    cases rr
    cases r
    rcases q with ⟨hq, q⟩ | ⟨hq, q⟩
    · obtain ⟨its, rv, p', hz⟩ := I1.list hq
      refine call_enumerate_list p'.isList fun h' he hit hsz hk => wpAny_pyIter_enum he ?_
      have I2 : Inv X pins σ H1 { s1 with heap := h' } := I1.kept (t' := s1.toks) hk
      refine ⟨s1.heap.objs.size + 1, [s1.heap.objs.size + 1, s1.heap.objs.size], _, _, H1, rfl, I2, turn_enum a (s1.heap.objs.size + 1) s1.heap.objs.size, ⟨⟨.none, he⟩, hit, Nat.succ_ne_self _⟩, fun b hb => ?_, q⟩
      have h2 := hle (b := b) (by simpa using hb)
      exact I1.fpOk h2 (I1.hok.fresh h2)
    · obtain ⟨its, rv, p', hz⟩ := I1.tuple hq
      refine call_enumerate_tuple (show s1.heap.IsTuple a its.toArray from p') fun h' he hit hsz hk => wpAny_pyIter_enum he ?_
      have I2 : Inv X pins σ H1 { s1 with heap := h' } := I1.kept (t' := s1.toks) hk
      refine ⟨s1.heap.objs.size + 1, [s1.heap.objs.size + 1, s1.heap.objs.size], _, _, H1, rfl, I2, turn_enumT a (s1.heap.objs.size + 1) s1.heap.objs.size, ⟨⟨.none, he⟩, hit, Nat.succ_ne_self _⟩, fun b hb => ?_, q⟩
      have h2 := hle (b := b) (by simpa using hb)
      exact I1.fpOk h2 (I1.hok.fresh h2)
end L2
/-! G7: what is walked, targets, comprehensions, calls of defs, the cell. -/
namespace G
open PySem L2
variable [TQ]
/-! ### slots -/
theorem put_length : ∀ (ρ : Env) (i : Nat) (v : Option D), (put ρ i v).length = ρ.length
  | [], _, _ => rfl
  | _ :: _, 0, _ => rfl
  | _ :: r, n + 1, v => by simp [put, put_length r n v]
theorem get_put_ne : ∀ {ρ : Env} {i j : Nat} {v : Option D}, i ≠ j → get (put ρ i v) j = get ρ j
  | [], _, _, _, _ => rfl
  | _ :: _, 0, 0, _, h => absurd rfl h
  | _ :: _, 0, j + 1, _, _ => rfl
  | _ :: _, i + 1, 0, _, _ => rfl
  | _ :: r, i + 1, j + 1, v, h => by simpa [put, get] using get_put_ne (ρ := r) (fun e => h (by rw [e]))
theorem get_put_self : ∀ {ρ : Env} {i : Nat} {v : Option D} {d : D}, get (put ρ i v) i = some d → v = some d ∧ i < ρ.length
  | [], _, _, _, h => by simp [put, get] at h
  | _ :: _, 0, _, _, h => ⟨h, by simp⟩
  | _ :: r, i + 1, v, d, h => by
    obtain ⟨h1, h2⟩ := get_put_self (ρ := r) (i := i) (v := v) (d := d) h
    exact ⟨h1, by simpa using h2⟩
theorem wip_length (ρ : Env) : ∀ vs : List Nat, (wip ρ vs).length = ρ.length
  | [] => rfl
  | v :: vs => by rw [wip, put_length, wip_length ρ vs]
theorem get_wip {ρ : Env} {i : Nat} {d : D} : ∀ {vs : List Nat}, get (wip ρ vs) i = some d → get ρ i = some d ∧ i ∉ vs
  | [], h => ⟨h, by simp⟩
  | v :: vs, h => by
    rw [wip] at h
    by_cases e : v = i
    · subst e
      cases (get_put_self h).1
    · rw [get_put_ne e] at h
      obtain ⟨h1, h2⟩ := get_wip h
      exact ⟨h1, by simp only [List.mem_cons, not_or]; exact ⟨fun q => e q.symm, h2⟩⟩
theorem wipe_mem {σ : L2.St} {i : Nat} {x : Option V} : ∀ {vs : List Nat}, i ∈ vs → wipe (σ.set i x) vs = wipe σ vs
  | v :: vs, h => by
    by_cases e : i ∈ vs
    · rw [wipe, wipe, wipe_mem e]
    · have hv : v = i := by
        rcases List.mem_cons.mp h with h | h
        · exact h.symm
        · exact absurd h e
      subst hv
      have : ∀ (us : List Nat), v ∉ us → wipe (σ.set v x) us = (wipe σ us).set v x := by
        intro us
        induction us with
        | nil => intro _; rfl
        | cons u us ih =>
          intro hu
          simp only [List.mem_cons, not_or] at hu
          rw [wipe, wipe, ih hu.2, List.set_comm _ _ hu.1]
      rw [wipe, wipe, this vs e, List.set_set]
theorem wipe_get {σ : L2.St} {i : Nat} : ∀ {vs : List Nat}, i ∉ vs → (wipe σ vs)[i]? = σ[i]?
  | [], _ => rfl
  | v :: vs, h => by
    simp only [List.mem_cons, not_or] at h
    rw [wipe, List.getElem?_set_ne (Ne.symm h.1), wipe_get h.2]
theorem wipe_wipe (σ : L2.St) : ∀ vs us : List Nat, (∀ v ∈ vs, v ∈ us) → wipe (wipe σ vs) us = wipe σ us
  | [], us, _ => rfl
  | v :: vs, us, h => by
    rw [wipe, wipe_mem (h v List.mem_cons_self), wipe_wipe σ vs us fun x hx => h x (List.mem_cons_of_mem _ hx)]
/-! ### targets -/
mutual
def gT (K : PySem.W.Frag) : Tg → TG
  | .nm i => gName i
  | .tp l => gTup K l.length (gTs K l)
def gTs (K : PySem.W.Frag) : List Tg → TGs
  | [] => gNil
  | t :: ts => gCons (gT K t) (gTs K ts)
end
mutual
def tgSlots : Tg → List Nat
  | .nm i => [i]
  | .tp l => tgsSlots l
def tgsSlots : List Tg → List Nat
  | [] => []
  | t :: ts => tgSlots t ++ tgsSlots ts
end
theorem assigns_len : ∀ {l : List Tg} {ds : List D} {ρ ρ' : Env}, assigns l ds ρ = some ρ' → ds.length = l.length
  | [], [], _, _, _ => rfl
  | [], d :: ds, _, _, h => by simp [assigns] at h
  | t :: ts, [], _, _, h => by simp [assigns] at h
  | t :: ts, d :: ds, ρ, ρ', h => by
    rw [assigns] at h
    cases e : assign t d ρ with
    | none => rw [e] at h; cases h
    | some ρ1 =>
      rw [e] at h
      simp [assigns_len h]
mutual
theorem gT_ok {K : PySem.W.Frag} {G H : Hp} (hs : Same G H) (Rl : Env → L2.St → Prop) : ∀ (t : Tg) {d : D} {v : V} {ρ ρ' : Env} {σ : L2.St} {Q : L2.St → Hp → Prop},
    (∀ i ∈ tgSlots t, ∀ d v ρ σ, Rep K G d v → Rl ρ σ → Rl (put ρ i (some d)) (σ.set i (some v))) → assign t d ρ = some ρ' → Rep K G d v → Rl ρ σ → (∀ σ', Rl ρ' σ' → Q σ' H) → gT K t v σ H Q
  | .nm i, d, v, ρ, ρ', σ, Q, st, e, r, h, q => by
    rw [assign] at e
    cases e
    rw [gT]
    exact q _ (st i (by simp [tgSlots]) d v ρ σ r h)
  | .tp l, d, v, ρ, ρ', σ, Q, st, e, r, h, q => by
    cases d with
    | tup ds =>
      rw [assign] at e
      obtain ⟨a, vs, rfl, h1, h2, h3⟩ := r
      rw [gT]
      exact ⟨a, vs, rfl, same_t hs h1, by rw [← h2.length]; exact assigns_len e, gTs_ok hs Rl l (by simpa [tgSlots] using st) e h2 h q⟩
    | _ => simp [assign] at e
theorem gTs_ok {K : PySem.W.Frag} {G H : Hp} (hs : Same G H) (Rl : Env → L2.St → Prop) : ∀ (l : List Tg) {ds : List D} {vs : List V} {ρ ρ' : Env} {σ : L2.St} {Q : L2.St → Hp → Prop},
    (∀ i ∈ tgsSlots l, ∀ d v ρ σ, Rep K G d v → Rl ρ σ → Rl (put ρ i (some d)) (σ.set i (some v))) → assigns l ds ρ = some ρ' → Reps K G ds vs → Rl ρ σ → (∀ σ', Rl ρ' σ' → Q σ' H) → gTs K l vs σ H Q
  | [], [], vs, ρ, ρ', σ, Q, st, e, r, h, q => by
    rw [assigns] at e
    cases e
    cases r
    rw [gTs]
    exact ⟨rfl, q _ h⟩
  | [], d :: ds, _, _, _, _, _, _, e, _, _, _ => by simp [assigns] at e
  | t :: ts, [], _, _, _, _, _, _, e, _, _, _ => by simp [assigns] at e
  | t :: ts, d :: ds, vs, ρ, ρ', σ, Q, st, e, r, h, q => by
    obtain ⟨x, xs, rfl, r1, r2⟩ := r
    rw [assigns] at e
    cases e1 : assign t d ρ with
    | none => rw [e1] at e; cases e
    | some ρ1 =>
      rw [e1] at e
      rw [gTs]
      refine ⟨x, xs, rfl, gT_ok hs Rl t (fun i hi => st i (by simp [tgsSlots, hi])) e1 r1 h fun σ1 h1 => ?_⟩
      exact gTs_ok hs Rl ts (fun i hi => st i (by simp [tgsSlots, hi])) e r2 h1 q
end
theorem RelE.put {P : Pl} {lc : Option Addr} {G : Hp} {ρ : Env} {σ : L2.St} {i : Nat} {d : D} {v : V} (h : RelE P lc G ρ σ) (hc : P.cell ≠ some i) (r : Rep P.K G d v) : RelE P lc G (put ρ i (some d)) (σ.set i (some v)) := by
  refine ⟨fun j e hj he => ?_, fun j l hj hl => ?_, by rw [put_length, List.length_set]; exact h.len⟩
  · by_cases z : i = j
    · subst z
      obtain ⟨q, hi⟩ := get_put_self he
      cases q
      exact ⟨v, List.getElem?_set_self (by rw [← h.len]; exact hi), r⟩
    · rw [get_put_ne z] at he
      rw [List.getElem?_set_ne z]
      exact h.val j e hj he
  · have z : i ≠ j := fun e => hc (by rw [e]; exact hj)
    rw [List.getElem?_set_ne z]
    exact h.cel j l hj hl
theorem RelE.wipe {P : Pl} {lc : Option Addr} {G : Hp} {ρ : Env} {σ : L2.St} (h : RelE P lc G ρ σ) {vs : List Nat} (hc : ∀ i ∈ vs, P.cell ≠ some i) : RelE P lc G (wip ρ vs) (L2.wipe σ vs) := by
  refine ⟨fun j e hj he => ?_, fun j l hj hl => ?_, by rw [wip_length, wipe_length]; exact h.len⟩
  · obtain ⟨h1, h2⟩ := get_wip he
    rw [wipe_get h2]
    exact h.val j e hj h1
  · have z : j ∉ vs := fun m => hc j m hj
    rw [wipe_get z]
    exact h.cel j l hj hl
/-! ### what is walked -/
structure Walk (K : PySem.W.Frag) (G : Hp) (J : It) (xs : List D) : Prop where
  go : ∀ i G1 H1, Same G G1 → Same G1 H1 → i < xs.length → J.go i H1
  yld : ∀ i G1 H1 x H2, Same G G1 → Same G1 H1 → i < xs.length → J.yld i H1 x H2 → ∃ G2 d, Ext none G1 H1 G2 H2 ∧ xs[i]? = some d ∧ Rep K G2 d x
  stop : ∀ i G1 H1, Same G G1 → Same G1 H1 → xs.length ≤ i → J.stop i H1
  lim : xs.length ≤ LIM
section
variable {K : PySem.W.Frag} {G : Hp} {xs : List D} {vs : List V} {a : Addr}
theorem Walk.list (h : SqL K G a vs) (r : Reps K G xs vs) (hl : xs.length ≤ LIM) : Walk K G (Itl K a) xs where
  go := fun i G1 H1 s s1 hi => ⟨vs, vs[i]'(by rw [← r.length]; exact hi), same_l s1 (same_l s h), by simp [← r.length, hi]⟩
  yld := fun i G1 H1 x H2 s s1 hi ⟨e, y⟩ => by
    subst e
    obtain ⟨d, hd, rd⟩ := r.get' (y vs (same_l s1 (same_l s h)))
    exact ⟨G1, d, .refl s1, hd, rd.mono s⟩
  stop := fun i G1 H1 s s1 hi => ⟨vs, same_l s1 (same_l s h), by rw [← r.length]; exact hi⟩
  lim := hl
theorem Walk.tuple (h : SqT K G a vs) (r : Reps K G xs vs) (hl : xs.length ≤ LIM) : Walk K G (Itt K a) xs where
  go := fun i G1 H1 s s1 hi => ⟨vs, vs[i]'(by rw [← r.length]; exact hi), same_t s1 (same_t s h), by simp [← r.length, hi]⟩
  yld := fun i G1 H1 x H2 s s1 hi ⟨e, y⟩ => by
    subst e
    obtain ⟨d, hd, rd⟩ := r.get' (y vs (same_t s1 (same_t s h)))
    exact ⟨G1, d, .refl s1, hd, rd.mono s⟩
  stop := fun i G1 H1 s s1 hi => ⟨vs, same_t s1 (same_t s h), by rw [← r.length]; exact hi⟩
  lim := hl
theorem rngN_length : ∀ (n : Nat) (lo : Int), (rngN n lo).length = n
  | 0, _ => rfl
  | n + 1, lo => by simp [rngN, rngN_length n]
theorem rngN_get : ∀ (n : Nat) (lo : Int) (i : Nat), i < n → (rngN n lo)[i]? = some (.int (lo + i))
  | n + 1, lo, 0, _ => by simp [rngN]
  | n + 1, lo, i + 1, h => by
    rw [rngN, List.getElem?_cons_succ, rngN_get n (lo + 1) i (by omega)]
    congr 2
    omega
theorem Walk.range {lo : Int} {n : Nat} (hl : n ≤ LIM) : Walk K G (Itr lo n) (rngN n lo) where
  go := fun i G1 H1 s s1 hi => by rw [rngN_length] at hi; exact hi
  yld := fun i G1 H1 x H2 s s1 hi ⟨e, y⟩ => by
    subst e
    subst y
    rw [rngN_length] at hi
    exact ⟨G1, _, .refl s1, rngN_get n lo i hi, rfl⟩
  stop := fun i G1 H1 s s1 hi => by rw [rngN_length] at hi; exact hi
  lim := by rw [rngN_length]; exact hl
theorem enumD_length : ∀ (l : List D) (k : Nat), (enumD k l).length = l.length
  | [], _ => rfl
  | _ :: l, k => by simp [enumD, enumD_length l]
theorem enumD_get : ∀ (l : List D) (k i : Nat) (d : D), l[i]? = some d → (enumD k l)[i]? = some (.tup [.int ((k + i : Nat) : Int), d])
  | [], _, _, _, h => by simp at h
  | x :: l, k, 0, d, h => by simp at h; subst h; simp [enumD]
  | x :: l, k, i + 1, d, h => by
    rw [enumD, List.getElem?_cons_succ, enumD_get l (k + 1) i d (by simpa using h)]
    congr 5
    omega
theorem pair_new {G1 H1 : Hp} {T : Addr} {i : Nat} {d : D} {x : V} (s1 : Same G1 H1) (hT : H1 T = none) (r : Rep K G1 d x) : Ext none G1 H1 (upd G1 T (.tup [.int (i : Nat), x])) (upd H1 T (.tup [.int (i : Nat), x])) ∧ Rep K (upd G1 T (.tup [.int (i : Nat), x])) (.tup [.int (i : Nat), d]) (.ref T) := by
  have e : Ext none G1 H1 (upd G1 T (.tup [.int (i : Nat), x])) (upd H1 T (.tup [.int (i : Nat), x])) := .new s1 hT
  exact ⟨e, T, _, rfl, .of upd_same, ⟨_, _, rfl, rfl, _, _, rfl, r.mono e.sub, rfl⟩, by show 2 ≤ LIM; decide⟩
theorem Walk.enumL (h : SqL K G a vs) (r : Reps K G xs vs) (hl : xs.length ≤ LIM) : Walk K G (Ite K a) (enumD 0 xs) where
  go := fun i G1 H1 s s1 hi => by
    rw [enumD_length] at hi
    exact ⟨vs, vs[i]'(by rw [← r.length]; exact hi), same_l s1 (same_l s h), by simp [← r.length, hi]⟩
  yld := fun i G1 H1 x H2 s s1 hi ⟨T, y, e1, hT, e2, q⟩ => by
    subst e1
    subst e2
    obtain ⟨d, hd, rd⟩ := r.get' (q vs (same_l s1 (same_l s h)))
    obtain ⟨z1, z2⟩ := pair_new (i := i) s1 hT (rd.mono s)
    refine ⟨_, _, z1, ?_, z2⟩
    rw [enumD_get xs 0 i d hd]
    congr 4
    omega
  stop := fun i G1 H1 s s1 hi => by
    rw [enumD_length] at hi
    exact ⟨vs, same_l s1 (same_l s h), by rw [← r.length]; exact hi⟩
  lim := by rw [enumD_length]; exact hl
theorem Walk.enumT (h : SqT K G a vs) (r : Reps K G xs vs) (hl : xs.length ≤ LIM) : Walk K G (IteT K a) (enumD 0 xs) where
  go := fun i G1 H1 s s1 hi => by
    rw [enumD_length] at hi
    exact ⟨vs, vs[i]'(by rw [← r.length]; exact hi), same_t s1 (same_t s h), by simp [← r.length, hi]⟩
  yld := fun i G1 H1 x H2 s s1 hi ⟨T, y, e1, hT, e2, q⟩ => by
    subst e1
    subst e2
    obtain ⟨d, hd, rd⟩ := r.get' (q vs (same_t s1 (same_t s h)))
    obtain ⟨z1, z2⟩ := pair_new (i := i) s1 hT (rd.mono s)
    refine ⟨_, _, z1, ?_, z2⟩
    rw [enumD_get xs 0 i d hd]
    congr 4
    omega
  stop := fun i G1 H1 s s1 hi => by
    rw [enumD_length] at hi
    exact ⟨vs, same_t s1 (same_t s h), by rw [← r.length]; exact hi⟩
  lim := by rw [enumD_length]; exact hl
end
def OutI (P : Pl) (lc : Option Addr) (G H : Hp) (r : R (List D × Cell)) (Q : It → Hp → Prop) : Prop := match r with
  | .ok (xs, c) => ∀ J G' H', Ext lc G H G' H' → Walk P.K G' J xs → CellR P.K lc G' H' c → Q J H'
  | _ => False
def tI (P : Pl) (e : Wlk) : TI := fun σ H Q => ∃ lc G ρ c, At P lc G H ρ σ c ∧ OutI P lc G H (evI P.Φ e ρ c) Q
theorem _root_.L2.PI.imp {X : Cx} {tg e : Expr} {t t' : TI} (h : PI X tg e t) (i : ∀ σ H Q, t' σ H Q → t σ H Q) : PI X tg e t' := ⟨fun pins s σ H Q I q => h.run pins s σ H Q I (i σ H Q q)⟩
section
variable {X : Cx} {P : Pl} {pos : Pos} {tg : Expr}
theorem OutI.ext {lc : Option Addr} {G H G1 H1 : Hp} {r : R (List D × Cell)} {Q : It → Hp → Prop} (h : OutI P lc G H r Q) (e : Ext lc G H G1 H1) : OutI P lc G1 H1 r Q := by
  cases r with
  | ok x => exact fun v G' H' e' => h v G' H' (e.trans e')
  | err _ _ => exact h
  | stuck => exact h
/-- a list or a tuple, by what it is -/
def iSeq (K : PySem.W.Frag) (t : TE) : TI := fun σ H R => t σ H fun x H1 => ∃ a, x = .ref a ∧ ((∃ xs, SqL K H1 a xs) ∧ R (Itl K a) H1 ∨ (∃ xs, SqT K H1 a xs) ∧ R (Itt K a) H1)
theorem pi_seq {l : Expr} {tl : TE} (hl : PE X l tl) : PI X tg l (iSeq X.K tl) := by
  refine ⟨fun pins s σ H R I h => ?_⟩
  refine thn (hl.run pins s σ H _ I h) fun v s1 ⟨x, H1, I1, r1, q1⟩ => ?_
  obtain ⟨a, e, q⟩ := q1
  subst e
  cases r1
  rcases q with ⟨⟨xs, hq⟩, q⟩ | ⟨⟨xs, hq⟩, q⟩
  · obtain ⟨its, rv, p, hz⟩ := I1.list hq
    refine wpAny_pyIter_list p.isList ?_
    refine ⟨s1.heap.objs.size, [s1.heap.objs.size], _, _, H1, rfl, I1.kept (t' := s1.toks) fun b o e => Heap.get?_push_of_some _ e, turn_list a _, ⟨_, Heap.get?_push_size _ rfl, rfl, rfl⟩, fun b hb => ?_, q⟩
    have e : b = s1.heap.objs.size := by simpa using hb
    subst e
    exact I1.fpOk (Nat.le_refl _) (I1.hok.fresh (Nat.le_refl _))
  · obtain ⟨its, rv, p, hz⟩ := I1.tuple hq
    refine wpAny_pyIter_tuple (show s1.heap.IsTuple a its.toArray from p) ?_
    refine ⟨s1.heap.objs.size, [s1.heap.objs.size], _, _, H1, rfl, I1.kept (t' := s1.toks) fun b o e => Heap.get?_push_of_some _ e, turn_tuple a _, ⟨_, Heap.get?_push_size _ rfl, rfl, rfl⟩, fun b hb => ?_, q⟩
    have e : b = s1.heap.objs.size := by simpa using hb
    subst e
    exact I1.fpOk (Nat.le_refl _) (I1.hok.fresh (Nat.le_refl _))
theorem gi_seq {e : Expr} {x : Ex} (ok : Ok P X) (h : PE X e (tE P x)) : PI X tg e (tI P (.seq x)) := by
  refine (pi_seq h).imp fun σ H Q ⟨lc, G, ρ, c, a, h⟩ => ?_
  unfold evI at h
  refine ⟨lc, G, ρ, c, a, out_bnd (Z := fun lc G H r => OutI P lc G H r Q) h (fun _ _ z => z) (fun z => z) (fun z e => z.ext e) fun d c1 v G1 H1 e1 r1 k1 h1 => ?_⟩
  cases d with
  | tup l =>
    obtain ⟨p, vs, rfl, h1', h2', h3'⟩ := r1
    exact ⟨p, rfl, .inr ⟨⟨vs, by rw [← ok.K]; exact same_t e1.inn h1'⟩, by rw [← ok.K]; exact h1 _ G1 H1 (.refl e1.inn) (.tuple h1' h2' h3') k1⟩⟩
  | lst l =>
    obtain ⟨p, vs, rfl, h1', h2', h3'⟩ := r1
    exact ⟨p, rfl, .inl ⟨⟨vs, by rw [← ok.K]; exact same_l e1.inn h1'⟩, by rw [← ok.K]; exact h1 _ G1 H1 (.refl e1.inn) (.list h1' h2' h3') k1⟩⟩
  | _ => exact h1.elim
theorem evs_length {Φ : Tab} : ∀ {es : List Ex} {ρ : Env} {c : Cell} {ds : List D} {c' : Cell}, evs Φ es ρ c = .ok (ds, c') → ds.length = es.length
  | [], ρ, c, ds, c', h => by unfold evs C.ret at h; cases h; rfl
  | e :: es, ρ, c, ds, c', h => by
    unfold evs C.bnd at h
    cases h1 : ev Φ e ρ c with
    | ok x =>
      rw [h1] at h
      dsimp only at h
      cases h2 : evs Φ es ρ x.2 with
      | ok y =>
        rw [h2] at h
        unfold C.ret at h
        cases h
        simp [evs_length h2]
      | err _ _ => rw [h2] at h; cases h
      | stuck => rw [h2] at h; cases h
    | err _ _ => rw [h1] at h; cases h
    | stuck => rw [h1] at h; cases h
theorem out_bndI {lc : Option Addr} {G H : Hp} {c : Cell} {Q0 : It → Hp → Prop} {m : C (List D)} {f : List D → C (List D)} {Q : List V → Hp → Prop} (h : OutI P lc G H (C.bnd m f c) Q0)
    (k : ∀ d c1 v G1 H1, m c = .ok (d, c1) → Ext lc G H G1 H1 → Reps P.K G1 d v → CellR P.K lc G1 H1 c1 → OutI P lc G1 H1 (f d c1) Q0 → Q v H1) : OutA P lc G H (m c) Q := by
  unfold C.bnd at h
  cases e : m c with
  | ok x =>
    rw [e] at h
    exact fun v G' H' e' r' c' => k x.1 x.2 v G' H' e e' r' c' (h.ext e')
  | err a b => rw [e] at h; exact h.elim
  | stuck => rw [e] at h; exact h.elim
def OutIr (P : Pl) (lc : Option Addr) (G H : Hp) (r : R (List D × Cell)) (Q : It → Hp → Prop) : Prop := match r with
  | .ok (xs, c) => ∀ J G' H', Ext lc G H G' H' → (∀ K G0, Walk K G0 J xs) → CellR P.K lc G' H' c → Q J H'
  | _ => False
def tIr (P : Pl) (es : List Ex) : TI := fun σ H Q => ∃ lc G ρ c, At P lc G H ρ σ c ∧ OutIr P lc G H (evI P.Φ (.rng es) ρ c) Q
theorem OutIr.ext {lc : Option Addr} {G H G1 H1 : Hp} {r : R (List D × Cell)} {Q : It → Hp → Prop} (h : OutIr P lc G H r Q) (e : Ext lc G H G1 H1) : OutIr P lc G1 H1 r Q := by
  cases r with
  | ok x => exact fun v G' H' e' => h v G' H' (e.trans e')
  | err _ _ => exact h
  | stuck => exact h
theorem tIr_of {es : List Ex} {σ : L2.St} {H : Hp} {Q : It → Hp → Prop} (h : tI P (.rng es) σ H Q) : tIr P es σ H Q := by
  obtain ⟨lc, G, ρ, c, a, h⟩ := h
  refine ⟨lc, G, ρ, c, a, ?_⟩
  revert h
  cases evI P.Φ (.rng es) ρ c with
  | ok x => exact fun h J G' H' e w k => h J G' H' e (w _ _) k
  | err _ _ => exact fun h => h
  | stuck => exact fun h => h
theorem out_bndIr {lc : Option Addr} {G H : Hp} {c : Cell} {Q0 : It → Hp → Prop} {m : C (List D)} {f : List D → C (List D)} {Q : List V → Hp → Prop} (h : OutIr P lc G H (C.bnd m f c) Q0)
    (k : ∀ d c1 v G1 H1, m c = .ok (d, c1) → Ext lc G H G1 H1 → Reps P.K G1 d v → CellR P.K lc G1 H1 c1 → OutIr P lc G1 H1 (f d c1) Q0 → Q v H1) : OutA P lc G H (m c) Q := by
  unfold C.bnd at h
  cases e : m c with
  | ok x =>
    rw [e] at h
    exact fun v G' H' e' r' c' => k x.1 x.2 v G' H' e e' r' c' (h.ext e')
  | err a b => rw [e] at h; exact h.elim
  | stuck => rw [e] at h; exact h.elim
theorem gi_rngR1 {a : Expr} {x : Ex} {p : Pos} (hg : Gl X "range") (hm : X.mg "range" = none) (ha : PA X [a] (tA P [x])) (hs : starEach [a] X.env = [(false, eval a X.env)]) : PI X tg (.Call (.Name "range" p) [a] [] pos) (tIr P [x]) := by
  refine (pi_range1 hg hm ha hs).imp fun σ H Q ⟨lc, G, ρ, c, a, h⟩ => ?_
  unfold evI at h
  refine ⟨lc, G, ρ, c, a, out_bndIr h fun ds c1 vs G1 H1 e0 e1 r1 k1 h1 => ?_⟩
  have hl := evs_length e0
  cases e : rngD ds with
  | none => rw [e] at h1; exact h1.elim
  | some l =>
    rw [e] at h1
    match ds, e with
    | [.int n], e =>
      obtain ⟨v, rfl, rfl⟩ := reps1 r1
      obtain ⟨⟨z1, z2⟩, rfl⟩ := ite_some e
      exact ⟨n, rfl, by omega, by omega, h1 _ G1 H1 (.refl e1.inn) (fun _ _ => Walk.range (n := n.toNat) (by show _ ≤ 16777216; omega)) k1⟩
    | [.int _, .int _], e => cases hl
    | [.int _, .int _, .int _], e => cases hl
theorem gi_rngR2 {a b : Expr} {x y : Ex} {p : Pos} (hg : Gl X "range") (hm : X.mg "range" = none) (ha : PA X [a, b] (tA P [x, y])) (hs : starEach [a, b] X.env = [(false, eval a X.env), (false, eval b X.env)]) (hs2 : starEach [b] X.env = [(false, eval b X.env)]) :
    PI X tg (.Call (.Name "range" p) [a, b] [] pos) (tIr P [x, y]) := by
  refine (pi_range2 hg hm ha hs hs2).imp fun σ H Q ⟨lc, G, ρ, c, a, h⟩ => ?_
  unfold evI at h
  refine ⟨lc, G, ρ, c, a, out_bndIr h fun ds c1 vs G1 H1 e0 e1 r1 k1 h1 => ?_⟩
  have hl := evs_length e0
  cases e : rngD ds with
  | none => rw [e] at h1; exact h1.elim
  | some l =>
    rw [e] at h1
    match ds, e with
    | [.int _], e => cases hl
    | [.int a, .int b], e =>
      obtain ⟨v, w, rfl, rfl, rfl⟩ := reps2 r1
      obtain ⟨⟨⟨z1, z2⟩, z3, z4⟩, rfl⟩ := ite_some e
      exact ⟨a, b, rfl, ⟨by omega, by omega, by omega, by omega⟩, h1 _ G1 H1 (.refl e1.inn) (fun _ _ => Walk.range (n := (b - a).toNat) (by show _ ≤ 16777216; omega)) k1⟩
    | [.int _, .int _, .int _], e => cases hl
theorem gi_rng1 {a : Expr} {x : Ex} {p : Pos} (hg : Gl X "range") (hm : X.mg "range" = none) (ha : PA X [a] (tA P [x])) (hs : starEach [a] X.env = [(false, eval a X.env)]) : PI X tg (.Call (.Name "range" p) [a] [] pos) (tI P (.rng [x])) :=
  (gi_rngR1 hg hm ha hs).imp fun _ _ _ h => tIr_of h
theorem gi_rng2 {a b : Expr} {x y : Ex} {p : Pos} (hg : Gl X "range") (hm : X.mg "range" = none) (ha : PA X [a, b] (tA P [x, y])) (hs : starEach [a, b] X.env = [(false, eval a X.env), (false, eval b X.env)]) (hs2 : starEach [b] X.env = [(false, eval b X.env)]) :
    PI X tg (.Call (.Name "range" p) [a, b] [] pos) (tI P (.rng [x, y])) := (gi_rngR2 hg hm ha hs hs2).imp fun _ _ _ h => tIr_of h
theorem gi_enm {a : Expr} {x : Ex} {p tpos : Pos} {elts : List Expr} {kk : Nat} (ok : Ok P X) (hg : Gl X "enumerate") (hm : X.mg "enumerate" = none) (ha : PE X a (tE P x)) (hs : starEach [a] X.env = [(false, eval a X.env)]) :
    PI X (.Tuple elts kk tpos) (.Call (.Name "enumerate" p) [a] [] pos) (tI P (.enm x)) := by
  refine (pi_enumT hg hm (pa_cons ha pa_nil hs) hs).imp fun σ H Q ⟨lc, G, ρ, c, a, h⟩ => ?_
  unfold evI at h
  refine ⟨lc, G, ρ, c, a, out_bnd (Z := fun lc G H r => OutI P lc G H r Q) h (fun _ _ z => z) (fun z => z) (fun z e => z.ext e) fun d c1 v G1 H1 e1 r1 k1 h1 => ?_⟩
  show ∃ a xs, [v] = [V.ref a] ∧ _
  cases d with
  | tup l =>
    obtain ⟨p, vs, rfl, h1', h2', h3'⟩ := r1
    exact ⟨p, vs, rfl, .inr ⟨by rw [← ok.K]; exact same_t e1.inn h1', by rw [← ok.K]; exact h1 _ G1 H1 (.refl e1.inn) (.enumT h1' h2' h3') k1⟩⟩
  | lst l =>
    obtain ⟨p, vs, rfl, h1', h2', h3'⟩ := r1
    exact ⟨p, vs, rfl, .inl ⟨by rw [← ok.K]; exact same_l e1.inn h1', by rw [← ok.K]; exact h1 _ G1 H1 (.refl e1.inn) (.enumL h1' h2' h3') k1⟩⟩
  | _ => exact h1.elim
/-! ### comprehensions -/
def OutB (P : Pl) (lc : Option Addr) (G H : Hp) (r : R (Bool × Cell)) (Q : Bool → Hp → Prop) : Prop := match r with
  | .ok (b, c) => ∀ G' H', Ext lc G H G' H' → CellR P.K lc G' H' c → Q b H'
  | _ => False
def tC' (P : Pl) (es : List Ex) : TT := fun σ H Q => ∃ lc G ρ c, At P lc G H ρ σ c ∧ OutB P lc G H (evC P.Φ es ρ c) Q
theorem _root_.L2.PTs.imp {X : Cx} {e : List Expr} {t t' : TT} (h : PTs X e t) (i : ∀ σ H Q, t' σ H Q → t σ H Q) : PTs X e t' := ⟨fun pins s σ H Q I q => h.run pins s σ H Q I (i σ H Q q)⟩
theorem gc_nil : PTs X [] (tC' P []) := by
  refine pts_nil.imp fun σ H Q ⟨lc, G, ρ, c, a, h⟩ => ?_
  unfold evC at h
  exact h G H (.refl a.inn) a.cel
theorem gc_one {e : Expr} {x : Ex} (h : PT X e (tT P x)) : PTs X [e] (tC' P [x]) := by
  refine (pts_one h).imp fun σ H Q ⟨lc, G, ρ, c, a, h⟩ => ⟨lc, G, ρ, c, a, ?_⟩
  unfold evC C.bnd at h
  cases e : ev P.Φ x ρ c with
  | ok r =>
    obtain ⟨d, c1⟩ := r
    rw [e] at h
    cases d with
    | bl b => exact h
    | _ => exact h.elim
  | err _ _ => rw [e] at h; exact h.elim
  | stuck => rw [e] at h; exact h.elim
theorem optSet {α β : Type} {o : Option α} {f : α → C β} {c : Cell} {Z : R (β × Cell) → Prop} (h : Z (C.bnd (C.opt o) f c)) (zs : ¬ Z .stuck) : ∃ a, o = some a ∧ Z (f a c) := by
  cases o with
  | none => exact (zs h).elim
  | some a => exact ⟨a, rfl, h⟩
/-- the turns -/
theorem lc_run {K0 : PySem.W.Frag} {J : It} {t : Tg} {own : List Nat} {x : Ex} {ifs : List Ex} {lc : Option Addr} {G1 H1 : Hp} {ρ : Env} {σ : L2.St} {xs : List D} {c1 : Cell} {Q : VK} {Dd : Addr}
    (hrel : RelE P lc G1 ρ σ) (hin : Same G1 H1) (hnt : NoT G1) (htb : TB H1) (hw : Walk P.K G1 J xs) (hc : CellR P.K lc G1 H1 c1) (hD : H1 Dd = none)
    (xn : P.xn = none) (ht : ∀ i ∈ tgSlots t, i ∈ own) (hown : ∀ i ∈ own, P.cell ≠ some i)
    (h : OutF P lc G1 H1 (C.bnd (lcL (fun y => assign t y (wip ρ own)) (evC P.Φ ifs) (ev P.Φ x) xs) (fun ys => C.ret (.lst ys)) c1) Q) :
    ∃ W : Nat → Nat → Hp → Prop, (∃ m, W 0 m (upd H1 Dd (.lst []))) ∧ ∀ i m H, W i m H →
      (J.stop i H ∧ Q (.ref Dd) H) ∨ (J.go i H ∧ ∃ Nx : Hp → Prop, (∀ H', Nx H' → ∃ m', m' < m ∧ W (i + 1) m' H') ∧ ∀ x' H', J.yld i H x' H' → gT P.K t x' (wipe σ own) H' fun σ2 H2 => wipe σ2 own = wipe σ own ∧ tC' P ifs σ2 H2 fun b H3 =>
        if b = true then tE P x σ2 H3 fun y H4 => ∃ acc, H4 Dd = some (.lst acc) ∧ acc.length < sizeLine ∧ Nx (upd H4 Dd (.lst (acc ++ [y]))) else Nx H3) := by
  have hxn : ∀ {G : Hp} {σ : L2.St}, XnOk P G σ := fun z hz => by rw [xn] at hz; cases hz
  have gD : G1 Dd = none := by
    cases q : G1 Dd with
    | none => rfl
    | some o => rw [hin _ _ q] at hD; cases hD
  refine ⟨fun i m H2 => m = xs.length - i ∧ i ≤ xs.length ∧ ∃ G2 c2 acc av, Ext lc G1 H1 G2 H2 ∧ G2 Dd = none ∧ H2 Dd = some (.lst av) ∧ Reps P.K G2 acc av ∧ acc.length ≤ i ∧ CellR P.K lc G2 H2 c2 ∧
    OutF P lc G1 H1 (C.bnd (lcL (fun y => assign t y (wip ρ own)) (evC P.Φ ifs) (ev P.Φ x) (xs.drop i)) (fun ys => C.ret (.lst (acc ++ ys))) c2) Q,
    ⟨xs.length, by simp, Nat.zero_le _, G1, c1, [], [], .lay hin hD, gD, upd_same, rfl, Nat.le_refl _, hc.lay hD, by simpa using h⟩, ?_⟩
  rintro i m H2 ⟨rfl, hi, G2, c2, acc, av, e2, g2, h2, r2, hl2, k2, o2⟩
  by_cases hlt : i < xs.length
  · refine .inr ⟨hw.go i G2 H2 e2.sub e2.inn hlt, fun H' => ∃ G2 c2 acc av, Ext lc G1 H1 G2 H' ∧ G2 Dd = none ∧ H' Dd = some (.lst av) ∧ Reps P.K G2 acc av ∧ acc.length ≤ i + 1 ∧ CellR P.K lc G2 H' c2 ∧
      OutF P lc G1 H1 (C.bnd (lcL (fun y => assign t y (wip ρ own)) (evC P.Φ ifs) (ev P.Φ x) (xs.drop (i + 1))) (fun ys => C.ret (.lst (acc ++ ys))) c2) Q,
      fun H' n => ⟨xs.length - (i + 1), by omega, rfl, hlt, n⟩, fun x' H' y => ?_⟩
    obtain ⟨G3, d, e3, hd, rd⟩ := hw.yld i G2 H2 x' H' e2.sub e2.inn hlt y
    have hdrop : xs.drop i = d :: xs.drop (i + 1) := by
      rw [List.drop_eq_getElem_cons hlt]
      congr 1
      exact Option.some.inj ((List.getElem?_eq_getElem hlt).symm.trans hd)
    rw [hdrop, lcL, C.bnd_bnd] at o2
    obtain ⟨ρ1, ha, o2⟩ := optSet (Z := fun r => OutF P lc G1 H1 r Q) o2 (fun z => z)
    have k3 : CellR P.K lc G3 H' c2 := k2.ext e3
    have e13 : Ext lc G1 H1 G3 H' := e2.trans e3.any
    have d3 : H' Dd = some (.lst av) := e3.same _ _ (by simp) (fun _ z => by cases z) h2
    have g3 : G3 Dd = none := e3.fresh _ _ g2 h2
    refine gT_ok (K := P.K) (G := G3) (H := H') e3.inn (fun ρ' σ' => RelE P lc G3 ρ' σ' ∧ wipe σ' own = wipe σ own) t (fun j hj d' v' ρ' σ' r' h' => ⟨h'.1.put (hown j (ht j hj)) r', by rw [wipe_mem (ht j hj)]; exact h'.2⟩) ha rd
      ⟨(hrel.mono e13.sub).wipe hown, wipe_wipe σ own own fun _ z => z⟩ fun σ2 ⟨rel2, w2⟩ => ⟨w2, ?_⟩
    refine ⟨lc, G3, ρ1, c2, ⟨e3.inn, rel2, k3, hxn, e13.nt hnt, fun P z => e13.tab P (htb P z)⟩, ?_⟩
    unfold C.bnd at o2
    cases et : evC P.Φ ifs ρ1 c2 with
    | err _ _ => rw [et] at o2; exact o2.elim
    | stuck => rw [et] at o2; exact o2.elim
    | ok r =>
      obtain ⟨b, c3⟩ := r
      rw [et] at o2
      intro G4 H4 e4 k4
      have d4 : H4 Dd = some (.lst av) := by
        refine e4.same _ _ (fun z => ?_) (fun _ z => by cases z) d3
        obtain ⟨o, ho⟩ := hc.has z
        rw [hD] at ho; cases ho
      have g4 : G4 Dd = none := e4.fresh _ _ g3 d3
      have e14 := e13.trans e4
      cases b with
      | false => exact ⟨G4, c3, acc, av, e14, g4, d4, r2.mono (e3.sub.trans e4.sub), by omega, k4, o2⟩
      | true =>
        refine ⟨lc, G4, ρ1, c3, ⟨e4.inn, rel2.mono e4.sub, k4, hxn, e14.nt hnt, fun P z => e14.tab P (htb P z)⟩, ?_⟩
        have o2 : OutF P lc G1 H1 (C.bnd (C.bnd (ev P.Φ x ρ1) fun y => C.bnd (lcL (fun y => assign t y (wip ρ own)) (evC P.Φ ifs) (ev P.Φ x) (xs.drop (i + 1))) fun ys => C.ret (y :: ys)) (fun ys => C.ret (.lst (acc ++ ys))) c3) Q := o2
        rw [C.bnd_bnd] at o2
        refine out_bnd (Z := fun _ _ _ r => OutF P lc G1 H1 r Q) o2 (fun _ _ z => z) (fun z => z) (fun z _ => z) fun d5 c5 v5 G5 H5 e5 r5 k5 o5 => ?_
        have d5' : H5 Dd = some (.lst av) := by
          refine e5.same _ _ (fun z => ?_) (fun _ z => by cases z) d4
          obtain ⟨o, ho⟩ := hc.has z
          rw [hD] at ho; cases ho
        have g5 : G5 Dd = none := e5.fresh _ _ g4 d4
        have e15 := e14.trans e5
        have ll := r2.length
        refine ⟨av, d5', by have := hw.lim; rw [← ll]; show acc.length < LIM; omega, G5, c5, acc ++ [d5], av ++ [v5], ?_, g5, upd_same, (r2.mono ((e3.sub.trans e4.sub).trans e5.sub)).snoc r5, by simp; omega, ?_, ?_⟩
        · exact e15.put hD g5 d5' (plain_lst _ _)
        · cases c5 with
          | none => exact k5
          | some cs =>
            obtain ⟨l0, ws, q1, q2, q3, q4⟩ := k5
            have hne : l0 ≠ Dd := fun z => by
              subst z
              obtain ⟨o, ho⟩ := hc.has q1
              rw [hD] at ho; cases ho
            exact ⟨l0, ws, q1, q2, by rw [upd_ne hne]; exact q3, q4⟩
        · rw [C.bnd_bnd] at o5
          have eq : (fun a : List D => C.bnd (C.ret (d5 :: a)) fun ys => C.ret (D.lst (acc ++ ys))) = fun ys => C.ret (D.lst ((acc ++ [d5]) ++ ys)) := by
            funext ys
            rw [C.ret_bnd]
            simp
          rw [eq] at o5
          exact o5
  · have e : i = xs.length := by omega
    subst e
    rw [List.drop_length, lcL, C.ret_bnd, List.append_nil] at o2
    obtain ⟨_, o2⟩ := o2
    exact .inl ⟨hw.stop _ G2 H2 e2.sub e2.inn (Nat.le_refl _), o2 Dd G2 H2 e2 hD g2 ⟨av, h2, r2, Nat.le_trans hl2 hw.lim⟩ k2⟩
theorem lc_imp {t : Tg} {it : Wlk} {x : Ex} {fs : List Ex} {own : List Nat} (xn : P.xn = none) (hts : ∀ i ∈ tgSlots t, i ∈ own) (hown : ∀ i ∈ own, P.cell ≠ some i) {σ : L2.St} {H : Hp} {Q : VK} (h : tF P (.comp own x t it fs) σ H Q) : tLc (tI P it) (gT P.K t) (tC' P fs) (tE P x) own σ H Q := by
  obtain ⟨lc, G, ρ, c, a, h⟩ := h
  unfold ev at h
  refine ⟨lc, G, ρ, c, a, ?_⟩
  unfold C.bnd at h
  cases e : evI P.Φ it ρ c with
  | err _ _ => rw [e] at h; exact h.elim
  | stuck => rw [e] at h; exact h.elim
  | ok r =>
    obtain ⟨xs, c1⟩ := r
    rw [e] at h
    intro J G1 H1 e1 w1 k1 Dd hD
    exact lc_run (K0 := P.K) (a.rel.mono e1.sub) e1.inn (e1.nt a.nt) (fun P z => e1.tab P (a.tb P z)) w1 k1 hD xn hts hown (OutF.ext h e1)
end
end G
/-! G8: calls of defs, the cell, slices. -/
namespace G
open PySem L2
variable [TQ]
/-- the promise of a def: data in, data out -/
def spF (K : PySem.W.Frag) (n : Nat) (φ : List D → R D) : Sp := fun vs H Q _ => vs.length = n ∧ ∃ G ds d, Same G H ∧ NoT G ∧ TB H ∧ Reps K G ds vs ∧ φ ds = .ok d ∧ ∀ v G' H', Ext none G H G' H' → Rep K G' d v → Q v H'
/-- the promise of a def whose first argument is the cell -/
def spM (K : PySem.W.Frag) (n : Nat) (ψ : List D → List D → R (D × List D)) : Sp := fun vs H Q _ => vs.length = n + 1 ∧ ∃ l ws G ds cs cvs d cs', vs = .ref l :: ws ∧ Same G H ∧ NoT G ∧ TB H ∧ G l = none ∧ H l = some (.lst cvs) ∧ Reps K G cs cvs ∧ Reps K G ds ws ∧ ψ ds cs = .ok (d, cs') ∧
  ∀ v G' H', Ext (some l) G H G' H' → Rep K G' d v → CellR K (some l) G' H' (some cs') → Q v H'
theorem passE0 {X : Cx} : Passes (L2.CX X.prog X.w) X E0 := fun _ _ _ _ _ _ _ h => by
  obtain ⟨_, _, _, _, _, _, _, _, _, _, _, _, z⟩ := h
  exact z.elim
section
variable {X : Cx} {P : Pl} {pos : Pos}
theorem liftOk {α β : Type} {r : R α} {f : α → C β} {c : Cell} {Z : R (β × Cell) → Prop} (h : Z (C.bnd (C.lift r) f c)) (zs : ¬ Z .stuck) (zk : ∀ k x, ¬ Z (.err k x)) : ∃ a, r = .ok a ∧ Z (f a c) := by
  cases r with
  | ok a => exact ⟨a, rfl, h⟩
  | err k x => exact (zs h).elim
  | stuck => exact (zs h).elim
theorem hasC {lc : Option Addr} {G H : Hp} {α : Type} {f : Unit → C α} {c : Cell} {Z : R (α × Cell) → Prop} (hc : CellR P.K lc G H c) (h : Z (C.bnd hasCell f c)) (zs : ¬ Z .stuck) : ∃ l, lc = some l ∧ Z (f () c) := by
  cases c with
  | none => exact (zs h).elim
  | some cs =>
    obtain ⟨l, vs, q, _⟩ := hc
    exact ⟨l, q, h⟩
theorem ge_call {k n id : Nat} {φ : List D → R D} {f : Addr} {fd : FuncData} {ps : List Str} {x : Str} {p : Pos} {e : Expr} {es : List Expr} {xs : List Ex} (ok : Ok P X) (hΦ : P.Φ.fn id = some φ)
    (F : FnOk X.prog X.w X.K X.mg X.base (L2.CX X.prog X.w) k f fd ps (spF X.K n φ)) (hn : n = (e :: es).length) (hxs : xs.length = (e :: es).length) (hr : Room k X.A) (hg : Gl X x) (hm : X.mg x = some (.ref f)) (hk : PySem.W.keepIn X.K (.ref f) = true) (hb : Binds X.K fd ps []) (ha : PA X (e :: es) (tA P xs))
    (hdb : (x == ("__debug__" : Str)) = false) (he : starEach (e :: es) X.env = (false, eval e X.env) :: starEach es X.env) (hpl : (backTo pos (starEach es X.env)).any (·.1) = false) :
    PE X (.Call (.Name x p) (e :: es) [] pos) (tE P (.call id xs)) := by
  refine (pe_call F hr hg hm hk hb .nil passE0 ha hdb he hpl).imp fun σ H Q ⟨lc, G, ρ, c, a, h⟩ => ?_
  unfold ev at h
  refine ⟨lc, G, ρ, c, a, ?_⟩
  unfold C.bnd at h
  cases e0 : evs P.Φ xs ρ c with
  | err _ _ => rw [e0] at h; exact h.elim
  | stuck => rw [e0] at h; exact h.elim
  | ok r =>
    obtain ⟨ds, c1⟩ := r
    have hl := evs_length e0
    rw [e0, hΦ] at h
    intro vs G1 H1 e1 r1 k1
    have h : OutE P lc G H (C.lift (φ ds) c1) Q := h
    cases eφ : φ ds with
    | err _ _ => rw [eφ] at h; exact h.elim
    | stuck => rw [eφ] at h; exact h.elim
    | ok d =>
      rw [eφ] at h
      have hlen : vs.length = n := by rw [hn, ← r1.length, hl, hxs]
      show spF X.K n φ (vs ++ []) H1 Q E0
      rw [List.append_nil]
      exact ⟨hlen, G1, ds, d, e1.inn, e1.nt a.nt, fun P z => e1.tab P (a.tb P z), by rw [← ok.K]; exact r1, eφ, fun v G' H' e' r' => h v G' H' (e1.trans e'.any) (by rw [ok.K]; exact r') (k1.ext e')⟩
theorem ge_callM {k n id i : Nat} {ψ : List D → List D → R (D × List D)} {f : Addr} {fd : FuncData} {ps : List Str} {x y : Str} {p py : Pos} {es : List Expr} {xs : List Ex} (ok : Ok P X) (hΦ : P.Φ.mt id = some ψ) (hcell : P.cell = some i)
    (hN : X.N[i]? = some y) (hv : Vis X.env.scope y) (hd : (y == ("__debug__" : Str)) = false) (hcd : (y == ("__classdict__" : Str)) = false)
    (F : FnOk X.prog X.w X.K X.mg X.base (L2.CX X.prog X.w) k f fd ps (spM X.K n ψ)) (hn : n = es.length) (hxs : xs.length = es.length) (hr : Room k X.A) (hg : Gl X x) (hm : X.mg x = some (.ref f)) (hk : PySem.W.keepIn X.K (.ref f) = true) (hb : Binds X.K fd ps []) (ha : PA X es (tA P xs))
    (hdb : (x == ("__debug__" : Str)) = false) (he : starEach (.Name y py :: es) X.env = (false, eval (.Name y py) X.env) :: starEach es X.env) (hpl : (backTo pos (starEach es X.env)).any (·.1) = false) :
    PE X (.Call (.Name x p) (.Name y py :: es) [] pos) (tE P (.callM id xs)) := by
  refine (pe_call F hr hg hm hk hb .nil passE0 (pa_cons (pe_var hN hv hd hcd) ha he) hdb he hpl).imp fun σ H Q ⟨lc, G, ρ, c, a, h⟩ => ?_
  unfold ev at h
  obtain ⟨l, hl0, h⟩ := hasC (P := P) (lc := lc) (G := G) (H := H) a.cel (Z := fun r => OutE P lc G H r Q) h (fun z => z)
  subst hl0
  unfold C.bnd at h
  cases e0 : evs P.Φ xs ρ c with
  | err _ _ => rw [e0] at h; exact h.elim
  | stuck => rw [e0] at h; exact h.elim
  | ok r =>
    obtain ⟨ds, c1⟩ := r
    have hl := evs_length e0
    rw [e0, hΦ] at h
    have h : OutE P (some l) G H (callMR ψ ds c1) Q := h
    cases c1 with
    | none => exact h.elim
    | some cs =>
      have h : OutE P (some l) G H (match ψ ds cs with | .ok (d, cs') => .ok (d, some cs') | .err _ _ => .stuck | .stuck => .stuck) Q := h
      cases eφ : ψ ds cs with
      | err _ _ => rw [eφ] at h; exact h.elim
      | stuck => rw [eφ] at h; exact h.elim
      | ok z =>
        obtain ⟨d, cs'⟩ := z
        rw [eφ] at h
        refine ⟨.ref l, a.rel.cel i l hcell rfl, ?_⟩
        refine ⟨some l, G, ρ, c, a, ?_⟩
        rw [e0]
        intro vs G1 H1 e1 r1 k1
        obtain ⟨l', cvs, q1, q2, q3, q4⟩ := k1
        cases q1
        show spM X.K n ψ (.ref l :: vs ++ []) H1 Q E0
        rw [List.append_nil]
        refine ⟨by simp [← r1.length, hl, hxs, hn], l, vs, G1, ds, cs, cvs, d, cs', rfl, e1.inn, e1.nt a.nt, fun P z => e1.tab P (a.tb P z), q2, q3, by rw [← ok.K]; exact q4, by rw [← ok.K]; exact r1, eφ, fun v G' H' e' r' k' => h v G' H' (e1.trans e') (by rw [ok.K]; exact r') (by rw [ok.K]; exact k')⟩
/-- row[k] -/
theorem ge_cellIx {i : Nat} {y : Str} {py : Pos} {b : Expr} {x : Ex} (ok : Ok P X) (hcell : P.cell = some i) (hN : X.N[i]? = some y) (hv : Vis X.env.scope y) (hd : (y == ("__debug__" : Str)) = false) (hcd : (y == ("__classdict__" : Str)) = false)
    (hb : PE X b (tE P x)) (hp : PlainIx b) : PE X (.Subscript (.Name y py) b pos) (tE P (.cellIx x)) := by
  refine (pe_ix ix_list (pe_var hN hv hd hcd) hb hp).imp fun σ H Q ⟨lc, G, ρ, c, a, h⟩ => ?_
  unfold ev at h
  obtain ⟨l, hl0, h⟩ := hasC (P := P) (lc := lc) (G := G) (H := H) a.cel (Z := fun r => OutE P lc G H r Q) h (fun z => z)
  subst hl0
  refine ⟨.ref l, a.rel.cel i l hcell rfl, some l, G, ρ, c, a, oe h fun d c1 v G1 H1 e1 r1 k1 h1 => ?_⟩
  cases c1 with
  | none => exact h1.elim
  | some cs =>
    have h2 : OutE P (some l) G1 H1 (match index (.lst cs) d with | some x => .ok (x, some cs) | none => .stuck) Q := h1
    cases e : index (.lst cs) d with
    | none => rw [e] at h2; exact h2.elim
    | some w =>
      rw [e] at h2
      dsimp only at h2
      obtain ⟨l', cvs, q1, q2, q3, q4⟩ := id k1
      cases q1
      cases d with
      | int j =>
        simp only [index] at e
        obtain ⟨n, hn, e⟩ := Option.bind_eq_some_iff.mp e
        obtain ⟨v', hv', rv⟩ := q4.get e
        cases r1
        refine ⟨l, cvs, j, v', rfl, rfl, .of q3, ?_, OutE.out (d := w) h2 e1.inn rv k1⟩
        rw [atI_eq, ← q4.length, hn]
        exact hv'
      | _ => simp [index] at e
/-! ### slices -/
/-- a part of a slice -/
def PartR (P : Pl) (x : Ex) (t : TO) : Prop := ∀ {lc : Option Addr} {G H : Hp} {ρ : Env} {σ : L2.St} {c : Cell} {Q : Option Int → Hp → Prop}, At P lc G H ρ σ c →
  (∃ d c1, ev P.Φ x ρ c = .ok (d, c1) ∧ ∃ o, partD x d = some o ∧ ∀ G1 H1, Ext lc G H G1 H1 → CellR P.K lc G1 H1 c1 → Q o H1) → t σ H Q
theorem part_none : PartR P (.cst .non) tNoPart := by
  intro lc G H ρ σ c Q a ⟨d, c1, e, o, eo, h⟩
  unfold ev C.ret at e
  cases e
  cases eo
  exact h G H (.refl a.inn) a.cel
def isCstNon : Ex → Bool
  | .cst .non => true
  | _ => false
theorem part_some {x : Ex} (hx : isCstNon x = false) : PartR P x (tPart (tE P x)) := by
  intro lc G H ρ σ c Q a ⟨d, c1, e, o, eo, h⟩
  have hd : ∃ i, d = .int i ∧ o = some i := by
    cases x with
    | cst y =>
      cases y with
      | non => cases hx
      | _ => cases d <;> simp [partD] at eo <;> exact ⟨_, rfl, eo.symm⟩
    | _ => cases d <;> simp [partD] at eo <;> exact ⟨_, rfl, eo.symm⟩
  obtain ⟨i, rfl, rfl⟩ := hd
  refine ⟨lc, G, ρ, c, a, ?_⟩
  rw [e]
  intro v G1 H1 e1 r1 k1
  cases r1
  exact ⟨i, rfl, h G1 H1 e1 k1⟩
def rSlG (K : PySem.W.Frag) : V → Option Int → Option Int → Hp → VK → Prop := fun x lo hi H Q => rSlA K x lo hi H Q ∨ rSlL K x lo hi H Q ∨ rSlS x lo hi H Q
theorem sl_G : SlR X (rSlG X.K) := sl_tupA.or (sl_list.or sl_str)
theorem cutO_V {α : Type} (l : List α) (lo hi : Option Int) : cutO l lo hi = (l.drop (HT.sIx l.length 0 lo)).take (HT.sIx l.length l.length hi - HT.sIx l.length 0 lo) := by
  cases lo <;> cases hi <;> rfl
theorem Reps.cutO {K : PySem.W.Frag} {H : Hp} {l : List D} {vs : List V} (r : Reps K H l vs) (lo hi : Option Int) : Reps K H (G.cutO l lo hi) (cutV vs lo hi) := by
  rw [cutO_V, cutV, ← r.length]
  exact (r.drop _).take _
theorem cutO_len {α : Type} (l : List α) (lo hi : Option Int) : (cutO l lo hi).length ≤ l.length := by
  rw [cutO_V]
  rw [List.length_take, List.length_drop]
  omega
theorem ge_slc {a : Expr} {lo hi : Option Expr} {x y z : Ex} {tl th : TO} {p2 : Pos} (ok : Ok P X) (ha : PE X a (tE P x)) (hl : PO X lo tl) (hu : PO X hi th) (pl : PartR P y tl) (ph : PartR P z th) : PE X (.Subscript a (.Slice lo hi none p2) pos) (tE P (.slc x y z)) := by
  refine (pe_slice sl_G ha hl hu).imp fun σ H Q ⟨lc, G, ρ, c, a, h⟩ => ?_
  unfold ev at h
  refine ⟨lc, G, ρ, c, a, oe h fun d c1 v G1 H1 e1 r1 k1 h1 => ?_⟩
  unfold C.bnd at h1
  cases ey : ev P.Φ y ρ c1 with
  | err _ _ => rw [ey] at h1; exact h1.elim
  | stuck => rw [ey] at h1; exact h1.elim
  | ok r2 =>
    obtain ⟨dy, c2⟩ := r2
    rw [ey] at h1
    dsimp only at h1
    cases ez : ev P.Φ z ρ c2 with
    | err _ _ => rw [ez] at h1; exact h1.elim
    | stuck => rw [ez] at h1; exact h1.elim
    | ok r3 =>
      obtain ⟨dz, c3⟩ := r3
      rw [ez] at h1
      dsimp only at h1
      cases e2 : partD y dy with
      | none => rw [e2] at h1; exact h1.elim
      | some l =>
        cases e3 : partD z dz with
        | none => rw [e2, e3] at h1; exact h1.elim
        | some u =>
          rw [e2, e3] at h1
          have h1 : OutE P lc G1 H1 (C.opt (slice d l u) c3) Q := h1
          have a1 := a.step e1 k1
          refine pl a1 ⟨dy, c2, ey, l, e2, fun G2 H2 x2 k2 => ?_⟩
          refine ph (a1.step x2 k2) ⟨dz, c3, ez, u, e3, fun G3 H3 x3 k3 => ?_⟩
          have h3 := h1.ext (x2.trans x3)
          obtain ⟨w, ew, h3⟩ := h3.opt
          have r3 := r1.mono (x2.sub.trans x3.sub)
          cases d with
          | tup xs =>
            cases ew
            obtain ⟨p, vs, rfl, q1, q2, q3⟩ := r3
            refine .inl ⟨p, vs, rfl, by rw [← ok.K]; exact same_t x3.inn q1, fun hw => ?_, fun _ p2 hp => ?_⟩
            · have e : cutO xs l u = xs := by
                have hw1 : HT.sIx xs.length 0 l = 0 := by rw [q2.length]; exact hw.1
                have hw2 : HT.sIx xs.length xs.length u = xs.length := by rw [q2.length]; exact hw.2
                rw [cutO_V, hw1, hw2]; simp
              rw [e] at h3
              exact h3.out x3.inn ⟨p, vs, rfl, q1, q2, q3⟩ k3
            · exact h3.newT x3.inn (q2.cutO l u) (Nat.le_trans (cutO_len _ _ _) q3) k3 hp
          | lst xs =>
            cases ew
            obtain ⟨p, vs, rfl, q1, q2, q3⟩ := r3
            refine .inr (.inl ⟨p, vs, rfl, by rw [← ok.K]; exact same_l x3.inn q1, fun p2 hp => ?_⟩)
            have s2 : Same G3 (upd G3 p2 (.lst (cutV vs l u))) := (Ext.new (lc := lc) x3.inn hp).sub
            exact h3 _ _ _ (.new x3.inn hp) ⟨p2, _, rfl, .of upd_same, (q2.cutO l u).mono s2, Nat.le_trans (cutO_len _ _ _) q3⟩ (k3.new x3.inn hp)
          | str xs =>
            obtain ⟨hz, rfl⟩ := ite_some ew
            obtain ⟨rfl, q2⟩ := r3
            refine .inr (.inr ⟨_, rfl, by rw [strLen]; exact hz, ?_⟩)
            have e : cutS ⟨xs.toArray⟩ l u = ⟨(cutO xs l u).toArray⟩ := by
              unfold cutS
              rw [strLen, cutO_V]
            rw [e]
            refine h3.out x3.inn ⟨rfl, ?_⟩ k3
            rw [okS_iff] at q2 ⊢
            intro ch hch
            rw [cutO_V] at hch
            exact q2 ch (List.mem_of_mem_drop (List.mem_of_mem_take hch))
          | _ => simp [slice] at ew
end
end G
/-! G9: sorted. -/
namespace G
open PySem L2 SrtO PyProof.Rows
variable [TQ]
/-! ### the small sort is sorted and stable -/
section
variable {α β : Type} {lt : α → α → Bool}
theorem mem_insBy {x y : α} : ∀ {l : List α}, y ∈ insBy lt x l ↔ y = x ∨ y ∈ l
  | [] => by simp [insBy]
  | z :: l => by
    rw [insBy]
    split
    · simp only [List.mem_cons, mem_insBy (l := l)]
      constructor
      · rintro (h | h | h)
        · exact .inr (.inl h)
        · exact .inl h
        · exact .inr (.inr h)
      · rintro (h | h | h)
        · exact .inr (.inl h)
        · exact .inl h
        · exact .inr (.inr h)
    · simp
theorem insBy_perm (x : α) : ∀ l : List α, (insBy lt x l).Perm (x :: l)
  | [] => List.Perm.refl _
  | z :: l => by
    rw [insBy]
    split
    · exact ((insBy_perm x l).cons z).trans (List.Perm.swap x z l)
    · exact List.Perm.refl _
theorem sortBy_perm : ∀ l : List α, (sortBy lt l).Perm l
  | [] => List.Perm.refl _
  | x :: l => (insBy_perm x _).trans ((sortBy_perm l).cons x)
theorem insBy_srtd (O : Swo lt) (x : α) : ∀ {l : List α}, Srtd lt l → Srtd lt (insBy lt x l)
  | [], _ => srtd_one x
  | z :: l, h => by
    rw [insBy]
    split
    · rename_i hz
      refine List.pairwise_cons.mpr ⟨fun y hy => ?_, insBy_srtd O x (List.pairwise_cons.mp h).2⟩
      rcases mem_insBy.mp hy with e | hy
      · rw [e]; exact O.asym _ _ hz
      · exact srtd_head h y hy
    · rename_i hz
      have hz : lt z x = false := by simpa using hz
      exact List.pairwise_cons.mpr ⟨fun y hy => O.le_all h hz y hy, h⟩
theorem sortBy_srtd (O : Swo lt) : ∀ l : List α, Srtd lt (sortBy lt l)
  | [] => List.Pairwise.nil
  | x :: l => insBy_srtd O x (sortBy_srtd O l)
theorem insBy_cls (O : Swo lt) (x w : α) : ∀ l : List α, (insBy lt x l).filter (SrtO.eqv lt w) = (x :: l).filter (SrtO.eqv lt w)
  | [] => rfl
  | z :: l => by
    rw [insBy]
    split
    · rename_i hz
      rw [List.filter_cons, insBy_cls O x w l]
      by_cases h1 : SrtO.eqv lt w z = true
      · have h2 : ¬ SrtO.eqv lt w x = true := fun h2 => by
          rw [eqv_iff] at h1 h2
          have q := O.ltle hz h2.1
          rw [h1.2] at q
          cases q
        simp [List.filter_cons, h1, h2]
      · simp [List.filter_cons, h1]
    · rfl
theorem sortBy_stb (O : Swo lt) : ∀ l : List α, Stb lt (sortBy lt l) l
  | [] => Stb.refl _
  | x :: l => ⟨sortBy_perm _, fun w => by
    rw [sortBy, insBy_cls O x w]
    simp only [List.filter_cons, (sortBy_stb O l).cls w]⟩
theorem sort_paired {lt' : β → β → Bool} {R : α → β → Prop} (h : ∀ a b a' b', R a b → R a' b' → lt a a' = lt' b b') : ∀ {l : List α} {m : List β}, Paired R l m → Paired R (sortBy lt l) (sortBy lt' m)
  | _, _, .nil => .nil
  | _, _, .cons (a := x) (b := y) r t => by
    have ih := sort_paired h t
    have ins : ∀ {l : List α} {m : List β}, Paired R l m → Paired R (insBy lt x l) (insBy lt' y m) := by
      intro l m p
      induction p with
      | nil => exact .cons r .nil
      | cons r' t' ih =>
        rw [insBy, insBy, h _ _ _ _ r' r]
        split
        · exact .cons r' ih
        · exact .cons r (.cons r' t')
    exact ins ih
end
/-! ### an order of all data -/
def ltL : List Int → List Int → Bool
  | [], [] => false
  | [], _ :: _ => true
  | _ :: _, [] => false
  | x :: xs, y :: ys => if x = y then ltL xs ys else decide (x < y)
theorem ltL_asym : ∀ x y : List Int, ltL x y = true → ltL y x = false
  | [], [], h => by cases h
  | [], _ :: _, _ => rfl
  | _ :: _, [], h => by cases h
  | x :: xs, y :: ys, h => by
    rw [ltL] at h ⊢
    by_cases e : x = y
    · subst e; simp only [if_true] at h ⊢; exact ltL_asym xs ys h
    · rw [if_neg e] at h
      rw [if_neg (Ne.symm e)]
      have := of_decide_eq_true h
      exact decide_eq_false (by omega)
theorem ltL_tr : ∀ x y z : List Int, ltL y x = false → ltL z y = false → ltL z x = false
  | [], [], [], _, _ => rfl
  | [], [], _ :: _, _, _ => rfl
  | [], _ :: _, [], _, h => by cases h
  | [], _ :: _, _ :: _, _, _ => rfl
  | _ :: _, [], z, h, _ => by cases h
  | _ :: _, _ :: _, [], _, h => by cases h
  | x :: xs, y :: ys, z :: zs, h1, h2 => by
    rw [ltL] at h1 h2 ⊢
    by_cases e1 : y = x
    · subst e1
      simp only [if_true] at h1
      by_cases e2 : z = y
      · subst e2
        simp only [if_true] at h2 ⊢
        exact ltL_tr xs ys zs h1 h2
      · rw [if_neg e2] at h2 ⊢
        exact h2
    · rw [if_neg e1] at h1
      have h1 := of_decide_eq_false h1
      by_cases e2 : z = y
      · subst e2
        rw [if_neg e1]
        exact decide_eq_false h1
      · rw [if_neg e2] at h2
        have h2 := of_decide_eq_false h2
        rw [if_neg (by omega)]
        exact decide_eq_false (by omega)
mutual
def enc : D → List Int
  | .int i => [i]
  | .str s => s.map (fun c : Nat => (c : Int) + 1) ++ [0]
  | .tup l => encs l
  | _ => []
def encs : List D → List Int
  | [] => []
  | d :: ds => enc d ++ encs ds
end
theorem ltL_str : ∀ (a b : List Nat) (r r' : List Int), ltL (a.map (fun c : Nat => (c : Int) + 1) ++ 0 :: r) (b.map (fun c : Nat => (c : Int) + 1) ++ 0 :: r') = if a = b then ltL r r' else ltS a b
  | [], [], r, r' => by simp [ltL]
  | [], y :: b, r, r' => by simp [ltL, ltS]; omega
  | x :: a, [], r, r' => by
    simp only [List.map_cons, List.map_nil, List.cons_append, List.nil_append, ltL, ltS]
    rw [if_neg (by omega), if_neg (by simp)]
    exact decide_eq_false (by omega)
  | x :: a, y :: b, r, r' => by
    have ih := ltL_str a b r r'
    simp only [List.map_cons, List.cons_append, ltL, ltS]
    by_cases e : x = y
    · subst e
      simp only [if_true, List.cons.injEq, true_and]
      exact ih
    · have e2 : ¬ ((x : Int) + 1 = (y : Int) + 1) := by omega
      have e3 : ¬ (x :: a = y :: b) := fun q => e (List.cons.inj q).1
      rw [if_neg e2, if_neg e3, if_neg e]
      congr 1
      simp only [eq_iff_iff]
      omega
mutual
theorem enc_lt : ∀ (sh : Sh) (a b : D) (r r' : List Int), hasSh sh a = true → hasSh sh b = true → ltL (enc a ++ r) (enc b ++ r') = if G.eqv a b then ltL r r' else ltD a b
  | .i, a, b, r, r', ha, hb => by
    cases a <;> cases b <;> first | (simp [hasSh] at ha; done) | (simp [hasSh] at hb; done) | skip
    rename_i x y
    simp only [enc, List.cons_append, List.nil_append, ltL, G.eqv, ltD, beq_iff_eq]
  | .s, a, b, r, r', ha, hb => by
    cases a <;> cases b <;> first | (simp [hasSh] at ha; done) | (simp [hasSh] at hb; done) | skip
    rename_i x y
    simp only [enc, List.append_assoc, List.cons_append, List.nil_append, G.eqv, ltD, beq_iff_eq]
    exact ltL_str x y r r'
  | .t l, a, b, r, r', ha, hb => by
    cases a <;> cases b <;> first | (simp [hasSh] at ha; done) | (simp [hasSh] at hb; done) | skip
    rename_i x y
    simp only [enc, G.eqv, ltD]
    exact encs_lt l x y r r' (by simpa [hasSh] using ha) (by simpa [hasSh] using hb)
theorem encs_lt : ∀ (l : List Sh) (a b : List D) (r r' : List Int), hasShs l a = true → hasShs l b = true → ltL (encs a ++ r) (encs b ++ r') = if eqvs a b then ltL r r' else ltDs a b
  | [], a, b, r, r', ha, hb => by
    cases a <;> cases b <;> first | (simp [hasShs] at ha; done) | (simp [hasShs] at hb; done) | skip
    simp [encs, eqvs]
  | s :: ss, a, b, r, r', ha, hb => by
    cases a <;> cases b <;> first | (simp [hasShs] at ha; done) | (simp [hasShs] at hb; done) | skip
    rename_i x xs y ys
    simp only [hasShs, Bool.and_eq_true] at ha hb
    simp only [encs, List.append_assoc, eqvs, ltDs]
    rw [enc_lt s x y _ _ ha.1 hb.1, encs_lt ss xs ys r r' ha.2 hb.2]
    by_cases h1 : G.eqv x y = true
    · simp [h1]
    · simp [h1]
end
theorem ltS_irr : ∀ a : List Nat, ltS a a = false
  | [] => rfl
  | x :: a => by rw [ltS, if_pos rfl]; exact ltS_irr a
mutual
theorem eqv_nlt : ∀ (a b : D), G.eqv a b = true → ltD a b = false
  | .int x, b, h => by
    cases b <;> simp [G.eqv] at h <;> simp [ltD, h]
  | .str x, b, h => by
    cases b <;> simp [G.eqv] at h
    subst h
    simp only [ltD]
    exact ltS_irr _
  | .tup x, b, h => by
    cases b <;> simp [G.eqv] at h
    simp only [ltD]
    exact eqvs_nlt x _ h
  | .non, b, _ => by cases b <;> rfl
  | .bl _, b, _ => by cases b <;> rfl
  | .lst _, b, _ => by cases b <;> rfl
  | .dct _ _, b, _ => by cases b <;> rfl
theorem eqvs_nlt : ∀ (a b : List D), eqvs a b = true → ltDs a b = false
  | [], [], _ => rfl
  | [], _ :: _, h => by simp [eqvs] at h
  | _ :: _, [], h => by simp [eqvs] at h
  | x :: xs, y :: ys, h => by
    simp only [eqvs, Bool.and_eq_true] at h
    simp only [ltDs, h.1, if_true]
    exact eqvs_nlt xs ys h.2
end
theorem enc_cmp {sh : Sh} {a b : D} (ha : hasSh sh a = true) (hb : hasSh sh b = true) : ltD a b = ltL (enc a) (enc b) := by
  have h := enc_lt sh a b [] [] ha hb
  rw [List.append_nil, List.append_nil] at h
  rw [h]
  cases e : G.eqv a b with
  | false => simp
  | true =>
    simp only [if_true, ltL]
    exact eqv_nlt a b e
/-! ### data off the model's heap -/
mutual
def VRep (h : Heap) : D → Value → Prop
  | .int i, u => ∃ t, u = .int i t
  | .str s, u => okS s ∧ ∃ t, u = .str ⟨s.toArray⟩ t
  | .tup l, u => ∃ a its, u = .ref a ∧ h.IsTuple a its.toArray ∧ VReps h l its
  | _, _ => False
def VReps (h : Heap) : List D → List Value → Prop
  | [], us => us = []
  | d :: ds, us => ∃ x xs, us = x :: xs ∧ VRep h d x ∧ VReps h ds xs
end
def rdV (h : Heap) : Nat → Value → D
  | _, .int i _ => .int i
  | _, .str x _ => .str x.cps.toList
  | n + 1, .ref a => match h.get? a with
    | some o => match o.data with
      | .seq its _ => .tup (its.toList.map (rdV h n))
      | _ => .non
    | none => .non
  | _, _ => .non
section
variable {h : Heap}
mutual
theorem VRep.rd : ∀ {n : Nat} {d : D} {u : Value}, shp n d = true → VRep h d u → rdV h n u = d
  | n, .int i, _, _, r => by obtain ⟨t, rfl⟩ := r; cases n <;> rfl
  | n, .str s, _, _, r => by obtain ⟨_, t, rfl⟩ := r; cases n <;> simp [rdV]
  | 0, .tup l, _, hs, _ => by simp [shp] at hs
  | n + 1, .tup l, _, hs, r => by
    obtain ⟨a, its, rfl, ⟨o, ho, _, m, hd⟩, r⟩ := r
    simp only [rdV, ho, hd]
    congr 1
    exact VReps.rd (by simpa [shp] using hs) r
  | _, .non, _, _, r => r.elim
  | _, .bl _, _, _, r => r.elim
  | _, .lst _, _, _, r => r.elim
  | _, .dct _ _, _, _, r => r.elim
theorem VReps.rd : ∀ {n : Nat} {l : List D} {us : List Value}, (∀ d ∈ l, shp n d = true) → VReps h l us → us.map (rdV h n) = l
  | _, [], _, _, r => by cases r; rfl
  | n, d :: ds, _, hs, r => by
    obtain ⟨x, xs, rfl, r1, r2⟩ := r
    rw [List.map_cons, VRep.rd (hs d List.mem_cons_self) r1, VReps.rd (fun e he => hs e (List.mem_cons_of_mem _ he)) r2]
end
theorem VReps.length : ∀ {l : List D} {us : List Value}, VReps h l us → us.length = l.length
  | [], _, r => by cases r; rfl
  | d :: ds, _, r => by
    obtain ⟨x, xs, rfl, r1, r2⟩ := r
    simp [VReps.length r2]
theorem VReps.get : ∀ {l : List D} {us : List Value} {i : Nat} {d : D}, VReps h l us → l[i]? = some d → ∃ u, us[i]? = some u ∧ VRep h d u
  | [], _, _, _, _, e => by simp at e
  | d :: ds, _, 0, _, r, e => by
    obtain ⟨x, xs, rfl, r1, r2⟩ := r
    simp at e; subst e
    exact ⟨x, rfl, r1⟩
  | d :: ds, _, i + 1, _, r, e => by
    obtain ⟨x, xs, rfl, r1, r2⟩ := r
    obtain ⟨u, q1, q2⟩ := VReps.get r2 (by simpa using e)
    exact ⟨u, by simpa using q1, q2⟩
mutual
theorem VRep.reads : ∀ {n : Nat} {d : D} {u : Value}, shp n d = true → VRep h d u → (∃ as, Reads h u (toPy d) as) ∧ (toPy d).canLay0 = true ∧ (toPy d).depth ≤ n
  | n, .int i, _, _, r => by obtain ⟨t, rfl⟩ := r; exact ⟨⟨_, .int i t⟩, by simp [toPy, PyData.canLay0], by simp [toPy, PyData.depth]⟩
  | n, .str s, _, _, r => by obtain ⟨ok, t, rfl⟩ := r; exact ⟨⟨_, .str _ t⟩, by simp only [toPy, PyData.canLay0]; exact ok, by simp [toPy, PyData.depth]⟩
  | 0, .tup l, _, hs, _ => by simp [shp] at hs
  | n + 1, .tup l, _, hs, r => by
    obtain ⟨a, its, rfl, ⟨o, ho, hc, m, hd⟩, r⟩ := r
    obtain ⟨⟨as, q⟩, q2, q3⟩ := VReps.reads (n := n) (by simpa [shp] using hs) r
    exact ⟨⟨_, .tuple ho hc hd q⟩, by simp only [toPy, PyData.canLay0]; exact q2, by simp only [toPy, PyData.depth]; omega⟩
  | _, .non, _, _, r => r.elim
  | _, .bl _, _, _, r => r.elim
  | _, .lst _, _, _, r => r.elim
  | _, .dct _ _, _, _, r => r.elim
theorem VReps.reads : ∀ {n : Nat} {l : List D} {us : List Value}, (∀ d ∈ l, shp n d = true) → VReps h l us → (∃ as, ReadsAll h us (toPys l) as) ∧ PyData.canLayAll0 (toPys l) = true ∧ PyData.depthAll (toPys l) ≤ n
  | _, [], _, _, r => by cases r; exact ⟨⟨_, .nil⟩, by simp [toPys, PyData.canLayAll0], by simp [toPys, PyData.depthAll]⟩
  | n, d :: ds, _, hs, r => by
    obtain ⟨x, xs, rfl, r1, r2⟩ := r
    obtain ⟨⟨as, a1⟩, a2, a3⟩ := VRep.reads (hs d List.mem_cons_self) r1
    obtain ⟨⟨bs, b1⟩, b2, b3⟩ := VReps.reads (fun e he => hs e (List.mem_cons_of_mem _ he)) r2
    exact ⟨⟨_, .cons a1 b1⟩, by simp [toPys, PyData.canLayAll0, a2, b2], by simp only [toPys, PyData.depthAll]; omega⟩
end
mutual
theorem VRep.keep {h' : Heap} (k : ∀ b o, h.get? b = some o → o.cls = .type "tuple" → h'.get? b = some o) : ∀ {d : D} {u : Value}, VRep h d u → VRep h' d u
  | .int i, _, r => r
  | .str s, _, r => r
  | .tup l, _, r => by
    obtain ⟨a, its, rfl, ⟨o, ho, hc, m, hd⟩, r⟩ := r
    exact ⟨a, its, rfl, ⟨o, k _ _ ho hc, hc, m, hd⟩, VReps.keep k r⟩
  | .non, _, r => r.elim
  | .bl _, _, r => r.elim
  | .lst _, _, r => r.elim
  | .dct _ _, _, r => r.elim
theorem VReps.keep {h' : Heap} (k : ∀ b o, h.get? b = some o → o.cls = .type "tuple" → h'.get? b = some o) : ∀ {l : List D} {us : List Value}, VReps h l us → VReps h' l us
  | [], _, r => r
  | d :: ds, _, r => by
    obtain ⟨x, xs, rfl, r1, r2⟩ := r
    exact ⟨x, xs, rfl, VRep.keep k r1, VReps.keep k r2⟩
end
end
theorem VRep.eqAt {A : Around} {s : Shared} {d e : D} {u v : Value} {n : Nat} (hd : shp n d = true) (he : shp n e = true) (r : VRep s.heap d u) (r' : VRep s.heap e v) (hu : A.units + n < cLine) : SeqAt.EqAt A s u v (G.eqv d e) := by
  obtain ⟨⟨as, a1⟩, a2, a3⟩ := r.reads hd
  obtain ⟨⟨bs, b1⟩, b2, b3⟩ := r'.reads he
  rw [← toPy_eqv d e hd he]
  exact SeqAt.eqAt_reads _ _ A s u v as bs a1 b1 a2 b2 (by omega)
theorem lexAt_shift (e r : Nat → Bool) (z : Bool) : ∀ (k i : Nat), Ob.lexAt e r z (i + 1) k = Ob.lexAt (fun j => e (j + 1)) (fun j => r (j + 1)) z i k
  | 0, _ => rfl
  | k + 1, i => by rw [Ob.lexAt_succ, Ob.lexAt_succ, lexAt_shift e r z k (i + 1)]
theorem lexAt_ds : ∀ (a b : List D), a.length = b.length → Ob.lexAt (fun j => G.eqv (a.getD j .non) (b.getD j .non)) (fun j => ltD (a.getD j .non) (b.getD j .non)) false 0 a.length = ltDs a b
  | [], [], _ => rfl
  | [], _ :: _, h => by cases h
  | _ :: _, [], h => by cases h
  | x :: a, y :: b, h => by
    rw [List.length_cons, Ob.lexAt_succ, lexAt_shift]
    simp only [List.getD_cons_zero, List.getD_cons_succ, ltDs]
    rw [lexAt_ds a b (by simpa using h)]
theorem hasShs_len : ∀ {l : List Sh} {ds : List D}, hasShs l ds = true → ds.length = l.length
  | [], [], _ => rfl
  | [], _ :: _, h => by simp [hasShs] at h
  | _ :: _, [], h => by simp [hasShs] at h
  | s :: ss, d :: ds, h => by
    simp only [hasShs, Bool.and_eq_true] at h
    simp [hasShs_len h.2]
theorem hasShs_get : ∀ {l : List Sh} {ds : List D} {i : Nat} {d : D}, hasShs l ds = true → ds[i]? = some d → ∃ s, l[i]? = some s ∧ hasSh s d = true
  | [], [], _, _, _, e => by simp at e
  | [], _ :: _, _, _, h, _ => by simp [hasShs] at h
  | _ :: _, [], _, _, h, _ => by simp [hasShs] at h
  | s :: ss, d :: ds, 0, _, h, e => by
    simp only [hasShs, Bool.and_eq_true] at h
    simp at e; subst e
    exact ⟨s, rfl, h.1⟩
  | s :: ss, d :: ds, i + 1, _, h, e => by
    simp only [hasShs, Bool.and_eq_true] at h
    obtain ⟨t, q1, q2⟩ := hasShs_get h.2 (by simpa using e)
    exact ⟨t, by simpa using q1, q2⟩
theorem rc_lt : ∀ (n : Nat) (sh : Sh) {A : Around} {s : Shared} {d e : D} {u v : Value}, shp n d = true → shp n e = true → hasSh sh d = true → hasSh sh e = true → VRep s.heap d u → VRep s.heap e v → A.units + 2 * n + 2 < cLine → Ob.RcOp .Lt A s u v (ltD d e)
  | n, .i, A, s, d, e, u, v, hd, he, sd, se, r, r', hu => by
    cases d <;> cases e <;> first | (simp [hasSh] at sd; done) | (simp [hasSh] at se; done) | skip
    obtain ⟨t, rfl⟩ := r
    obtain ⟨t', rfl⟩ := r'
    exact Ob.RcOp.lt_int _ _ _ _
  | n, .s, A, s, d, e, u, v, hd, he, sd, se, r, r', hu => by
    cases d <;> cases e <;> first | (simp [hasSh] at sd; done) | (simp [hasSh] at se; done) | skip
    rename_i x y
    obtain ⟨_, t, rfl⟩ := r
    obtain ⟨_, t', rfl⟩ := r'
    intro prog w E Q q
    have key : ∀ a b : List Nat, decide (a < b) = ltS a b := by
      intro a
      induction a with
      | nil => intro b; cases b <;> simp [ltS]
      | cons p a ih =>
        intro b
        cases b with
        | nil => simp [ltS]
        | cons p' b =>
          simp only [ltS, List.cons_lt_cons_iff]
          by_cases e : p = p'
          · subst e
            simp [← ih b]
          · simp [e]
    refine PyProof.Rows.lt_str ?_
    show Q (.bool (decide (x.toArray.toList < y.toArray.toList))) s
    rw [List.toList_toArray, List.toList_toArray, key]
    exact q
  | 0, .t l, A, s, d, e, u, v, hd, he, sd, se, r, r', hu => by
    cases d <;> first | (simp [hasSh] at sd; done) | (simp [shp] at hd)
  | n + 1, .t l, A, s, d, e, u, v, hd, he, sd, se, r, r', hu => by
    cases d <;> cases e <;> first | (simp [hasSh] at sd; done) | (simp [hasSh] at se; done) | skip
    rename_i x y
    obtain ⟨a, its, rfl, h1, r⟩ := r
    obtain ⟨b, its2, rfl, h2, r'⟩ := r'
    have sd : hasShs l x = true := by simpa [hasSh] using sd
    have se : hasShs l y = true := by simpa [hasSh] using se
    have hx : ∀ d ∈ x, shp n d = true := by simpa [shp] using hd
    have hy : ∀ d ∈ y, shp n d = true := by simpa [shp] using he
    have l1 := r.length
    have l2 := r'.length
    have l3 : x.length = y.length := (hasShs_len sd).trans (hasShs_len se).symm
    have hin : A.in1.units + 2 * n + 2 < cLine := by show A.units + 1 + 2 * n + 2 < cLine; omega
    have at1 : ∀ {j} (h1 : j < its.toArray.size), x[j]? = some (x.getD j .non) ∧ VRep s.heap (x.getD j .non) its.toArray[j] := fun {j} h1 => by
      have hj : j < x.length := by simpa [l1] using h1
      have e1 : x[j]? = some (x.getD j .non) := by simp [hj]
      obtain ⟨u, q1, q2⟩ := r.get e1
      have e2 : its.toArray[j] = u := by
        have : its[j]? = some its.toArray[j] := by simp;
        rw [q1] at this
        exact (Option.some.inj this).symm
      rw [e2]
      exact ⟨e1, q2⟩
    have at2 : ∀ {j} (h1 : j < its2.toArray.size), y[j]? = some (y.getD j .non) ∧ VRep s.heap (y.getD j .non) its2.toArray[j] := fun {j} h1 => by
      have hj : j < y.length := by simpa [l2] using h1
      have e1 : y[j]? = some (y.getD j .non) := by simp [hj]
      obtain ⟨u, q1, q2⟩ := r'.get e1
      have e2 : its2.toArray[j] = u := by
        have : its2[j]? = some its2.toArray[j] := by simp
        rw [q1] at this
        exact (Option.some.inj this).symm
      rw [e2]
      exact ⟨e1, q2⟩
    have R := Ob.RcOp.tuples_lt (A := A) (s := s) (e := fun j => G.eqv (x.getD j .non) (y.getD j .non)) (r := fun j => ltD (x.getD j .non) (y.getD j .non)) h1 h2 (by omega)
      (fun j j1 j2 => (at1 j1).2.eqAt (hx _ (List.mem_of_getElem? (at1 j1).1)) (hy _ (List.mem_of_getElem? (at2 j2).1)) (at2 j2).2 (by omega))
      (fun j j1 j2 _ => by
        obtain ⟨t1, q1, q2⟩ := hasShs_get sd (at1 j1).1
        obtain ⟨t2, q3, q4⟩ := hasShs_get se (at2 j2).1
        rw [q1] at q3
        cases q3
        exact rc_lt n t1 (hx _ (List.mem_of_getElem? (at1 j1).1)) (hy _ (List.mem_of_getElem? (at2 j2).1)) q2 q4 (at1 j1).2 (at2 j2).2 hin)
    have e1 : its.toArray.size = x.length := by rw [List.size_toArray, l1]
    have e2 : its2.toArray.size = x.length := by rw [List.size_toArray, l2, l3]
    have e3 : decide (its.toArray.size < its2.toArray.size) = false := by rw [e1, e2]; exact decide_eq_false (Nat.lt_irrefl _)
    rw [e3, e1, e2, Nat.min_self, lexAt_ds x y l3] at R
    exact R
section
open PySem.W
variable {prog : Program} {w : World} {s : Shared}
theorem katlex {A : Around} {b : Bool} {Q : Bool → Shared → Prop} {n : Nat} : ∀ (l : List Sh) (x y : List D) (us vs : List Value) (i : Nat), hasShs l x = true → hasShs l y = true → (∀ d ∈ x, shp n d = true) → (∀ d ∈ y, shp n d = true) → VReps s.heap x us → VReps s.heap y vs →
    ((b && i == 0) = true → ∀ z ∈ l.head?, z = .i) → A.units + 2 * n + 4 < cLine → Q (ltDs x y) s → KatLex prog w A b false Q (us.zip vs) i s
  | [], x, y, us, vs, i, hx, hy, _, _, rx, ry, _, _, q => by
    cases x <;> cases y <;> first | (simp [hasShs] at hx; done) | (simp [hasShs] at hy; done) | skip
    cases rx
    cases ry
    exact kat_nil q
  | sh :: l, x, y, us, vs, i, hx, hy, sx, sy, rx, ry, hb, hu, q => by
    cases x <;> cases y <;> first | (simp [hasShs] at hx; done) | (simp [hasShs] at hy; done) | skip
    rename_i d ds e es
    obtain ⟨u, us, rfl, r1, r2⟩ := rx
    obtain ⟨v, vs, rfl, r3, r4⟩ := ry
    simp only [hasShs, Bool.and_eq_true] at hx hy
    rw [List.zip_cons_cons]
    have sd := sx d List.mem_cons_self
    have se := sy e List.mem_cons_self
    refine kat_cons (VRep.eqAt sd se r1 r3 (by omega) prog w _ _ ?_)
    refine kat_go (fun e1 => ?_) (fun e1 => ?_)
    · refine kat_yes (katlex l ds es us vs (i + 1) hx.2 hy.2 (fun z hz => sx z (List.mem_cons_of_mem _ hz)) (fun z hz => sy z (List.mem_cons_of_mem _ hz)) r2 r4 (fun h => by simp at h) hu ?_)
      simp only [ltDs, e1, if_true] at q
      exact q
    · simp only [ltDs, e1, Bool.false_eq_true, if_false] at q
      refine kat_no ?_
      cases h0 : (b && i == 0) with
      | false => exact kat_one (E := fun _ _ => False) _ _ (rc_lt (A := A) n sh sd se hx.1 hy.1 r1 r3 (by omega) prog w _ (PySem.W.BoolBack Q) q)
      | true =>
        have := hb h0 sh rfl
        subst this
        cases d <;> cases e <;> first | (simp [hasSh] at hx; done) | (simp [hasSh] at hy; done) | skip
        obtain ⟨t, rfl⟩ := r1
        obtain ⟨t', rfl⟩ := r3
        exact PyProof.Rows.oneLt_int q
theorem vreps_mem {h : Heap} : ∀ {l : List D} {us : List Value} {u : Value}, VReps h l us → u ∈ us → ∃ d ∈ l, VRep h d u
  | [], _, _, r, m => by cases r; cases m
  | d :: ds, _, u, r, m => by
    obtain ⟨x, xs, rfl, r1, r2⟩ := r
    rcases List.mem_cons.mp m with e | m
    · subst e; exact ⟨d, List.mem_cons_self, r1⟩
    · obtain ⟨e, he, re⟩ := vreps_mem r2 m
      exact ⟨e, List.mem_cons_of_mem _ he, re⟩
theorem firstsG {h : Heap} {s0 : Sh} {ss : List Sh} : ∀ {l : List D} {us : List Value}, VReps h l us → (∀ d ∈ l, hasSh (.t (s0 :: ss)) d = true) → ∃ fs, KatTups h us fs ∧ fs.length = us.length ∧ ∀ f ∈ fs, ∃ d, hasSh s0 d = true ∧ VRep h d f
  | [], _, r, _ => by cases r; exact ⟨[], KatTups.nil, rfl, fun _ m => by cases m⟩
  | d :: ds, _, r, hs => by
    obtain ⟨x, xs, rfl, r1, r2⟩ := r
    obtain ⟨fs, h1, h2, h3⟩ := firstsG r2 fun e he => hs e (List.mem_cons_of_mem _ he)
    have hd := hs d List.mem_cons_self
    cases d <;> first | (simp [hasSh] at hd; done) | skip
    rename_i l
    obtain ⟨a, its, rfl, ⟨o, ho, hc, m, hdt⟩, r⟩ := r1
    cases l with
    | nil => simp [hasSh, hasShs] at hd
    | cons e es =>
      obtain ⟨y, ys, rfl, q1, q2⟩ := r
      simp only [hasSh, hasShs, Bool.and_eq_true] at hd
      refine ⟨y :: fs, KatTups.cons ho hc hdt (by simp) h1, by simp [h2], fun f hf => ?_⟩
      rcases List.mem_cons.mp hf with e' | hf
      · subst e'; exact ⟨e, hd.1, q1⟩
      · exact h3 f hf
/-- the key by which the items are compared -/
def keyG (h : Heap) (u : Value) : List Int := enc (rdV h DEEP u)
def ltG (h : Heap) (v u : Value) : Bool := ltL (keyG h v) (keyG h u)
theorem swoG (h : Heap) : Swo (ltG h) := ⟨fun x y e => ltL_asym _ _ e, fun x y z h1 h2 => ltL_tr _ _ _ h1 h2⟩
theorem cmpG {A : Around} {h0 : Heap} {b : Bool} {s0 : Sh} {ss : List Sh} {l : List D} {us : List Value} (r0 : VReps h0 l us) (r : VReps s.heap l us) (hs : ∀ d ∈ l, hasSh (.t (s0 :: ss)) d = true) (hp : ∀ d ∈ l, shp DEEP d = true) (hb : b = true → s0 = .i) (hu : A.units + 130 < cLine) :
    SrtO.Cmp prog w A s (tuples' b) (fun p => p.1 ∈ us) (lt2 (ltG h0)) := by
  intro p q hm hm'
  -- the same data at both heaps
  have both : ∀ {l : List D} {us : List Value} {u : Value}, VReps h0 l us → VReps s.heap l us → u ∈ us → ∃ d ∈ l, VRep h0 d u ∧ VRep s.heap d u := by
    intro l
    induction l with
    | nil => intro us u r _ m; cases r; cases m
    | cons d ds ih =>
      intro us u r r' m
      obtain ⟨x, xs, rfl, r1, r2⟩ := r
      obtain ⟨x', xs', e, r3, r4⟩ := r'
      cases e
      rcases List.mem_cons.mp m with e | m
      · subst e; exact ⟨d, List.mem_cons_self, r1, r3⟩
      · obtain ⟨e, he, q⟩ := ih r2 r4 m
        exact ⟨e, List.mem_cons_of_mem _ he, q⟩
  obtain ⟨d, hd, d1, d2⟩ := both r0 r hm
  obtain ⟨e, he, e1, e2⟩ := both r0 r hm'
  have key : lt2 (ltG h0) p q = ltD d e := by
    show ltL (enc (rdV h0 DEEP p.1)) (enc (rdV h0 DEEP q.1)) = _
    rw [d1.rd (hp d hd), e1.rd (hp e he)]
    exact (enc_cmp (hs d hd) (hs e he)).symm
  rw [key]
  have sd := hs d hd
  have se := hs e he
  have pd := hp d hd
  have pe := hp e he
  cases d <;> first | (simp [hasSh] at sd; done) | skip
  cases e <;> first | (simp [hasSh] at se; done) | skip
  rename_i x y
  obtain ⟨a, its, ea, ⟨o, ho, hc, m, hdt⟩, ra⟩ := d2
  obtain ⟨a', its', ea', ⟨o', ho', hc', m', hdt'⟩, ra'⟩ := e2
  rw [ea, ea']
  refine kat_lt ho hdt ho' hdt' ?_
  have sd : hasShs (s0 :: ss) x = true := by simpa [hasSh] using sd
  have se : hasShs (s0 :: ss) y = true := by simpa [hasSh] using se
  have l1 := ra.length
  have l2 := ra'.length
  have l3 := (hasShs_len sd).trans (hasShs_len se).symm
  have e3 : decide (its.toArray.size < its'.toArray.size) = false := by rw [List.size_toArray, List.size_toArray, l1, l2, l3]; exact decide_eq_false (Nat.lt_irrefl _)
  rw [e3]
  show KatLex prog w A b false _ (its.zip its') 0 s
  have dp : ∀ {z : List D}, shp DEEP (.tup z) = true → ∀ d ∈ z, shp 59 d = true := fun {z} h => by
    have : shp (59 + 1) (.tup z) = true := h
    simpa [shp] using this
  refine katlex (n := 59) (s0 :: ss) x y its its' 0 sd se (dp pd) (dp pe) ra ra' (fun h z hz => ?_) (by omega) ⟨rfl, rfl⟩
  have hb' : b = true := by simpa using h
  have e0 : s0 = z := by simpa using hz
  rw [← e0]
  exact hb hb'
theorem sortableG {A : Around} {h0 : Heap} {a : Addr} {s0 : Sh} {ss : List Sh} {l : List D} {us : List Value} (r0 : VReps h0 l us) (r : VReps s.heap l us) (hs : ∀ d ∈ l, hasSh (.t (s0 :: ss)) d = true) (hp : ∀ d ∈ l, shp DEEP d = true) (hok : okSh (.t (s0 :: ss)) = true) (hu : A.units + 130 < cLine)
    (h2 : 2 ≤ us.length) (ha : ∀ o, s.heap.get? a = some o → o.cls ≠ .type "tuple") : SortableO prog w A s a us (ltG h0) := by
  intro h' keep
  have r' : VReps h' l us := r.keep fun b o e c => keep b o (fun z => by subst z; exact ha o e c) e
  obtain ⟨fs, f1, f2, f3⟩ := firstsG r' hs
  cases s0 with
  | i =>
    refine ⟨tuples' true, fun Q E hq => ?_, cmpG (s := { s with heap := h' }) r0 r' hs hp (fun _ => rfl) hu⟩
    refine kat_kind (T := .type "int") f1 (by omega) (fun f hm => ?_) (by rfl) ?_
    · obtain ⟨d, hd, q⟩ := f3 f hm
      cases d <;> first | (simp [hasSh] at hd; done) | skip
      obtain ⟨t, rfl⟩ := q
      exact Looks.now
    · have e : (Value.type "int" != Value.type "tuple") = true := by decide +kernel
      rw [e]
      exact hq
  | t sl =>
    refine ⟨tuples' false, fun Q E hq => ?_, cmpG (s := { s with heap := h' }) r0 r' hs hp (fun z => by cases z) hu⟩
    refine kat_kind (T := .type "tuple") f1 (by omega) (fun f hm => ?_) (by rfl) ?_
    · obtain ⟨d, hd, q⟩ := f3 f hm
      cases d <;> first | (simp [hasSh] at hd; done) | skip
      obtain ⟨a, its, rfl, ⟨o, ho, hc, _⟩, _⟩ := q
      have z : Looks (model prog w) h' (typeOf (.ref a)) o.cls := (Looks.ld ho).andThen .now
      rw [hc] at z
      exact z
    · have e : (Value.type "tuple" != Value.type "tuple") = false := by decide +kernel
      rw [e]
      exact hq
  | s => cases hok
end
section
variable {X : Cx} {pins : List (Addr × Obj)} {σ : L2.St} {H : Hp} {s : Shared}
mutual
theorem rep_vrep (I : Inv X pins σ H s) : ∀ (sh : Sh) {d : D} {v : V} {u : Value}, hasSh sh d = true → Rep X.K H d v → RelV v u → VRep s.heap d u
  | .i, d, v, u, h, r, q => by
    cases d <;> first | (simp [hasSh] at h; done) | skip
    cases r
    exact q
  | .s, d, v, u, h, r, q => by
    cases d <;> first | (simp [hasSh] at h; done) | skip
    obtain ⟨rfl, ok⟩ := r
    exact ⟨ok, q⟩
  | .t l, d, v, u, h, r, q => by
    cases d <;> first | (simp [hasSh] at h; done) | skip
    obtain ⟨a, vs, rfl, h1, h2, _⟩ := r
    cases q
    obtain ⟨its, rv, p, _⟩ := I.tuple h1
    exact ⟨a, its, rfl, p, reps_vreps I l (by simpa [hasSh] using h) h2 rv⟩
theorem reps_vreps (I : Inv X pins σ H s) : ∀ (l : List Sh) {ds : List D} {vs : List V} {us : List Value}, hasShs l ds = true → Reps X.K H ds vs → Vals vs us → VReps s.heap ds us
  | [], ds, vs, us, h, r, q => by
    cases ds <;> first | (simp [hasShs] at h; done) | skip
    cases r
    cases q
    rfl
  | sh :: l, ds, vs, us, h, r, q => by
    cases ds <;> first | (simp [hasShs] at h; done) | skip
    obtain ⟨x, xs, rfl, r1, r2⟩ := r
    simp only [hasShs, Bool.and_eq_true] at h
    cases q with
    | cons q1 q2 => exact ⟨_, _, rfl, rep_vrep I sh h.1 r1 q1, reps_vreps I l h.2 r2 q2⟩
end
theorem reps_all (I : Inv X pins σ H s) (sh : Sh) : ∀ {ds : List D} {vs : List V} {us : List Value}, (∀ d ∈ ds, hasSh sh d = true) → Reps X.K H ds vs → Vals vs us → VReps s.heap ds us
  | [], _, _, _, r, q => by cases r; cases q; rfl
  | d :: ds, _, _, h, r, q => by
    obtain ⟨x, xs, rfl, r1, r2⟩ := r
    cases q with
    | cons q1 q2 => exact ⟨_, _, rfl, rep_vrep I sh (h d List.mem_cons_self) r1 q1, reps_all I sh (fun e he => h e (List.mem_cons_of_mem _ he)) r2 q2⟩
theorem pair_up {K : PySem.W.Frag} {H : Hp} {h0 : Heap} {sh : Sh} : ∀ {ds : List D} {vs : List V} {us : List Value}, (∀ d ∈ ds, hasSh sh d = true) → (∀ d ∈ ds, shp DEEP d = true) → Reps K H ds vs → Vals vs us → VReps h0 ds us →
    Paired (fun d u => (∃ x, RelV x u ∧ Rep K H d x) ∧ keyG h0 u = enc d ∧ hasSh sh d = true) ds us
  | [], _, _, _, _, r, q, _ => by cases r; cases q; exact .nil
  | d :: ds, _, _, h, hp, r, q, z => by
    obtain ⟨x, xs, rfl, r1, r2⟩ := r
    cases q with
    | cons q1 q2 =>
      obtain ⟨y, ys, e, z1, z2⟩ := z
      cases e
      exact .cons ⟨⟨x, q1, r1⟩, by unfold keyG; rw [z1.rd (hp d List.mem_cons_self)], h d List.mem_cons_self⟩ (pair_up (fun e he => h e (List.mem_cons_of_mem _ he)) (fun e he => hp e (List.mem_cons_of_mem _ he)) r2 q2 z2)
theorem pair_down {K : PySem.W.Frag} {H : Hp} {h0 : Heap} {sh : Sh} : ∀ {ds : List D} {us : List Value}, Paired (fun d u => (∃ x, RelV x u ∧ Rep K H d x) ∧ keyG h0 u = enc d ∧ hasSh sh d = true) ds us → ∃ vs, Vals vs us ∧ Reps K H ds vs
  | _, _, .nil => ⟨[], .nil, rfl⟩
  | _, _, .cons ⟨⟨x, q1, r1⟩, _, _⟩ t => by
    obtain ⟨vs, h1, h2⟩ := pair_down t
    exact ⟨x :: vs, .cons q1 h1, x, vs, rfl, r1, h2⟩
/-- sorted(xs), xs tuples of one shape -/
def rSortT (K : PySem.W.Frag) : List V → Hp → VK → Prop := fun vs H Q => ∃ (G : Hp) (a : Addr) (xs : List V) (ds : List D) (s0 : Sh) (ss : List Sh), vs = [.ref a] ∧ Same G H ∧ SqL K H a xs ∧ Reps K G ds xs ∧ (∀ d ∈ ds, hasSh (.t (s0 :: ss)) d = true) ∧ (∀ d ∈ ds, shp DEEP d = true) ∧ okSh (.t (s0 :: ss)) = true ∧
  ∀ ys p, Reps K G (sortBy ltD ds) ys → H p = none → Q (.ref p) (upd H p (.lst ys))
theorem cr_sortT (hu : X.A.units + 150 < cLine) : CallR X (.builtin "sorted") (rSortT X.K) := by
  intro pins s σ H vs us Q I r h
  obtain ⟨G, a, xs, ds, s0, ss, rfl, sg, hs, rr, hsh, hp, hok, q⟩ := h
  obtain ⟨its, rv, hl, hz⟩ := I.list hs
  rw [Vals.ref1 r]
  have r0 : VReps s.heap ds its := reps_all I (.t (s0 :: ss)) hsh (rr.mono sg) rv
  have lz : its.length ≤ sizeLine := by rw [← rv.length]; exact hz
  refine sorted_ord (swoG s.heap) hl.isList lz (fun h2 h₁ b hb kk => ?_) fun out h1 h2 => ?_
  · refine sortableG (s := { s with heap := h₁ }) r0 (r0.keep fun c o e _ => (kk c o e).2) hsh hp hok ?_ h2 fun o e => ?_
    · show X.A.units + 1 + 1 + 130 < cLine; omega
    · have e' : some o = some (PyProof.Rows.seqObj "list" its.toArray 0) := e.symm.trans hb
      cases e'
      intro c
      exact absurd (Value.type.inj c) (by decide)
  · have e1 : out = sortBy (ltG s.heap) its := by
      refine stb_uniq (swoG s.heap) h1 (sortBy_srtd (swoG s.heap) its) (h2.trans ?_)
      have z := sortBy_stb (swoG s.heap) its
      exact ⟨z.perm.symm, fun x => (z.cls x).symm⟩
    have pr := sort_paired (lt := ltD) (lt' := ltG s.heap) (fun d u d' u' z z' => by
      show ltD d d' = ltL (keyG s.heap u) (keyG s.heap u')
      rw [z.2.1, z'.2.1]
      exact enc_cmp z.2.2 z'.2.2) (pair_up (h0 := s.heap) hsh hp rr rv r0)
    obtain ⟨ys, v1, v2⟩ := pair_down pr
    rw [← e1] at v1
    obtain ⟨n, hn⟩ := sortedAll_at s.heap its out.toArray
    have hd : s.heap.objs.size ≤ s.heap.objs.size + 1 := Nat.le_succ _
    refine ⟨.ref (s.heap.objs.size + 1), upd H (s.heap.objs.size + 1) (.lst ys), I.laid (t' := s.toks) (fun b o e => sortedAll_old e) hd ⟨?_, out, n, v1, hn⟩, rfl, q ys _ v2 (I.hok.fresh hd)⟩
    rw [v1.length, e1, (sortBy_perm (lt := ltG s.heap) its).length_eq]
    exact lz
end
end G
/-! G10: sorted and sorted(set(..)) as the small language has them. -/
namespace G
open PySem L2 SrtO PyProof.Rows
variable [TQ]
section
variable {X : Cx} {P : Pl} {pos : Pos}
/-! ### two ascending lists of the same items -/
theorem asc_uniq {α : Type} {lt : α → α → Bool} (irr : ∀ a, lt a a = false) (tr : ∀ a b c, lt a b = true → lt b c = true → lt a c = true) : ∀ {l m : List α}, l.Pairwise (fun x y => lt x y = true) → m.Pairwise (fun x y => lt x y = true) → (∀ x, x ∈ l ↔ x ∈ m) → l = m
  | [], [], _, _, _ => rfl
  | [], y :: m, _, _, h => absurd ((h y).mpr List.mem_cons_self) (by simp)
  | x :: l, [], _, _, h => absurd ((h x).mp List.mem_cons_self) (by simp)
  | x :: l, y :: m, hl, hm, h => by
    obtain ⟨hl1, hl2⟩ := List.pairwise_cons.mp hl
    obtain ⟨hm1, hm2⟩ := List.pairwise_cons.mp hm
    have e : x = y := by
      rcases List.mem_cons.mp ((h x).mp List.mem_cons_self) with e | hx
      · exact e
      · rcases List.mem_cons.mp ((h y).mpr List.mem_cons_self) with e | hy
        · exact e.symm
        · have := tr _ _ _ (hm1 x hx) (hl1 y hy)
          rw [irr] at this
          cases this
    subst e
    congr 1
    refine asc_uniq irr tr hl2 hm2 fun z => ⟨fun hz => ?_, fun hz => ?_⟩
    · rcases List.mem_cons.mp ((h z).mp (List.mem_cons_of_mem _ hz)) with e | q
      · subst e
        have := hl1 z hz
        rw [irr] at this
        cases this
      · exact q
    · rcases List.mem_cons.mp ((h z).mpr (List.mem_cons_of_mem _ hz)) with e | q
      · subst e
        have := hm1 z hz
        rw [irr] at this
        cases this
      · exact q
theorem ints_uniq {l m : List Int} (p : l.Perm m) (hl : l.Pairwise (· ≤ ·)) (hm : m.Pairwise (· ≤ ·)) : l = m :=
  p.eq_of_pairwise (fun a b _ _ h1 h2 => Int.le_antisymm h1 h2) hl hm
theorem swo_int : Swo (fun a b : Int => decide (a < b)) := ⟨fun x y h => by
    have := of_decide_eq_true h
    exact decide_eq_false (by omega), fun x y z h1 h2 => by
    have := of_decide_eq_false h1
    have := of_decide_eq_false h2
    exact decide_eq_false (by omega)⟩
theorem sort_ints : ∀ (ns : List Int), sortBy ltD (ns.map D.int) = (sortBy (fun a b : Int => decide (a < b)) ns).map D.int := fun ns => by
  have h : Paired (fun (d : D) (i : Int) => d = .int i) (ns.map D.int) ns := by
    induction ns with
    | nil => exact .nil
    | cons n ns ih => exact .cons rfl ih
  have q := sort_paired (lt := ltD) (lt' := fun a b : Int => decide (a < b)) (fun a b a' b' e e' => by subst e; subst e'; rfl) h
  have back : ∀ {l : List D} {m : List Int}, Paired (fun (d : D) (i : Int) => d = .int i) l m → l = m.map D.int := by
    intro l m p
    induction p with
    | nil => rfl
    | cons e _ ih => rw [e, ih]; rfl
  exact back q
def rSortG (K : PySem.W.Frag) : List V → Hp → VK → Prop := fun vs H Q => rSortedI K vs H Q ∨ rSortT K vs H Q
theorem call_sortG (hu : X.A.units + 150 < cLine) : CallR X (.builtin "sorted") (rSortG X.K) := cr_sortedI.or (cr_sortT hu)
theorem reps_ints {K : PySem.W.Frag} {G : Hp} : ∀ (ns : List Int), Reps K G (ns.map D.int) (ns.map V.int)
  | [] => rfl
  | n :: ns => ⟨_, _, rfl, rfl, reps_ints ns⟩
theorem sf_sorted : ServesF P .sorted (rSortG P.K) := by
  intro lc G H c Q ds vs hs r k q
  obtain ⟨d, e, q⟩ := q.opt
  match ds, e with
  | [.lst l], e =>
    obtain ⟨v, rfl, p, xs, rfl, h1, h2, h3⟩ := reps1 r
    obtain ⟨l', e1, rfl⟩ := Option.map_eq_some_iff.mp (show (sortD l).map D.lst = some d from e)
    obtain ⟨hsame, rfl⟩ := ite_some (show (if sameSh l = true then some (sortBy ltD l) else none) = some l' from e1)
    cases l with
    | nil =>
      cases h2
      exact .inl ⟨p, [], rfl, same_l hs h1, fun ns' p2 hp _ hn => by
        have : ns' = [] := hp.eq_nil
        subst this
        exact q.out hs rfl (Nat.zero_le _) k hn⟩
    | cons d0 l =>
      unfold sameSh at hsame
      dsimp only at hsame
      cases e0 : shOf d0 with
      | none => rw [e0] at hsame; cases hsame
      | some sh =>
        rw [e0] at hsame
        simp only [Bool.and_eq_true, List.all_eq_true] at hsame
        obtain ⟨⟨hok, hall⟩, hshp⟩ := hsame
        cases sh with
        | i =>
          have key : ∀ {l : List D}, (∀ d ∈ l, hasSh .i d = true) → ∃ ns : List Int, l = ns.map D.int := by
            intro l
            induction l with
            | nil => intro _; exact ⟨[], rfl⟩
            | cons d l ih =>
              intro h
              obtain ⟨ns, e⟩ := ih fun e he => h e (List.mem_cons_of_mem _ he)
              have hd := h d List.mem_cons_self
              cases d <;> first | (simp [hasSh] at hd; done) | skip
              exact ⟨_ :: ns, by rw [e]; rfl⟩
          obtain ⟨ns, e2⟩ := key hall
          rw [e2] at h2 q
          have ex : xs = ns.map V.int := by
            have back : ∀ {ns : List Int} {xs : List V}, Reps P.K G (ns.map D.int) xs → xs = ns.map V.int := by
              intro ns
              induction ns with
              | nil => intro xs r; cases r; rfl
              | cons n ns ih => intro xs r; obtain ⟨x, ys, rfl, rfl, r2⟩ := r; rw [ih r2]; rfl
            exact back h2
          subst ex
          refine .inl ⟨p, ns, rfl, same_l hs h1, fun ns' p2 hp hpw hn => ?_⟩
          rw [sort_ints] at q
          have eq : ns' = sortBy (fun a b : Int => decide (a < b)) ns := by
            refine ints_uniq (hp.trans (sortBy_perm ns).symm) hpw ?_
            exact (sortBy_srtd swo_int ns).imp fun {a b} h => by
              have := of_decide_eq_false h
              omega
          rw [eq]
          exact q.out hs (reps_ints _) (by rw [List.length_map, (sortBy_perm ns).length_eq]; rw [e2, List.length_map] at h3; exact h3) k hn
        | s => cases hok
        | t sl =>
          cases sl with
          | nil => cases hok
          | cons s0 ss =>
            exact .inr ⟨G, p, xs, d0 :: l, s0, ss, rfl, hs, same_l hs h1, h2, hall, hshp, hok, fun ys p2 hy hn => q.out hs hy (by rw [(sortBy_perm (d0 :: l)).length_eq]; exact h3) k hn⟩
/-! ### sorted(set(xs)) of pairs -/
def prD (a b : Int) : D := .tup [.int a, .int b]
theorem intPair_of {d : D} (h : intPair d = true) : ∃ a b, d = prD a b ∧ 0 ≤ a ∧ a < 64 ∧ 0 ≤ b ∧ b < 64 := by
  unfold intPair at h
  split at h
  · simp only [Bool.and_eq_true, decide_eq_true_eq] at h
    exact ⟨_, _, rfl, h.1.1.1, h.1.1.2, h.1.2, h.2⟩
  · cases h
theorem eqv_pr (a b a' b' : Int) : G.eqv (prD a b) (prD a' b') = true ↔ a = a' ∧ b = b' := by
  simp [prD, G.eqv, eqvs]
theorem ltD_pr (a b a' b' : Int) : ltD (prD a b) (prD a' b') = true ↔ a < a' ∨ (a = a' ∧ b < b') := by
  simp only [prD, ltD, ltDs, G.eqv, beq_iff_eq]
  by_cases h : a = a'
  · subst h
    by_cases h2 : b = b'
    · subst h2; simp
    · simp [h2]
  · simp [h]
theorem mem_dedup : ∀ (l acc : List D), (∀ d ∈ l, intPair d = true) → (∀ d ∈ acc, intPair d = true) → acc.Nodup →
    (l.foldl (fun acc x => if memD x acc then acc else acc ++ [x]) acc).Nodup ∧ ∀ d, d ∈ l.foldl (fun acc x => if memD x acc then acc else acc ++ [x]) acc ↔ d ∈ acc ∨ d ∈ l
  | [], acc, _, _, hn => ⟨hn, fun d => by simp⟩
  | x :: l, acc, hl, ha, hn => by
    have hx := hl x List.mem_cons_self
    have key : memD x acc = true ↔ x ∈ acc := by
      unfold memD
      rw [List.any_eq_true]
      constructor
      · rintro ⟨y, hy, e⟩
        obtain ⟨a, b, rfl, _⟩ := intPair_of hx
        obtain ⟨a', b', rfl, _⟩ := intPair_of (ha y hy)
        obtain ⟨rfl, rfl⟩ := (eqv_pr _ _ _ _).mp e
        exact hy
      · intro h
        obtain ⟨a, b, rfl, _⟩ := intPair_of hx
        exact ⟨_, h, (eqv_pr _ _ _ _).mpr ⟨rfl, rfl⟩⟩
    rw [List.foldl_cons]
    by_cases h : memD x acc = true
    · rw [if_pos h]
      obtain ⟨q1, q2⟩ := mem_dedup l acc (fun d hd => hl d (List.mem_cons_of_mem _ hd)) ha hn
      refine ⟨q1, fun d => (q2 d).trans ⟨fun z => z.imp id (List.mem_cons_of_mem _), fun z => ?_⟩⟩
      rcases z with z | z
      · exact .inl z
      · rcases List.mem_cons.mp z with e | z
        · subst e; exact .inl (key.mp h)
        · exact .inr z
    · rw [if_neg h]
      have hx2 : x ∉ acc := fun z => h (key.mpr z)
      obtain ⟨q1, q2⟩ := mem_dedup l (acc ++ [x]) (fun d hd => hl d (List.mem_cons_of_mem _ hd)) (fun d hd => by
        rcases List.mem_append.mp hd with hd | hd
        · exact ha d hd
        · rw [List.mem_singleton.mp hd]; exact hx) (by
        rw [List.nodup_append]
        refine ⟨hn, by simp, fun a ha b hb e => ?_⟩
        rw [List.mem_singleton.mp hb] at e
        exact hx2 (e ▸ ha))
      refine ⟨q1, fun d => (q2 d).trans ?_⟩
      rw [List.mem_append, List.mem_singleton, List.mem_cons, or_assoc]
theorem enc_pr (a b : Int) : enc (prD a b) = [a, b] := by simp [prD, enc, encs]
theorem swo_enc : Swo (fun d e : D => ltL (enc d) (enc e)) := ⟨fun x y h => ltL_asym _ _ h, fun x y z h1 h2 => ltL_tr _ _ _ h1 h2⟩
theorem sort_pr {l : List D} (h : ∀ d ∈ l, intPair d = true) : sortBy ltD l = sortBy (fun d e : D => ltL (enc d) (enc e)) l := by
  have p : Paired (fun (d e : D) => d = e ∧ intPair d = true) l l := by
    induction l with
    | nil => exact .nil
    | cons x l ih => exact .cons ⟨rfl, h x List.mem_cons_self⟩ (ih fun d hd => h d (List.mem_cons_of_mem _ hd))
  have q := sort_paired (lt := ltD) (lt' := fun d e : D => ltL (enc d) (enc e)) (fun a b a' b' e e' => by
    obtain ⟨rfl, ha⟩ := e
    obtain ⟨rfl, ha'⟩ := e'
    obtain ⟨x, y, rfl, _⟩ := intPair_of ha
    obtain ⟨x', y', rfl, _⟩ := intPair_of ha'
    exact enc_cmp (sh := .t [.i, .i]) rfl rfl) p
  have back : ∀ {l m : List D}, Paired (fun (d e : D) => d = e ∧ intPair d = true) l m → l = m := by
    intro l m p
    induction p with
    | nil => rfl
    | cons e _ ih => rw [e.1, ih]
  exact back q
def rSS (K : PySem.W.Frag) (P : Program) (w : World) : List V → Hp → VK → Prop := fun vs H Q => rSetOfT K P w vs H fun x H1 => rSortedT K P w [x] H1 Q
theorem reps_pairs {K : PySem.W.Frag} {G : Hp} : ∀ {l : List D} {xs : List V}, (∀ d ∈ l, intPair d = true) → Reps K G l xs → ∃ ks : List (Addr × List Int), xs = ks.map (fun p => V.ref p.1) ∧ (∀ p ∈ ks, SqT K G p.1 (p.2.map V.int)) ∧ l = ks.map fun p => D.tup (p.2.map D.int)
  | [], _, _, r => by cases r; exact ⟨[], rfl, fun _ m => (nomatch m), rfl⟩
  | d :: l, _, h, r => by
    obtain ⟨x, xs, rfl, r1, r2⟩ := r
    obtain ⟨ks, e1, e2, e3⟩ := reps_pairs (fun e he => h e (List.mem_cons_of_mem _ he)) r2
    obtain ⟨a, b, rfl, _⟩ := intPair_of (h d List.mem_cons_self)
    obtain ⟨t, vs, rfl, q1, q2, _⟩ := r1
    obtain ⟨u, v, rfl, rfl, rfl⟩ := reps2 q2
    refine ⟨(t, [a, b]) :: ks, by rw [e1]; rfl, fun p hp => ?_, by rw [e3]; rfl⟩
    rcases List.mem_cons.mp hp with e | hp
    · rw [e]; exact q1
    · exact e2 p hp
theorem sf_sortedSet {w : World} {Pr : Program} : ServesF P .sortedSet (rSS P.K Pr w) := by
  intro lc G H c Q ds vs hs r k q
  obtain ⟨d, e, q⟩ := q.opt
  match ds, e with
  | [.lst l], e =>
    obtain ⟨v, rfl, p, xs, rfl, h1, h2, h3⟩ := reps1 r
    obtain ⟨hg, rfl⟩ := ite_some (show (if (l.all intPair && decide (l.length < 64)) = true then some (D.lst (sortBy ltD (dedup l))) else none) = some d from e)
    simp only [Bool.and_eq_true, List.all_eq_true, decide_eq_true_eq] at hg
    obtain ⟨ks, rfl, e2, e3⟩ := reps_pairs hg.1 h2
    have hk : ∀ p ∈ ks, ∃ a b, p.2 = [a, b] ∧ 0 ≤ a ∧ a < 64 ∧ 0 ≤ b ∧ b < 64 := fun p hp => by
      have hm : D.tup (p.2.map D.int) ∈ l := by rw [e3]; exact List.mem_map.mpr ⟨p, hp, rfl⟩
      obtain ⟨a, b, e, z⟩ := intPair_of (hg.1 _ hm)
      have e' : p.2.map D.int = [D.int a, D.int b] := by
        injection e
      match hp2 : p.2, e' with
      | [x, y], e' =>
        simp at e'
        obtain ⟨rfl, rfl⟩ := e'
        exact ⟨_, _, rfl, z⟩
      | [], e' => simp at e'
      | [x], e' => simp at e'
      | _ :: _ :: _ :: _, e' => simp at e'
    refine ⟨p, ks, rfl, same_l hs h1, fun p hp => same_t hs (e2 p hp), by have := hg.2; rw [e3, List.length_map] at this; exact this, fun a L ha hL1 hL2 => ?_⟩
    have h0 : Ext lc G H G (upd H a (SetTO Pr w a L)) := .lay hs ha
    refine ⟨a, L, 2, 64, rfl, upd_same, fun p hp => same_t h0.inn (e2 p (hL1 p hp)), by decide, fun p hp => ?_, fun L' p2 hp hnd hl hpw hn => ?_⟩
    · obtain ⟨x, y, e, z⟩ := hk p (hL1 p hp)
      rw [e]
      refine ⟨rfl, ?_⟩
      intro z' hz'
      simp at hz'
      rcases hz' with rfl | rfl <;> omega
    · have hin' : ∀ q ∈ L', q ∈ ks := fun q hq => hL1 q (hp.mem_iff.mp hq)
      have hr : Reps P.K G (L'.map fun q => D.tup (q.2.map D.int)) (L'.map fun q => V.ref q.1) := by
        clear hpw hnd hl hp
        induction L' with
        | nil => exact rfl
        | cons q L' ih =>
          obtain ⟨x, y, e, _⟩ := hk q (hin' q List.mem_cons_self)
          refine ⟨_, _, rfl, ⟨q.1, q.2.map V.int, rfl, e2 q (hin' q List.mem_cons_self), reps_ints _, ?_⟩, ih fun z hz => hin' z (List.mem_cons_of_mem _ hz)⟩
          rw [e]
          show 2 ≤ LIM
          decide
      have heq : L'.map (fun q => D.tup (q.2.map D.int)) = sortBy ltD (dedup l) := by
        have hded := mem_dedup l [] hg.1 (fun _ m => by cases m) List.nodup_nil
        have hdp : ∀ d ∈ dedup l, intPair d = true := fun d hd => hg.1 d (by simpa using (hded.2 d).mp hd)
        rw [sort_pr hdp]
        refine asc_uniq (lt := fun d e : D => ltL (enc d) (enc e)) (fun a => swo_enc.refl a) (fun a b c h1 h2 => swo_enc.ltle h1 (swo_enc.asym _ _ h2)) ?_ ?_ (fun z => ?_)
        · -- by the codes
          rw [List.pairwise_map]
          have hnd' : L'.Pairwise (fun q r => q.2 ≠ r.2) := by
            have := hnd
            unfold List.Nodup at this
            rw [List.pairwise_map] at this
            exact this
          have both := List.Pairwise.and hpw hnd'
          refine List.Pairwise.imp_of_mem (fun {q r} hq hr' h => ?_) both
          obtain ⟨x, y, e, z1, z2, z3, z4⟩ := hk q (hin' q hq)
          obtain ⟨x', y', e', z1', z2', z3', z4'⟩ := hk r (hin' r hr')
          rw [e, e'] at h ⊢
          have := pair_lt h.1 h.2 ⟨z1, z2⟩ ⟨z3, z4⟩ ⟨z1', z2'⟩ ⟨z3', z4'⟩
          show ltL (enc (prD x y)) (enc (prD x' y')) = true
          rw [← enc_cmp (sh := .t [.i, .i]) rfl rfl]
          exact (ltD_pr _ _ _ _).mpr this
        · have s1 := sortBy_srtd swo_enc (dedup l)
          have s2 : (sortBy (fun d e : D => ltL (enc d) (enc e)) (dedup l)).Nodup := ((sortBy_perm _).nodup_iff).mpr hded.1
          refine List.Pairwise.imp_of_mem (fun {q r} hq hr' h => ?_) (List.Pairwise.and s1 s2)
          have mq := hdp q ((sortBy_perm _).mem_iff.mp hq)
          have mr := hdp r ((sortBy_perm _).mem_iff.mp hr')
          obtain ⟨x, y, rfl, _⟩ := intPair_of mq
          obtain ⟨x', y', rfl, _⟩ := intPair_of mr
          obtain ⟨h1, h2⟩ := h
          have h1 : ltL (enc (prD x' y')) (enc (prD x y)) = false := h1
          show ltL (enc (prD x y)) (enc (prD x' y')) = true
          rw [← enc_cmp (sh := .t [.i, .i]) rfl rfl] at h1 ⊢
          rw [ltD_pr]
          have h1 : ¬ (x' < x ∨ (x' = x ∧ y' < y)) := fun z => by
            rw [(ltD_pr _ _ _ _).mpr z] at h1
            cases h1
          have h2 : ¬ (x = x' ∧ y = y') := fun z => h2 (by rw [z.1, z.2])
          omega
        · rw [(sortBy_perm _).mem_iff]
          have m2 := hded.2 z
          simp only [List.not_mem_nil, false_or] at m2
          rw [show (z ∈ dedup l ↔ z ∈ l) from m2, e3, List.mem_map, List.mem_map]
          constructor
          · rintro ⟨q, hq, rfl⟩
            exact ⟨q, hin' q hq, rfl⟩
          · rintro ⟨q, hq, rfl⟩
            obtain ⟨q', hq', e⟩ := List.mem_map.mp (hL2 q hq)
            exact ⟨q', hp.mem_iff.mpr hq', by rw [e]⟩
      rw [← heq] at q
      exact (OutF.ext q h0).out h0.inn hr (by rw [List.length_map]; show _ ≤ 16777216; omega) (k.lay ha) hn
end
end G
/-! GM: d.keys(), sorted(d.keys()). -/
namespace G
open PySem L2 PySem.Spec PyProof.Rows PySem.W SrtO
variable [TQ]
/-- d.keys() at v -/
def viewO (v d : Addr) : HO := .ext fun h => KdlKeysView h v d
section
variable {X : Cx} {pins : List (Addr × Obj)} {σ : L2.St} {G H : Hp} {s : Shared} {a v : Addr} {ks vs : List D} {xs : List (NestedKey × Addr × V)} {A : Around} {E : Value → Shared → Prop}
/-- what stands there, raw -/
theorem dk_raw (I : Inv X pins σ H s) (hs : Same G H) (ea : Rd H a (dkO a xs)) (D : DkAt X.K G ks vs xs) : (a == sysModules) = false ∧ ∃ es ep, s.heap.DictRaw a es ep ∧ es.size = xs.length ∧ ∀ i (hi : i < es.size), ∃ y, xs[i]? = some y ∧ es[i].key = .ref y.2.1 := by
  obtain ⟨hd, us, hp, dd⟩ := dk_of I hs ea D
  obtain ⟨es, ep, h1, h2, h3⟩ := dd.raw
  refine ⟨hd, es, ep, h1, by rw [h2, Paired.length hp], fun i hi => ?_⟩
  obtain ⟨y, hy, hk, _⟩ := h3 i hi
  have : ∀ {xs : List (NestedKey × Addr × V)} {us : List (NestedKey × Addr × Value)}, Paired RelE3 xs us → ∀ {i : Nat} {x : NestedKey × Addr × Value}, us[i]? = some x → ∃ y, xs[i]? = some y ∧ y.2.1 = x.2.1 := by
    intro xs us h
    induction h with
    | nil => intro i x e; simp at e
    | cons h _ ih =>
      intro i x e
      cases i with
      | zero => cases e; exact ⟨_, rfl, h.2.1⟩
      | succ i => exact ih e
  obtain ⟨z, hz, ez⟩ := this hp hy
  exact ⟨z, hz, by rw [hk, ez]⟩
theorem view_ok {P : Program} {w : World} {H : Hp} {h : Heap} (hv : KdlKeysView h v a) : ObjOk P w H h v (viewO v a) := by
  refine ⟨hv, ?_, fun h1 h2 ⟨o, e, x⟩ k => ⟨o, k o e, x⟩⟩
  obtain ⟨o, e, _⟩ := hv
  exact ⟨o, e⟩
def tKeysV (K : PySem.W.Frag) (to : TE) : TE := fun σ H Q => to σ H fun x H1 => ∃ a xs G ks vs, x = .ref a ∧ Same G H1 ∧ Rd H1 a (dkO a xs) ∧ DkAt K G ks vs xs ∧ ∀ p, H1 p = none → Q (.ref p) (upd H1 p (viewO p a))
end
section
variable {X : Cx}
theorem pe_keysV {e : Expr} {te : TE} {apos cpos : Pos} (he : PE X e te) (hbase : attributeBase e "keys" X.env (eval e X.env) = eval e X.env := by rfl) (hline : (apos.endLine == cpos.line) = true := by rfl) : PE X (.Call (.Attribute e "keys" apos) [] [] cpos) (tKeysV X.K te) := by
  refine ⟨fun pins s σ H Q I h => ?_⟩
  refine wpAny_Call_method (T := "dict") (id := "dict.keys") hbase rfl hline F.plainAttrs_dict F.slot_dict_keys F.type_dict_keys (thn (he.run pins s σ H _ I h) fun u s1 ⟨x, H1, I1, rx, d, xs, G, ks, vs, ex, hs, hd, D, q⟩ => ?_)
  subst ex
  obtain rfl : u = Value.ref d := rx
  obtain ⟨hsm, us, hp, dd⟩ := dk_of I1 hs hd D
  obtain ⟨_, es, ep, hr, _⟩ := dk_raw I1 hs hd D
  refine ⟨dd.typeIs, fun b e => ?_, ?_⟩
  · cases e
    obtain ⟨ob, _, _, h1, h2, _⟩ := dd
    exact ⟨ob, h1, h2.2.1⟩
  have hn := I1.hok.fresh (Nat.le_refl s1.heap.objs.size)
  have I2 : Inv X pins σ (upd H1 s1.heap.objs.size (viewO s1.heap.objs.size d)) { s1 with heap := s1.heap.push { cls := .type "dict_keys", data := .fields #[.ref d] } } := I1.laid (a := s1.heap.objs.size) (t' := s1.toks) (fun b ob q => Heap.get?_push_of_some _ q) (Nat.le_refl _) (view_ok ⟨_, Heap.get?_push_size _ rfl, rfl, rfl⟩)
  show wpAny _ _ (callWith cpos (.builtin "dict.keys") [.ref d] [] []) _ X.xe s1
  exact method_meetsIn F.slot_dict_keys F.entry_dict_keys rfl (PySem.evalArgs_none ⟨rfl, dd.typeIs, F.args_dict_keys_1 _, _, meets_dict_keys_raw d hsm, ⟨es, ep, hr⟩, ⟨V.ref s1.heap.objs.size, _, I2, rfl, q _ hn⟩⟩)
end
section
variable {X : Cx} {A : Around} {E : Value → Shared → Prop}
theorem refsK {xs : List (NestedKey × Addr × V)} {us : List Value} (hl : us.length = xs.length) (h : ∀ (j : Nat) (u : Value), us[j]? = some u → ∃ y, xs[j]? = some y ∧ u = Value.ref y.2.1) : L2.Vals (xs.map fun x => V.ref x.2.1) us := by
  induction xs generalizing us with
  | nil =>
    have : us = [] := List.eq_nil_of_length_eq_zero hl
    subst this
    exact .nil
  | cons x xs ih =>
    cases us with
    | nil => simp at hl
    | cons u us =>
      obtain ⟨y, hy, e⟩ := h 0 u (by simp)
      have hy : some x = some y := hy
      cases hy
      exact .cons e (ih (by simpa using hl) fun j u e => h (j + 1) u (by simpa using e))
/-- sorted(d.keys()) -/
def rSortK (K : PySem.W.Frag) : List V → Hp → VK → Prop := fun zs H Q => ∃ v a xs G ks vs, zs = [.ref v] ∧ H v = some (viewO v a) ∧ Same G H ∧ Rd H a (dkO a xs) ∧ DkAt K G ks vs xs ∧ sameSh ks = true ∧
  ∀ ys p, Reps K G (sortBy ltD ks) ys → H p = none → Q (.ref p) (upd H p (.lst ys))
theorem cr_sortK (hu : X.A.units + 150 < cLine) (hc : X.calm = true) : CallR X (.builtin "sorted") (rSortK X.K) := by
  intro pins s σ H zs us Q I r h
  obtain ⟨v, a, xs, G, ks, vs, rfl, hv, sg, ea, D, hsame, q⟩ := h
  rw [Vals.ref1 r]
  obtain ⟨hd, es, ep, hr, hsz, hk⟩ := dk_raw I sg ea D
  obtain ⟨hview, _, _⟩ := (show ObjOk X.prog X.w H s.heap v (viewO v a) from I.hok v _ hv)
  have hview : KdlKeysView s.heap v a := hview
  have lk : es.size = ks.length := by
    have := D.rk.length
    rw [List.length_map] at this
    rw [hsz, this]
  refine Calls.call_function_entry kind_sorted plain_sorted entry_sorted (args_sorted1 _) ?_
  unfold Builtin.«sorted»
  refine wpAny_bind (m := checkCount "sorted" 1 1 _) (wpAny_pure ?_)
  refine wpAny_bind (kdu_collect (A := X.A.in1) (KdlSrc.rawKeys (prog := X.prog) (w := X.w) (r := v) (d := a) (es := es) (ep := ep)) (I.ok.hd hc) ⟨hview, hr⟩ (by rw [lk]; exact D.len) fun h' tk acc hkeep hacc => ?_)
  have hl : acc.toList.length = ks.length := by rw [Array.length_toList, hacc.1, lk]
  have lz : acc.toList.length ≤ sizeLine := by rw [hl]; exact D.len
  refine wpAny_bind (wpAny_newList ?_ lz)
  have I1 : Inv X pins σ H { s with heap := h', toks := tk } := I.kept hkeep
  have rv : Vals (xs.map fun x => V.ref x.2.1) acc.toList := refsK (by rw [hl, ← lk, hsz]) fun j u e => by
    obtain ⟨hi, e2⟩ := hacc.2 j u (by rw [← Array.getElem?_toList]; exact e)
    obtain ⟨y, hy, e3⟩ := hk j hi
    exact ⟨y, hy, by rw [e2, e3]⟩
  have rk := D.rk.mono sg
  have hoL : (h'.push (seqObj "list" acc.toList.toArray 0)).get? h'.objs.size = some (seqObj "list" acc.toList.toArray 0) := Heap.get?_push_size _ rfl
  have kpush : ∀ b o, h'.get? b = some o → (h'.push (seqObj "list" acc.toList.toArray 0)).get? b = some o := fun b o e => Heap.get?_push_of_some _ e
  have fin : ∀ (ltv : Value → Value → Bool) (out : List Value) ys, out.length = ks.length → Vals ys out → Reps X.K H (sortBy ltD ks) ys → (∀ G', Same G' H → Reps X.K G' ks (xs.map fun x => V.ref x.2.1) → Reps X.K G' (sortBy ltD ks) ys) →
      EP X pins σ Q (.ref h'.objs.size) { s with heap := sortedHeap (h'.push (seqObj "list" acc.toList.toArray 0)) h'.objs.size acc.toList out.toArray, toks := tk } := by
    intro ltv out ys lo v1 v2 v3
    obtain ⟨n, hn⟩ := sortedHeap_at (out := out.toArray) hoL
    refine ⟨.ref h'.objs.size, upd H h'.objs.size (.lst ys), I1.laid (t' := tk) (fun b o e => ?_) (Nat.le_refl _) ⟨?_, out, n, v1, hn⟩, rfl, q ys _ (v3 G sg D.rk) (I1.hok.fresh (Nat.le_refl _))⟩
    · have hb := Heap.lt_size e
      rw [sortedHeap_old (Nat.ne_of_lt hb) (by rw [size_push']; exact Nat.lt_succ_of_lt hb)]
      exact kpush b o e
    · rw [v1.length, lo]; exact D.len
  have main : ∃ ltv : Value → Value → Bool, Swo ltv ∧ (2 ≤ acc.toList.length → SortableO X.prog X.w X.A.in1.in1 { s with heap := h'.push (seqObj "list" acc.toList.toArray 0), toks := tk } h'.objs.size acc.toList ltv) ∧
      ∀ out : List Value, Srtd ltv out → Stb ltv out acc.toList → EP X pins σ Q (.ref h'.objs.size) { s with heap := sortedHeap (h'.push (seqObj "list" acc.toList.toArray 0)) h'.objs.size acc.toList out.toArray, toks := tk } := by
    cases ks with
    | nil =>
      have e0 : acc.toList = [] := List.eq_nil_of_length_eq_zero hl
      refine ⟨ltG s.heap, swoG s.heap, fun z => by rw [e0] at z; simp at z, fun out h1 h2 => ?_⟩
      rw [e0] at h2
      have eo : out = [] := h2.perm.eq_nil
      subst eo
      exact fin (ltG s.heap) [] [] rfl .nil rfl fun _ _ _ => rfl
    | cons d0 l =>
      unfold sameSh at hsame
      dsimp only at hsame
      cases e0 : shOf d0 with
      | none => rw [e0] at hsame; cases hsame
      | some sh =>
        rw [e0] at hsame
        simp only [Bool.and_eq_true, List.all_eq_true] at hsame
        obtain ⟨⟨hok, hall⟩, hshp⟩ := hsame
        have ht := D.kt
        rw [List.all_cons, Bool.and_eq_true] at ht
        obtain ⟨z, rfl, _⟩ := keyT_two ht.1
        rw [shOf, Option.map_eq_some_iff] at e0
        obtain ⟨sl, _, rfl⟩ := e0
        cases sl with
        | nil => cases hok
        | cons s0 ss =>
          have r0 : VReps h' (.tup z :: l) acc.toList := reps_all I1 (.t (s0 :: ss)) hall rk rv
          refine ⟨ltG h', swoG h', fun h2 => ?_, fun out h1 h2 => ?_⟩
          · refine sortableG (s := { s with heap := h'.push (seqObj "list" acc.toList.toArray 0), toks := tk }) r0 (r0.keep fun c o e _ => kpush c o e) hall hshp hok ?_ h2 fun o e => ?_
            · show X.A.units + 1 + 1 + 130 < cLine; omega
            · have e' : some o = some (PyProof.Rows.seqObj "list" acc.toList.toArray 0) := e.symm.trans hoL
              cases e'
              intro c
              exact absurd (Value.type.inj c) (by decide)
          · have e1 : out = sortBy (ltG h') acc.toList := by
              refine stb_uniq (swoG h') h1 (sortBy_srtd (swoG h') acc.toList) (h2.trans ?_)
              have z := sortBy_stb (swoG h') acc.toList
              exact ⟨z.perm.symm, fun x => (z.cls x).symm⟩
            have key : ∀ G', Same G' H → Reps X.K G' (.tup z :: l) (xs.map fun x => V.ref x.2.1) → ∃ ys, Vals ys out ∧ Reps X.K G' (sortBy ltD (.tup z :: l)) ys := by
              intro G' sg' rk'
              have pr := sort_paired (lt := ltD) (lt' := ltG h') (fun d u d' u' z z' => by
                show ltD d d' = ltL (keyG h' u) (keyG h' u')
                rw [z.2.1, z'.2.1]
                exact enc_cmp z.2.2 z'.2.2) (pair_up (h0 := h') hall hshp rk' rv r0)
              obtain ⟨ys, v1, v2⟩ := pair_down pr
              rw [← e1] at v1
              exact ⟨ys, v1, v2⟩
            obtain ⟨ys, v1, v2⟩ := key G sg D.rk
            have lo : out.length = l.length + 1 := by rw [e1, (sortBy_perm (lt := ltG h') acc.toList).length_eq, hl]; rfl
            obtain ⟨n, hn⟩ := sortedHeap_at (out := out.toArray) hoL
            refine ⟨.ref h'.objs.size, upd H h'.objs.size (.lst ys), I1.laid (t' := tk) (fun b o e => ?_) (Nat.le_refl _) ⟨?_, out, n, v1, hn⟩, rfl, q ys _ v2 (I1.hok.fresh (Nat.le_refl _))⟩
            · have hb := Heap.lt_size e
              rw [sortedHeap_old (Nat.ne_of_lt hb) (by rw [size_push']; exact Nat.lt_succ_of_lt hb)]
              exact kpush b o e
            · rw [v1.length, lo]; exact D.len
  obtain ⟨ltv, O, hS, hfin⟩ := main
  refine wpAny_bind (wpAny_holding (wpAny_call_entry slot_list_sort ⟨_, hoL, rfl⟩ entry_list_sort (list_sort_ord O hoL lz hS fun out hs hb => ⟨_, rfl, ?_⟩) (args_list_sort _)))
  exact wpAny_pure ⟨_, rfl, hfin out hs hb⟩
end
end G
/-! G11: statements. -/
namespace G
open PySem L2
variable [TQ]
structure Cfg where
  K : PySem.W.Frag
  Φ : Tab
  own : List Nat
  cell : Option Nat
  /-- the classes of errors, what is wished of an error that leaves, the error that is caught -/
  xc : XC := fun _ => none
  E : XK := fun _ _ _ => False
  xn : Option Xn := none
  /-- own things that are being walked -/
  lock : List Nat := []
abbrev Cfg.all (p : Cfg) : Pl := ⟨p.K, p.Φ, fun _ => true, none, p.xc, p.xn⟩
abbrev Cfg.non (p : Cfg) : Pl := ⟨p.K, p.Φ, fun i => !p.own.contains i, p.cell, p.xc, p.xn⟩
/-- the entry of the def: its cell, what lay there, all that stood; Fk what is to be kept -/
structure En where
  lc0 : Option Addr
  F0 : Hp
  H0 : Hp
  Fk : Hp
  /-- what is being walked: its slot, its place, what stands there -/
  lk : List (Nat × Addr × HO)
  nt : NoT F0
  tb : TB H0
structure StS (p : Cfg) (en : En) (lc : Option Addr) (F H : Hp) (ρ : Env) (σ : L2.St) (c : Cell) : Prop where
  inn : Same F H
  non : ∀ i d, i ∉ p.own → get ρ i = some d → ∃ v, σ[i]? = some (some v) ∧ Rep p.K F d v
  own : ∀ i d, i ∈ p.own → get ρ i = some d → ∃ l, σ[i]? = some (some (.ref l)) ∧ OwnL p.K (p.lock.contains i) F H l d ∧ F l = none ∧ lc ≠ some l ∧ en.H0 l = none
  dist : ∀ i j d e l, i ∈ p.own → j ∈ p.own → i ≠ j → get ρ i = some d → get ρ j = some e → σ[i]? = some (some (.ref l)) → σ[j]? = some (some (.ref l)) → False
  cel : ∀ i l, p.cell = some i → lc = some l → σ[i]? = some (some (.ref l))
  len : ρ.length = σ.length
  cr : CellR p.K lc F H c
  ext : Ext en.lc0 en.F0 en.H0 F H
  kept : Same en.Fk F
  lcok : lc = en.lc0 ∨ (en.lc0 = none ∧ ∀ l, lc = some l → en.H0 l = none)
  exn : XnOk p.non F σ
  xf : ∀ z, p.xn = some z → get ρ z.i = none
  lock : ∀ z ∈ en.lk, z.1 ∈ p.lock ∧ z.1 ∈ p.own ∧ (∃ d, get ρ z.1 = some d) ∧ σ[z.1]? = some (some (.ref z.2.1)) ∧ H z.2.1 = some z.2.2
theorem Ext.comp {lc lc0 : Option Addr} {F0 H0 F H F' H' : Hp} (a : Ext lc0 F0 H0 F H) (b : Ext lc F H F' H') (h : lc = lc0 ∨ (lc0 = none ∧ ∀ l, lc = some l → H0 l = none)) : Ext lc0 F0 H0 F' H' := by
  rcases h with rfl | ⟨rfl, h⟩
  · exact a.trans b
  · have ne : ∀ p o, H0 p = some o → lc ≠ some p := fun p o e z => by rw [h p z] at e; cases e
    exact ⟨fun p o _ n e => b.same p o (ne p o e) n (a.same p o (by simp) n e), a.sub.trans b.sub, b.inn, fun p o e e' => by
      obtain ⟨o', e2⟩ := a.there e'
      exact b.fresh p o' (a.fresh p o e e') e2, fun p o z _ => (by cases z), fun P t => b.tab P (a.tab P t), fun p ps e => by
      obtain ⟨ps', e2⟩ := a.tbl p ps e
      exact b.tbl p ps' e2, fun h => b.nt (a.nt h)⟩
section
variable {p : Cfg} {en : En} {lc : Option Addr} {F H F' H' : Hp} {ρ : Env} {σ : L2.St} {c c' : Cell}
theorem contains_iff {l : List Nat} {i : Nat} : (!l.contains i) = true ↔ i ∉ l := by
  simp
theorem StS.at_non (s : StS p en lc F H ρ σ c) : At p.non lc F H ρ σ c :=
  ⟨s.inn, ⟨fun i d hi hd => s.non i d (contains_iff.mp hi) hd, s.cel, s.len⟩, s.cr, s.exn, s.ext.nt en.nt, fun P z => s.ext.tab P (en.tb P z)⟩
theorem StS.step (s : StS p en lc F H ρ σ c) (e : Ext lc F H F' H') (k : CellR p.K lc F' H' c') : StS p en lc F' H' ρ σ c' where
  inn := e.inn
  non := fun i d hi hd => by
    obtain ⟨v, q1, q2⟩ := s.non i d hi hd
    exact ⟨v, q1, q2.mono e.sub⟩
  own := fun i d hi hd => by
    obtain ⟨l, q2, q3, q4, q5, q6⟩ := s.own i d hi hd
    obtain ⟨o, ho, _⟩ := q3.at
    exact ⟨l, q2, q3.mono e.sub fun o ho => e.same _ _ q5 (q3.ntb ho) ho, e.fresh _ _ q4 ho, q5, q6⟩
  dist := s.dist
  cel := s.cel
  len := s.len
  cr := k
  ext := s.ext.comp e s.lcok
  kept := s.kept.trans e.sub
  lcok := s.lcok
  exn := s.exn.mono e.sub
  xf := s.xf
  lock := fun z hz => by
    obtain ⟨h1, h2, ⟨d, h3⟩, h4, h5⟩ := s.lock z hz
    obtain ⟨l, q2, q3, q4, q5, q6⟩ := s.own _ d h2 h3
    rw [h4] at q2
    cases q2
    exact ⟨h1, h2, ⟨d, h3⟩, h4, e.same _ _ q5 (q3.ntb h5) h5⟩
/-- an own list's place -/
def Root (p : Cfg) (ρ : Env) (σ : L2.St) (a : Addr) : Prop := ∃ i d, i ∈ p.own ∧ get ρ i = some d ∧ σ[i]? = some (some (.ref a))
open Classical in
noncomputable def addOwn (p : Cfg) (ρ : Env) (σ : L2.St) (F H : Hp) : Hp := fun a => if Root p ρ σ a then H a else F a
open Classical in
noncomputable def cutOwn (p : Cfg) (ρ : Env) (σ : L2.St) (G : Hp) : Hp := fun a => if Root p ρ σ a then none else G a
theorem StS.root (s : StS p en lc F H ρ σ c) {a : Addr} (h : Root p ρ σ a) : ∃ o, (H a = some o ∧ isOwnO o = true) ∧ F a = none ∧ lc ≠ some a ∧ en.H0 a = none := by
  obtain ⟨i, d, h1, h2, h3⟩ := h
  obtain ⟨l, q2, q3, q4, q5, q6⟩ := s.own i d h1 h2
  rw [h3] at q2
  cases q2
  obtain ⟨o, ho⟩ := q3.at
  exact ⟨o, ho, q4, q5, q6⟩
theorem StS.addNT (s : StS p en lc F H ρ σ c) (n : NoT F) : NoT (addOwn p ρ σ F H) := fun b qs y => by
  unfold addOwn at y
  split at y
  · rename_i r
    obtain ⟨o, ⟨h1, h2⟩, _⟩ := s.root r
    rw [y] at h1
    cases h1
    cases h2
  · exact n b qs y
theorem StS.addSub (s : StS p en lc F H ρ σ c) : Same F (addOwn p ρ σ F H) := fun a o e => by
  unfold addOwn
  split
  · exact s.inn a o e
  · exact e
theorem StS.at_all (s : StS p en lc F H ρ σ c) : At p.all none (addOwn p ρ σ F H) H ρ σ none where
  inn := fun a o e => by
    unfold addOwn at e
    split at e
    · exact e
    · exact s.inn a o e
  rel := ⟨fun i d _ hd => by
    by_cases hi : i ∈ p.own
    · obtain ⟨l, q2, q3, q4, q5, q6⟩ := s.own i d hi hd
      refine ⟨_, q2, q3.rep s.addSub fun o ho => ?_⟩
      unfold addOwn
      rw [if_pos ⟨i, _, hi, hd, q2⟩]
      exact ho
    · obtain ⟨v, q1, q2⟩ := s.non i d hi hd
      exact ⟨v, q1, q2.mono s.addSub⟩, fun _ _ z _ => (nomatch z), s.len⟩
  cel := rfl
  exn := XnOk.mono (P := p.all) s.exn s.addSub
  nt := s.addNT (s.ext.nt en.nt)
  tb := fun P z => s.ext.tab P (en.tb P z)
theorem StS.back (s : StS p en lc F H ρ σ c) (e : Ext none (addOwn p ρ σ F H) H F' H') : Ext none F H (cutOwn p ρ σ F') H' where
  same := e.same
  sub := fun a o z => by
    have nr : ¬ Root p ρ σ a := fun r => by
      obtain ⟨_, _, q, _⟩ := s.root r
      rw [z] at q; cases q
    unfold cutOwn
    rw [if_neg nr]
    exact e.sub a o (s.addSub a o z)
  inn := fun a o z => by
    unfold cutOwn at z
    split at z
    · cases z
    · exact e.inn a o z
  fresh := fun a o z z' => by
    unfold cutOwn
    split
    · rfl
    · rename_i nr
      refine e.fresh a o ?_ z'
      unfold addOwn
      rw [if_neg nr]
      exact z
  cell := e.cell
  tab := e.tab
  tbl := e.tbl
  nt := fun n a ps z => by
    unfold cutOwn at z
    split at z
    · cases z
    · exact e.nt (s.addNT n) a ps z
theorem StS.cut_at (s : StS p en lc F H ρ σ c) (e : Ext none (addOwn p ρ σ F H) H F' H') {a : Addr} {vs : List V} (h : SqT p.K F' a vs) : SqT p.K (cutOwn p ρ σ F') a vs := by
  have nr : ∀ o, F' a = some o → isOwnO o = false → ¬ Root p ρ σ a := fun o z hx r => by
    obtain ⟨xs, ⟨q, qo⟩, _⟩ := s.root r
    have q2 := e.same _ _ (by simp) (ntb_own qo).ne q
    rw [e.inn _ _ z] at q2
    cases q2
    rw [hx] at qo
    cases qo
  rcases h with (h | ⟨o, h⟩) | h
  · refine .inl (.inl ?_)
    unfold cutOwn
    rw [if_neg (nr _ h rfl)]
    exact h
  · refine .inl (.inr ⟨o, ?_⟩)
    unfold cutOwn
    rw [if_neg (nr _ h rfl)]
    exact h
  · exact .inr h
mutual
theorem StS.cut_rep (s : StS p en lc F H ρ σ c) (e : Ext none (addOwn p ρ σ F H) H F' H') : ∀ {n : Nat} {d : D} {v : V}, flatD n d = true → Rep p.K F' d v → Rep p.K (cutOwn p ρ σ F') d v
  | _, .non, _, _, r => r
  | _, .bl _, _, _, r => r
  | _, .int _, _, _, r => r
  | _, .str _, _, _, r => r
  | 0, .tup l, _, h, _ => by simp [flatD] at h
  | n + 1, .tup l, _, h, r => by
    obtain ⟨a, vs, e1, h1, h2, h3⟩ := r
    exact ⟨a, vs, e1, s.cut_at e h1, StS.cut_reps s e (n := n) (by simpa [flatD] using h) h2, h3⟩
  | n, .lst _, _, h, _ => by cases n <;> simp [flatD] at h
  | n, .dct _ _, _, h, _ => by cases n <;> simp [flatD] at h
theorem StS.cut_reps (s : StS p en lc F H ρ σ c) (e : Ext none (addOwn p ρ σ F H) H F' H') : ∀ {n : Nat} {l : List D} {vs : List V}, (∀ d ∈ l, flatD n d = true) → Reps p.K F' l vs → Reps p.K (cutOwn p ρ σ F') l vs
  | _, [], _, _, r => r
  | n, d :: ds, _, h, r => by
    obtain ⟨x, xs, e1, h1, h2⟩ := r
    exact ⟨x, xs, e1, StS.cut_rep s e (h d List.mem_cons_self) h1, StS.cut_reps s e (fun z hz => h z (List.mem_cons_of_mem _ hz)) h2⟩
end
/-- a name that is not an own list's -/
theorem XnOk.set {p : Cfg} {F : Hp} {σ : L2.St} (h : XnOk p.non F σ) {i : Nat} {v : Option V} (hx : p.xn.map (·.i) ≠ some i) : XnOk p.non F (σ.set i v) := fun z hz => by
  obtain ⟨h1, h2⟩ := h z hz
  have hz' : p.xn = some z := hz
  have z1 : i ≠ z.i := fun e => hx (by rw [hz', e]; rfl)
  exact ⟨by rw [List.getElem?_set_ne z1]; exact h1, h2⟩
theorem StS.put (s : StS p en lc F H ρ σ c) {i : Nat} {d : D} {v : V} (hi : i ∉ p.own) (hc : p.cell ≠ some i) (hx : p.xn.map (·.i) ≠ some i) (r : Rep p.K F d v) : StS p en lc F H (put ρ i (some d)) (σ.set i (some v)) c where
  inn := s.inn
  non := fun j e hj he => by
    by_cases z : i = j
    · subst z
      obtain ⟨q, hl⟩ := get_put_self he
      cases q
      exact ⟨v, List.getElem?_set_self (by rw [← s.len]; exact hl), r⟩
    · rw [get_put_ne z] at he
      rw [List.getElem?_set_ne z]
      exact s.non j e hj he
  own := fun j e hj he => by
    have z : i ≠ j := fun z => hi (z ▸ hj)
    rw [get_put_ne z] at he
    rw [List.getElem?_set_ne z]
    exact s.own j e hj he
  dist := fun j k d' e' l hj hk hjk ej ek sj sk => by
    have zj : i ≠ j := fun z => hi (z ▸ hj)
    have zk : i ≠ k := fun z => hi (z ▸ hk)
    rw [get_put_ne zj] at ej
    rw [get_put_ne zk] at ek
    rw [List.getElem?_set_ne zj] at sj
    rw [List.getElem?_set_ne zk] at sk
    exact s.dist j k d' e' l hj hk hjk ej ek sj sk
  cel := fun j l hj hl => by
    have z : i ≠ j := fun z => hc (z ▸ hj)
    rw [List.getElem?_set_ne z]
    exact s.cel j l hj hl
  len := by rw [put_length, List.length_set]; exact s.len
  cr := s.cr
  ext := s.ext
  kept := s.kept
  lcok := s.lcok
  exn := s.exn.set hx
  xf := fun z hz => by rw [get_put_ne (fun e => hx (by rw [hz, e]; rfl))]; exact s.xf z hz
  lock := fun z hz => by
    obtain ⟨h1, h2, ⟨d, h3⟩, h4, h5⟩ := s.lock z hz
    have ne : i ≠ z.1 := fun e => hi (e ▸ h2)
    exact ⟨h1, h2, ⟨d, by rw [get_put_ne ne]; exact h3⟩, by rw [List.getElem?_set_ne ne]; exact h4, h5⟩
/-- an own list's name -/
theorem StS.putOwn (s : StS p en lc F H ρ σ c) {i : Nat} {d : D} {l : Addr} (hi : i ∈ p.own) (hk : i ∉ p.lock) (hc : p.cell ≠ some i) (hx : p.xn.map (·.i) ≠ some i) (h1 : OwnR p.K F H l d) (h2 : F l = none) (h3 : lc ≠ some l) (h4 : en.H0 l = none)
    (h7 : ∀ j d, j ∈ p.own → j ≠ i → get ρ j = some d → σ[j]? = some (some (.ref l)) → False) : StS p en lc F H (G.put ρ i (some d)) (σ.set i (some (.ref l))) c where
  inn := s.inn
  non := fun j e hj he => by
    have z : i ≠ j := fun z => hj (z ▸ hi)
    rw [get_put_ne z] at he
    rw [List.getElem?_set_ne z]
    exact s.non j e hj he
  own := fun j e hj he => by
    by_cases z : i = j
    · subst z
      obtain ⟨q, hl⟩ := get_put_self he
      cases q
      exact ⟨l, List.getElem?_set_self (by rw [← s.len]; exact hl), .inl h1, h2, h3, h4⟩
    · rw [get_put_ne z] at he
      rw [List.getElem?_set_ne z]
      exact s.own j e hj he
  dist := fun j k d' e' l' hj hk hjk ej ek sj sk => by
    by_cases zj : i = j
    · subst zj
      rw [get_put_ne hjk] at ek
      rw [List.getElem?_set_ne hjk] at sk
      have hl : i < σ.length := by rw [← s.len]; exact (get_put_self ej).2
      rw [List.getElem?_set_self hl] at sj
      cases sj
      exact h7 k e' hk (Ne.symm hjk) ek sk
    · rw [get_put_ne zj] at ej
      rw [List.getElem?_set_ne zj] at sj
      by_cases zk : i = k
      · subst zk
        have hl : i < σ.length := by rw [← s.len]; exact (get_put_self ek).2
        rw [List.getElem?_set_self hl] at sk
        cases sk
        exact h7 j d' hj (Ne.symm zj) ej sj
      · rw [get_put_ne zk] at ek
        rw [List.getElem?_set_ne zk] at sk
        exact s.dist j k d' e' l' hj hk hjk ej ek sj sk
  cel := fun j l hj hl => by
    have z : i ≠ j := fun z => hc (z ▸ hj)
    rw [List.getElem?_set_ne z]
    exact s.cel j l hj hl
  len := by rw [put_length, List.length_set]; exact s.len
  cr := s.cr
  ext := s.ext
  kept := s.kept
  lcok := s.lcok
  exn := s.exn.set hx
  xf := fun z hz => by rw [get_put_ne (fun e => hx (by rw [hz, e]; rfl))]; exact s.xf z hz
  lock := fun z hz => by
    obtain ⟨h1, h2, ⟨d, h3⟩, h4, h5⟩ := s.lock z hz
    have ne : i ≠ z.1 := fun e => hk (e ▸ h1)
    exact ⟨h1, h2, ⟨d, by rw [get_put_ne ne]; exact h3⟩, by rw [List.getElem?_set_ne ne]; exact h4, h5⟩
/-- an own thing's items -/
theorem StS.write (s : StS p en lc F H ρ σ c) {i : Nat} {d e : D} {o : HO} {l : Addr} (hi : i ∈ p.own) (hk : i ∉ p.lock) (hd : get ρ i = some d) (hl : σ[i]? = some (some (.ref l))) (h5 : OwnR p.K F (upd H l o) l e) :
    StS p en lc F (upd H l o) (G.put ρ i (some e)) σ c := by
  obtain ⟨l', q2, q3, q4, q5, q6⟩ := s.own i d hi hd
  rw [hl] at q2
  cases q2
  have fne : ∀ a o, F a = some o → a ≠ l := fun a o e z => by rw [z, q4] at e; cases e
  refine ⟨fun a o e => by rw [upd_ne (fne a o e)]; exact s.inn a o e, fun j e hj he => ?_, fun j e hj he => ?_, fun j k d' e' l' hj hk hjk ej ek sj sk => ?_, s.cel, by rw [put_length]; exact s.len, ?_, ?_, s.kept, s.lcok, s.exn, fun z hz => by rw [get_put_ne (fun e => by rw [e, s.xf z hz] at hd; cases hd)]; exact s.xf z hz, fun z hz => ?_⟩
  · have z : i ≠ j := fun z => hj (z ▸ hi)
    rw [get_put_ne z] at he
    exact s.non j e hj he
  · by_cases z : i = j
    · subst z
      obtain ⟨q, hlt⟩ := get_put_self he
      cases q
      exact ⟨l, hl, .inl h5, q4, q5, q6⟩
    · rw [get_put_ne z] at he
      obtain ⟨l2, r2, r3, r4, r5, r6⟩ := s.own j e hj he
      have hne : l2 ≠ l := fun q => by
        subst q
        exact s.dist i j _ _ l2 hi hj z hd he hl r2
      exact ⟨l2, r2, r3.mono (Same.refl F) fun o ho => by rw [upd_ne hne]; exact ho, r4, r5, r6⟩
  · have old : ∀ {m : Nat} {x : D}, get (G.put ρ i (some e)) m = some x → ∃ y, get ρ m = some y := fun {m x} h => by
      by_cases z : i = m
      · subst z; exact ⟨_, hd⟩
      · rw [get_put_ne z] at h; exact ⟨_, h⟩
    obtain ⟨y1, e1⟩ := old ej
    obtain ⟨y2, e2⟩ := old ek
    exact s.dist j k y1 y2 l' hj hk hjk e1 e2 sj sk
  · have h := s.cr
    cases c with
    | none => exact h
    | some cs =>
      obtain ⟨l0, vs0, r1, r2, r3, r4⟩ := h
      exact ⟨l0, vs0, r1, r2, by rw [upd_ne (fun z => q5 (by rw [r1, z]))]; exact r3, r4⟩
  · obtain ⟨u, hu, pu⟩ := q3.plain
    exact s.ext.put q6 q4 hu pu
  · obtain ⟨h1, h2, ⟨d2, h3⟩, h4, h6⟩ := s.lock z hz
    have ne : i ≠ z.1 := fun e => hk (e ▸ h1)
    have ne2 : z.2.1 ≠ l := fun q => s.dist i z.1 _ _ l hi h2 ne hd h3 hl (by rw [h4, q])
    exact ⟨h1, h2, ⟨d2, by rw [get_put_ne ne]; exact h3⟩, h4, by rw [upd_ne ne2]; exact h6⟩
/-- an own thing is forgotten -/
theorem StS.drop (s : StS p en lc F H ρ σ c) {i : Nat} (hk : i ∉ p.lock) : StS p en lc F H (G.put ρ i none) σ c := by
  have old : ∀ {m : Nat} {x : D}, get (G.put ρ i none) m = some x → get ρ m = some x := fun {m x} h => by
    by_cases z : i = m
    · subst z
      cases (get_put_self h).1
    · rw [get_put_ne z] at h; exact h
  exact ⟨s.inn, fun j e hj he => s.non j e hj (old he), fun j e hj he => s.own j e hj (old he), fun j k d' e' l' hj hk hjk ej ek sj sk => s.dist j k d' e' l' hj hk hjk (old ej) (old ek) sj sk, s.cel, by rw [put_length]; exact s.len, s.cr, s.ext, s.kept, s.lcok, s.exn,
    fun z hz => by
      by_cases e : i = z.i
      · cases q : get (G.put ρ i none) z.i with
        | none => rfl
        | some x => have := old q; rw [s.xf z hz] at this; cases this
      · rw [get_put_ne e]; exact s.xf z hz,
    fun z hz => by
      obtain ⟨h1, h2, ⟨d2, h3⟩, h4, h6⟩ := s.lock z hz
      have ne : i ≠ z.1 := fun e => hk (e ▸ h1)
      exact ⟨h1, h2, ⟨d2, by rw [get_put_ne ne]; exact h3⟩, h4, h6⟩⟩
/-- the cell's items -/
theorem StS.writeCell (s : StS p en lc F H ρ σ c) {es : List D} {ws : List V} {l : Addr} (hl : lc = some l) {cs : List D} (hc : c = some cs) (h5 : Reps p.K F es ws) : StS p en lc F (upd H l (.lst ws)) ρ σ (some es) := by
  subst hc
  obtain ⟨l0, vs0, r1, r2, r3, r4⟩ := s.cr
  rw [r1] at hl
  cases hl
  have fne : ∀ a o, F a = some o → a ≠ l := fun a o e z => by rw [z, r2] at e; cases e
  refine ⟨fun a o e => by rw [upd_ne (fne a o e)]; exact s.inn a o e, s.non, fun j e hj he => ?_, s.dist, s.cel, s.len, ⟨l, ws, r1, r2, upd_same, h5⟩, ?_, s.kept, s.lcok, s.exn, s.xf, fun z hz => ?_⟩
  · obtain ⟨l2, q2, q3, q4, q5, q6⟩ := s.own j e hj he
    exact ⟨l2, q2, q3.mono (Same.refl F) fun o ho => by rw [upd_ne (fun z => q5 (by rw [r1, z]))]; exact ho, q4, q5, q6⟩
  · refine ⟨fun a o hq n e => ?_, s.ext.sub, fun a o e => by rw [upd_ne (fne a o e)]; exact s.inn a o e, s.ext.fresh, fun a o hq e => ?_, fun P t => tab_at r3 (plain_lst _ _) (s.ext.tab P t), fun q ps z => by
      obtain ⟨ps', z'⟩ := s.ext.tbl q ps z
      exact tbl_at r3 (plain_lst l vs0).1 z', s.ext.nt⟩
    · have hne : a ≠ l := fun z => by
        subst z
        rcases s.lcok with h | ⟨h, h'⟩
        · exact hq (by rw [← h]; exact r1)
        · rw [h' a r1] at e; cases e
      rw [upd_ne hne]
      exact s.ext.same a o hq n e
    · by_cases z : a = l
      · subst z; exact ⟨_, upd_same⟩
      · rw [upd_ne z]; exact s.ext.cell a o hq e
  · obtain ⟨h1, h2, ⟨d2, h3⟩, h4, h6⟩ := s.lock z hz
    obtain ⟨l2, q2, q3, q4, q5, q6⟩ := s.own _ _ h2 h3
    rw [h4] at q2
    cases q2
    exact ⟨h1, h2, ⟨d2, h3⟩, h4, by rw [upd_ne (fun z => q5 (by rw [r1, z]))]; exact h6⟩
end
/-! ### readings -/
/-- an error that leaves -/
def ErrW (p : Cfg) (en : En) (k : EK) (x : Option G.D) : Prop := ∀ cls d G H, Ext en.lc0 en.F0 en.H0 G H → ExR p.K p.xc k x cls d G → p.E cls d H
def OutS (p : Cfg) (en : En) (r : R (Fl × Cell)) (D : Ends) : Prop := match r with
  | .ok (.nx ρ, c) => ∀ lc F H σ, StS p en lc F H ρ σ c → D.nx σ H
  | .ok (.rt d, c) => ∀ v lc G H, Ext en.lc0 en.F0 en.H0 G H → Rep p.K G d v → CellR p.K lc G H c → (lc = en.lc0 ∨ (en.lc0 = none ∧ ∀ l, lc = some l → en.H0 l = none)) → (∀ z ∈ en.lk, H z.2.1 = some z.2.2) → D.rt v H
  | .err k x => ErrW p en k x
  | .stuck => False
def tS (p : Cfg) (s : Stm) : TS := fun D σ H => ∃ en lc F ρ c, StS p en lc F H ρ σ c ∧ OutS p en (ex p.Φ s ρ c) D
def tSs (p : Cfg) (s : List Stm) : TS := fun D σ H => ∃ en lc F ρ c, StS p en lc F H ρ σ c ∧ OutS p en (exs p.Φ s ρ c) D
section
variable {X : Cx} {p : Cfg} {pos : Pos}
theorem os_bnd {α : Type} {en : En} {m : C α} {f : α → C Fl} {c : Cell} {D : Ends} [ne : NE m] (h : OutS p en (C.bnd m f c) D) : ∃ a c', m c = .ok (a, c') ∧ OutS p en (f a c') D := by
  unfold C.bnd at h
  cases e : m c with
  | ok x => rw [e] at h; exact ⟨x.1, x.2, rfl, h⟩
  | err _ _ => exact absurd e (ne.ne _ _ _)
  | stuck => rw [e] at h; exact h.elim
/-- one statement, then the rest -/
theorem os_seq {en en' : En} {m : C Fl} {f : Fl → C Fl} {c : Cell} {D D' : Ends} (h : OutS p en (C.bnd m f c) D) (he : ∀ k x, ErrW p en k x → ErrW p en' k x) (k : ∀ fl c', m c = .ok (fl, c') → OutS p en (f fl c') D → OutS p en' (.ok (fl, c')) D') : OutS p en' (m c) D' := by
  unfold C.bnd at h
  cases e : m c with
  | ok x => rw [e] at h; exact k x.1 x.2 e h
  | err a b => rw [e] at h; exact he _ _ h
  | stuck => rw [e] at h; exact h.elim
theorem gs_nil : PSs X [] (tSs p []) := by
  refine pss_nil.imp fun D σ H ⟨en, lc, F, ρ, c, s, h⟩ => ?_
  unfold exs at h
  exact h lc F H σ s
theorem gs_cons {st : Stmt} {rest : List Stmt} {s : Stm} {ss : List Stm} (h1 : PS X st (tS p s)) (h2 : PSs X rest (tSs p ss)) : PSs X (st :: rest) (tSs p (s :: ss)) := by
  refine (pss_cons h1 h2).imp fun D σ H ⟨en, lc, F, ρ, c, s, h⟩ => ?_
  unfold exs at h
  refine ⟨en, lc, F, ρ, c, s, ?_⟩
  refine os_seq h (fun _ _ z => z) fun f c' e h => ?_
  cases f with
  | nx ρ' => exact fun lc' F' H' σ' s' => ⟨en, lc', F', ρ', c', s', h⟩
  | rt d => exact h
/-- what an expression gives, for a statement -/
theorem se_non {en : En} {lc : Option Addr} {F H : Hp} {ρ : Env} {σ : L2.St} {c : Cell} {x : Ex} {Q : VK} {d : G.D} {c' : Cell} (s : StS p en lc F H ρ σ c) (e : ev p.Φ x ρ c = .ok (d, c')) (k : ∀ v F' H', StS p en lc F' H' ρ σ c' → Rep p.K F' d v → Ext lc F H F' H' → Q v H') : tE p.non x σ H Q := by
  refine ⟨lc, F, ρ, c, s.at_non, ?_⟩
  rw [e]
  exact fun v F' H' e' r' k' => k v F' H' (s.step e' k') r' e'
theorem freeAt_ok : ∀ {ρ : Env} {i : Nat}, freeAt ρ i = true → get ρ i = none ∧ i < ρ.length
  | [], _, h => by cases h
  | none :: _, 0, _ => ⟨rfl, by simp⟩
  | some _ :: _, 0, h => by cases h
  | x :: r, n + 1, h => by
    have h' : freeAt r n = true := by cases x <;> exact h
    obtain ⟨h1, h2⟩ := freeAt_ok h'
    exact ⟨by cases x <;> exact h1, by simp; omega⟩
theorem guard_ok {b : Bool} {c c' : Cell} {u : Unit} (h : guard b c = .ok (u, c')) : b = true ∧ c' = c := by
  unfold guard at h
  split at h
  · cases h; exact ⟨by assumption, rfl⟩
  · cases h
theorem noCell_ok {α : Type} {m : C α} {c c' : Cell} {a : α} (h : noCell m c = .ok (a, c')) : c' = c ∧ ∃ c2, m none = .ok (a, c2) := by
  unfold noCell at h
  cases e : m none with
  | ok x => rw [e] at h; cases h; exact ⟨rfl, x.2, rfl⟩
  | err _ _ => rw [e] at h; cases h
  | stuck => rw [e] at h; cases h
end
end G
/-! G12: the statements, one by one. -/
namespace G
open PySem L2
variable [TQ]
section
variable {X : Cx} {p : Cfg} {pos : Pos}
/-- a list's expression gives a fresh one -/
def frs : Ex → Bool
  | .lst _ => true
  | .comp _ _ _ _ _ => true
  | .blt .list _ => true
  | .blt .sorted _ => true
  | .blt .sortedSet _ => true
  | .blt .dsorted _ => true
  | .blt .sortedM _ => true
  | .blt .dpairs _ => true
  | .dnew => true
  | .op .rep _ _ => true
  | _ => false
theorem builtin_lst {f : Bf} {vs : List D} {d : D} (hf : f = .list ∨ f = .sorted ∨ f = .sortedSet ∨ f = .dsorted ∨ f = .sortedM) (e : builtin f vs = some d) : ∃ l, d = .lst l := by
  rcases hf with rfl | rfl | rfl | rfl | rfl
  · match vs, e with
    | [.tup l], e => cases e; exact ⟨_, rfl⟩
    | [.lst l], e => cases e; exact ⟨_, rfl⟩
  · match vs, e with
    | [.lst l], e =>
      obtain ⟨l', _, rfl⟩ := Option.map_eq_some_iff.mp (show (sortD l).map D.lst = some d from e)
      exact ⟨_, rfl⟩
  · match vs, e with
    | [.lst l], e =>
      obtain ⟨_, rfl⟩ := ite_some (show (if (l.all intPair && decide (l.length < 64)) = true then some (D.lst (sortBy ltD (dedup l))) else none) = some d from e)
      exact ⟨_, rfl⟩
  · match vs, e with
    | [.dct l _], e =>
      obtain ⟨l', _, rfl⟩ := Option.map_eq_some_iff.mp (show (sortD l).map D.lst = some d from e)
      exact ⟨_, rfl⟩
  · match vs, e with
    | [.lst l], e =>
      obtain ⟨l', _, rfl⟩ := Option.map_eq_some_iff.mp (show (sortM l).map D.lst = some d from e)
      exact ⟨_, rfl⟩
theorem bnd_ok {α β : Type} {m : C α} {f : α → C β} {c c' : Cell} {b : β} (h : C.bnd m f c = .ok (b, c')) : ∃ a c1, m c = .ok (a, c1) ∧ f a c1 = .ok (b, c') := by
  unfold C.bnd at h
  cases e : m c with
  | ok x => rw [e] at h; exact ⟨x.1, x.2, rfl, h⟩
  | err _ _ => rw [e] at h; cases h
  | stuck => rw [e] at h; cases h
theorem opt_ok {α : Type} {o : Option α} {c c' : Cell} {a : α} (h : C.opt o c = .ok (a, c')) : o = some a ∧ c' = c := by
  cases o with
  | none => cases h
  | some x => cases h; exact ⟨rfl, rfl⟩
theorem frs_lst {Φ : Tab} {x : Ex} {ρ : Env} {c c' : Cell} {d : D} (hf : frs x = true) (h : ev Φ x ρ c = .ok (d, c')) : isOwnD d = true := by
  cases x with
  | lst es =>
    unfold ev at h
    obtain ⟨vs, c1, _, h⟩ := bnd_ok h
    split at h
    · cases h; rfl
    · cases h
  | comp own elt t it ifs =>
    unfold ev at h
    obtain ⟨xs, c1, _, h⟩ := bnd_ok h
    obtain ⟨ys, c2, _, h⟩ := bnd_ok h
    cases h
    rfl
  | blt f es =>
    unfold ev at h
    obtain ⟨vs, c1, _, h⟩ := bnd_ok h
    obtain ⟨h, _⟩ := opt_ok h
    cases f <;> first | (cases hf; done) | skip
    case dpairs =>
      match vs, h with
      | [.lst l], h =>
        obtain ⟨_, rfl⟩ := ite_some (show (if l.all pairB = true ∧ l.length ≤ 1000000 then some (D.dct (dpsts l ([], [])).1 (dpsts l ([], [])).2) else none) = some d from h)
        rfl
    all_goals
      obtain ⟨l, rfl⟩ := builtin_lst (by simp) h
      rfl
  | op o a b =>
    cases o <;> first | (cases hf; done) | skip
    unfold ev at h
    obtain ⟨x, c1, _, h⟩ := bnd_ok h
    obtain ⟨y, c2, _, h⟩ := bnd_ok h
    obtain ⟨h, _⟩ := opt_ok h
    cases x <;> cases y <;> first | (simp [arith] at h; done) | skip
    obtain ⟨_, h⟩ := ite_some h
    cases h
    rfl
  | dnew =>
    unfold ev at h
    cases h
    rfl
  | _ => cases hf
theorem tE_tF {P : Pl} {x : Ex} (hf : frs x = true) {σ : L2.St} {H : Hp} {Q : VK} (h : tE P x σ H Q) : tF P x σ H Q := by
  obtain ⟨lc, G, ρ, c, a, h⟩ := h
  exact ⟨lc, G, ρ, c, a, h.fresh a.cel fun d c' e => frs_lst hf e⟩
theorem ge_of_gf {P : Pl} {x : Ex} {e : Expr} (hf : frs x = true) (h : PE X e (tF P x)) : PE X e (tE P x) := h.imp fun _ _ _ z => tE_tF hf z
/-- list + list gives a fresh one -/
theorem gf_add {P : Pl} {a b : Expr} {x y : Ex} (ok : Ok P X) (ha : PE X a (tE P x)) (hb : PE X b (tE P y)) : PE X (.BinOp a .Add b pos) (tF P (.op .add x y)) := by
  have op : OpR X (binaryOp .Add) (rCatS X.K) := op_catS
  rw [← ok.K] at op
  refine (pe_op op ha hb).imp fun σ H Q ⟨lc, G, ρ, c, a, h⟩ => ?_
  unfold ev at h
  refine ⟨lc, G, ρ, c, a, of h fun d c1 v G1 H1 e1 r1 k1 h1 => ?_⟩
  refine ⟨lc, G1, ρ, c1, a.step e1 k1, of h1 fun d2 c2 v2 G2 H2 e2 r2 k2 h2 => ?_⟩
  obtain ⟨w, e, h2⟩ := h2.opt
  have hlw := h2.1
  have r1 := r1.mono e2.sub
  cases d <;> cases d2 <;> first | (simp [arith] at e; done) | (cases e; cases hlw; done) | (obtain ⟨_, e'⟩ := ite_some e; cases e'; cases hlw; done) | skip
  obtain ⟨p, xs, rfl, q1, q2, q3⟩ := r1
  obtain ⟨p', ys, rfl, q1', q2', q3'⟩ := r2
  obtain ⟨hz, e⟩ := ite_some e
  cases e
  have l1 := q2.length
  have l2 := q2'.length
  exact ⟨p, p', xs, ys, rfl, rfl, same_l e2.inn q1, same_l e2.inn q1', by rw [← l1, ← l2]; exact hz, fun p2 hp => h2.out e2.inn (q2.append q2') (by rw [List.length_append]; exact hz) k2 hp⟩
/-! ### evaluation in a statement -/
/-- the two modes: own lists not in sight; own lists in sight, the cell not -/
abbrev Cfg.md (p : Cfg) (chk : Bool) : Pl := if chk then p.all else p.non
theorem hide_ok {α : Type} {chk : Bool} {m : C α} {c c' : Cell} {a : α} (h : hide chk m c = .ok (a, c')) : (chk = false ∧ m c = .ok (a, c')) ∨ (chk = true ∧ c' = c ∧ ∃ c2, m none = .ok (a, c2)) := by
  unfold hide at h
  cases chk with
  | false => exact .inl ⟨rfl, h⟩
  | true => obtain ⟨h1, h2⟩ := noCell_ok h; exact .inr ⟨rfl, h1, h2⟩
/-- a value, in either mode, behind which the state stands; in the second mode it is flat or given up -/
theorem se_md {en : En} {lc : Option Addr} {F H : Hp} {ρ : Env} {σ : L2.St} {c : Cell} {x : Ex} {chk : Bool} {Q : VK} {d : G.D} {c' : Cell} (s : StS p en lc F H ρ σ c) (e : hide chk (ev p.Φ x ρ) c = .ok (d, c'))
    (k : ∀ v G' F' H', StS p en lc F' H' ρ σ c' → Rep p.K G' d v → Ext en.lc0 en.F0 en.H0 G' H' → CellR p.K lc G' H' c' → ((chk = false ∨ flatD DEEP d = true) → Rep p.K F' d v) → Q v H') : tE (p.md chk) x σ H Q := by
  rcases hide_ok e with ⟨rfl, e⟩ | ⟨rfl, rfl, c2, e⟩
  · show tE p.non x σ H Q
    exact se_non s e fun v F' H' s' r' _ => k v F' F' H' s' r' s'.ext s'.cr fun _ => r'
  · show tE p.all x σ H Q
    refine ⟨none, _, ρ, none, s.at_all, ?_⟩
    rw [e]
    intro v G' H' e' r' k'
    have b := s.back e'
    have s' := s.step (b.any (lc := lc)) (s.cr.ext b)
    have ex : Ext en.lc0 en.F0 en.H0 G' H' := by
      have b2 := s.ext.comp (b.any (lc := lc)) s.lcok
      refine ⟨b2.same, fun a o z => e'.sub a o (s.addSub a o (s.ext.sub a o z)), e'.inn, fun a o z z' => ?_, b2.cell, b2.tab, b2.tbl, fun n => e'.nt (s.addNT (s.ext.nt n))⟩
      have h1 := s.ext.fresh a o z z'
      obtain ⟨o', h2⟩ := s.ext.there z'
      refine e'.fresh a o' ?_ h2
      unfold addOwn
      rw [if_neg (fun r => by
        obtain ⟨_, _, _, _, q⟩ := s.root r
        rw [z'] at q; cases q)]
      exact h1
    refine k v G' _ H' s' r' ex ?_ fun hf => ?_
    · have hc := s.cr
      cases c' with
      | none => exact hc
      | some cs =>
        obtain ⟨l, vs, q1, q2, q3, q4⟩ := hc
        refine ⟨l, vs, q1, e'.fresh _ _ ?_ q3, e'.same _ _ (by simp) (fun _ z => by cases z) q3, q4.mono fun a o z => e'.sub a o (s.addSub a o z)⟩
        unfold addOwn
        rw [if_neg (fun r => by
          obtain ⟨_, _, _, q, _⟩ := s.root r
          exact q q1)]
        exact q2
    · rcases hf with hf | hf
      · cases hf
      · exact s.cut_rep e' hf r'
theorem gs_ret {chk : Bool} {e : Expr} {x : Ex} (h : PE X e (tE (p.md chk) x)) : PS X (.Return (some e) pos) (tS p (.ret chk x)) := by
  refine (ps_ret h).imp fun D σ H ⟨en, lc, F, ρ, c, s, h⟩ => ?_
  unfold ex at h
  obtain ⟨d, c', e, h⟩ := os_bnd h
  exact se_md s e fun v G' F' H' s' r' e' k' _ => h v lc G' H' e' r' k' s'.lcok fun z hz => (s'.lock z hz).2.2.2.2
theorem gs_expr {chk : Bool} {e : Expr} {x : Ex} (h : PE X e (tE (p.md chk) x)) (hs : swapsWith e none pos.line X.env = pure false) : PS X (.Expr e pos) (tS p (.expr chk x)) := by
  refine (ps_expr h hs).imp fun D σ H ⟨en, lc, F, ρ, c, s, h⟩ => ?_
  unfold ex at h
  obtain ⟨d, c', e, h⟩ := os_bnd h
  exact se_md s e fun v G' F' H' s' r' e' k' _ => h lc F' H' σ s'
theorem gs_ite {chk : Bool} {t : Expr} {a b : List Stmt} {x : Ex} {ss ts : List Stm} (h : PT X t (tT (p.md chk) x)) (ha : PSs X a (tSs p ss)) (hb : PSs X b (tSs p ts)) : PS X (.If t a b pos) (tS p (.ite chk x ss ts)) := by
  refine (ps_if h ha hb).imp fun D σ H ⟨en, lc, F, ρ, c, s, h⟩ => ?_
  unfold ex at h
  obtain ⟨d, c', e, h⟩ := os_bnd h
  have h' : ∃ b, d = .bl b ∧ OutS p en ((if b = true then exs p.Φ ss ρ else exs p.Φ ts ρ) c') D := by
    cases d with
    | bl b => exact ⟨b, rfl, h⟩
    | _ => exact h.elim
  obtain ⟨b, rfl, h1⟩ := h'
  rcases hide_ok e with ⟨hc, e1⟩ | ⟨hc, hcc, c2, e1⟩
  · subst hc
    show tT p.non x σ H _
    refine ⟨lc, F, ρ, c, s.at_non, ?_⟩
    show OutT p.non lc F H (ev p.Φ x ρ c) _
    rw [e1]
    intro F' H' e' k'
    have s' := s.step e' k'
    cases b with
    | true => exact ⟨en, lc, F', ρ, c', s', h1⟩
    | false => exact ⟨en, lc, F', ρ, c', s', h1⟩
  · subst hc hcc
    show tT p.all x σ H _
    refine ⟨none, _, ρ, none, s.at_all, ?_⟩
    show OutT p.all none (addOwn p ρ σ F H) H (ev p.Φ x ρ none) _
    rw [e1]
    intro G' H' e' k'
    have bk := s.back e'
    have s' := s.step (bk.any (lc := lc)) (s.cr.ext bk)
    cases b with
    | true => exact ⟨en, lc, _, ρ, c', s', h1⟩
    | false => exact ⟨en, lc, _, ρ, c', s', h1⟩
/-! ### assignments -/
def okTg (p : Cfg) (t : Tg) : Bool := (tgSlots t).all fun i => !p.own.contains i && (p.cell != some i && p.xn.map (·.i) != some i)
theorem okTg_iff {t : Tg} (h : okTg p t = true) : ∀ i ∈ tgSlots t, i ∉ p.own ∧ p.cell ≠ some i ∧ p.xn.map (·.i) ≠ some i := fun i hi => by
  have := List.all_eq_true.mp h i hi
  simpa using this
theorem asg_put {en : En} {lc : Option Addr} {F H : Hp} {ρ ρ' : Env} {σ : L2.St} {c : Cell} {t : Tg} {d : G.D} {v : V} {Q : L2.St → Hp → Prop} (s : StS p en lc F H ρ σ c) (ok : okTg p t = true) (e : assign t d ρ = some ρ') (r : Rep p.K F d v)
    (k : ∀ σ', StS p en lc F H ρ' σ' c → Q σ' H) : gT p.K t v σ H Q :=
  gT_ok s.inn (fun ρ σ => StS p en lc F H ρ σ c) t (fun i hi d v ρ σ r' s' => s'.put (okTg_iff ok i hi).1 (okTg_iff ok i hi).2.1 (okTg_iff ok i hi).2.2 r') e r s k
theorem asg_imp {t : Tg} {x : Ex} (ok : okTg p t = true) {D : Ends} {σ : L2.St} {H : Hp} (h : tS p (.asg t x) D σ H) : tAsg (tE p.non x) (gT p.K t) D σ H := by
  obtain ⟨en, lc, F, ρ, c, s, h⟩ := h
  unfold ex at h
  obtain ⟨d, c', e, h1⟩ := os_bnd h
  obtain ⟨ρ', c2, e2, h2⟩ := os_bnd h1
  obtain ⟨e3, e4⟩ := opt_ok e2
  subst e4
  exact se_non s e fun v F' H' s' r' _ => asg_put s' ok e3 r' fun σ' s2 => h2 lc F' H' σ' s2
theorem asgF_imp {t : Tg} {x : Ex} (ok : okTg p t = true) {D : Ends} {σ : L2.St} {H : Hp} (h : tS p (.asgF t x) D σ H) : tAsg (tE p.all x) (gT p.K t) D σ H := by
  obtain ⟨en, lc, F, ρ, c, s, h⟩ := h
  unfold ex at h
  obtain ⟨d, c', e, h1⟩ := os_bnd h
  obtain ⟨u, c1, eg, h2⟩ := os_bnd h1
  obtain ⟨ρ', c2, e2, h3⟩ := os_bnd h2
  obtain ⟨e3, e4⟩ := opt_ok e2
  obtain ⟨hf, e5⟩ := guard_ok eg
  subst e4 e5
  exact se_md (chk := true) s e fun v G' F' H' s' r' _ _ hr => asg_put s' ok e3 (hr (.inr hf)) fun σ' s2 => h3 lc F' H' σ' s2
/-- x = e -/
theorem gs_set {i : Nat} {x : Str} {e : Expr} {y : Ex} {pos' : Pos} (ok : okTg p (.nm i) = true) (hN : X.N.Nodup) (hi : X.N[i]? = some x) (hx : Loc X.env.scope x) (he : PE X e (tE p.non y)) (hs : swapsWith e (some (.Name x pos')) pos.line X.env = pure false) (hf : X.fn x = true ∨ X.env.scope.names.lookup x = some .local) :
    PS X (.Assign [.Name x pos'] e pos) (tS p (.asg (.nm i) y)) := (ps_set hN hi hx he hs hf).imp fun D σ H h => by
  have := asg_imp ok h
  simp only [gT] at this
  exact this
theorem gs_setF {i : Nat} {x : Str} {e : Expr} {y : Ex} {pos' : Pos} (ok : okTg p (.nm i) = true) (hN : X.N.Nodup) (hi : X.N[i]? = some x) (hx : Loc X.env.scope x) (he : PE X e (tE p.all y)) (hs : swapsWith e (some (.Name x pos')) pos.line X.env = pure false) (hf : X.fn x = true ∨ X.env.scope.names.lookup x = some .local) :
    PS X (.Assign [.Name x pos'] e pos) (tS p (.asgF (.nm i) y)) := (ps_set hN hi hx he hs hf).imp fun D σ H h => by
  have := asgF_imp ok h
  simp only [gT] at this
  exact this
/-- a target of any form -/
theorem gs_asg {tg e : Expr} {t : Tg} {y : Ex} (ok : okTg p t = true) (he : PE X e (tE p.non y)) (hg : PG X tg (gT p.K t)) (hs : swapsWithSole [tg] e pos.line X.env = pure false) (hw : swappedStores [tg] e X.env = pure none)
    (h1 : (assignEach [tg] X.env).map (·.2) = [PySem.assign tg X.env]) : PS X (.Assign [tg] e pos) (tS p (.asg t y)) := (ps_asg he hg hs hw h1).imp fun D σ H h => asg_imp ok h
/-! ### own lists -/
theorem fresh_put {en : En} {lc : Option Addr} {F H F' H' : Hp} {ρ : Env} {σ : L2.St} {c c' : Cell} {i : Nat} {d : G.D} {q : Addr} (s : StS p en lc F H ρ σ c) (s' : StS p en lc F' H' ρ σ c') (hi : i ∈ p.own) (hk : i ∉ p.lock) (hc : p.cell ≠ some i) (hx : p.xn.map (·.i) ≠ some i)
    (h0 : H q = none) (h1 : OwnR p.K F' H' q d) (h2 : F' q = none) : StS p en lc F' H' (put ρ i (some d)) (σ.set i (some (.ref q))) c' := by
  refine s'.putOwn hi hk hc hx h1 h2 (fun z => ?_) ?_ (fun j d hj _ hd hs => ?_)
  · obtain ⟨o, ho⟩ := s.cr.has z
    rw [h0] at ho; cases ho
  · exact s.ext.free h0
  · obtain ⟨l', q2, q3, _⟩ := s.own j d hj hd
    rw [hs] at q2
    cases q2
    obtain ⟨o, ho, _⟩ := q3.at
    rw [h0] at ho
    cases ho
theorem chk_ok {chk : Bool} {l : List G.D} (hb : (!chk || l.all (flatD DEEP)) = true) : chk = false ∨ ∀ d ∈ l, flatD DEEP d = true := by
  cases chk with
  | false => exact .inl rfl
  | true => exact .inr (by simpa using hb)
theorem chk_ok1 {chk : Bool} {d : G.D} (hb : (!chk || flatD DEEP d) = true) : chk = false ∨ flatD DEEP d = true := by
  cases chk with
  | false => exact .inl rfl
  | true => exact .inr (by simpa using hb)
/-- what an own thing may be, its items flat -/
def itemsFlat : G.D → Bool
  | .lst l => l.all (flatD DEEP)
  | .dct ks vs => ks.all (flatD DEEP) && vs.all (flatD DEEP)
  | _ => false
theorem StS.cut_own {en : En} {lc : Option Addr} {F H F' H' : Hp} {ρ : Env} {σ : L2.St} {c : Cell} (s : StS p en lc F H ρ σ c) (e : Ext none (addOwn p ρ σ F H) H F' H') {q : Addr} {d : G.D} (hf : itemsFlat d = true) (h : OwnR p.K F' H' q d) : OwnR p.K (cutOwn p ρ σ F') H' q d := by
  cases d with
  | lst l =>
    obtain ⟨vs, h1, h2, h3⟩ := h
    exact ⟨vs, h1, s.cut_reps e (List.all_eq_true.mp hf) h2, h3⟩
  | dct ks vs =>
    obtain ⟨xs, h1, h2, h3, h4, h5, h6, h7⟩ := h
    unfold itemsFlat at hf
    rw [Bool.and_eq_true] at hf
    exact ⟨xs, h1, h2, h3, h4, h5, s.cut_reps e (List.all_eq_true.mp hf.1) h6, s.cut_reps e (List.all_eq_true.mp hf.2) h7⟩
  | _ => exact h.elim
theorem own_imp {chk : Bool} {i : Nat} {x : Ex} (hi : i ∈ p.own) (hkl : i ∉ p.lock) (hc : p.cell ≠ some i) (hx : p.xn.map (·.i) ≠ some i) {D : Ends} {σ : L2.St} {H : Hp} (h : tS p (.own chk i x) D σ H) : tAsg (tF (p.md chk) x) (gName i) D σ H := by
  obtain ⟨en, lc, F, ρ, c, s, h⟩ := h
  unfold ex at h
  obtain ⟨d, c', e, h⟩ := os_bnd h
  have hh : isOwnD d = true ∧ (chk = false ∨ itemsFlat d = true) ∧ OutS p en (C.ret (.nx (put ρ i (some d))) c') D := by
    cases d with
    | lst l =>
      obtain ⟨u, c1, eg, hh⟩ := os_bnd h
      obtain ⟨hb, e5⟩ := guard_ok eg
      subst e5
      refine ⟨rfl, ?_, hh⟩
      cases chk with
      | false => exact .inl rfl
      | true => exact .inr hb
    | dct ks vs =>
      obtain ⟨u, c1, eg, hh⟩ := os_bnd h
      obtain ⟨hb, e5⟩ := guard_ok eg
      subst e5
      refine ⟨rfl, ?_, hh⟩
      cases chk with
      | false => exact .inl rfl
      | true => exact .inr hb
    | _ => exact h.elim
  obtain ⟨hd, hf, hh⟩ := hh
  rcases hide_ok e with ⟨hk, e1⟩ | ⟨hk, hcc, c2, e1⟩
  · subst hk
    show tF p.non x σ H _
    refine ⟨lc, F, ρ, c, s.at_non, ?_⟩
    show OutF p.non lc F H (ev p.Φ x ρ c) _
    rw [e1]
    exact ⟨hd, fun q F' H' e' h0 h2 h1 k' => hh lc F' H' _ (fresh_put s (s.step e' k') hi hkl hc hx h0 h1 h2)⟩
  · subst hk hcc
    show tF p.all x σ H _
    refine ⟨none, _, ρ, none, s.at_all, ?_⟩
    show OutF p.all none (addOwn p ρ σ F H) H (ev p.Φ x ρ none) _
    rw [e1]
    refine ⟨hd, fun q G' H' e' h0 h2 h1 k' => ?_⟩
    have b := s.back e'
    have s' := s.step (b.any (lc := lc)) (s.cr.ext b)
    have h2' : cutOwn p ρ σ G' q = none := by
      unfold cutOwn
      split
      · rfl
      · exact h2
    rcases hf with hf | hf
    · cases hf
    · exact hh lc _ H' _ (fresh_put s s' hi hkl hc hx h0 (s.cut_own e' hf h1) h2')
theorem gs_own {chk : Bool} {i : Nat} {x : Str} {e : Expr} {y : Ex} {pos' : Pos} (hi' : i ∈ p.own) (hkl : i ∉ p.lock) (hc : p.cell ≠ some i) (hxn : p.xn.map (·.i) ≠ some i) (hN : X.N.Nodup) (hi : X.N[i]? = some x) (hx : Loc X.env.scope x) (he : PE X e (tF (p.md chk) y)) (hs : swapsWith e (some (.Name x pos')) pos.line X.env = pure false) (hf : X.fn x = true ∨ X.env.scope.names.lookup x = some .local) :
    PS X (.Assign [.Name x pos'] e pos) (tS p (.own chk i y)) := (ps_set hN hi hx he hs hf).imp fun D σ H h => own_imp hi' hkl hc hxn h
/-- an own thing that may be changed -/
theorem StS.ownR {en : En} {lc : Option Addr} {F H : Hp} {ρ : Env} {σ : L2.St} {c : Cell} (s : StS p en lc F H ρ σ c) {i : Nat} {d : G.D} (hi : i ∈ p.own) (hk : i ∉ p.lock) (hd : get ρ i = some d) : ∃ l, σ[i]? = some (some (.ref l)) ∧ OwnR p.K F H l d ∧ F l = none ∧ lc ≠ some l ∧ en.H0 l = none := by
  obtain ⟨l, h1, h2, h3⟩ := s.own i d hi hd
  exact ⟨l, h1, h2.free (by simpa using hk), h3⟩
/-- x.append(e) -/
theorem gs_app {chk : Bool} {i : Nat} {x : Str} {px pa pc : Pos} {e : Expr} {y : Ex} (hi : i ∈ p.own) (hkl : i ∉ p.lock) (hN : X.N[i]? = some x) (hv : Vis X.env.scope x) (hd : (x == ("__debug__" : Str)) = false) (hcd : (x == ("__classdict__" : Str)) = false) (he : PE X e (tE (p.md chk) y))
    (hst : starEach [e] X.env = (false, eval e X.env) :: starEach [] X.env) (hfew : ((backTo pc (starEach [e] X.env)).all (fun x => !x.1) && (backToKw pc (keywordEach [] X.env)).all (fun x => x.1.isSome)
      && decide (([e] : List Expr).length + ([] : List Keyword).length + (if ([] : List Keyword).isEmpty then 0 else 1) < 30)) = true)
    (hline : (pa.endLine == pc.line) = true) (hs : swapsWith (.Call (.Attribute (.Name x px) "append" pa) [e] [] pc) none pos.line X.env = pure false) : PS X (.Expr (.Call (.Attribute (.Name x px) "append" pa) [e] [] pc) pos) (tS p (.app chk i y)) := by
  refine (ps_expr (pe_bm PySem.F.plainAttrs_list PySem.F.slot_list_append PySem.F.type_list_append mt_append (pe_var hN hv hd hcd) (pa_cons he pa_nil hst) rfl hfew hline hst rfl) hs).imp fun D σ H ⟨en, lc, F, ρ, c, s, h⟩ => ?_
  unfold ex at h
  obtain ⟨d, c', e, h1⟩ := os_bnd h
  obtain ⟨u, c1, eg, h2⟩ := os_bnd h1
  obtain ⟨w, c2, e2, h3⟩ := os_bnd h2
  obtain ⟨e3, e4⟩ := opt_ok e2
  obtain ⟨hb, e5⟩ := guard_ok eg
  subst e4 e5
  have hf := chk_ok1 hb
  cases eo : get ρ i with
  | none => rw [eo] at e3; simp [appD] at e3
  | some dl =>
    rw [eo] at e3
    cases dl <;> first | (simp [appD] at e3; done) | skip
    rename_i ds
    obtain ⟨hz, e6⟩ := ite_some (show (if ds.length < LIM then some (G.D.lst (ds ++ [d])) else none) = some w from e3)
    cases e6
    obtain ⟨l, q2, ⟨vs, q3, q7, q8⟩, q4, q5, q6⟩ := s.ownR hi hkl eo
    refine ⟨.ref l, q2, .inl ⟨rfl, vs, .of q3⟩, ?_⟩
    refine se_md s e fun v G' F' H' s' r' _ _ hr => ?_
    obtain ⟨l', z2, ⟨vs', z3, z7, z8⟩, z4, z5, z6⟩ := s'.ownR hi hkl eo
    rw [q2] at z2
    cases z2
    show rAppend (.ref l) [v] H' (fun _ H1 => D.nx σ H1)
    refine ⟨l, vs', v, rfl, rfl, z3, by rw [← z7.length]; exact hz, ?_⟩
    exact h3 lc F' _ σ (s'.write (o := .lst (vs' ++ [v])) hi hkl eo q2 ⟨_, upd_same, z7.snoc (hr hf), by simp; omega⟩)
/-- y = x.pop() -/
theorem gs_pop {i j : Nat} {x y : Str} {px pa pc pos' : Pos} (ok : okTg p (.nm j) = true) (hi : i ∈ p.own) (hkl : i ∉ p.lock) (hNN : X.N.Nodup) (hN : X.N[i]? = some x) (hv : Vis X.env.scope x) (hd : (x == ("__debug__" : Str)) = false) (hcd : (x == ("__classdict__" : Str)) = false)
    (hj : X.N[j]? = some y) (hy : Loc X.env.scope y) (hline : (pa.endLine == pc.line) = true) (hs : swapsWith (.Call (.Attribute (.Name x px) "pop" pa) [] [] pc) (some (.Name y pos')) pos.line X.env = pure false) (hf : X.fn y = true ∨ X.env.scope.names.lookup y = some .local) :
    PS X (.Assign [.Name y pos'] (.Call (.Attribute (.Name x px) "pop" pa) [] [] pc) pos) (tS p (.pop (.nm j) i)) := by
  refine (ps_set hNN hj hy (pe_bm0 PySem.F.plainAttrs_list PySem.F.slot_list_pop PySem.F.type_list_pop mt_pop (pe_var hN hv hd hcd) rfl hline) hs hf).imp fun D σ H ⟨en, lc, F, ρ, c, s, h⟩ => ?_
  unfold ex at h
  obtain ⟨w, c2, e2, h3⟩ := os_bnd h
  obtain ⟨e3, e4⟩ := opt_ok e2
  obtain ⟨ρ', c3, e5, h4⟩ := os_bnd h3
  obtain ⟨e6, e7⟩ := opt_ok e5
  subst e4 e7
  cases eo : get ρ i with
  | none => rw [eo] at e3; simp [popD] at e3
  | some dl =>
    rw [eo] at e3
    cases dl <;> first | (simp [popD] at e3; done) | skip
    rename_i ds
    obtain ⟨d, hdl, rfl⟩ := Option.map_eq_some_iff.mp (show (ds[ds.length - 1]?).map (fun d => (d, ds.dropLast)) = some w from e3)
    obtain ⟨l, q2, ⟨vs, q3, q7, q8⟩, q4, q5, q6⟩ := s.ownR hi hkl eo
    obtain ⟨v, hv1, rv⟩ := q7.get hdl
    refine ⟨.ref l, q2, .inl ⟨rfl, vs, .of q3⟩, ?_⟩
    show rPop (.ref l) [] H (fun x H1 => gName j x σ H1 D.nx)
    refine ⟨l, vs, v, rfl, rfl, q3, by rw [← q7.length]; exact hv1, ?_⟩
    have r2 : Reps p.K F ds.dropLast vs.dropLast := by
      rw [List.dropLast_eq_take, List.dropLast_eq_take, ← q7.length]
      exact q7.take _
    have s' := s.write (o := .lst vs.dropLast) (e := .lst ds.dropLast) hi hkl eo q2 ⟨_, upd_same, r2, by rw [List.length_dropLast]; omega⟩
    have := asg_put (Q := fun σ' H' => D.nx σ' H') s' ok e6 rv fun σ' s3 => h4 lc F _ σ' s3
    simp only [gT] at this
    exact this
/-- x = y, both own: y is forgotten -/
theorem gs_move {i j : Nat} {x y : Str} {px pos' : Pos} (hi : i ∈ p.own) (hj : j ∈ p.own) (hki : i ∉ p.lock) (hkj : j ∉ p.lock) (hc : p.cell ≠ some i) (hxn : p.xn.map (·.i) ≠ some i) (hNN : X.N.Nodup) (hN : X.N[i]? = some x) (hx : Loc X.env.scope x) (hJ : X.N[j]? = some y) (hv : Vis X.env.scope y) (hd : (y == ("__debug__" : Str)) = false) (hcd : (y == ("__classdict__" : Str)) = false)
    (hs : swapsWith (.Name y px) (some (.Name x pos')) pos.line X.env = pure false) (hf : X.fn x = true ∨ X.env.scope.names.lookup x = some .local) : PS X (.Assign [.Name x pos'] (.Name y px) pos) (tS p (.move i j)) := by
  refine (ps_set hNN hN hx (pe_var hJ hv hd hcd) hs hf).imp fun D σ H ⟨en, lc, F, ρ, c, s, h⟩ => ?_
  unfold ex at h
  obtain ⟨d, c2, e2, h3⟩ := os_bnd h
  obtain ⟨e3, e4⟩ := opt_ok e2
  obtain ⟨u, c3, eg, h4⟩ := os_bnd h3
  obtain ⟨hb, e5⟩ := guard_ok eg
  subst e4 e5
  rw [Bool.and_eq_true] at hb
  have hij : i ≠ j := of_decide_eq_true hb.2
  obtain ⟨l, q2, q3, q4, q5, q6⟩ := s.ownR hj hkj e3
  have s' := s.drop hkj
  refine ⟨.ref l, q2, ?_⟩
  show D.nx (σ.set i (some (.ref l))) H
  refine h4 lc F H _ (s'.putOwn hi hki hc hxn q3 q4 q5 q6 fun k d' hk hki' hd' hs' => ?_)
  by_cases z : j = k
  · subst z
    cases (get_put_self hd').1
  · rw [get_put_ne z] at hd'
    exact s.dist j k _ _ l hj hk z e3 hd' q2 hs'
/-- x[k] = e -/
theorem gs_setD {chk : Bool} {i : Nat} {x : Str} {px pt : Pos} {b e : Expr} {k y : Ex} (hK : p.K = X.K) (hu : X.A.units + 20 < cLine) (hi : i ∈ p.own) (hkl : i ∉ p.lock) (hN : X.N[i]? = some x) (hv : Vis X.env.scope x) (hd : (x == ("__debug__" : Str)) = false) (hcd : (x == ("__classdict__" : Str)) = false) (he : PE X e (tE (p.md chk) y)) (hb : PE X b (tE (p.md chk) k))
    (hs : swapsWithSole [.Subscript (.Name x px) b pt] e pos.line X.env = pure false) (hw : swappedStores [.Subscript (.Name x px) b pt] e X.env = pure none) (h1 : (assignEach [.Subscript (.Name x px) b pt] X.env).map (·.2) = [PySem.assign (.Subscript (.Name x px) b pt) X.env])
    (ha : ∀ v, PySem.assign (.Subscript (.Name x px) b pt) X.env v = (do
      let ov ← holding [v] (eval (.Name x px) X.env)
      let iv ← holding [v, ov] (eval b X.env)
      standAt pt
      holding [v, ov, iv] (setItem ov iv v)
      release [v, ov, iv] [])) : PS X (.Assign [.Subscript (.Name x px) b pt] e pos) (tS p (.setD chk i k y)) := by
  refine (ps_asg he (pg_sub (pe_var hN hv hd hcd) hb (set_dk hu) ha) hs hw h1).imp fun D σ H ⟨en, lc, F, ρ, c, s, h⟩ => ?_
  unfold ex at h
  obtain ⟨d, c1, e1, h1⟩ := os_bnd h
  obtain ⟨dk, c2, e2, h2⟩ := os_bnd h1
  obtain ⟨u, c3, eg, h3⟩ := os_bnd h2
  obtain ⟨hb, e5⟩ := guard_ok eg
  subst e5
  obtain ⟨w, c4, e4, h4⟩ := os_bnd h3
  obtain ⟨e6, e7⟩ := opt_ok e4
  subst e7
  have hf : (chk = false ∨ flatD DEEP d = true) ∧ (chk = false ∨ flatD DEEP dk = true) := by
    cases chk with
    | false => exact ⟨.inl rfl, .inl rfl⟩
    | true =>
      have hb : (flatD DEEP d && flatD DEEP dk) = true := hb
      rw [Bool.and_eq_true] at hb
      exact ⟨.inr hb.1, .inr hb.2⟩
  cases eo : get ρ i with
  | none => rw [eo] at e6; simp [setDct] at e6
  | some dl =>
    rw [eo] at e6
    cases dl <;> first | (simp [setDct] at e6; done) | skip
    rename_i ks vs
    obtain ⟨hz, e8⟩ := ite_some (show (if keyT dk = true ∧ ks.length < LIM then some (G.D.dct (dput ks vs dk d).1 (dput ks vs dk d).2) else none) = some w from e6)
    cases e8
    refine se_md s e1 fun v G1 F1 H1 s1 _ _ _ r1 => ?_
    have r1 := r1 hf.1
    obtain ⟨l, q2, _, _⟩ := s1.ownR hi hkl eo
    refine ⟨.ref l, q2, ?_⟩
    refine se_md (en := (⟨en.lc0, en.F0, en.H0, F1, en.lk, en.nt, en.tb⟩ : En)) ⟨s1.inn, s1.non, s1.own, s1.dist, s1.cel, s1.len, s1.cr, s1.ext, Same.refl F1, s1.lcok, s1.exn, s1.xf, s1.lock⟩ e2 fun z G2 F2 H2 s2 _ _ _ r2 => ?_
    have r2 := r2 hf.2
    have hk12 : Same F1 F2 := s2.kept
    have s3 : StS p en lc F2 H2 ρ σ c4 := ⟨s2.inn, s2.non, s2.own, s2.dist, s2.cel, s2.len, s2.cr, s2.ext, s1.kept.trans hk12, s2.lcok, s2.exn, s2.xf, s2.lock⟩
    obtain ⟨l', z2, ⟨xs, z3, z4, z5, z6, z7, z8, z9⟩, _⟩ := s3.ownR hi hkl eo
    rw [q2] at z2
    cases z2
    have A : DkAt p.K F2 ks vs xs := ⟨z4, z5, z6, z7, z8, z9⟩
    show rSetK X.K (.ref l) z v H2 (fun H1 => D.nx σ H1)
    rw [← hK]
    refine ⟨l, xs, F2, ks, vs, dk, rfl, s3.inn, z3, A, hz.1, r2, hz.2, fun b' k' hb' hk' => ?_⟩
    rw [hb'] at r2
    have B := A.put hz.1 hk' r2 (r1.mono hk12) hz.2
    exact h4 lc F2 _ σ (s3.write (o := dkO l (xput xs k' b' v)) hi hkl eo q2 ⟨_, upd_same, B.keys, B.kt, B.nd, B.len, B.rk, B.rv⟩)
/-! ### the cell -/
theorem gs_setC {i : Nat} {x : Str} {px pt : Pos} {b e : Expr} {k y : Ex} (hcell : p.cell = some i) (hN : X.N[i]? = some x) (hv : Vis X.env.scope x) (hd : (x == ("__debug__" : Str)) = false) (hcd : (x == ("__classdict__" : Str)) = false) (he : PE X e (tE p.non y)) (hb : PE X b (tE p.non k))
    (hs : swapsWithSole [.Subscript (.Name x px) b pt] e pos.line X.env = pure false) (hw : swappedStores [.Subscript (.Name x px) b pt] e X.env = pure none) (h1 : (assignEach [.Subscript (.Name x px) b pt] X.env).map (·.2) = [PySem.assign (.Subscript (.Name x px) b pt) X.env])
    (ha : ∀ v, PySem.assign (.Subscript (.Name x px) b pt) X.env v = (do
      let ov ← holding [v] (eval (.Name x px) X.env)
      let iv ← holding [v, ov] (eval b X.env)
      standAt pt
      holding [v, ov, iv] (setItem ov iv v)
      release [v, ov, iv] [])) : PS X (.Assign [.Subscript (.Name x px) b pt] e pos) (tS p (.setC k y)) := by
  refine (ps_asg he (pg_sub (pe_var hN hv hd hcd) hb set_list ha) hs hw h1).imp fun D σ H ⟨en, lc, F, ρ, c, s, h⟩ => ?_
  unfold ex at h
  obtain ⟨d, c1, e1, h1⟩ := os_bnd h
  obtain ⟨u, c2, e2, h2⟩ := os_bnd h1
  obtain ⟨j, c3, e3, h3⟩ := os_bnd h2
  obtain ⟨u', c4, e4, h4⟩ := os_bnd h3
  refine se_non s e1 fun v F1 H1 s1 r1 _ => ?_
  cases c1 with
  | none => cases e2
  | some cs1 =>
    cases e2
    obtain ⟨l, vs, q1, q2, q3, q4⟩ := id s1.cr
    refine ⟨.ref l, s1.cel i l hcell q1, ?_⟩
    refine se_non s1 e3 fun w F2 H2 s2 r2 x2 => ?_
    cases c3 with
    | none => cases e4
    | some cs3 =>
      cases j with
      | int j =>
        cases r2
        unfold setCell at e4
        dsimp only at e4
        cases en : ixNat cs3.length j with
        | none => rw [en] at e4; cases e4
        | some m =>
          rw [en] at e4
          cases e4
          obtain ⟨l', vs', z1, z2, z3, z4⟩ := id s2.cr
          rw [q1] at z1
          cases z1
          refine ⟨l, vs', j, m, rfl, rfl, z3, by rw [ixN_eq, ← z4.length]; exact en, ?_⟩
          exact h4 lc F2 _ σ (s2.writeCell q1 rfl (z4.set m (r1.mono x2.sub)))
      | _ => cases e4
/-- the cell is made -/
theorem gs_newC {i : Nat} {x : Str} {pos' : Pos} {e : Expr} {es : List Ex} (hcell : p.cell = some i) (hown : i ∉ p.own) (hxn : p.xn = none) (hN : X.N.Nodup) (hi : X.N[i]? = some x) (hx : Loc X.env.scope x) (he : PE X e (tF p.non (.lst es))) (hs : swapsWith e (some (.Name x pos')) pos.line X.env = pure false) (hf : X.fn x = true ∨ X.env.scope.names.lookup x = some .local) :
    PS X (.Assign [.Name x pos'] e pos) (tS p (.newC i es)) := by
  refine (ps_set hN hi hx he hs hf).imp fun D σ H ⟨en, lc, F, ρ, c, s, h⟩ => ?_
  unfold ex at h
  obtain ⟨vs, c1, e1, h1⟩ := os_bnd h
  obtain ⟨u', c3, e3, h2⟩ := os_bnd h1
  obtain ⟨hfr, e4⟩ := guard_ok e3
  subst e4
  obtain ⟨hfr, hlt⟩ := freeAt_ok hfr
  obtain ⟨u, c2, e2, h3⟩ := os_bnd h2
  have hcn : vs.length ≤ LIM ∧ c3 = none ∧ c2 = some vs := by
    unfold newCell at e2
    cases c3 with
    | none =>
      dsimp only at e2
      split at e2
      · cases e2; exact ⟨by assumption, rfl, rfl⟩
      · cases e2
    | some _ => cases e2
  obtain ⟨hz, z1, z2⟩ := hcn
  subst z1 z2
  refine ⟨lc, F, ρ, c, s.at_non, ?_⟩
  have hev : ev p.Φ (.lst es) ρ c = (if vs.length ≤ LIM then C.ret (.lst vs) else C.stk) none := by
    unfold ev C.bnd
    rw [e1]
  show OutF p.non lc F H (ev p.Φ (.lst es) ρ c) _
  rw [hev]
  rw [if_pos hz]
  refine ⟨rfl, fun q F' H' e' h0 h2 ⟨ws, h1, h3', h4⟩ k' => ?_⟩
  have s' := s.step e' k'
  have hlc : lc = none := k'
  have hl : i < σ.length := by rw [← s.len]; exact hlt
  have hne : ∀ j d, get ρ j = some d → i ≠ j := fun j d z z' => by subst z'; rw [hfr] at z; cases z
  refine h3 (some q) F' H' _ ⟨s'.inn, fun j d hj hd => ?_, fun j d hj hd => ?_, fun j k d e l hj hk hjk ej ek sj sk => ?_, fun j l hj hl' => ?_, by rw [List.length_set]; exact s'.len, ⟨q, ws, rfl, h2, h1, h3'⟩, s'.ext, s'.kept, ?_, ?_, (fun z hz => by rw [hxn] at hz; cases hz), fun z hz => ?_⟩
  · rw [List.getElem?_set_ne (hne j d hd)]
    exact s'.non j d hj hd
  · rw [List.getElem?_set_ne (hne j d hd)]
    obtain ⟨l, q2, q3, q4, q5, q6⟩ := s'.own j d hj hd
    refine ⟨l, q2, q3, q4, fun z => ?_, q6⟩
    cases z
    obtain ⟨l2, r2, r3, _⟩ := s.own j d hj hd
    rw [q2] at r2
    cases r2
    obtain ⟨o, ho, _⟩ := r3.at
    rw [h0] at ho
    cases ho
  · rw [List.getElem?_set_ne (hne j d ej)] at sj
    rw [List.getElem?_set_ne (hne k e ek)] at sk
    exact s'.dist j k d e l hj hk hjk ej ek sj sk
  · rw [hcell] at hj
    cases hj
    cases hl'
    exact List.getElem?_set_self hl
  · refine .inr ⟨?_, fun l z => by cases z; exact s.ext.free h0⟩
    rcases s.lcok with z | ⟨z, _⟩
    · rw [← z]; exact hlc
    · exact z
  · exact fun z hz => by rw [show p.non.xn = none from hxn] at hz; cases hz
  · obtain ⟨h1, h2, ⟨d, h3⟩, h4, h5⟩ := s'.lock z hz
    exact ⟨h1, h2, ⟨d, h3⟩, by rw [List.getElem?_set_ne (hne _ d h3)]; exact h4, h5⟩
end
end G
/-! G13: loops, several names at once, lists laid still. -/
namespace G
open PySem L2
variable [TQ]
section
variable {X : Cx} {p : Cfg} {pos : Pos}
/-! ### loops -/
abbrev En.fix (en : En) (F : Hp) : En := ⟨en.lc0, en.F0, en.H0, F, en.lk, en.nt, en.tb⟩
theorem StS.fix {en : En} {lc : Option Addr} {F H : Hp} {ρ : Env} {σ : L2.St} {c : Cell} (s : StS p en lc F H ρ σ c) : StS p (en.fix F) lc F H ρ σ c :=
  ⟨s.inn, s.non, s.own, s.dist, s.cel, s.len, s.cr, s.ext, Same.refl F, s.lcok, s.exn, s.xf, s.lock⟩
theorem StS.unfix {en : En} {lc : Option Addr} {F0 F H : Hp} {ρ : Env} {σ : L2.St} {c : Cell} (s : StS p (en.fix F0) lc F H ρ σ c) (e : Same en.Fk F0) : StS p en lc F H ρ σ c :=
  ⟨s.inn, s.non, s.own, s.dist, s.cel, s.len, s.cr, s.ext, e.trans s.kept, s.lcok, s.exn, s.xf, s.lock⟩
theorem for_run {en : En} {lc : Option Addr} {F H : Hp} {ρ : Env} {σ : L2.St} {c : Cell} {J : It} {t : Tg} {b : List Stm} {xs : List G.D} {Dn : Ends} (ok : okTg p t = true) (s : StS p en lc F H ρ σ c) (w : Walk p.K F J xs)
    (h : OutS p en (forL (assign t) (exs p.Φ b) xs ρ c) Dn) : ∃ W : Nat → Nat → L2.St → Hp → Prop, (∃ m, W 0 m σ H) ∧ ∀ i m σ H, W i m σ H →
      (J.stop i H ∧ Dn.nx σ H) ∨ (J.go i H ∧ ∃ N : L2.St → Hp → Prop, (∀ σ' H', N σ' H' → ∃ m', m' < m ∧ W (i + 1) m' σ' H') ∧ ∀ x H', J.yld i H x H' → gT p.K t x σ H' fun σ2 H2 => tSs p b { Dn with nx := N, ct := N, bk := Dn.nx } σ2 H2) := by
  refine ⟨fun i m σ H => m = xs.length - i ∧ i ≤ xs.length ∧ ∃ lc F' ρ c, StS p (en.fix F) lc F' H ρ σ c ∧ OutS p en (forL (assign t) (exs p.Φ b) (xs.drop i) ρ c) Dn, ⟨xs.length, by simp, Nat.zero_le _, lc, F, ρ, c, s.fix, by simpa using h⟩, ?_⟩
  rintro i m σ1 H1 ⟨rfl, hi, lc1, F1, ρ1, c1, s1, h1⟩
  by_cases hlt : i < xs.length
  · refine .inr ⟨w.go i F1 H1 s1.kept s1.inn hlt, fun σ H => ∃ lc F' ρ c, StS p (en.fix F) lc F' H ρ σ c ∧ OutS p en (forL (assign t) (exs p.Φ b) (xs.drop (i + 1)) ρ c) Dn, fun σ' H' ⟨lc2, F2, ρ2, c2, s2, h2⟩ => ⟨xs.length - (i + 1), by omega, rfl, hlt, lc2, F2, ρ2, c2, s2, h2⟩, ?_⟩
    intro x H' hy
    obtain ⟨G2, d, e2, hd, r2⟩ := w.yld i F1 H1 x H' s1.kept s1.inn hlt hy
    have s2 := s1.step (e2.any (lc := lc1)) (s1.cr.ext e2)
    have hdr : xs.drop i = d :: xs.drop (i + 1) := by
      rw [List.drop_eq_getElem_cons hlt]
      congr 1
      exact Option.some.inj (by rw [← hd]; exact (List.getElem?_eq_getElem hlt).symm)
    rw [hdr] at h1
    unfold forL at h1
    obtain ⟨ρ2, c2, e3, h3⟩ := os_bnd h1
    obtain ⟨e4, e5⟩ := opt_ok e3
    subst e5
    refine asg_put s2 ok e4 r2 fun σ' s3 => ⟨en.fix F, lc1, G2, ρ2, c2, s3, ?_⟩
    refine os_seq (en' := en.fix F) h3 (fun _ _ z => z) fun f c4 e6 h6 => ?_
    cases f with
    | nx ρ3 => exact fun lc' F' H' σ' s' => ⟨lc', F', ρ3, c4, s', h6⟩
    | rt d => exact h6
  · have e : i = xs.length := by omega
    subst e
    rw [List.drop_length] at h1
    unfold forL at h1
    exact .inl ⟨w.stop _ F1 H1 s1.kept s1.inn (Nat.le_refl _), h1 lc1 F1 H1 σ1 (s1.unfix s.kept)⟩
theorem gs_for {tg iter : Expr} {body : List Stmt} {t : Tg} {it : Wlk} {b : List Stm} (ok : okTg p t = true) (hp : PassesOwn (model X.prog X.w) X.A X.env X.xe) (hc : X.calm = true) (hi : PI X tg iter (tI p.non it)) (hg : PG X tg (gT p.K t)) (hb : PSs X body (tSs p b))
    (hs : ∀ x, foldedSetIterable iter X.env x = pure x) : PS X (.For tg iter body [] pos) (tS p (.forS false t it b)) := by
  refine (ps_for hp hc hi hg hb hs).imp fun D σ H ⟨en, lc, F, ρ, c, s, h⟩ => ?_
  unfold ex at h
  obtain ⟨xs, c1, e, h1⟩ := os_bnd h
  obtain ⟨u, c2, eg, h2⟩ := os_bnd h1
  obtain ⟨_, e5⟩ := guard_ok eg
  subst e5
  refine ⟨lc, F, ρ, c, s.at_non, ?_⟩
  rcases hide_ok e with ⟨_, e1⟩ | ⟨hk, _⟩
  · show OutI p.non lc F H (evI p.Φ it ρ c) _
    rw [e1]
    intro J F1 H1 e' w k'
    exact for_run ok (s.step e' k') w h2
  · cases hk
theorem gs_forR {tg iter : Expr} {body : List Stmt} {t : Tg} {es : List Ex} {b : List Stm} (ok : okTg p t = true) (hp : PassesOwn (model X.prog X.w) X.A X.env X.xe) (hc : X.calm = true) (hi : PI X tg iter (tIr p.all es)) (hg : PG X tg (gT p.K t)) (hb : PSs X body (tSs p b))
    (hs : ∀ x, foldedSetIterable iter X.env x = pure x) : PS X (.For tg iter body [] pos) (tS p (.forS true t (.rng es) b)) := by
  refine (ps_for hp hc hi hg hb hs).imp fun D σ H ⟨en, lc, F, ρ, c, s, h⟩ => ?_
  unfold ex at h
  obtain ⟨xs, c1, e, h1⟩ := os_bnd h
  obtain ⟨u, c2, eg, h2⟩ := os_bnd h1
  obtain ⟨_, e5⟩ := guard_ok eg
  subst e5
  rcases hide_ok e with ⟨hk, _⟩ | ⟨_, hcc, c3, e1⟩
  · cases hk
  · subst hcc
    refine ⟨none, _, ρ, none, s.at_all, ?_⟩
    show OutIr p.all none (addOwn p ρ σ F H) H (evI p.Φ (.rng es) ρ none) _
    rw [e1]
    intro J G' H1 e' w k'
    have bk := s.back e'
    exact for_run ok (s.step (bk.any (lc := lc)) (s.cr.ext bk)) (w _ _) h2
/-! ### several names at once -/
def gotR (p : Cfg) (H0 F H : Hp) : List (Bool × Nat) → List G.D → List V → List Addr → Prop
  | [], ds, vs, qs => ds = [] ∧ vs = [] ∧ qs = []
  | (b, _) :: ts, ds, vs, qs => ∃ d ds' v vs', ds = d :: ds' ∧ vs = v :: vs' ∧
    (if b = true then ∃ q qs', qs = q :: qs' ∧ q ∉ qs' ∧ v = .ref q ∧ H0 q = none ∧ OwnR p.K F H q d ∧ F q = none ∧ gotR p H0 F H ts ds' vs' qs'
     else Rep p.K F d v ∧ gotR p H0 F H ts ds' vs' qs)
def setAll : L2.St → List (Bool × Nat) → List V → L2.St
  | σ, (_, i) :: ts, v :: vs => setAll (σ.set i (some v)) ts vs
  | σ, _, _ => σ
def okPar (p : Cfg) (ts : List (Bool × Nat)) : Bool := ts.all fun t => (p.own.contains t.2 == t.1) && (p.cell != some t.2 && (p.xn.map (·.i) != some t.2 && !p.lock.contains t.2))
def tArgs (p : Cfg) : List (Bool × Nat) → List Ex → TA
  | (b, _) :: ts, e :: es => tCons (if b then tF p.non e else tE p.non e) (tArgs p ts es)
  | _, _ => tNil
theorem par_put {en : En} {lc : Option Addr} {F H H0 : Hp} {c : Cell} : ∀ (ts : List (Bool × Nat)) {ds : List G.D} {vs : List V} {qs : List Addr} {ρ ρ' : Env} {σ : L2.St}, StS p en lc F H ρ σ c → (∀ q, lc = some q → ∃ o, H0 q = some o) → (∀ q o, en.H0 q = some o → ∃ o', H0 q = some o') →
    gotR p H0 F H ts ds vs qs → okPar p ts = true → parPut ts ds ρ = some ρ' → (∀ q ∈ qs, ∀ j d, j ∈ p.own → get ρ j = some d → σ[j]? = some (some (.ref q)) → False) → StS p en lc F H ρ' (setAll σ ts vs) c
  | [], ds, vs, qs, ρ, ρ', σ, s, _, _, ⟨e1, e2, e3⟩, _, h, _ => by
    subst e1 e2 e3
    cases h
    exact s
  | (b, i) :: ts, ds, vs, qs, ρ, ρ', σ, s, hl0, he0, g, ok, h, hq => by
    obtain ⟨d, ds', v, vs', rfl, rfl, g⟩ := g
    rw [parPut] at h
    have okc := List.all_eq_true.mp ok (b, i) List.mem_cons_self
    have ok' : okPar p ts = true := List.all_eq_true.mpr fun x hx => List.all_eq_true.mp ok x (List.mem_cons_of_mem _ hx)
    simp only [Bool.and_eq_true, beq_iff_eq, bne_iff_ne, ne_eq] at okc
    obtain ⟨ob, oc, ox, okl⟩ := okc
    have okl : i ∉ p.lock := by simpa using okl
    cases b with
    | false =>
      simp only [Bool.false_eq_true, if_false] at g
      rw [Bool.false_and, if_neg (by decide)] at h
      have hi : i ∉ p.own := by simpa using ob
      refine par_put ts (s.put hi oc ox g.1) hl0 he0 g.2 ok' h fun q hq' j d' hj hd hs => ?_
      have z : i ≠ j := fun z => hi (z ▸ hj)
      rw [get_put_ne z] at hd
      rw [List.getElem?_set_ne z] at hs
      exact hq q hq' j d' hj hd hs
    | true =>
      simp only [if_true] at g
      obtain ⟨q, qs', rfl, hnm, rfl, h0, h1, h2, g⟩ := g
      have hi : i ∈ p.own := by simpa using ob
      have h' : parPut ts ds' (put ρ i (some d)) = some ρ' := by
        rw [h1.is] at h
        exact h
      refine par_put ts (s.putOwn hi okl oc ox h1 h2 (fun z => ?_) ?_ fun j d' hj _ hd hs => hq q List.mem_cons_self j d' hj hd hs) hl0 he0 g ok' h' fun q' hq' j d' hj hd hs => ?_
      · obtain ⟨o, ho⟩ := hl0 q z
        rw [h0] at ho; cases ho
      · cases z : en.H0 q with
        | none => rfl
        | some o =>
          obtain ⟨o', ho⟩ := he0 q o z
          rw [h0] at ho; cases ho
      · by_cases z : i = j
        · subst z
          obtain ⟨_, hlt⟩ := get_put_self hd
          rw [List.getElem?_set_self (by rw [← s.len]; exact hlt)] at hs
          cases hs
          exact hnm hq'
        · rw [get_put_ne z] at hd
          rw [List.getElem?_set_ne z] at hs
          exact hq q' (List.mem_cons_of_mem _ hq') j d' hj hd hs
def flagOk : List (Bool × Nat) → List G.D → Prop
  | (b, _) :: ts, d :: ds => (b = true → isOwnD d = true) ∧ flagOk ts ds
  | _, _ => True
theorem flag_ok : ∀ (ts : List (Bool × Nat)) {ds : List G.D} {ρ ρ' : Env}, parPut ts ds ρ = some ρ' → flagOk ts ds
  | [], _, _, _, _ => trivial
  | (b, i) :: ts, [], _, _, h => by cases h
  | (b, i) :: ts, d :: ds, ρ, ρ', h => by
    rw [parPut] at h
    split at h
    · cases h
    · rename_i hb
      refine ⟨fun z => ?_, flag_ok ts h⟩
      subst z
      cases q : isOwnD d with
      | true => rfl
      | false => rw [q] at hb; exact absurd rfl hb
theorem par_ev {en : En} {lc : Option Addr} {H0 : Hp} {ρ : Env} {σ : L2.St} : ∀ (ts : List (Bool × Nat)) {es : List Ex} {F H : Hp} {c c' : Cell} {ds : List G.D} {Q : List V → Hp → Prop}, ts.length = es.length → StS p en lc F H ρ σ c → (∀ a o, H0 a = some o → ∃ o', H a = some o') → evs p.Φ es ρ c = .ok (ds, c') → flagOk ts ds →
    (∀ vs qs F' H', StS p en lc F' H' ρ σ c' → gotR p H0 F' H' ts ds vs qs → (∀ q ∈ qs, H q = none) → Ext lc F H F' H' → Q vs H') → tArgs p ts es σ H Q
  | [], [], F, H, c, c', ds, Q, _, s, h0, e, _, k => by
    unfold evs at e
    cases e
    exact k [] [] F H s ⟨rfl, rfl, rfl⟩ (by simp) (.refl s.inn)
  | (b, i) :: ts, e :: es, F, H, c, c', ds, Q, hlen, s, h0, h, hfl, k => by
    unfold evs at h
    obtain ⟨d, c1, e1, h1⟩ := bnd_ok h
    obtain ⟨ds', c2, e2, h2⟩ := bnd_ok h1
    cases h2
    have hlen' : ts.length = es.length := by simpa using hlen
    cases b with
    | false =>
      show tE p.non e σ H fun x H1 => tArgs p ts es σ H1 fun xs H2 => Q (x :: xs) H2
      refine se_non s e1 fun v F1 H1 s1 r1 x1 => ?_
      refine par_ev (H0 := H0) ts hlen' s1 (fun a o z => ?_) e2 hfl.2 fun vs qs F' H' s' g' hq' x' => ?_
      · obtain ⟨o', z'⟩ := h0 a o z
        exact x1.there z'
      · exact k (v :: vs) qs F' H' s' ⟨d, ds', v, vs, rfl, rfl, by simp only [Bool.false_eq_true, if_false]; exact ⟨r1.mono x'.sub, g'⟩⟩ (fun q hq => x1.free (hq' q hq)) (x1.trans x')
    | true =>
      show tF p.non e σ H fun x H1 => tArgs p ts es σ H1 fun xs H2 => Q (x :: xs) H2
      refine ⟨lc, F, ρ, c, s.at_non, ?_⟩
      show OutF p.non lc F H (ev p.Φ e ρ c) _
      rw [e1]
      refine ⟨hfl.1 rfl, fun q F1 H1 x1 n0 n2 n1 k1 => ?_⟩
      obtain ⟨o1, no1, _⟩ := n1.at
      have s1 := s.step x1 k1
      refine par_ev (H0 := H0) ts hlen' s1 (fun a o z => ?_) e2 hfl.2 fun vs qs F' H' s' g' hq' x' => ?_
      · obtain ⟨o', z'⟩ := h0 a o z
        exact x1.there z'
      · have hlq : lc ≠ some q := fun z => by
          obtain ⟨o, ho⟩ := s.cr.has z
          rw [n0] at ho; cases ho
        have h0q : H0 q = none := by
          cases z : H0 q with
          | none => rfl
          | some o =>
            obtain ⟨o', ho⟩ := h0 q o z
            rw [n0] at ho; cases ho
        refine k (.ref q :: vs) (q :: qs) F' H' s' ⟨d, ds', _, vs, rfl, rfl, ?_⟩ (fun q' hq => ?_) (x1.trans x')
        · simp only [if_true]
          exact ⟨q, qs, rfl, fun z => (by rw [hq' q z] at no1; cases no1), rfl, h0q, n1.mono x'.sub fun o ho => x'.same _ _ hlq (OwnL.ntb (lk := false) (.inl n1) ho) ho, x'.fresh _ _ n2 no1, g'⟩
        · rcases List.mem_cons.mp hq with z | z
          · subst z; exact n0
          · exact x1.free (hq' q' z)
  | [], _ :: _, _, _, _, _, _, _, hl, _, _, _, _, _ => by simp at hl
  | _ :: _, [], _, _, _, _, _, _, hl, _, _, _, _, _ => by simp at hl
theorem gotR.mono {H0 F H F' H' : Hp} (e1 : Same F F') (e2 : ∀ q o, F q = none → H q = some o → H' q = some o ∧ F' q = none) : ∀ (ts : List (Bool × Nat)) {ds : List G.D} {vs : List V} {qs : List Addr}, gotR p H0 F H ts ds vs qs → gotR p H0 F' H' ts ds vs qs
  | [], _, _, _, g => g
  | (b, i) :: ts, ds, vs, qs, g => by
    obtain ⟨d, ds', v, vs', rfl, rfl, g⟩ := g
    cases b with
    | false =>
      simp only [Bool.false_eq_true, if_false] at g
      exact ⟨d, ds', v, vs', rfl, rfl, by simp only [Bool.false_eq_true, if_false]; exact ⟨g.1.mono e1, gotR.mono e1 e2 ts g.2⟩⟩
    | true =>
      simp only [if_true] at g
      obtain ⟨q, qs', rfl, hnm, rfl, h0, h1, h2, g⟩ := g
      obtain ⟨o, ho, _⟩ := h1.at
      exact ⟨_, ds', _, vs', rfl, rfl, by simp only [if_true]; exact ⟨q, qs', rfl, hnm, rfl, h0, h1.mono e1 (fun o ho => (e2 q _ h2 ho).1), (e2 q _ h2 ho).2, gotR.mono e1 e2 ts g⟩⟩
theorem par_imp {ts : List (Bool × Nat)} {es : List Ex} (hl : ts.length = es.length) (ok : okPar p ts = true) {D : Ends} {σ : L2.St} {H : Hp} {Q : List V → Hp → Prop} (h : tS p (.par ts es) D σ H) (k : ∀ vs H1, vs.length = ts.length → D.nx (setAll σ ts vs) H1 → (∀ q o, H1 q = none → D.nx (setAll σ ts vs) (upd H1 q o)) → Q vs H1) : tArgs p ts es σ H Q := by
  obtain ⟨en, lc, F, ρ, c, s, h⟩ := h
  unfold ex at h
  obtain ⟨ds, c1, e, h1⟩ := os_bnd h
  obtain ⟨ρ', c2, e2, h2⟩ := os_bnd h1
  obtain ⟨e3, e4⟩ := opt_ok e2
  subst e4
  refine par_ev (H0 := H) ts hl s (fun a o z => ⟨o, z⟩) e (flag_ok ts e3) fun vs qs F' H' s' g x xe => ?_
  have lenR : ∀ (ts : List (Bool × Nat)) {ds : List G.D} {vs : List V} {qs : List Addr}, gotR p H F' H' ts ds vs qs → vs.length = ts.length := by
    intro ts
    induction ts with
    | nil => intro ds vs qs ⟨_, e, _⟩; subst e; rfl
    | cons t ts ih =>
      intro ds vs qs g
      obtain ⟨b, i⟩ := t
      obtain ⟨d, ds', v, vs', rfl, rfl, g⟩ := g
      cases b with
      | false =>
        simp only [Bool.false_eq_true, if_false] at g
        simp [ih g.2]
      | true =>
        simp only [if_true] at g
        obtain ⟨q, qs', rfl, hnm, rfl, h0, h1, h2, g⟩ := g
        simp [ih g]
  have oq : ∀ q ∈ qs, ∀ j d, j ∈ p.own → get ρ j = some d → σ[j]? = some (some (.ref q)) → False := fun q hq j d hj hd hs => by
    obtain ⟨l, q2, q3, _⟩ := s.own j d hj hd
    rw [hs] at q2
    cases q2
    obtain ⟨o, ho, _⟩ := q3.at
    rw [x q hq] at ho
    cases ho
  refine k vs H' (lenR ts g) (h2 lc F' H' _ (par_put (H0 := H) ts s' (fun q z => s.cr.has z) (fun q o z => s.ext.there z) g ok e3 oq)) fun q o hq => ?_
  have ly : Ext lc F' H' F' (upd H' q o) := .lay s'.inn hq
  have cr : CellR p.K lc F' (upd H' q o) c2 := s'.cr.lay hq
  exact h2 lc F' _ _ (par_put (H0 := H) ts (s'.step ly cr) (fun q z => s.cr.has z) (fun q o z => s.ext.there z) (g.mono (Same.refl _) (fun a u z z' => ⟨by rw [upd_ne (ne_of_none z' hq)]; exact z', z⟩) ts) ok e3 oq)
theorem gTs_names {K : PySem.W.Frag} : ∀ (ts : List (Bool × Nat)) {vs : List V} {σ : L2.St} {H : Hp} {Q : L2.St → Hp → Prop}, vs.length = ts.length → Q (setAll σ ts vs) H → gTs K (ts.map fun t => Tg.nm t.2) vs σ H Q
  | [], [], σ, H, Q, _, q => by
    rw [List.map_nil, gTs]
    exact ⟨rfl, q⟩
  | [], _ :: _, _, _, _, h, _ => by simp at h
  | _ :: _, [], _, _, _, h, _ => by simp at h
  | (b, i) :: ts, v :: vs, σ, H, Q, h, q => by
    rw [List.map_cons, gTs, gT]
    exact ⟨v, vs, rfl, gTs_names ts (by simpa using h) q⟩
/-- the same, the pair itself made and taken apart (a captured name) -/
theorem gs_parT {ts : List (Bool × Nat)} {es tgs : List Expr} {xs : List Ex} {pt pt2 : Pos} {kt k2 : Nat} (ok : okPar p ts = true) (hK : p.K = X.K) (hc : X.calm = true) (hl : ts.length = xs.length) (hn : ts.length ≤ 100) (ha : PA X es (tArgs p ts xs)) (hg : PGs X tgs (gTs p.K (ts.map fun t => Tg.nm t.2)))
    (hn1 : (assignEach tgs X.env).length = ts.length) (hst : (assignEach tgs X.env).findIdx? (·.1) = none) (hs : swapsWithSole [.Tuple tgs kt pt] (.Tuple es k2 pt2) pos.line X.env = pure false) (hw : swappedStores [.Tuple tgs kt pt] (.Tuple es k2 pt2) X.env = pure none)
    (h1 : (assignEach [.Tuple tgs kt pt] X.env).map (·.2) = [PySem.assign (.Tuple tgs kt pt) X.env]) : PS X (.Assign [.Tuple tgs kt pt] (.Tuple es k2 pt2) pos) (tS p (.par ts xs)) := by
  refine (ps_asg (pe_tup ha) (pg_tup hc hg hn1 hst) hs hw h1).imp fun D σ H h => ?_
  refine par_imp hl ok h fun vs H1 hv _ k => ?_
  refine ⟨?_, fun q hq => ⟨q, vs, rfl, .of upd_same, hv, gTs_names ts hv (k q _ hq)⟩⟩
  rw [hv]
  exact Nat.le_trans hn (by decide)
theorem gs_par2 {i j : Nat} {bi bj : Bool} {x y : Str} {a b : Expr} {ea eb : Ex} {px py pt : Pos} {kt k2 pt2} (ok : okPar p [(bi, i), (bj, j)] = true) (hc : X.calm = true) (hN : X.N.Nodup) (hi : X.N[i]? = some x) (hj : X.N[j]? = some y) (hij : i ≠ j)
    (hx : X.env.scope.names.lookup x = some .local) (hy : X.env.scope.names.lookup y = some .local) (ha : PE X a (if bi then tF p.non ea else tE p.non ea)) (hb : PE X b (if bj then tF p.non eb else tE p.non eb))
    (h1 : starEach [a, b] X.env = (false, eval a X.env) :: starEach [b] X.env) (h2 : starEach [b] X.env = (false, eval b X.env) :: starEach [] X.env)
    (hw : swappedStores [.Tuple [.Name x px, .Name y py] kt pt] (.Tuple [a, b] k2 pt2) X.env = pure (some [x, y]))
    (hs : swapsWithSole [.Tuple [.Name x px, .Name y py] kt pt] (.Tuple [a, b] k2 pt2) pos.line X.env = pure false) :
    PS X (.Assign [.Tuple [.Name x px, .Name y py] kt pt] (.Tuple [a, b] k2 pt2) pos) (tS p (.par [(bi, i), (bj, j)] [ea, eb])) := by
  refine (ps_par hc hN hi hj hij hx hy (pa_cons ha (pa_cons hb pa_nil h2) h1) hw hs).imp fun D σ H h => ?_
  exact par_imp rfl ok h fun vs H1 hl k _ => match vs, hl, k with
    | [v, w], _, k => ⟨v, w, rfl, k⟩
theorem gs_par3 {i j l : Nat} {bi bj bl : Bool} {x y z : Str} {a b c : Expr} {ea eb ec : Ex} {px py pz pt : Pos} {kt k2 pt2} (ok : okPar p [(bi, i), (bj, j), (bl, l)] = true) (hc : X.calm = true) (hN : X.N.Nodup) (hi : X.N[i]? = some x) (hj : X.N[j]? = some y) (hl : X.N[l]? = some z) (hij : i ≠ j) (hil : i ≠ l) (hjl : j ≠ l)
    (hx : X.env.scope.names.lookup x = some .local) (hy : X.env.scope.names.lookup y = some .local) (hz : X.env.scope.names.lookup z = some .local) (ha : PE X a (if bi then tF p.non ea else tE p.non ea)) (hb : PE X b (if bj then tF p.non eb else tE p.non eb)) (hcc : PE X c (if bl then tF p.non ec else tE p.non ec))
    (h1 : starEach [a, b, c] X.env = (false, eval a X.env) :: starEach [b, c] X.env) (h2 : starEach [b, c] X.env = (false, eval b X.env) :: starEach [c] X.env) (h3 : starEach [c] X.env = (false, eval c X.env) :: starEach [] X.env)
    (hw : swappedStores [.Tuple [.Name x px, .Name y py, .Name z pz] kt pt] (.Tuple [a, b, c] k2 pt2) X.env = pure (some [x, y, z]))
    (hs : swapsWithSole [.Tuple [.Name x px, .Name y py, .Name z pz] kt pt] (.Tuple [a, b, c] k2 pt2) pos.line X.env = pure false) :
    PS X (.Assign [.Tuple [.Name x px, .Name y py, .Name z pz] kt pt] (.Tuple [a, b, c] k2 pt2) pos) (tS p (.par [(bi, i), (bj, j), (bl, l)] [ea, eb, ec])) := by
  refine (ps_par3 hc hN hi hj hl hij hil hjl hx hy hz (pa_cons ha (pa_cons hb (pa_cons hcc pa_nil h3) h2) h1) hw hs).imp fun D σ H h => ?_
  exact par_imp rfl ok h fun vs H1 hl k _ => match vs, hl, k with
    | [u, v, w], _, k => ⟨u, v, w, rfl, k⟩
theorem gs_never {st : Stmt} : PS X st (tS p .never) := ps_never.imp fun D σ H ⟨en, lc, F, ρ, c, s, h⟩ => by
  unfold ex at h
  exact h
end
end G
/-! GN: dicts in expressions, slices as own lists, while, walks of own things, op=. -/
namespace G
open PySem L2 PySem.Spec PyProof.Rows
variable [TQ]
section
variable {X : Cx} {P : Pl} {pos : Pos}
/-- {} -/
theorem gf_dnew : PE X (.Dict [] [] pos) (tF P .dnew) := by
  refine ⟨fun pins s σ H Q I h => ?_⟩
  refine dk_new I fun p s' hp I' => ⟨V.ref p, _, I', rfl, ?_⟩
  obtain ⟨lc, F, ρ, c, a, _, h⟩ := h
  refine h p F _ (.lay a.inn hp) hp ?_ ⟨[], upd_same, rfl, rfl, List.nodup_nil, Nat.zero_le _, rfl, rfl⟩ (a.cel.lay hp)
  cases q : F p with
  | none => rfl
  | some o => rw [a.inn _ _ q] at hp; cases hp
/-- a slice of a list -/
theorem gf_slc {a : Expr} {lo hi : Option Expr} {x y z : Ex} {tl th : TO} {p2 : Pos} (ok : Ok P X) (ha : PE X a (tE P x)) (hl : PO X lo tl) (hu : PO X hi th) (pl : PartR P y tl) (ph : PartR P z th) : PE X (.Subscript a (.Slice lo hi none p2) pos) (tF P (.slc x y z)) := by
  refine (pe_slice sl_G ha hl hu).imp fun σ H Q ⟨lc, G, ρ, c, a, h⟩ => ?_
  unfold ev at h
  refine ⟨lc, G, ρ, c, a, of h fun d c1 v G1 H1 e1 r1 k1 h1 => ?_⟩
  unfold C.bnd at h1
  cases ey : ev P.Φ y ρ c1 with
  | err _ _ => rw [ey] at h1; exact h1.elim
  | stuck => rw [ey] at h1; exact h1.elim
  | ok r2 =>
    obtain ⟨dy, c2⟩ := r2
    rw [ey] at h1
    dsimp only at h1
    cases ez : ev P.Φ z ρ c2 with
    | err _ _ => rw [ez] at h1; exact h1.elim
    | stuck => rw [ez] at h1; exact h1.elim
    | ok r3 =>
      obtain ⟨dz, c3⟩ := r3
      rw [ez] at h1
      dsimp only at h1
      cases e2 : partD y dy with
      | none => rw [e2] at h1; exact h1.elim
      | some l =>
        cases e3 : partD z dz with
        | none => rw [e2, e3] at h1; exact h1.elim
        | some u =>
          rw [e2, e3] at h1
          have h1 : OutF P lc G1 H1 (C.opt (slice d l u) c3) Q := h1
          have a1 := a.step e1 k1
          refine pl a1 ⟨dy, c2, ey, l, e2, fun G2 H2 x2 k2 => ?_⟩
          refine ph (a1.step x2 k2) ⟨dz, c3, ez, u, e3, fun G3 H3 x3 k3 => ?_⟩
          have h3 := h1.ext (x2.trans x3)
          obtain ⟨w, ew, h3⟩ := h3.opt
          have hlw := h3.1
          have r3 := r1.mono (x2.sub.trans x3.sub)
          cases d with
          | lst xs =>
            cases ew
            obtain ⟨p, vs, rfl, q1, q2, q3⟩ := r3
            refine .inr (.inl ⟨p, vs, rfl, by rw [← ok.K]; exact same_l x3.inn q1, fun p2 hp => ?_⟩)
            exact h3.out x3.inn (q2.cutO l u) (Nat.le_trans (cutO_len _ _ _) q3) k3 hp
          | tup xs => cases ew; cases hlw
          | str xs => obtain ⟨_, e⟩ := ite_some ew; cases e; cases hlw
          | _ => cases ew
/-- sorted(d.keys()) -/
theorem gf_dsorted {o : Expr} {x : Ex} {q pos2 apos : Pos} (ok : Ok P X) (hm : X.mg "sorted" = none) (ha : PE X o (tE P x)) (hg : Gl X "sorted") (hbase : attributeBase o "keys" X.env (eval o X.env) = eval o X.env) (hline : (apos.endLine == pos2.line) = true)
    (he : starEach [.Call (.Attribute o "keys" apos) [] [] pos2] X.env = (false, eval (.Call (.Attribute o "keys" apos) [] [] pos2) X.env) :: starEach [] X.env) :
    PE X (.Call (.Name "sorted" q) [.Call (.Attribute o "keys" apos) [] [] pos2] [] pos) (tF P (.blt .dsorted [x])) := by
  refine (pe_callB (cr_sortK ok.hu ok.calm) hg hm PyProof.Rows.boot_sorted (pa_cons (pe_keysV ha hbase hline) pa_nil he) (by decide +kernel) (by decide +kernel) he (by rfl)).imp fun σ H Q ⟨lc, F, ρ, c, a, h⟩ => ?_
  unfold ev evs evs at h
  refine ⟨lc, F, ρ, c, a, ?_⟩
  rw [C.bnd_bnd] at h
  refine of h fun d c1 v F1 H1 e1 r1 k1 h1 => ?_
  have h1 : OutF P lc F1 H1 (C.opt (builtin .dsorted [d]) c1) Q := h1
  obtain ⟨w, ew, h2⟩ := h1.opt
  cases d with
  | dct ks vs =>
    obtain ⟨l', el, rfl⟩ := Option.map_eq_some_iff.mp (show (sortD ks).map D.lst = some w from ew)
    obtain ⟨hsame, rfl⟩ := ite_some (show (if sameSh ks = true then some (sortBy ltD ks) else none) = some l' from el)
    obtain ⟨p, xs, rfl, q1, q2⟩ := rep_dk r1
    refine ⟨p, xs, F1, ks, vs, rfl, e1.inn, same_rd e1.inn q1, by rw [← ok.K]; exact q2, fun pv hpv => ?_⟩
    have lay : Ext lc F1 H1 F1 (upd H1 pv (viewO pv p)) := .lay e1.inn hpv
    show rSortK X.K [.ref pv] (upd H1 pv (viewO pv p)) Q
    refine ⟨pv, p, xs, F1, ks, vs, rfl, upd_same, lay.inn, same_rd lay.inn q1, by rw [← ok.K]; exact q2, hsame, fun ys p2 hy hn => ?_⟩
    rw [← ok.K] at hy
    have h3 := h2.ext lay
    exact h3.out lay.inn hy (by rw [(sortBy_perm ks).length_eq]; exact q2.len) (k1.lay hpv) hn
  | _ => cases ew
theorem out_stk {lc : Option Addr} {F H : Hp} {c : Cell} {Q : VK} {m n : C D} : ¬ OutE P lc F H (C.bnd m (fun _ => C.bnd n fun _ => (C.opt none : C D)) c) Q := by
  intro h
  unfold C.bnd at h
  cases e : m c with
  | ok r =>
    rw [e] at h
    dsimp only at h
    cases e2 : n r.2 with
    | ok r => rw [e2] at h; exact h
    | err _ _ => rw [e2] at h; exact h
    | stuck => rw [e2] at h; exact h
  | err _ _ => rw [e] at h; exact h
  | stuck => rw [e] at h; exact h
/-- d.get(k, x) -/
theorem ge_dget {o e f : Expr} {x y z : Ex} {apos cpos : Pos} (ok : Ok P X) (ho : PE X o (tE P x)) (he : PE X e (tE P y)) (hf : PE X f (tE P z)) (m : M2 X o "get" apos e f cpos) : PE X (.Call (.Attribute o "get" apos) [e, f] [] cpos) (tE P (.blt .dget [x, y, z])) := by
  refine ⟨fun pins s σ H Q I ⟨lc, F, ρ, c, a, h⟩ => ?_⟩
  unfold ev evs evs evs evs at h
  simp only [C.bnd_bnd, C.ret_bnd] at h
  have t1 : tE P x σ H fun v H1 => ∃ F1 c1 ks vs, At P lc F1 H1 ρ σ c1 ∧ Rep P.K F1 (.dct ks vs) v ∧ OutE P lc F1 H1 (C.bnd (ev P.Φ y ρ) (fun a => C.bnd (ev P.Φ z ρ) fun b => C.opt (builtin .dget [.dct ks vs, a, b])) c1) Q := by
    refine ⟨lc, F, ρ, c, a, oe h fun d c1 v F1 H1 e1 r1 k1 h1 => ?_⟩
    cases d with
    | dct ks vs => exact ⟨F1, c1, ks, vs, a.step e1 k1, r1, h1⟩
    | _ => exact absurd h1 out_stk
  refine wpAny_Call_method m.base m.few m.line PySem.F.plainAttrs_dict PySem.F.slot_dict_get PySem.F.type_dict_get (thn (ho.run pins s σ H _ I t1) fun u s1 ⟨v, H1, I1, rx, F1, c1, ks, vs, a1, r1, h1⟩ => ?_)
  obtain ⟨p, xs, rfl, q1, q2⟩ := rep_dk r1
  obtain rfl : u = Value.ref p := rx
  have q2' : DkAt X.K F1 ks vs xs := by rw [← ok.K]; exact q2
  obtain ⟨hsm, us, hp, dd⟩ := dk_of I1 a1.inn (same_rd a1.inn q1) q2'
  refine ⟨dd.typeIs, fun b e => ?_, ?_⟩
  · cases e
    obtain ⟨ob, _, _, h1, h2, _⟩ := dd
    exact ⟨ob, h1, h2.2.1⟩
  rw [m.trees]
  have t2 : tE P y σ H1 fun v2 H2 => ∃ F2 c2 d2, At P lc F2 H2 ρ σ c2 ∧ Same F1 F2 ∧ Rep P.K F2 d2 v2 ∧ OutE P lc F2 H2 (C.bnd (ev P.Φ z ρ) (fun b => C.opt (builtin .dget [.dct ks vs, d2, b])) c2) Q :=
    ⟨lc, F1, ρ, c1, a1, oe h1 fun d2 c2 v2 F2 H2 e2 r2 k2 h2 => ⟨F2, c2, d2, a1.step e2 k2, e2.sub, r2, h2⟩⟩
  refine Calls.callWith_builtin rfl (Calls.evalArgs_plain (Calls.spliced_cons (thn (he.run pins s1 σ H1 _ I1 t2) fun iv s2 ⟨v2, H2, I2, ry, F2, c2, d2, a2, s12, r2, h2⟩ => ?_)))
  have t3 : tE P z σ H2 fun v3 H3 => ∃ F3 c3 d3, At P lc F3 H3 ρ σ c3 ∧ Same F2 F3 ∧ Rep P.K F3 d3 v3 ∧ OutE P lc F3 H3 (C.opt (builtin .dget [.dct ks vs, d2, d3]) c3) Q :=
    ⟨lc, F2, ρ, c2, a2, oe h2 fun d3 c3 v3 F3 H3 e3 r3 k3 h3 => ⟨F3, c3, d3, a2.step e3 k3, e3.sub, r3, h3⟩⟩
  refine Calls.spliced_cons (thn (hf.run pins s2 σ H2 _ I2 t3) fun fv s3 ⟨v3, H3, I3, rz, F3, c3, d3, a3, s23, r3, h3⟩ => Calls.spliced_nil ?_)
  obtain ⟨w, ew, h4⟩ := h3.opt
  obtain ⟨hk, rfl⟩ := ite_some (show (if keyT d2 = true then some ((dfind ks vs d2).getD d3) else none) = some w from ew)
  have s13 := s12.trans s23
  refine dk_get (by have := ok.hu; omega) I3 a3.inn (same_rd a3.inn (same_rd s13 q1)) ⟨q2'.keys, q2'.kt, q2'.nd, q2'.len, q2'.rk.mono s13, q2'.rv.mono s13⟩ hk (by rw [← ok.K]; exact r2.mono s23) ry (by rw [← ok.K]; exact r3) rz fun z' w' s' I' rz' rw' => ?_
  rw [← ok.K] at rz'
  exact ⟨z', H3, I', rw', h4.out a3.inn rz' a3.cel⟩
end
end G
/-! GP: while, walks of own things, op=. -/
namespace G
open PySem L2
variable [TQ]
section
variable {X : Cx} {p : Cfg} {pos : Pos}
/-! ### while -/
theorem ne_test {Φ : Tab} {chk : Bool} {x : Ex} {ρ : Env} : NE (C.bnd (hide chk (ev Φ x ρ)) asBool) := ne_bnd inferInstance fun _ => inferInstance
theorem gs_while {chk : Bool} {t : Expr} {body : List Stmt} {x : Ex} {b : List Stm} (hp : PassesOwn (model X.prog X.w) X.A X.env X.xe) (h : PT X t (tT (p.md chk) x)) (hb : PSs X body (tSs p b)) : PS X (.While t body [] pos) (tS p (.whl chk x b)) := by
  refine (ps_while hp h hb).imp fun D σ H ⟨en, lc, F, ρ, c, s, h⟩ => ?_
  unfold ex at h
  refine ⟨fun m σ H => ∃ lc F ρ c, StS p en lc F H ρ σ c ∧ OutS p en (whileL (fun ρ => C.bnd (hide chk (ev p.Φ x ρ)) asBool) (exs p.Φ b) m ρ c) D, ⟨WH, lc, F, ρ, c, s, h⟩, ?_⟩
  clear h s
  rintro m σ1 H1 ⟨lc1, F1, ρ1, c1, s1, h1⟩
  cases m with
  | zero =>
    unfold whileL at h1
    exact h1.elim
  | succ m =>
    unfold whileL at h1
    obtain ⟨k, c2, e, h2⟩ := os_bnd (ne := ne_test) h1
    obtain ⟨d, c3, e1, e2⟩ := bnd_ok e
    have hd : d = .bl k ∧ c2 = c3 := by
      cases d <;> first | (cases e2; done) | skip
      cases e2
      exact ⟨rfl, rfl⟩
    obtain ⟨rfl, rfl⟩ := hd
    have go : ∀ F2 H2, StS p en lc1 F2 H2 ρ1 σ1 c2 → (if k = true then ∃ N : L2.St → Hp → Prop, (∀ σ' H', N σ' H' → ∃ m', m' < m + 1 ∧ ∃ lc F ρ c, StS p en lc F H' ρ σ' c ∧ OutS p en (whileL (fun ρ => C.bnd (hide chk (ev p.Φ x ρ)) asBool) (exs p.Φ b) m' ρ c) D) ∧ tSs p b { D with nx := N, ct := N, bk := D.nx } σ1 H2 else D.nx σ1 H2) := by
      intro F2 H2 s2
      cases k with
      | true =>
        rw [if_pos rfl] at h2 ⊢
        refine ⟨fun σ' H' => ∃ lc F ρ c, StS p en lc F H' ρ σ' c ∧ OutS p en (whileL (fun ρ => C.bnd (hide chk (ev p.Φ x ρ)) asBool) (exs p.Φ b) m ρ c) D, fun σ' H' z => ⟨m, Nat.lt_succ_self _, z⟩, en, lc1, F2, ρ1, c2, s2, ?_⟩
        refine os_seq h2 (fun _ _ z => z) fun f c4 e6 h6 => ?_
        cases f with
        | nx ρ3 => exact fun lc' F' H' σ' s' => ⟨lc', F', ρ3, c4, s', h6⟩
        | rt d => exact h6
      | false =>
        rw [if_neg (by decide)] at h2 ⊢
        exact h2 lc1 F2 H2 σ1 s2
    rcases hide_ok e1 with ⟨hc, e3⟩ | ⟨hc, hcc, c5, e3⟩
    · subst hc
      show tT p.non x σ1 H1 _
      refine ⟨lc1, F1, ρ1, c1, s1.at_non, ?_⟩
      show OutT p.non lc1 F1 H1 (ev p.Φ x ρ1 c1) _
      rw [e3]
      intro F' H' e' k'
      exact go F' H' (s1.step e' k')
    · subst hc hcc
      show tT p.all x σ1 H1 _
      refine ⟨none, _, ρ1, none, s1.at_all, ?_⟩
      show OutT p.all none (addOwn p ρ1 σ1 F1 H1) H1 (ev p.Φ x ρ1 none) _
      rw [e3]
      intro G' H' e' k'
      have bk := s1.back e'
      exact go _ H' (s1.step (bk.any (lc := lc1)) (s1.cr.ext bk))
/-! ### x op= e, whole numbers -/
def ipOp : Op2 → Operator → Prop
  | .add, .Add => True
  | .sub, .Sub => True
  | .mul, .Mult => True
  | _, _ => False
def rIp (o : Op2) : TIp := fun x y H Q => ∃ i j k, x = .int i ∧ y = .int j ∧ arith o (.int i) (.int j) = some (.int k) ∧ Q (.int k) H
theorem ip_of {o : Op2} {op : Operator} (h : ipOp o op) : PIp X op (rIp o) := by
  intro pins s σ H x y v u Q I r1 r2 hh
  obtain ⟨i, j, k, e1, e2, e3, q⟩ := hh
  subst e1; subst e2
  obtain ⟨t, rfl⟩ := r1
  obtain ⟨t', rfl⟩ := r2
  cases o <;> cases op <;> first | (exact h.elim) | skip
  · cases e3
    exact PySem.P.iadd_int ⟨.int _, H, I.tok _, ⟨_, rfl⟩, q⟩
  · cases e3
    exact PySem.P.isub_int ⟨.int _, H, I.tok _, ⟨_, rfl⟩, q⟩
  · obtain ⟨hz, e⟩ := ite_some e3
    cases e
    rw [m64] at hz
    exact PySem.P.imul_int ⟨.int _, H, I.tok _, ⟨_, rfl⟩, q⟩ (CMul.ok hz)
theorem arith_int {o : Op2} {op : Operator} (h : ipOp o op) {i : Int} {y w : G.D} (e : arith o (.int i) y = some w) : ∃ j k, y = .int j ∧ w = .int k := by
  cases o <;> cases op <;> first | (exact h.elim) | skip
  all_goals
    cases y <;> first | (simp [arith] at e; done) | skip
  · cases e; exact ⟨_, _, rfl, rfl⟩
  · cases e; exact ⟨_, _, rfl, rfl⟩
  · obtain ⟨_, e⟩ := ite_some e
    cases e; exact ⟨_, _, rfl, rfl⟩
/-- a local whole number, op= -/
theorem gs_aug {i : Nat} {x : Str} {e : Expr} {y : Ex} {pos' : Pos} {o : Op2} {op : Operator} (ho : ipOp o op) (ok : okTg p (.nm i) = true) (hN : X.N.Nodup) (hi : X.N[i]? = some x) (hx : Loc X.env.scope x) (he : PE X e (tE p.non y)) (hf : X.fn x = true ∨ X.env.scope.names.lookup x = some .local) :
    PS X (.AugAssign (.Name x pos') op e pos) (tS p (.aug o i y)) := by
  refine (ps_aug hN hi hx he (ip_of ho) hf).imp fun D σ H ⟨en, lc, F, ρ, c, s, h⟩ => ?_
  unfold ex at h
  obtain ⟨d, c1, e1, h1⟩ := os_bnd h
  obtain ⟨e2, e3⟩ := opt_ok e1
  subst e3
  obtain ⟨g, c2, e3, h2⟩ := os_bnd h1
  obtain ⟨hg, e4⟩ := guard_ok e3
  subst e4
  cases d <;> first | (cases hg; done) | skip
  rename_i n
  have hio := (okTg_iff ok i (by simp [tgSlots])).1
  obtain ⟨v, q1, q2⟩ := s.non i _ hio e2
  cases q2
  obtain ⟨d2, c3, e4, h3⟩ := os_bnd h2
  obtain ⟨w, c4, e5, h4⟩ := os_bnd h3
  obtain ⟨e6, e7⟩ := opt_ok e5
  subst e7
  obtain ⟨j, k, rfl, rfl⟩ := arith_int ho e6
  refine ⟨.int n, q1, se_non s e4 fun v2 F2 H2 s2 r2 _ => ?_⟩
  cases r2
  refine ⟨n, j, k, rfl, rfl, e6, ?_⟩
  obtain ⟨z1, z2, z3⟩ := okTg_iff ok i (by simp [tgSlots])
  exact h4 lc F2 H2 _ (s2.put z1 z2 z3 rfl)
end
end G
/-! GR: t[::-1] of a tuple, [..] * n, xs[i] op= e of an own list. -/
namespace HT
open PySem PySem.Spec PyProof.Rows
section
variable {prog : Program} {w : World} {A : Around} {E : Value → Shared → Prop} {s : Shared}
theorem sliceApplied_rev {sl : Addr} {vl vu vs : Value} {n : Nat} {Q : Int × Int × Nat → Shared → Prop} (hs : s.heap.IsSliceOf sl vl vu vs) (pl : IsPart vl none) (pu : IsPart vu none) (ps : IsPart vs (some (-1)))
    (h : Q ((n : Int) - 1, -1, n) s) : wpAny (model prog w) A (Builtin.Slice.sliceApplied (.ref sl) (pure (n : Int))) Q E s := by
  obtain ⟨os, hos, hcs, hds⟩ := id hs
  unfold Builtin.Slice.sliceApplied Builtin.Slice.sliceFields
  refine wpAny_bind (wpAny_bind (wpAny_field hos hds (x := vl) rfl (wpAny_bind (wpAny_field hos hds (x := vu) rfl (wpAny_bind (wpAny_field hos hds (x := vs) rfl (wpAny_pure ?_)))))))
  refine wpAny_bind (slicePart_ ps ?_)
  show wpAny _ _ (if ((-1 : Int) == 0) = true then _ else _) _ _ s
  rw [if_neg (by decide)]
  refine wpAny_bind (slicePart_ pl (wpAny_bind (slicePart_ pu (wpAny_bind (wpAny_pure ?_)))))
  show wpAny _ _ (match Builtin.Slice.sliceAdjust none none (-1) (n : Int) with | (lo, hi) => pure (lo, (-1 : Int), Builtin.Slice.slicePlaces lo hi (-1))) _ _ s
  have e : Builtin.Slice.sliceAdjust none none (-1) (n : Int) = ((n : Int) - 1, -1) := by
    unfold Builtin.Slice.sliceAdjust
    simp
  rw [e]
  show wpAny _ _ (pure ((n : Int) - 1, (-1 : Int), Builtin.Slice.slicePlaces ((n : Int) - 1) (-1) (-1))) _ _ s
  have e2 : Builtin.Slice.slicePlaces ((n : Int) - 1) (-1) (-1) = n := by
    unfold Builtin.Slice.slicePlaces
    have h1 : ¬ ((-1 : Int) > 0) := by decide
    simp only [h1, if_false, show (- -1 : Int) = 1 from by decide, Int.ediv_one]
    split <;> omega
  rw [e2]
  exact wpAny_pure h
theorem pick_rev (xs : Array Value) : ((List.range xs.size).filterMap fun (m : Nat) => xs[(((xs.size : Int) - 1) + (m : Int) * (-1)).toNat]?).toArray = xs.toList.reverse.toArray := by
  congr 1
  have e : (List.range xs.size).filterMap (fun (m : Nat) => xs[(((xs.size : Int) - 1) + (m : Int) * (-1)).toNat]?) = ((List.range xs.size).map fun k => xs.size - 1 - k).filterMap (xs[·]?) := by
    rw [List.filterMap_map]
    have key : ∀ l : List Nat, (∀ m ∈ l, m < xs.size) → l.filterMap (fun (m : Nat) => xs[(((xs.size : Int) - 1) + (m : Int) * (-1)).toNat]?) = l.filterMap ((xs[·]?) ∘ fun k => xs.size - 1 - k) := by
      intro l
      induction l with
      | nil => intro _; rfl
      | cons m l ih =>
        intro hl
        have := hl m List.mem_cons_self
        have e : (((xs.size : Int) - 1) + (m : Int) * (-1)).toNat = xs.size - 1 - m := by omega
        rw [List.filterMap_cons, List.filterMap_cons, e, ih fun x hx => hl x (List.mem_cons_of_mem _ hx)]
        rfl
    exact key _ fun m hm => List.mem_range.mp hm
  rw [e, PySem.W.krv_range, List.filterMap_reverse, PySem.W.krv_all]
theorem getItem_tuple_rev {t sl : Addr} {items : Array Value} {vl vu vs : Value} {Q : Value → Shared → Prop} (ht : IsTup s.heap t items) (hs : s.heap.IsSliceOf sl vl vu vs) (pl : IsPart vl none) (pu : IsPart vu none) (ps : IsPart vs (some (-1)))
    (h : Q (.ref s.heap.objs.size) { s with heap := s.heap.push { cls := .type "tuple", data := .seq items.toList.reverse.toArray } })
    (hsz : items.size ≤ sizeLine) : wpAny (model prog w) A (getItem (.ref t) (.ref sl)) Q E s := by
  have htake : sizeOk (.seq items.toList.reverse.toArray) := by
    show items.toList.reverse.toArray.size ≤ sizeLine
    rw [List.size_toArray, List.length_reverse, Array.length_toList]
    exact hsz
  obtain ⟨os, hos, hcs, hds⟩ := id hs
  have hTs : s.TypeIs (.ref sl) "slice" := ⟨os, hos, hcs⟩
  unfold getItem
  try with_reducible refine wpAny_holding ?_
  first | refine wpAny_bind (wpAny_pure ?_) | skip
  refine wpAny_bind (wpAny_sequenceKey ht.typeIs (by decide) ?_)
  refine wpAny_bind (wpAny_callSpecial?_slot (name := Str.ofString "__getitem__") ht.typeIs PyProof.Rows.slot_tuple_getitem
    (wpAny_call_entry PyProof.Rows.slot_tuple_getitem ht.typeIs entry_tuple_getitem ?_ (args_tuple_getitem _ _)))
  show wpAny _ _ (Builtin.Tuple.tupleItemsOf (.ref t) >>= _) _ _ s
  refine wpAny_bind (tupleItemsOf_ ht ?_)
  refine wpAny_bind (wpAny_typeOf hTs ?_)
  rw [if_pos (by decide)]
  refine wpAny_bind (sliceApplied_rev hs pl pu ps ?_)
  have hno : ¬ ((((items.size : Int) - 1) == 0 && (-1 : Int) == 1 && items.size == items.size) = true) := by
    intro q
    rw [Bool.and_eq_true, Bool.and_eq_true] at q
    have q1 : (-1 : Int) = 1 := eq_of_beq q.1.2
    omega
  show wpAny _ _ (if (((items.size : Int) - 1) == 0 && (-1 : Int) == 1 && items.size == items.size) = true then _ else _) _ _ s
  rw [if_neg hno, pick_rev]
  first
    | exact wpAny_bind (m := Builtin.Tuple.tupleExact _) (wpAny_newObj_type (wpAny_pure ⟨_, rfl, wpAny_pure h⟩) htake)
    | exact wpAny_bind (m := Builtin.Tuple.tupleExact _) (wpAny_newObj_type (wpAny_bind (wpAny_pure (wpAny_pure ⟨_, rfl, wpAny_pure h⟩))) htake)
    | exact wpAny_bind (wpAny_bind (m := Builtin.Tuple.tupleExact _) (wpAny_newObj_type (wpAny_pure (wpAny_pure ⟨_, rfl, wpAny_pure h⟩)) htake))
    | exact wpAny_bind (wpAny_bind (m := Builtin.Tuple.tupleExact _) (wpAny_newObj_type (wpAny_pure ⟨_, rfl, wpAny_pure h⟩) htake))
end
end HT
namespace L2
open PySem PySem.Spec PyProof.Rows
def tRevT (K : PySem.W.Frag) (te : TE) : TE := fun σ H Q => te σ H fun x H1 => ∃ a xs, x = .ref a ∧ SqT K H1 a xs ∧ ∀ p, H1 p = none → Q (.ref p) (upd H1 p (.tup xs.reverse))
theorem pe_revT {X : Cx} {e : Expr} {te : TE} {k : Nat} {p1 p2 p3 pos : Pos} (he : PE X e te) : PE X (.Subscript e (.Slice none none (some (.UnaryOp .USub (.Constant (.int 1) k p1) p2)) p3) pos) (tRevT X.K te) := by
  refine ⟨fun pins s σ H Q I h => ?_⟩
  refine Subscript_ (thn (he.run pins s σ H _ I h) fun v s1 ⟨x, H1, I1, r1, q1⟩ => ?_)
  obtain ⟨a, xs, ex, hx, q⟩ := q1
  subst ex
  cases r1
  have hst : PO X (some (.UnaryOp .USub (.Constant (.int 1) k p1) p2)) (tPart (tUn (rU fun i => .int (-i)) (tC (.int 1)))) := po_some (pe_un un_neg pe_int)
  refine wpAny_Slice (thn (po_none.run pins s1 σ H1 (fun o H2 => o = none ∧ H2 = H1) I1 ⟨rfl, rfl⟩) fun vl s2 ⟨l, H2, I2, pl, el, e2⟩ => ?_)
  subst el e2
  refine thn (po_none.run pins s2 σ H2 (fun o H3 => o = none ∧ H3 = H2) I2 ⟨rfl, rfl⟩) fun vu s3 ⟨u, H3, I3, pu, eu, e3⟩ => ?_
  subst eu e3
  refine thn (hst.run pins s3 σ H3 (fun o H4 => o = some (-1) ∧ H4 = H3) I3 ⟨1, rfl, -1, rfl, rfl, rfl⟩) fun vs s4 ⟨o, H4, I4, ps, eo, e4⟩ => ?_
  subst eo e4
  have I5 : Inv X pins σ H4 { s4 with heap := s4.heap.push { cls := .type "slice", data := .fields #[vl, vu, vs] } } := I4.kept (t' := s4.toks) fun b ob q => Heap.get?_push_of_some _ q
  obtain ⟨its, r, ht, hz⟩ := I5.tuple hx
  have hlen := r.length
  show wpAny (model X.prog X.w) X.A (subscriptTail e (.Slice none none (some (.UnaryOp .USub (.Constant (.int 1) k p1) p2)) p3) (.ref a) (.ref s4.heap.objs.size)) (EP X pins σ Q) X.xe { s4 with heap := s4.heap.push { cls := .type "slice", data := .fields #[vl, vu, vs] } }
  refine tail_any (ops := [.ref a, .ref s4.heap.objs.size]) ht.typeIs (PyProof.Rows.slot_tuple_getitem.lookup) ?_ (by with_unfolding_all rfl)
  refine HT.getItem_tuple_rev ht (Heap.IsSliceOf.new _ vl vu vs) pl pu ps ?_ (by rw [List.size_toArray]; omega)
  refine ⟨.ref _, _, I5.laid (t' := s4.toks) (o := .tup xs.reverse) (fun b ob q => Heap.get?_push_of_some _ q) (Nat.le_refl _) ?_, rfl, q _ (I5.hok.fresh (Nat.le_refl _))⟩
  exact ⟨by rw [List.length_reverse]; exact hz, _, r.reverse, IsTup.new _ _⟩
end L2
namespace G
open PySem L2
variable [TQ]
section
variable {X : Cx} {P : Pl} {p : Cfg} {pos : Pos}
theorem Reps.reverse {K : PySem.W.Frag} {H : Hp} : ∀ {l : List D} {vs : List V}, Reps K H l vs → Reps K H l.reverse vs.reverse
  | [], _, r => by cases r; exact rfl
  | d :: l, _, r => by
    obtain ⟨x, xs, rfl, r1, r2⟩ := r
    rw [List.reverse_cons, List.reverse_cons]
    exact (Reps.reverse r2).snoc r1
/-- t[::-1] -/
theorem ge_rev {e : Expr} {x : Ex} {k : Nat} {p1 p2 p3 : Pos} (ok : Ok P X) (ha : PE X e (tE P x)) : PE X (.Subscript e (.Slice none none (some (.UnaryOp .USub (.Constant (.int 1) k p1) p2)) p3) pos) (tE P (.blt .trev [x])) := by
  refine (pe_revT ha).imp fun σ H Q ⟨lc, G, ρ, c, a, h⟩ => ?_
  unfold ev evs evs at h
  refine ⟨lc, G, ρ, c, a, ?_⟩
  rw [C.bnd_bnd] at h
  refine oe h fun d c1 v G1 H1 e1 r1 k1 h1 => ?_
  have h1 : OutE P lc G1 H1 (C.opt (builtin .trev [d]) c1) Q := h1
  obtain ⟨w, ew, h2⟩ := h1.opt
  cases d with
  | tup l =>
    cases ew
    obtain ⟨p, xs, rfl, q1, q2, q3⟩ := r1
    exact ⟨p, xs, rfl, by rw [← ok.K]; exact same_t e1.inn q1, fun p2 hp => OutE.newT h2 e1.inn q2.reverse (by rw [List.length_reverse]; exact q3) k1 hp⟩
  | _ => cases ew
/-- [..] * n -/
theorem gf_rep {es : List Expr} {b : Expr} {xs : List Ex} {y : Ex} {lp : Pos} (ha : PE X (.List es lp) (tF P (.lst xs))) (hb : PE X b (tE P y)) : PE X (.BinOp (.List es lp) .Mult b pos) (tF P (.op .rep (.lst xs) y)) := by
  refine (pe_op op_rep ha hb).imp fun σ H Q ⟨lc, G, ρ, c, a, h⟩ => ?_
  rw [ev] at h
  refine ⟨lc, G, ρ, c, a, ?_⟩
  unfold C.bnd at h
  cases e : ev P.Φ (.lst xs) ρ c with
  | err _ _ => rw [e] at h; exact h.elim
  | stuck => rw [e] at h; exact h.elim
  | ok r =>
    obtain ⟨d, c1⟩ := r
    rw [e] at h
    have hd := frs_lst (x := .lst xs) rfl e
    have h : OutF P lc G H (C.bnd (ev P.Φ y ρ) (fun y => C.opt (arith .rep d y)) c1) Q := h
    refine ⟨hd, fun p G' H' x1 hp hg hw k1 => ?_⟩
    have h1 := h.ext x1
    refine ⟨lc, G', ρ, c1, a.step x1 k1, of h1 fun d2 c2 v G2 H2 e2 r2 k2 h2 => ?_⟩
    obtain ⟨w, ew, h3⟩ := h2.opt
    obtain ⟨l, rfl⟩ : ∃ l, d = .lst l := by cases d <;> first | exact ⟨_, rfl⟩ | (cases d2 <;> simp [arith] at ew)
    obtain ⟨n, rfl⟩ : ∃ n, d2 = .int n := by cases d2 <;> first | exact ⟨_, rfl⟩ | simp [arith] at ew
    obtain ⟨⟨z1, z2, z3⟩, ew⟩ := ite_some ew
    cases ew
    cases r2
    obtain ⟨vs, w1, w2, w3⟩ := hw
    have hne : lc ≠ some p := fun z => by
      obtain ⟨o, ho⟩ := a.cel.has z
      rw [hp] at ho; cases ho
    have w1 := e2.same _ _ hne (fun _ z => by cases z) w1
    have w2 := w2.mono e2.sub
    have l1 := w2.length
    have rep : ∀ m : Nat, Reps P.K G2 (List.replicate m l).flatten (List.replicate m vs).flatten := fun m => by
      induction m with
      | zero => exact rfl
      | succ m ih => rw [List.replicate_succ, List.replicate_succ, List.flatten_cons, List.flatten_cons]; exact w2.append ih
    have hmul : l.length * n.toNat ≤ 1000 * 1000 := Nat.mul_le_mul z3 (by omega)
    refine ⟨p, n, vs, rfl, rfl, w1, by omega, by omega, by rw [← l1]; exact Nat.le_trans hmul (by decide), fun p2 hp2 => ?_⟩
    exact h3.out e2.inn (rep _) (by rw [PyProof.Rows.lm_len_rep_flat, Nat.mul_comm]; exact Nat.le_trans hmul (by decide)) k2 hp2
end
end G
namespace L2
open PySem PySem.Spec PyProof.Rows
theorem get_list {X : Cx} : PGet X (rIxL X.K) := by
  intro pins s σ H x y v u Q I rx ry h
  obtain ⟨p, xs, i, z, rfl, rfl, hq, he, q⟩ := h
  cases rx
  obtain ⟨t, rfl⟩ := ry
  obtain ⟨its, r, pl, hz⟩ := I.list hq
  obtain ⟨j, h1, h2, h3, h4, h5⟩ := atI_get he
  obtain ⟨w, ew, rw'⟩ := r.get h2
  have hl := r.length
  have hn := line63
  have fin : EP X pins σ Q w s := ⟨z, H, I, rw', q⟩
  by_cases h0 : 0 ≤ i
  · have hj : i.toNat = j := by
      rw [seqIndex_of h0 h5] at h1
      exact Option.some.inj h1
    exact wpAny_getItem_list pl.isList h0 (by omega) (by rw [hj]; simpa using ew) fin
  · have hj : (i + (its.toArray.size : Int)).toNat = j := by
      rw [seqIndex_neg (by omega) h4] at h1
      rw [List.size_toArray, ← hl]
      exact Option.some.inj h1
    exact wpAny_getItem_list_neg pl.isList (by omega) (by rw [List.size_toArray] <;> omega) (by omega) (by rw [hj]; simpa using ew) fin
end L2
namespace G
open PySem L2
variable [TQ]
section
variable {X : Cx} {p : Cfg} {pos : Pos}
/-- x[k] op= e, x an own list of whole numbers -/
theorem gs_augI {chk : Bool} {i : Nat} {x : Str} {px pt : Pos} {b e : Expr} {k y : Ex} {o : Op2} {op : Operator} (hK : p.K = X.K) (ho : ipOp o op) (hi : i ∈ p.own) (hkl : i ∉ p.lock) (hN : X.N[i]? = some x) (hv : Vis X.env.scope x) (hd : (x == ("__debug__" : Str)) = false) (hcd : (x == ("__classdict__" : Str)) = false)
    (hb : PE X b (tE (p.md chk) k)) (he : PE X e (tE (p.md chk) y)) (ha : ∀ ov iv new, augStore b ov iv new = (do holding [new, ov, iv] (setItem ov iv new); release [new, ov, iv] []; pure .next)) :
    PS X (.AugAssign (.Subscript (.Name x px) b pt) op e pos) (tS p (.augI chk o i k y)) := by
  refine (ps_augS (pe_var hN hv hd hcd) hb get_list he (ip_of ho) set_list ha).imp fun D σ H ⟨en, lc, F, ρ, c, s, h⟩ => ?_
  unfold ex at h
  obtain ⟨j, c1, e1, h1⟩ := os_bnd h
  obtain ⟨n, c2, e2, h2⟩ := os_bnd h1
  obtain ⟨f2, e3⟩ := opt_ok e2
  clear e2
  subst e3
  obtain ⟨dy, c3, e4, h3⟩ := os_bnd h2
  obtain ⟨u, c4, eg, h4⟩ := os_bnd h3
  obtain ⟨hg, e5⟩ := guard_ok eg
  subst e5
  obtain ⟨z, c5, e6, h5⟩ := os_bnd h4
  obtain ⟨f6, e7⟩ := opt_ok e6
  clear e6
  subst e7
  obtain ⟨w, c6, e8, h6⟩ := os_bnd h5
  obtain ⟨f8, e9⟩ := opt_ok e8
  clear e8
  subst e9
  cases eo : get ρ i with
  | none => rw [eo] at f2; cases f2
  | some dl =>
    rw [eo] at f2 f8
    obtain ⟨l, rfl⟩ : ∃ l, dl = .lst l := by cases dl <;> first | exact ⟨_, rfl⟩ | cases f2
    obtain ⟨q, rfl⟩ : ∃ q, j = .int q := by cases j <;> first | exact ⟨_, rfl⟩ | cases f2
    obtain ⟨m, hm, rfl⟩ := Option.map_eq_some_iff.mp (show (ixNat l.length q).map (fun j => G.D.lst (l.set j z)) = some w from f8)
    have hlm : l[m]? = some (.int n) := by
      have e2 : (match (ixNat l.length q).bind fun j => l[j]? with | some (.int n) => some n | _ => none) = some n := f2
      rw [hm] at e2
      have e2 : (match l[m]? with | some (.int n) => some n | _ => none) = some n := e2
      cases e : l[m]? with
      | none => rw [e] at e2; cases e2
      | some d =>
        rw [e] at e2
        cases d <;> first | (cases e2; done) | skip
        cases e2
        rfl
    obtain ⟨y2, rfl⟩ : ∃ y2, dy = .int y2 := by cases dy <;> first | exact ⟨_, rfl⟩ | cases hg
    obtain ⟨_, zz, _, rfl⟩ := arith_int ho f6
    obtain ⟨a, q2, _, _⟩ := s.ownR hi hkl eo
    refine ⟨.ref a, q2, ?_⟩
    refine se_md s e1 fun v G1 F1 H1 s1 rj _ _ _ => ?_
    cases rj
    obtain ⟨a', z2, ⟨vs, z3, z7, z8⟩, _⟩ := s1.ownR hi hkl eo
    rw [q2] at z2
    cases z2
    obtain ⟨vn, hvn, rn⟩ := z7.get hlm
    cases rn
    refine ⟨a, vs, q, .int n, rfl, rfl, .inl (.of z3), ?_, ?_⟩
    · rw [atI_eq, ← z7.length, hm]
      exact hvn
    refine se_md s1 e4 fun v2 G2 F2 H2 s2 ry _ _ _ => ?_
    cases ry
    obtain ⟨a', z2, ⟨vs2, y3, y7, y8⟩, _⟩ := s2.ownR hi hkl eo
    rw [q2] at z2
    cases z2
    refine ⟨n, y2, zz, rfl, rfl, f6, ?_⟩
    refine ⟨a, vs2, q, m, rfl, rfl, y3, by rw [ixN_eq, ← y7.length]; exact hm, ?_⟩
    exact h6 lc F2 _ σ (s2.write (o := .lst (vs2.set m (.int zz))) (e := .lst (l.set m (.int zz))) hi hkl eo q2 ⟨_, upd_same, y7.set m rfl, by rw [List.length_set]; exact y8⟩)
end
end G
/-! GS: the keys of an own dict walked. -/
namespace G
open PySem L2 PySem.Spec PyProof.Rows PySem.W
variable [TQ]
/-! ### the walk -/
def ItkO (d : Addr) (od : Obj) (xs : List (NestedKey × Addr × V)) : It :=
  ⟨fun i H => H d = some (.frz od (dkO d xs)) ∧ i < xs.length, fun i H x H' => H' = H ∧ ∃ y, xs[i]? = some y ∧ x = .ref y.2.1, fun i H => H d = some (.frz od (dkO d xs)) ∧ xs.length ≤ i⟩
section
variable {X : Cx} {pins : List (Addr × Obj)} {σ : L2.St} {H : Hp} {s : Shared} {d : Addr} {od : Obj} {xs : List (NestedKey × Addr × V)}
theorem frzO (I : Inv X pins σ H s) (h : H d = some (.frz od (dkO d xs))) : s.heap.get? d = some od := (I.hok d _ h).1
end
section
variable {P : Program} {w : World} {K : PySem.W.Frag} {tg : Expr} {d : Addr} {od : Obj} {es : Array DictEntry} {ep : Nat} {xs : List (NestedKey × Addr × V)}
theorem turn_keysO (it : Addr) (hod : od.data = .dict es ep) (hsz : es.size = xs.length) (hk : ∀ i (hi : i < es.size), ∃ y, xs[i]? = some y ∧ es[i].key = .ref y.2.1) : Turn P w K tg (ItkO d od xs) [it] it (fun i h => h.IsKeyIter it d i xs.length ep) where
  mem := by simp
  obj := fun i h st b hb => by
    have e : b = it := by simpa using hb
    subst e
    obtain ⟨oi, e, c, dd⟩ := st
    exact ⟨oi, e, fun v z => by rw [dd] at z; cases z⟩
  keep := fun i h h' st k => st.at fun oi e => k it (by simp) oi e
  item := by
    intro X hP hw hK hc i pins s σ H E I hf st hg
    subst hP hw hK
    obtain ⟨hd, hi⟩ := hg
    obtain ⟨f0, f1, f2, f3, f4, f5⟩ := hf it (by simp)
    have hgd := frzO I hd
    have hlt : i < es.size := by rw [hsz]; exact hi
    obtain ⟨y, hy, hkey⟩ := hk i hlt
    refine next_key_item st hgd hod hsz (Array.getElem?_eq_getElem hlt) fun h' st' sb => ?_
    have I1 : Inv X pins σ H { s with heap := h' } := I.turned (t' := s.toks) (fun b ob hb e => (sb.2 b hb).trans e) f0 f1 f3 f4 f5
    obtain ⟨oi, e, c, dd⟩ := id st'
    exact ⟨es[i].key, rfl, go_of (s := { s with heap := h' }) e c dd (by decide) ⟨.ref y.2.1, H, I1, hkey, ⟨rfl, y, hy, rfl⟩, st', fun b hb => (hf b hb).1⟩⟩
  done := by
    intro X hP hw hK hc i pins s σ H E I hf st hg
    subst hP hw hK
    obtain ⟨hd, hi⟩ := hg
    obtain ⟨f0, f1, f2, f3, f4, f5⟩ := hf it (by simp)
    exact next_key_end (I.ok.hd hc) st (frzO I hd) hod hsz hi fun h' eb => ⟨rfl, I.turned (t' := s.toks) (fun b ob hb e => eb b ob hb e) f0 f1 f3 f4 f5⟩
  self := fun A i s Q E st h => by
    refine wpAny_pyIter_slot st.typeIs F.slot_dict_keyiterator_iter (wpAny_call_entry F.slot_dict_keyiterator_iter st.typeIs F.entry_dict_keyiterator_iter ?_ (F.args_dict_keyiterator_iter_1 _))
    show wpAny _ _ (ret (.ref it)) _ _ s
    exact wpAny_pure ⟨_, rfl, "dict_keyiterator", _, st.typeIs, F.slot_dict_keyiterator_next.lookup, h⟩
end
def iKeysO (K : PySem.W.Frag) (td : TE) : TI := fun σ H R => td σ H fun x H1 => ∃ d od xs G ks vs, x = .ref d ∧ Same G H1 ∧ H1 d = some (.frz od (dkO d xs)) ∧ DkAt K G ks vs xs ∧ R (ItkO d od xs) H1
section
variable {X : Cx} {tg e : Expr} {td : TE} {apos cpos : Pos}
theorem pi_keysO (he : PE X e td) (hbase : attributeBase e "keys" X.env (eval e X.env) = eval e X.env := by rfl) (hline : (apos.endLine == cpos.line) = true := by rfl) : PI X tg (.Call (.Attribute e "keys" apos) [] [] cpos) (iKeysO X.K td) := by
  refine ⟨fun pins s σ H R I h => ?_⟩
  refine wpAny_Call_method (T := "dict") (id := "dict.keys") hbase rfl hline F.plainAttrs_dict F.slot_dict_keys F.type_dict_keys (thn (he.run pins s σ H _ I h) fun u s1 ⟨x, H1, I1, rx, d, od, xs, G, ks, vs, ex, hs, hd, D, q⟩ => ?_)
  subst ex
  obtain rfl : u = Value.ref d := rx
  have hrd : Rd H1 d (dkO d xs) := .inr ⟨od, hd⟩
  obtain ⟨hsm, us, hp, dd⟩ := dk_of I1 hs hrd D
  obtain ⟨_, es, ep, hr, hsz, hk⟩ := dk_raw I1 hs hrd D
  have hgd := frzO I1 hd
  have hdt : od.data = .dict es ep := by
    obtain ⟨o', ho, _, hd'⟩ := id hr
    rw [hgd] at ho
    cases ho
    exact hd'
  refine ⟨dd.typeIs, fun b e => ?_, ?_⟩
  · cases e
    obtain ⟨ob, _, _, h1, h2, _⟩ := dd
    exact ⟨ob, h1, h2.2.1⟩
  have I2 : Inv X pins σ H1 { s1 with heap := s1.heap.push { cls := .type "dict_keys", data := .fields #[.ref d] } } := I1.kept (t' := s1.toks) fun b ob q => Heap.get?_push_of_some _ q
  have fin : wpAny (model X.prog X.w) X.A (pyIter (.ref s1.heap.objs.size)) (PIE X pins σ tg R) X.xe { s1 with heap := s1.heap.push { cls := .type "dict_keys", data := .fields #[.ref d] } } := by
    refine wpAny_pyIter_keys_raw (v := s1.heap.objs.size) (d := d) ⟨_, Heap.get?_push_size _ rfl, rfl, rfl⟩ (hr.at fun o e => Heap.get?_push_of_some _ e) (pi_one (tk := s1.toks) I2 _ (turn_keysO _ hdt hsz hk) ⟨_, Heap.get?_push_size _ rfl, rfl, ?_⟩ q)
    rw [hsz] <;> rfl
  show wpAny _ _ (callWith cpos (.builtin "dict.keys") [.ref d] [] []) _ X.xe s1
  exact method_meetsIn F.slot_dict_keys F.entry_dict_keys rfl (PySem.evalArgs_none ⟨rfl, dd.typeIs, F.args_dict_keys_1 _, _, meets_dict_keys_raw d hsm, ⟨es, ep, hr⟩, fin⟩)
end
/-! ### the state while it is walked -/
abbrev Cfg.lkd (p : Cfg) (i : Nat) : Cfg := ⟨p.K, p.Φ, p.own, p.cell, p.xc, p.E, p.xn, i :: p.lock⟩
abbrev En.lkd (en : En) (z : Nat × Addr × HO) : En := ⟨en.lc0, en.F0, en.H0, en.Fk, z :: en.lk, en.nt, en.tb⟩
section
variable {p : Cfg} {en : En} {lc : Option Addr} {F H : Hp} {ρ : Env} {σ : L2.St} {c : Cell}
theorem upd_upd {a : Addr} {x y : HO} : upd (upd H a x) a y = upd H a y := by
  funext b
  by_cases h : b = a
  · subst h; rw [upd_same, upd_same]
  · rw [upd_ne h, upd_ne h, upd_ne h]
theorem upd_id {a : Addr} {x : HO} (h : H a = some x) : upd H a x = H := by
  funext b
  by_cases e : b = a
  · subst e; rw [upd_same, h]
  · rw [upd_ne e]
/-- what holds of another place -/
theorem StS.moved (s : StS p en lc F H ρ σ c) {i : Nat} {d : G.D} {l : Addr} {o : HO} (hi : i ∈ p.own) (hd : get ρ i = some d) (hl : σ[i]? = some (some (.ref l))) :
    Same F (upd H l o) ∧ CellR p.K lc F (upd H l o) c ∧ Ext en.lc0 en.F0 en.H0 F (upd H l o) ∧ (∀ j l2 e, j ∈ p.own → j ≠ i → get ρ j = some e → σ[j]? = some (some (.ref l2)) → l2 ≠ l) := by
  obtain ⟨l', q2, q3, q4, q5, q6⟩ := s.own i d hi hd
  rw [hl] at q2
  cases q2
  have fne : ∀ a o, F a = some o → a ≠ l := fun a o e z => by rw [z, q4] at e; cases e
  refine ⟨fun a o e => by rw [upd_ne (fne a o e)]; exact s.inn a o e, ?_, ?_, fun j l2 e hj hne he hs z => ?_⟩
  · have h := s.cr
    cases c with
    | none => exact h
    | some cs =>
      obtain ⟨l0, vs0, r1, r2, r3, r4⟩ := h
      exact ⟨l0, vs0, r1, r2, by rw [upd_ne (fun z => q5 (by rw [r1, z]))]; exact r3, r4⟩
  · obtain ⟨u, hu, pu⟩ := q3.plain
    exact s.ext.put q6 q4 hu pu
  · subst z
    exact s.dist i j d e l2 hi hj (Ne.symm hne) hd he hl hs
theorem StS.lck (s : StS p en lc F H ρ σ c) {i : Nat} {d : G.D} {l : Addr} {u : HO} {od : Obj} (hi : i ∈ p.own) (hk : i ∉ p.lock) (hd : get ρ i = some d) (hl : σ[i]? = some (some (.ref l))) (hu : H l = some u) :
    StS (p.lkd i) (en.lkd (i, l, .frz od u)) lc F (upd H l (.frz od u)) ρ σ c := by
  obtain ⟨m1, m2, m3, m4⟩ := s.moved (o := .frz od u) hi hd hl
  obtain ⟨l', q2, q3, q4, q5, q6⟩ := s.ownR hi hk hd
  rw [hl] at q2
  cases q2
  refine ⟨m1, s.non, fun j e hj he => ?_, s.dist, s.cel, s.len, m2, m3, s.kept, s.lcok, s.exn, s.xf, fun z hz => ?_⟩
  · by_cases hji : j = i
    · subst hji
      rw [hd] at he
      cases he
      refine ⟨l, hl, .inr ⟨by simp, od, u, upd_same, ?_⟩, q4, q5, q6⟩
      rw [upd_upd, upd_id hu]
      exact q3
    · obtain ⟨l2, r2, r3, r4, r5, r6⟩ := s.own j e hj he
      have hne := m4 j l2 e hj hji he r2
      refine ⟨l2, r2, ?_, r4, r5, r6⟩
      have r3' := r3.mono (H' := upd H l (.frz od u)) (Same.refl F) fun o ho => by rw [upd_ne hne]; exact ho
      rcases r3' with r3' | ⟨h1, h2⟩
      · exact .inl r3'
      · exact .inr ⟨by simp at h1 ⊢; exact .inr h1, h2⟩
  · rcases List.mem_cons.mp hz with rfl | hz
    · exact ⟨List.mem_cons_self, hi, ⟨d, hd⟩, hl, upd_same⟩
    · obtain ⟨h1, h2, ⟨d2, h3⟩, h4, h5⟩ := s.lock z hz
      have hne : z.1 ≠ i := fun e => hk (e ▸ h1)
      exact ⟨List.mem_cons_of_mem _ h1, h2, ⟨d2, h3⟩, h4, by rw [upd_ne (m4 _ _ _ h2 hne h3 h4)]; exact h5⟩
theorem StS.unlck {i : Nat} {l : Addr} {u : HO} {od : Obj} {Fk : Hp} (s : StS (p.lkd i) ((en.lkd (i, l, .frz od u)).fix Fk) lc F H ρ σ c) (hk : i ∉ p.lock) (hkp : Same en.Fk Fk) (hnl : ∀ z ∈ en.lk, z.1 ≠ i) :
    StS p en lc F (upd H l u) ρ σ c ∧ H l = some (.frz od u) := by
  obtain ⟨_, hi, ⟨d, hd⟩, hl, hu⟩ := s.lock (i, l, .frz od u) List.mem_cons_self
  obtain ⟨m1, m2, m3, m4⟩ := s.moved (o := u) hi hd hl
  refine ⟨⟨m1, s.non, fun j e hj he => ?_, s.dist, s.cel, s.len, m2, m3, hkp.trans s.kept, s.lcok, s.exn, s.xf, fun z hz => ?_⟩, hu⟩
  · obtain ⟨l2, r2, r3, r4, r5, r6⟩ := s.own j e hj he
    by_cases hji : j = i
    · subst hji
      have hl : σ[j]? = some (some (.ref l)) := hl
      rw [hl] at r2
      cases r2
      refine ⟨l, hl, .inl ?_, r4, r5, r6⟩
      have hu : H l = some (.frz od u) := hu
      rcases r3 with r3 | ⟨_, od', u', h1, h2⟩
      · obtain ⟨o, ho, _⟩ := r3.at
        cases e with
        | lst ds => obtain ⟨vs, h1, _⟩ := r3; rw [hu] at h1; cases h1
        | dct ks vs => obtain ⟨xs, h1, _⟩ := r3; rw [hu] at h1; cases h1
        | _ => exact r3.elim
      · rw [hu] at h1
        cases h1
        exact h2
    · have hne := m4 j l2 e hj hji he r2
      refine ⟨l2, r2, ?_, r4, r5, r6⟩
      have r3' := r3.mono (H' := upd H l u) (Same.refl F) fun o ho => by rw [upd_ne hne]; exact ho
      rcases r3' with r3' | ⟨h1, h2⟩
      · exact .inl r3'
      · refine .inr ⟨?_, h2⟩
        simp at h1 ⊢
        rcases h1 with h1 | h1
        · exact absurd h1 hji
        · exact h1
  · obtain ⟨h1, h2, ⟨d2, h3⟩, h4, h5⟩ := s.lock z (List.mem_cons_of_mem _ hz)
    have hne : z.1 ≠ i := hnl z hz
    refine ⟨?_, h2, ⟨d2, h3⟩, h4, by rw [upd_ne (m4 _ _ _ h2 hne h3 h4)]; exact h5⟩
    rcases List.mem_cons.mp h1 with e | h1
    · exact absurd e hne
    · exact h1
end
section
variable {X : Cx} {p : Cfg} {pos : Pos}
theorem gs_forK {tg : Expr} {body : List Stmt} {t : Tg} {b : List Stm} {i : Nat} {x : Str} {px apos cpos : Pos} (hK : p.K = X.K) (ok : okTg (p.lkd i) t = true) (hi : i ∈ p.own) (hkl : i ∉ p.lock) (hN : X.N[i]? = some x) (hv : Vis X.env.scope x) (hd : (x == ("__debug__" : Str)) = false) (hcd : (x == ("__classdict__" : Str)) = false)
    (hp : PassesOwn (model X.prog X.w) X.A X.env X.xe) (hc : X.calm = true) (hg : PG X tg (gT p.K t)) (hb : PSs X body (tSs (p.lkd i) b)) (hs : ∀ y, foldedSetIterable (.Call (.Attribute (.Name x px) "keys" apos) [] [] cpos) X.env y = pure y)
    (hbase : attributeBase (.Name x px) "keys" X.env (eval (.Name x px) X.env) = eval (.Name x px) X.env) (hline : (apos.endLine == cpos.line) = true) : PS X (.For tg (.Call (.Attribute (.Name x px) "keys" apos) [] [] cpos) body [] pos) (tS p (.forK t i b)) := by
  refine (ps_lock (ps_for hp hc (pi_keysO (pe_var hN hv hd hcd) hbase hline) hg hb hs)).imp fun D σ H ⟨en, lc, F, ρ, c, s, h⟩ => ?_
  unfold ex at h
  obtain ⟨ks, c1, e, h1⟩ := os_bnd h
  obtain ⟨e1, e2⟩ := opt_ok e
  subst e2
  cases eo : get ρ i with
  | none => rw [eo] at e1; cases e1
  | some dl =>
    rw [eo] at e1
    cases dl <;> first | (cases e1; done) | skip
    rename_i ks' vs'
    have e3 : ks' = ks := Option.some.inj e1
    subst e3
    obtain ⟨l, q2, ⟨xs, z3, z4, z5, z6, z7, z8, z9⟩, q4, q5, q6⟩ := s.ownR hi hkl eo
    refine ⟨l, dkO l xs, z3, trivial, fun od => ?_⟩
    have s1 := s.lck (od := od) hi hkl eo q2 z3
    have A : DkAt X.K F ks' vs' xs := by rw [← hK]; exact ⟨z4, z5, z6, z7, z8, z9⟩
    refine ⟨.ref l, q2, l, od, xs, F, ks', vs', rfl, s1.inn, upd_same, A, ?_⟩
    have lx : xs.length = ks'.length := by have := z8.length; rw [List.length_map] at this; omega
    refine ⟨fun k m σ H => m = ks'.length - k ∧ k ≤ ks'.length ∧ ∃ lc F' ρ c, StS (p.lkd i) ((en.lkd (i, l, .frz od (dkO l xs))).fix F) lc F' H ρ σ c ∧ OutS p en (forN (assign t) (exs p.Φ b) (ks'.drop k) ρ c) D, ⟨ks'.length, by simp, Nat.zero_le _, lc, F, ρ, c1, s1.fix, by simpa using h1⟩, ?_⟩
    rintro k m σ1 H1 ⟨rfl, hk, lc1, F1, ρ1, c1, s2, h2⟩
    by_cases hlt : k < ks'.length
    · have lkH : H1 l = some (.frz od (dkO l xs)) := (s2.lock (i, l, .frz od (dkO l xs)) List.mem_cons_self).2.2.2.2
      refine .inr ⟨⟨lkH, by omega⟩, fun σ H => ∃ lc F' ρ c, StS (p.lkd i) ((en.lkd (i, l, .frz od (dkO l xs))).fix F) lc F' H ρ σ c ∧ OutS p en (forN (assign t) (exs p.Φ b) (ks'.drop (k + 1)) ρ c) D, fun σ' H' ⟨lc2, F2, ρ2, c2, s3, h3⟩ => ⟨ks'.length - (k + 1), by omega, rfl, hlt, lc2, F2, ρ2, c2, s3, h3⟩, ?_⟩
      rintro v H' ⟨rfl, y, hy, rfl⟩
      obtain ⟨d, hd', rd⟩ := z8.get' (i := k) (v := V.ref y.2.1) (by rw [List.getElem?_map, hy]; rfl)
      have hdr : ks'.drop k = d :: ks'.drop (k + 1) := by
        rw [List.drop_eq_getElem_cons hlt]
        congr 1
        exact Option.some.inj (by rw [← hd']; exact (List.getElem?_eq_getElem hlt).symm)
      rw [hdr] at h2
      unfold forN at h2
      obtain ⟨ρ2, c2, e3, h3⟩ := os_bnd h2
      obtain ⟨e4, e5⟩ := opt_ok e3
      subst e5
      refine asg_put (p := p.lkd i) s2 ok e4 (rd.mono s2.kept) fun σ' s3 => ⟨_, lc1, F1, ρ2, c2, s3, ?_⟩
      obtain ⟨f, c4, e6, h6⟩ := os_bnd h3
      obtain ⟨ρ3, rfl, e7⟩ := onlyNx_ok e6
      show OutS (p.lkd i) _ (exs p.Φ b ρ2 c2) _
      rw [e7]
      exact fun lc' F' H' σ' s' => ⟨lc', F', ρ3, c4, s', h6⟩
    · have e : k = ks'.length := by omega
      subst e
      rw [List.drop_length] at h2
      unfold forN at h2
      obtain ⟨u1, u2⟩ := s2.unlck hkl s.kept fun z hz e => hkl (e ▸ (s.lock z hz).1)
      exact .inl ⟨⟨u2, by omega⟩, u2, h2 lc1 F1 _ σ1 u1⟩
theorem gs_forO {tg : Expr} {body : List Stmt} {t : Tg} {b : List Stm} {i : Nat} {x : Str} {px : Pos} (hK : p.K = X.K) (ok : okTg (p.lkd i) t = true) (hi : i ∈ p.own) (hkl : i ∉ p.lock) (hN : X.N[i]? = some x) (hv : Vis X.env.scope x) (hd : (x == ("__debug__" : Str)) = false) (hcd : (x == ("__classdict__" : Str)) = false)
    (hp : PassesOwn (model X.prog X.w) X.A X.env X.xe) (hc : X.calm = true) (hg : PG X tg (gT p.K t)) (hb : PSs X body (tSs (p.lkd i) b)) (hs : ∀ y, foldedSetIterable (.Name x px) X.env y = pure y) : PS X (.For tg (.Name x px) body [] pos) (tS p (.forO t i b)) := by
  refine (ps_lock (ps_for hp hc (pi_list (pe_var hN hv hd hcd)) hg hb hs)).imp fun D σ H ⟨en, lc, F, ρ, c, s, h⟩ => ?_
  unfold ex at h
  obtain ⟨ks', c1, e, h1⟩ := os_bnd h
  obtain ⟨e1, e2⟩ := opt_ok e
  subst e2
  cases eo : get ρ i with
  | none => rw [eo] at e1; cases e1
  | some dl =>
    rw [eo] at e1
    cases dl <;> first | (cases e1; done) | skip
    rename_i ks
    have e3 : ks = ks' := Option.some.inj e1
    subst e3
    obtain ⟨l, q2, ⟨xs, z3, z8, z9⟩, q4, q5, q6⟩ := s.ownR hi hkl eo
    refine ⟨l, .lst xs, z3, trivial, fun od => ?_⟩
    have s1 := s.lck (od := od) hi hkl eo q2 z3
    have hsq : ∀ H1 : Hp, H1 l = some (.frz od (.lst xs)) → SqL X.K H1 l xs := fun H1 e => .inl (.inr ⟨od, e⟩)
    refine ⟨.ref l, q2, l, rfl, ⟨xs, hsq _ upd_same⟩, ?_⟩
    have lx : xs.length = ks.length := z8.length.symm
    refine ⟨fun k m σ H => m = ks.length - k ∧ k ≤ ks.length ∧ ∃ lc F' ρ c, StS (p.lkd i) ((en.lkd (i, l, .frz od (.lst xs))).fix F) lc F' H ρ σ c ∧ OutS p en (forN (assign t) (exs p.Φ b) (ks.drop k) ρ c) D, ⟨ks.length, by simp, Nat.zero_le _, lc, F, ρ, c1, s1.fix, by simpa using h1⟩, ?_⟩
    rintro k m σ1 H1 ⟨rfl, hk, lc1, F1, ρ1, c1, s2, h2⟩
    have lkH : H1 l = some (.frz od (.lst xs)) := (s2.lock (i, l, .frz od (.lst xs)) List.mem_cons_self).2.2.2.2
    by_cases hlt : k < ks.length
    · refine .inr ⟨⟨xs, xs[k]'(by omega), hsq _ lkH, by simp⟩, fun σ H => ∃ lc F' ρ c, StS (p.lkd i) ((en.lkd (i, l, .frz od (.lst xs))).fix F) lc F' H ρ σ c ∧ OutS p en (forN (assign t) (exs p.Φ b) (ks.drop (k + 1)) ρ c) D, fun σ' H' ⟨lc2, F2, ρ2, c2, s3, h3⟩ => ⟨ks.length - (k + 1), by omega, rfl, hlt, lc2, F2, ρ2, c2, s3, h3⟩, ?_⟩
      rintro v H' ⟨rfl, hy⟩
      obtain ⟨d, hd', rd⟩ := z8.get' (hy xs (hsq _ lkH))
      have hdr : ks.drop k = d :: ks.drop (k + 1) := by
        rw [List.drop_eq_getElem_cons hlt]
        congr 1
        exact Option.some.inj (by rw [← hd']; exact (List.getElem?_eq_getElem hlt).symm)
      rw [hdr] at h2
      unfold forN at h2
      obtain ⟨ρ2, c2, e3, h3⟩ := os_bnd h2
      obtain ⟨e4, e5⟩ := opt_ok e3
      subst e5
      refine asg_put (p := p.lkd i) s2 ok e4 (rd.mono s2.kept) fun σ' s3 => ⟨_, lc1, F1, ρ2, c2, s3, ?_⟩
      obtain ⟨f, c4, e6, h6⟩ := os_bnd h3
      obtain ⟨ρ3, rfl, e7⟩ := onlyNx_ok e6
      show OutS (p.lkd i) _ (exs p.Φ b ρ2 c2) _
      rw [e7]
      exact fun lc' F' H' σ' s' => ⟨lc', F', ρ3, c4, s', h6⟩
    · have e : k = ks.length := by omega
      subst e
      rw [List.drop_length] at h2
      unfold forN at h2
      obtain ⟨u1, u2⟩ := s2.unlck hkl s.kept fun z hz e => hkl (e ▸ (s.lock z hz).1)
      exact .inl ⟨⟨xs, hsq _ lkH, by omega⟩, u2, h2 lc1 F1 _ σ1 u1⟩
/-- x = x + e -/
theorem gs_ext {i : Nat} {x : Str} {e : Expr} {y : Ex} {px pb pos' : Pos} (hK : p.K = X.K) (hi' : i ∈ p.own) (hkl : i ∉ p.lock) (hc : p.cell ≠ some i) (hxn : p.xn.map (·.i) ≠ some i) (hN : X.N.Nodup) (hi : X.N[i]? = some x) (hx : Loc X.env.scope x) (hv : Vis X.env.scope x) (hd : (x == ("__debug__" : Str)) = false) (hcd : (x == ("__classdict__" : Str)) = false) (he : PE X e (tE p.non y))
    (hs : swapsWith (.BinOp (.Name x px) .Add e pb) (some (.Name x pos')) pos.line X.env = pure false) (hf : X.fn x = true ∨ X.env.scope.names.lookup x = some .local) :
    PS X (.Assign [.Name x pos'] (.BinOp (.Name x px) .Add e pb) pos) (tS p (.ext i y)) := by
  refine (ps_set hN hi hx (pe_op op_catS (pe_var hi hv hd hcd) he) hs hf).imp fun D σ H ⟨en, lc, F, ρ, c, s, h⟩ => ?_
  unfold ex at h
  obtain ⟨l, c1, e1, h1⟩ := os_bnd h
  obtain ⟨e2, e3⟩ := opt_ok e1
  subst e3
  cases eo : get ρ i with
  | none => rw [eo] at e2; cases e2
  | some dl =>
    rw [eo] at e2
    cases dl <;> first | (cases e2; done) | skip
    rename_i l'
    have e4 : l' = l := Option.some.inj e2
    subst e4
    obtain ⟨d, c2, e5, h2⟩ := os_bnd h1
    obtain ⟨w, c3, e6, h3⟩ := os_bnd h2
    obtain ⟨e7, e8⟩ := opt_ok e6
    subst e8
    obtain ⟨a, q2, _, _⟩ := s.ownR hi' hkl eo
    refine ⟨.ref a, q2, ?_⟩
    refine se_non s e5 fun v F' H' s' r' _ => ?_
    obtain ⟨a', z2, ⟨vs, z3, z7, z8⟩, z4, z5, z6⟩ := s'.ownR hi' hkl eo
    rw [q2] at z2
    cases z2
    cases d <;> first | (cases e7; done) | skip
    rename_i m
    obtain ⟨hz, e9⟩ := ite_some (show (if l'.length + m.length ≤ LIM then some (G.D.lst (l' ++ m)) else none) = some w from e7)
    cases e9
    obtain ⟨b, ys, rfl, y1, y2, y3⟩ := r'
    rw [← hK]
    refine ⟨a, b, vs, ys, rfl, rfl, .inl (.of z3), same_l s'.inn y1, by rw [← z7.length, ← y2.length]; exact hz, fun q hq => ?_⟩
    have hFq : F' q = none := by
      cases z : F' q with
      | none => rfl
      | some o => rw [s'.inn _ _ z] at hq; cases hq
    have k2 : CellR p.K lc F' (upd H' q (.lst (vs ++ ys))) c3 := by
      have k1 := s'.cr
      cases c3 with
      | none => exact k1
      | some cs =>
        obtain ⟨l0, ws, q1, q2, q3, q4⟩ := k1
        exact ⟨l0, ws, q1, q2, by rw [upd_ne (ne_of_none q3 hq)]; exact q3, q4⟩
    exact h3 lc F' _ _ (fresh_put s' (s'.step (.lay s'.inn hq) k2) hi' hkl hc hxn hq ⟨vs ++ ys, upd_same, z7.append y2, by rw [List.length_append]; exact hz⟩ hFq)
end
end G
/-! G14: defs, rules in short. -/
namespace G
open PySem L2
variable [TQ]
def tabL (fs : List (List D → R D)) (ms : List (List D → List D → R (D × List D))) : Tab := ⟨fun i => fs[i]?, fun i => ms[i]?, none⟩
/-- a def that may be called by its name -/
structure Cal (P : Program) (w : World) (K : PySem.W.Frag) (mg : Str → Option Value) (base : Heap) (k : Nat) (x : Str) (ps : List Str) (sp : Sp) : Prop where
  ex : ∃ f fd, mg x = some (.ref f) ∧ PySem.W.keepIn K (.ref f) = true ∧ Binds K fd ps [] ∧ FnOk P w K mg base (L2.CX P w) k f fd ps sp
abbrev FnP (K : PySem.W.Frag) (x : Str) (st : Stmt) (f : Addr) (fd : FuncData) : Prop := FunD K x x (defArgs st) (defBody st) (defScope st) [] [] f fd
abbrev cxF (P : Program) (w : World) (K : PySem.W.Frag) (mg : Str → Option Value) (base : Heap) (N : List Str) (x : Str) (st : Stmt) (f : Addr) (cdv : Value) (A : Around) (outer : List PySem.Env) (s : Shared) (H : Hp) (E : XK) : Cx := (cxOf CX0 P w K mg base N x (defScope st) f cdv A outer s H E).nox
abbrev cxX (P : Program) (w : World) (K : PySem.W.Frag) (mg : Str → Option Value) (base : Heap) (N : List Str) (x : Str) (st : Stmt) (f : Addr) (cdv : Value) (A : Around) (outer : List PySem.Env) (s : Shared) (H : Hp) (E : XK) : Cx := cxOf (L2.CX P w) P w K mg base N x (defScope st) f cdv A outer s H E
/-- the promise of a def that may raise -/
def spX (K : PySem.W.Frag) (n : Nat) (xc : XC) (φ : List D → R D) : Sp := fun vs H Q E => vs.length = n ∧ ∃ G ds, Same G H ∧ NoT G ∧ TB H ∧ Reps K G ds vs ∧ match φ ds with
  | .ok d => ∀ v G' H', Ext none G H G' H' → Rep K G' d v → Q v H'
  | .err k x => ∀ cls d G' H', Ext none G H G' H' → ExR K xc k x cls d G' → E cls d H'
  | .stuck => False
theorem spX_of_spF {K : PySem.W.Frag} {n : Nat} {xc : XC} {φ : List D → R D} {vs : List V} {H : Hp} {Q : VK} {E : XK} (h : spF K n φ vs H Q E) : spX K n xc φ vs H Q E := by
  obtain ⟨h1, G, ds, d, h2, hnt, htb, h3, h4, h5⟩ := h
  refine ⟨h1, G, ds, h2, hnt, htb, h3, ?_⟩
  rw [h4]
  exact h5
theorem _root_.L2.FnOk.up {P : Program} {w : World} {K : PySem.W.Frag} {mg : Str → Option Value} {base : Heap} {k : Nat} {f : Addr} {fd : FuncData} {ps : List Str} {sp : Sp} (F : FnOk P w K mg base CX0 k f fd ps sp) : FnOk P w K mg base (L2.CX P w) k f fd ps sp :=
  ⟨F.len, fun A outer s H args us vs Q E hr he hb hv hs => codeAny_mono (F.run A outer s H args us vs Q E hr he hb hv hs) fun r s' h => by
    cases r with
    | ok fl => cases fl <;> exact h
    | error e => exact h.elim⟩
/-- called where it raises nothing -/
theorem Cal.strict {P : Program} {w : World} {K : PySem.W.Frag} {mg : Str → Option Value} {base : Heap} {k n : Nat} {x : Str} {ps : List Str} {xc : XC} {φ : List D → R D} (c : Cal P w K mg base k x ps (spX K n xc φ)) : Cal P w K mg base k x ps (spF K n φ) := by
  obtain ⟨f, fd, h1, h2, h3, h4⟩ := c.ex
  exact ⟨f, fd, h1, h2, h3, h4.imp fun vs H Q E h => spX_of_spF h⟩
section
variable {P : Program} {w : World} {K : PySem.W.Frag} {mg : Str → Option Value} {base : Heap}
theorem get_env0 {n : Nat} : ∀ {ds : List D} {i : Nat} {d : D}, get (env0 n ds) i = some d → ds[i]? = some d := by
  intro ds
  have hr : ∀ (k i : Nat) (d : D), get (List.replicate k (none : Option D)) i = some d → False := by
    intro k
    induction k with
    | zero => intro i d h; cases h
    | succ k ih =>
      intro i d h
      cases i with
      | zero => cases h
      | succ i => exact ih i d h
  unfold env0
  generalize n - ds.length = k
  induction ds with
  | nil => intro i d h; exact (hr k i d h).elim
  | cons x ds ih =>
    intro i d h
    cases i with
    | zero => cases h; rfl
    | succ i => exact ih h
theorem env0_len {n : Nat} {ds : List D} (h : ds.length ≤ n) : (env0 n ds).length = n := by
  unfold env0
  simp
  omega
theorem start_get {N : List Str} {vs : List V} {i : Nat} {v : V} (h : vs[i]? = some v) : (L2.start N vs)[i]? = some (some v) := by
  have hi : i < vs.length := (List.getElem?_eq_some_iff.mp h).1
  unfold L2.start
  rw [List.getElem?_append_left (by simpa using hi), List.getElem?_map, h]
  rfl
theorem start_len {N : List Str} {vs : List V} (h : vs.length ≤ N.length) : (L2.start N vs).length = N.length := by
  unfold L2.start
  simp
  omega
/-- a def without the cell -/
theorem def_F {x : Str} {st : Stmt} {f : Addr} {fd : FuncData} {N ps : List Str} {k : Nat} {Φ : Tab} {own : List Nat} {cell : Option Nat} {xc : XC} {b : List Stm} (F : FnP K x st f fd) (S : FnScope N ps (defScope st)) (ho : own.all (fun i => decide (ps.length ≤ i)) = true) (hN : ps.length ≤ N.length)
    (h : ∀ (cdv : Value) (A : Around) (outer : List PySem.Env) (s : Shared) (H : Hp) (E : XK), Room k (A.deeper (PyProof.Rows.envOfC x (defScope st) s.heap.objs.size f cdv)) → PSs (cxF P w K mg base N x st f cdv A outer s H E) (defBody st) (tSs ⟨K, Φ, own, cell, xc, fun _ _ _ => False, none, []⟩ b)) :
    FnOk P w K mg base CX0 (k + 1) f fd ps (spF K ps.length (runF Φ N.length b)) := by
  refine F.ok S (fun vs H Q E h => h.1) (fun cdv A outer s H vs Q E hr hs => ⟨_, PSs.nox (h cdv A outer s H E hr), ?_⟩)
  obtain ⟨hl, G, ds, d, hin, hnt, htb, r, hφ, q⟩ := hs
  have hdl : ds.length = ps.length := by rw [r.length]; exact hl
  refine ⟨⟨none, G, H, G, [], hnt, htb⟩, none, G, env0 N.length ds, none, ?_, ?_⟩
  · refine ⟨hin, fun i e _ he => ?_, fun i e hi he => ?_, fun i j e1 e2 l hi _ _ he => ?_, fun i l _ z => (by cases z), ?_, rfl, .refl hin, Same.refl G, .inl rfl, fun z hz => (by cases hz), fun z hz => (by cases hz), fun z hz => (by cases hz)⟩
    · obtain ⟨v, h1, h2⟩ := r.get (get_env0 he)
      exact ⟨v, start_get h1, h2⟩
    · have h1 := of_decide_eq_true (List.all_eq_true.mp ho i hi)
      have h2 := (List.getElem?_eq_some_iff.mp (get_env0 he)).1
      omega
    · have h1 := of_decide_eq_true (List.all_eq_true.mp ho i hi)
      have h2 := (List.getElem?_eq_some_iff.mp (get_env0 he)).1
      omega
    · rw [env0_len (by omega), start_len (by omega)]
  · unfold runF at hφ
    show OutS _ _ (exs Φ b (env0 N.length ds) none) _
    cases e : exs Φ b (env0 N.length ds) none with
    | err _ _ => rw [e] at hφ; cases hφ
    | stuck => rw [e] at hφ; cases hφ
    | ok r =>
      obtain ⟨fl, c'⟩ := r
      rw [e] at hφ
      cases fl with
      | nx ρ =>
        cases hφ
        intro lc F' H' σ s'
        exact q .non F' H' s'.ext rfl
      | rt d =>
        cases hφ
        intro v lc G' H' e' r' _ _ _
        exact q v G' H' e' r'
/-- a def whose first parameter is the cell -/
theorem def_M {x : Str} {st : Stmt} {f : Addr} {fd : FuncData} {N ps : List Str} {k : Nat} {Φ : Tab} {own : List Nat} {b : List Stm} {p0 : Str} (F : FnP K x st f fd) (S : FnScope N (p0 :: ps) (defScope st)) (ho : own.all (fun i => decide (ps.length + 1 ≤ i)) = true) (hN : ps.length + 1 ≤ N.length)
    (h : ∀ (cdv : Value) (A : Around) (outer : List PySem.Env) (s : Shared) (H : Hp) (E : XK), Room k (A.deeper (PyProof.Rows.envOfC x (defScope st) s.heap.objs.size f cdv)) → PSs (cxF P w K mg base N x st f cdv A outer s H E) (defBody st) (tSs ⟨K, Φ, own, some 0, fun _ => none, fun _ _ _ => False, none, []⟩ b)) :
    FnOk P w K mg base CX0 (k + 1) f fd (p0 :: ps) (spM K ps.length (runM Φ (N.length - 1) b)) := by
  refine F.ok S (fun vs H Q E h => h.1) (fun cdv A outer s H vs Q E hr hs => ⟨_, PSs.nox (h cdv A outer s H E hr), ?_⟩)
  obtain ⟨hl, l, ws, G, ds, cs, cvs, d, cs', rfl, hin, hnt, htb, hGl, hHl, rc, r, hφ, q⟩ := hs
  have hwl : ws.length = ps.length := by simpa using hl
  have hdl : ds.length = ps.length := by rw [r.length]; exact hwl
  have g0 : ∀ {i : Nat} {e : D}, get (none :: env0 (N.length - 1) ds) i = some e → ∃ j, i = j + 1 ∧ ds[j]? = some e := by
    intro i e he
    cases i with
    | zero => cases he
    | succ j => exact ⟨j, rfl, get_env0 he⟩
  refine ⟨⟨some l, G, H, G, [], hnt, htb⟩, some l, G, none :: env0 (N.length - 1) ds, some cs, ?_, ?_⟩
  · refine ⟨hin, fun i e _ he => ?_, fun i e hi he => ?_, fun i j e1 e2 l hi _ _ he => ?_, fun i l' hi z => ?_, ?_, ⟨l, cvs, rfl, hGl, hHl, rc⟩, .refl hin, Same.refl G, .inl rfl, fun z hz => (by cases hz), fun z hz => (by cases hz), fun z hz => (by cases hz)⟩
    · obtain ⟨j, rfl, hj⟩ := g0 he
      obtain ⟨v, h1, h2⟩ := r.get hj
      exact ⟨v, start_get (by simpa using h1), h2⟩
    · have h1 := of_decide_eq_true (List.all_eq_true.mp ho i hi)
      obtain ⟨j, rfl, hj⟩ := g0 he
      have h2 := (List.getElem?_eq_some_iff.mp hj).1
      omega
    · have h1 := of_decide_eq_true (List.all_eq_true.mp ho i hi)
      obtain ⟨j, rfl, hj⟩ := g0 he
      have h2 := (List.getElem?_eq_some_iff.mp hj).1
      omega
    · cases hi
      cases z
      exact start_get rfl
    · rw [List.length_cons, env0_len (by omega), start_len (by simp; omega)]
      omega
  · unfold runM at hφ
    show OutS _ _ (exs Φ b (none :: env0 (N.length - 1) ds) (some cs)) _
    cases e : exs Φ b (none :: env0 (N.length - 1) ds) (some cs) with
    | err _ _ => rw [e] at hφ; cases hφ
    | stuck => rw [e] at hφ; cases hφ
    | ok r =>
      obtain ⟨fl, c'⟩ := r
      rw [e] at hφ
      cases c' with
      | none => cases hφ
      | some cs2 =>
        cases hφ
        have lcs : ∀ {lc : Option Addr}, (lc = some l ∨ ((some l : Option Addr) = none ∧ ∀ m, lc = some m → H m = none)) → lc = some l := fun h => by
          rcases h with h | ⟨h, _⟩
          · exact h
          · cases h
        cases fl with
        | nx ρ =>
          intro lc F' H' σ s'
          have e1 := lcs s'.lcok
          subst e1
          exact q .non F' H' s'.ext rfl s'.cr
        | rt d =>
          intro v lc G' H' e' r' k' hlc _
          have e1 := lcs hlc
          subst e1
          exact q v G' H' e' r' k'
/-- a def that may raise -/
theorem def_X {x : Str} {st : Stmt} {f : Addr} {fd : FuncData} {N ps : List Str} {k : Nat} (Φ : Tab) (own : List Nat) (xc : XC) (b : List Stm) (n m : Nat) (hn : N.length = n) (hm : ps.length = m) (F : FnP K x st f fd) (S : FnScope N ps (defScope st)) (ho : own.all (fun i => decide (ps.length ≤ i)) = true) (hN : ps.length ≤ N.length)
    (h : ∀ (cdv : Value) (A : Around) (outer : List PySem.Env) (s : Shared) (H : Hp) (E : XK), Room k (A.deeper (PyProof.Rows.envOfC x (defScope st) s.heap.objs.size f cdv)) → PSs (cxX P w K mg base N x st f cdv A outer s H E) (defBody st) (tSs ⟨K, Φ, own, none, xc, E, none, []⟩ b)) :
    FnOk P w K mg base (L2.CX P w) (k + 1) f fd ps (spX K m xc (runF Φ n b)) := by
  subst hn hm
  refine F.ok S (fun vs H Q E h => h.1) (fun cdv A outer s H vs Q E hr hs => ⟨_, h cdv A outer s H E hr, ?_⟩)
  obtain ⟨hl, G, ds, hin, hnt, htb, r, hφ⟩ := hs
  have hdl : ds.length = ps.length := by rw [r.length]; exact hl
  refine ⟨⟨none, G, H, G, [], hnt, htb⟩, none, G, env0 N.length ds, none, ?_, ?_⟩
  · refine ⟨hin, fun i e _ he => ?_, fun i e hi he => ?_, fun i j e1 e2 l hi _ _ he => ?_, fun i l _ z => (by cases z), ?_, rfl, .refl hin, Same.refl G, .inl rfl, fun z hz => (by cases hz), fun z hz => (by cases hz), fun z hz => (by cases hz)⟩
    · obtain ⟨v, h1, h2⟩ := r.get (get_env0 he)
      exact ⟨v, start_get h1, h2⟩
    · have h1 := of_decide_eq_true (List.all_eq_true.mp ho i hi)
      have h2 := (List.getElem?_eq_some_iff.mp (get_env0 he)).1
      omega
    · have h1 := of_decide_eq_true (List.all_eq_true.mp ho i hi)
      have h2 := (List.getElem?_eq_some_iff.mp (get_env0 he)).1
      omega
    · rw [env0_len (by omega), start_len (by omega)]
  · unfold runF at hφ
    show OutS _ _ (exs Φ b (env0 N.length ds) none) _
    cases e : exs Φ b (env0 N.length ds) none with
    | err k x =>
      rw [e] at hφ
      exact fun cls d G' H' e' r' => hφ cls d G' H' e' r'
    | stuck => rw [e] at hφ; exact hφ.elim
    | ok r =>
      obtain ⟨fl, c'⟩ := r
      rw [e] at hφ
      cases fl with
      | nx ρ =>
        intro lc F' H' σ s'
        exact hφ .non F' H' s'.ext rfl
      | rt d =>
        intro v lc G' H' e' r' _ _ _
        exact hφ v G' H' e' r'
/-- the same, with the lengths given -/
theorem def_Fn {x : Str} {st : Stmt} {f : Addr} {fd : FuncData} {N ps : List Str} {k : Nat} (Φ : Tab) (own : List Nat) (cell : Option Nat) (xc : XC) (b : List Stm) (n m : Nat) (hn : N.length = n) (hm : ps.length = m) (F : FnP K x st f fd) (S : FnScope N ps (defScope st)) (ho : own.all (fun i => decide (ps.length ≤ i)) = true) (hN : ps.length ≤ N.length)
    (h : ∀ (cdv : Value) (A : Around) (outer : List PySem.Env) (s : Shared) (H : Hp) (E : XK), Room k (A.deeper (PyProof.Rows.envOfC x (defScope st) s.heap.objs.size f cdv)) → PSs (cxF P w K mg base N x st f cdv A outer s H E) (defBody st) (tSs ⟨K, Φ, own, cell, xc, fun _ _ _ => False, none, []⟩ b)) :
    FnOk P w K mg base CX0 (k + 1) f fd ps (spF K m (runF Φ n b)) := by
  subst hn hm
  exact def_F F S ho hN h
theorem def_Mn {x : Str} {st : Stmt} {f : Addr} {fd : FuncData} {N ps : List Str} {k : Nat} (Φ : Tab) (own : List Nat) (b : List Stm) (n m : Nat) {p0 : Str} (hn : N.length - 1 = n) (hm : ps.length = m) (F : FnP K x st f fd) (S : FnScope N (p0 :: ps) (defScope st)) (ho : own.all (fun i => decide (ps.length + 1 ≤ i)) = true) (hN : ps.length + 1 ≤ N.length)
    (h : ∀ (cdv : Value) (A : Around) (outer : List PySem.Env) (s : Shared) (H : Hp) (E : XK), Room k (A.deeper (PyProof.Rows.envOfC x (defScope st) s.heap.objs.size f cdv)) → PSs (cxF P w K mg base N x st f cdv A outer s H E) (defBody st) (tSs ⟨K, Φ, own, some 0, fun _ => none, fun _ _ _ => False, none, []⟩ b)) :
    FnOk P w K mg base CX0 (k + 1) f fd (p0 :: ps) (spM K m (runM Φ n b)) := by
  subst hn hm
  exact def_M F S ho hN h
end
/-! ### rules in short -/
section
variable {X : Cx} {P : Pl} {p : Cfg} {pos : Pos}
theorem okX {P : Pl} {k : Nat} (hK : P.K = X.K) (hc : X.calm = true) (hr : Room k X.A) (hx : P.xn = none := by rfl) : Ok P X := by
  refine ⟨hK, hc, ?_, hx⟩
  have := hr.un
  omega
theorem kv (i : Nat) {x : Str} (hS : P.S i = true := by rfl) (hN : X.N[i]? = some x := by rfl) (hv : Vis X.env.scope x := by first | exact Or.inl rfl | exact Or.inr (Or.inl rfl) | exact Or.inr (Or.inr rfl)) (hd : (x == ("__debug__" : Str)) = false := by decide +kernel) (hcd : (x == ("__classdict__" : Str)) = false := by decide +kernel) :
    PE X (.Name x pos) (tE P (.var i)) := ge_var hS hN hv hd hcd
theorem k_int {i : Int} {j : Nat} : PE X (.Constant (.int i) j pos) (tE P (.cst (.int i))) := ge_cst pe_int fun _ => rfl
theorem k_bl {i : Bool} {j : Nat} : PE X (.Constant (.bool i) j pos) (tE P (.cst (.bl i))) := ge_cst pe_bl fun _ => rfl
theorem k_non {j : Nat} : PE X (.Constant .none j pos) (tE P (.cst .non)) := ge_cst pe_non fun _ => rfl
theorem k_str {x : Str} {s : List Nat} {j : Nat} (e : (x == ⟨s.toArray⟩) = true := by decide +kernel) (h : PyData.strOk (⟨s.toArray⟩ : Str) = true := by decide +kernel) : PE X (.Constant (.str x) j pos) (tE P (.cst (.str s))) :=
  ge_cst pe_str fun _ => ⟨by rw [eq_of_beq e], h⟩
theorem k_gi {x : Str} {i : Int} (hm : ∃ t, X.mg x = some (.int i t)) (hg : Gl X x := by rfl) (hd : (x == ("__debug__" : Str)) = false := by decide +kernel) : PE X (.Name x pos) (tE P (.cst (.int i))) := by
  obtain ⟨t, e⟩ := hm
  exact ge_cst (v := .int i) (pe_glob hg e ⟨t, rfl⟩ hd) fun _ => rfl
end
end G
/-! G15: expressions in short. -/
namespace G
open PySem L2
variable [TQ]
section
variable {X : Cx} {P : Pl} {p : Cfg} {pos : Pos}
/-! ### comparisons -/
def CmpOk (P : Pl) (X : Cx) (o : Cmp) (op : CmpOp) : Prop := ∃ r, OpR X (compareOp op) r ∧ ServesC P o r
theorem c_eq (ok : Ok P X) : CmpOk P X .eq .Eq := ⟨_, op_eqD (by have := ok.hu; omega), by rw [← ok.K]; exact sc_eq⟩
theorem c_ne (ok : Ok P X) : CmpOk P X .ne .NotEq := ⟨_, op_neD (by have := ok.hu; omega), by rw [← ok.K]; exact sc_ne⟩
theorem c_lt (ok : Ok P X) : CmpOk P X .lt .Lt := ⟨_, op_ltG ok, sc_lt⟩
theorem c_le (ok : Ok P X) : CmpOk P X .le .LtE := ⟨_, op_leG ok, sc_le⟩
theorem c_gt (ok : Ok P X) : CmpOk P X .gt .Gt := ⟨_, op_gtG ok, sc_gt⟩
theorem c_ge (ok : Ok P X) : CmpOk P X .ge .GtE := ⟨_, op_geG ok, sc_ge⟩
theorem c_is (ok : Ok P X) : CmpOk P X .is .Is := ⟨_, op_isG, sc_is⟩
theorem c_isn (ok : Ok P X) : CmpOk P X .isn .IsNot := ⟨_, op_notN, sc_isn⟩
theorem c_inn (ok : Ok P X) : CmpOk P X .inn .In := ⟨_, op_inG ok, sc_in⟩
theorem c_nin (ok : Ok P X) : CmpOk P X .nin .NotIn := ⟨_, op_ninG ok, sc_nin⟩
theorem k_cmp {o : Cmp} {op : CmpOp} {a b : Expr} {x y : Ex} (h : CmpOk P X o op) (ha : PE X a (tE P x)) (hb : PE X b (tE P y)) (hm : behindInMarks op b = false := by first | exact nomark _ | rfl) : PE X (.Compare a [op] [b] pos) (tE P (.cmp o x y)) := by
  obtain ⟨r, h1, h2⟩ := h
  exact ge_cmp h1 h2 ha hb hm
theorem t_cmp {o : Cmp} {op : CmpOp} {a b : Expr} {x y : Ex} (h : CmpOk P X o op) (ha : PE X a (tE P x)) (hb : PE X b (tE P y)) (hm : behindInMarks op b = false := by first | exact nomark _ | rfl) : PT X (.Compare a [op] [b] pos) (tT P (.cmp o x y)) := by
  obtain ⟨r, h1, h2⟩ := h
  exact gt_cmp h1 h2 ha hb hm
theorem k_cmp2 {o o' : Cmp} {op op' : CmpOp} {a b c : Expr} {x y z : Ex} (h : CmpOk P X o op) (h' : CmpOk P X o' op') (ha : PE X a (tE P x)) (hb : PE X b (tE P y)) (hc : PE X c (tE P z)) (hm : lastMarks [op, op'] [b, c] = false := by first | exact nomark _ | rfl) : PE X (.Compare a [op, op'] [b, c] pos) (tE P (.cmp2 o o' x y z)) := by
  obtain ⟨r, h1, h2⟩ := h
  obtain ⟨r', h1', h2'⟩ := h'
  exact ge_cmp2 h1 h1' h2 h2' ha hb hc hm
theorem t_cmp2 {o o' : Cmp} {op op' : CmpOp} {a b c : Expr} {x y z : Ex} (h : CmpOk P X o op) (h' : CmpOk P X o' op') (ha : PE X a (tE P x)) (hb : PE X b (tE P y)) (hc : PE X c (tE P z)) (hm : lastMarks [op, op'] [b, c] = false := by first | exact nomark _ | rfl) : PT X (.Compare a [op, op'] [b, c] pos) (tT P (.cmp2 o o' x y z)) := by
  obtain ⟨r, h1, h2⟩ := h
  obtain ⟨r', h1', h2'⟩ := h'
  exact gt_cmp2 h1 h1' h2 h2' ha hb hc hm
/-! ### truth -/
theorem t_val {e : Expr} {x : Ex} (h : PE X e (tE P x)) (he : ∀ whole, isTrue e X.env whole = (do let v ← whole; standAt e.pos; holding [v] (truthy v)) := by intro _; rfl) : PT X e (tT P x) := gt_val h he
theorem k_neg {a : Expr} {x : Ex} (ha : PE X a (tE P x)) : PE X (.UnaryOp .USub a pos) (tE P (.neg x)) := by
  refine (pe_un un_neg ha).imp fun σ H Q ⟨lc, G, ρ, c, a, h⟩ => ?_
  unfold ev at h
  refine ⟨lc, G, ρ, c, a, oe h fun d c1 v G1 H1 e1 r1 k1 h1 => ?_⟩
  cases d with
  | int i =>
    cases r1
    exact ⟨i, rfl, OutE.out (d := .int (-i)) h1 e1.inn rfl k1⟩
  | _ => exact h1.elim
/-! ### arguments -/
theorem a_nil : PA X [] (tA P []) := ga_nil
theorem a_cons {e : Expr} {es : List Expr} {x : Ex} {xs : List Ex} (he : PE X e (tE P x)) (hs : PA X es (tA P xs)) (hst : starEach (e :: es) X.env = (false, eval e X.env) :: starEach es X.env := by rfl) : PA X (e :: es) (tA P (x :: xs)) := ga_cons he hs hst
theorem k_f {e : Expr} {x : Ex} (h : PE X e (tF P x)) (hf : frs x = true := by rfl) : PE X e (tE P x) := ge_of_gf hf h
theorem k_ix {a b : Expr} {x y : Ex} (ok : Ok P X) (ha : PE X a (tE P x)) (hb : PE X b (tE P y)) (hp : PlainIx b := by intro _ _; rfl) : PE X (.Subscript a b pos) (tE P (.ix x y)) := ge_ix ok ha hb hp
theorem k_slc {a : Expr} {lo hi : Option Expr} {x y z : Ex} {tl th : TO} {p2 : Pos} (ok : Ok P X) (ha : PE X a (tE P x)) (hl : PO X lo tl ∧ PartR P y tl) (hu : PO X hi th ∧ PartR P z th) : PE X (.Subscript a (.Slice lo hi none p2) pos) (tE P (.slc x y z)) := ge_slc ok ha hl.1 hu.1 hl.2 hu.2
theorem s_none : PO X none tNoPart ∧ PartR P (.cst .non) tNoPart := ⟨po_none, part_none⟩
theorem s_some {e : Expr} {x : Ex} (h : PE X e (tE P x)) (hx : isCstNon x = false := by rfl) : PO X (some e) (tPart (tE P x)) ∧ PartR P x (tPart (tE P x)) := ⟨po_some h, part_some hx⟩
/-! ### built-in functions -/
section
variable {e e2 : Expr} {x y : Ex} {q : Pos}
theorem k_len (ok : Ok P X) (hm : X.mg "len" = none) (ha : PE X e (tE P x)) (hg : Gl X "len" := by rfl) (he : starEach [e] X.env = (false, eval e X.env) :: starEach [] X.env := by rfl) : PE X (.Call (.Name "len" q) [e] [] pos) (tE P (.blt .len [x])) := by
  have sv : ServesB P .len (rLenG P.K) := sb_len
  rw [ok.K] at sv
  exact ge_blt (pe_callB call_lenG hg hm boot_len (ga_cons ha ga_nil he) (by decide +kernel) (by decide +kernel) he rfl) (fun _ _ _ h => h) sv
theorem k_sum (ok : Ok P X) (hm : X.mg "sum" = none) (ha : PE X e (tE P x)) (hg : Gl X "sum" := by rfl) (he : starEach [e] X.env = (false, eval e X.env) :: starEach [] X.env := by rfl) : PE X (.Call (.Name "sum" q) [e] [] pos) (tE P (.blt .sum [x])) := by
  have sv : ServesB P .sum (rSum P.K) := sb_sum
  rw [ok.K] at sv
  exact ge_blt (pe_callB (cr_sum ok.calm) hg hm PyProof.Rows.boot_sum (ga_cons ha ga_nil he) (by decide +kernel) (by decide +kernel) he rfl) (fun _ _ _ h => h) sv
theorem k_abs (ok : Ok P X) (hm : X.mg "abs" = none) (ha : PE X e (tE P x)) (hg : Gl X "abs" := by rfl) (he : starEach [e] X.env = (false, eval e X.env) :: starEach [] X.env := by rfl) : PE X (.Call (.Name "abs" q) [e] [] pos) (tE P (.blt .abs [x])) :=
  ge_blt (pe_callB call_abs hg hm PyProof.Rows.boot_abs (ga_cons ha ga_nil he) (by decide +kernel) (by decide +kernel) he rfl) (fun _ _ _ h => h) sb_abs
theorem k_toInt (ok : Ok P X) (hm : X.mg "int" = none) (ha : PE X e (tE P x)) (hg : Gl X "int" := by rfl) (he : starEach [e] X.env = (false, eval e X.env) :: starEach [] X.env := by rfl) : PE X (.Call (.Name "int" q) [e] [] pos) (tE P (.blt .int [x])) :=
  ge_blt (pe_callTy call_int1 hg hm PyProof.Rows.boot_int (ga_cons ha ga_nil he) (by decide +kernel) (by decide +kernel) he rfl) (fun _ _ _ h => h) sb_int
theorem k_toTup (ok : Ok P X) (hm : X.mg "tuple" = none) (ha : PE X e (tE P x)) (hg : Gl X "tuple" := by rfl) (he : starEach [e] X.env = (false, eval e X.env) :: starEach [] X.env := by rfl) : PE X (.Call (.Name "tuple" q) [e] [] pos) (tE P (.blt .tuple [x])) := by
  have sv : ServesB P .tuple _ := sb_tuple
  rw [ok.K] at sv
  exact ge_blt (pe_callTy call_tuple_of hg hm PyProof.Rows.boot_tuple (ga_cons ha ga_nil he) (by decide +kernel) (by decide +kernel) he rfl) (fun _ _ _ h => h) sv
theorem f_list (ok : Ok P X) (hm : X.mg "list" = none) (ha : PE X e (tE P x)) (hg : Gl X "list" := by rfl) (he : starEach [e] X.env = (false, eval e X.env) :: starEach [] X.env := by rfl) : PE X (.Call (.Name "list" q) [e] [] pos) (tF P (.blt .list [x])) := by
  have sv : ServesF P .list _ := sf_list
  rw [ok.K] at sv
  exact gf_blt (pe_callTy call_list_of hg hm PyProof.Rows.boot_list (ga_cons ha ga_nil he) (by decide +kernel) (by decide +kernel) he rfl) (fun _ _ _ h => h) sv
theorem f_sorted (ok : Ok P X) (hm : X.mg "sorted" = none) (ha : PE X e (tE P x)) (hg : Gl X "sorted" := by rfl) (he : starEach [e] X.env = (false, eval e X.env) :: starEach [] X.env := by rfl) : PE X (.Call (.Name "sorted" q) [e] [] pos) (tF P (.blt .sorted [x])) := by
  have sv : ServesF P .sorted _ := sf_sorted
  rw [ok.K] at sv
  exact gf_blt (pe_callB (call_sortG ok.hu) hg hm PyProof.Rows.boot_sorted (ga_cons ha ga_nil he) (by decide +kernel) (by decide +kernel) he rfl) (fun _ _ _ h => h) sv
theorem k_max2 (ok : Ok P X) (hm : X.mg "max" = none) (ha : PE X e (tE P x)) (hb : PE X e2 (tE P y)) (hg : Gl X "max" := by rfl) (he : starEach [e, e2] X.env = (false, eval e X.env) :: starEach [e2] X.env := by rfl) (he2 : starEach [e2] X.env = (false, eval e2 X.env) :: starEach [] X.env := by rfl) :
    PE X (.Call (.Name "max" q) [e, e2] [] pos) (tE P (.blt .max [x, y])) := by
  have sv : ServesB P .max (rMaxG P.K) := sb_max
  rw [ok.K] at sv
  exact ge_blt (pe_callB (call_maxG ok.calm) hg hm PyProof.Rows.boot_max (ga_cons ha (ga_cons hb ga_nil he2) he) (by decide +kernel) (by decide +kernel) he (by rw [he2]; rfl)) (fun _ _ _ h => h) sv
theorem k_min2 (ok : Ok P X) (hm : X.mg "min" = none) (ha : PE X e (tE P x)) (hb : PE X e2 (tE P y)) (hg : Gl X "min" := by rfl) (he : starEach [e, e2] X.env = (false, eval e X.env) :: starEach [e2] X.env := by rfl) (he2 : starEach [e2] X.env = (false, eval e2 X.env) :: starEach [] X.env := by rfl) :
    PE X (.Call (.Name "min" q) [e, e2] [] pos) (tE P (.blt .min [x, y])) := by
  have sv : ServesB P .min (rMinG P.K) := sb_min
  rw [ok.K] at sv
  exact ge_blt (pe_callB (call_minG ok.calm) hg hm PyProof.Rows.boot_min (ga_cons ha (ga_cons hb ga_nil he2) he) (by decide +kernel) (by decide +kernel) he (by rw [he2]; rfl)) (fun _ _ _ h => h) sv
theorem k_max1 (ok : Ok P X) (hm : X.mg "max" = none) (ha : PE X e (tE P x)) (hg : Gl X "max" := by rfl) (he : starEach [e] X.env = (false, eval e X.env) :: starEach [] X.env := by rfl) : PE X (.Call (.Name "max" q) [e] [] pos) (tE P (.blt .max [x])) := by
  have sv : ServesB P .max (rMaxG P.K) := sb_max
  rw [ok.K] at sv
  exact ge_blt (pe_callB (call_maxG ok.calm) hg hm PyProof.Rows.boot_max (ga_cons ha ga_nil he) (by decide +kernel) (by decide +kernel) he rfl) (fun _ _ _ h => h) sv
theorem k_min1 (ok : Ok P X) (hm : X.mg "min" = none) (ha : PE X e (tE P x)) (hg : Gl X "min" := by rfl) (he : starEach [e] X.env = (false, eval e X.env) :: starEach [] X.env := by rfl) : PE X (.Call (.Name "min" q) [e] [] pos) (tE P (.blt .min [x])) := by
  have sv : ServesB P .min (rMinG P.K) := sb_min
  rw [ok.K] at sv
  exact ge_blt (pe_callB (call_minG ok.calm) hg hm PyProof.Rows.boot_min (ga_cons ha ga_nil he) (by decide +kernel) (by decide +kernel) he rfl) (fun _ _ _ h => h) sv
/-- sorted(set(e)) -/
theorem f_sortedSet {q2 pos2 : Pos} (ok : Ok P X) (hm : X.mg "sorted" = none) (hm2 : X.mg "set" = none) (ha : PE X e (tE P x)) (hg : Gl X "sorted" := by rfl) (hg2 : Gl X "set" := by rfl) (he : starEach [e] X.env = (false, eval e X.env) :: starEach [] X.env := by rfl) :
    PE X (.Call (.Name "sorted" q) [.Call (.Name "set" q2) [e] [] pos2] [] pos) (tF P (.blt .sortedSet [x])) := by
  have sv : ServesF P .sortedSet (rSS P.K X.prog X.w) := sf_sortedSet
  rw [ok.K] at sv
  have h : PE X (.Call (.Name "sorted" q) [.Call (.Name "set" q2) [e] [] pos2] [] pos) (tCB (rSortedT X.K X.prog X.w) (tCons (tCB (rSetOfT X.K X.prog X.w) (tA P [x])) tNil)) :=
    pe_callB (cr_sortedT ok.calm) hg hm PyProof.Rows.boot_sorted (pa_cons (pe_callTy (cr_setOfT ok.calm (by have := ok.hu; omega)) hg2 hm2 PyProof.Rows.boot_set (ga_cons ha ga_nil he) (by decide +kernel) (by decide +kernel) he rfl) pa_nil rfl) (by decide +kernel) (by decide +kernel) rfl rfl
  exact gf_blt (r := rSS X.K X.prog X.w) (t := tA P [x]) (h.imp fun _ _ _ z => z) (fun _ _ _ h => h) sv
/-! ### isinstance -/
theorem k_isOne {f : Bf} {T : Str} {T' : String} (g : G.D → Bool) (hk : ∀ d, kOk T' g d = true) (hf : ∀ d, builtin f [d] = some (.bl (g d))) (hb : bootBuiltins T = some (.type T')) (hn : T ≠ "__name__") (hd : (T == ("__debug__" : Str)) = false) (ok : Ok P X) (hm : X.mg "isinstance" = none) (hmT : X.mg T = none) (ha : PE X e (tE P x)) {q2 : Pos} (hg : Gl X "isinstance") (hgT : Gl X T) (he : starEach [e, .Name T q2] X.env = (false, eval e X.env) :: starEach [.Name T q2] X.env) :
    PE X (.Call (.Name "isinstance" q) [e, .Name T q2] [] pos) (tE P (.blt f [x])) :=
  gi_one ok g (pe_callB call_isiG hg hm PyProof.Rows.boot_isinstance (pa_cons ha (pa_cons (pe_bltn (v := .ty T') hgT hmT hb rfl hn hd) pa_nil rfl) he) (by decide +kernel) (by decide +kernel) he rfl) hk hf
theorem k_isInt {q2 : Pos} (ok : Ok P X) (hm : X.mg "isinstance" = none) (hmT : X.mg "int" = none) (ha : PE X e (tE P x)) (hg : Gl X "isinstance" := by rfl) (hgT : Gl X "int" := by rfl) (he : starEach [e, .Name "int" q2] X.env = (false, eval e X.env) :: starEach [.Name "int" q2] X.env := by rfl) :
    PE X (.Call (.Name "isinstance" q) [e, .Name "int" q2] [] pos) (tE P (.blt .isInt [x])) := k_isOne isIntD kInt (fun _ => rfl) PyProof.Rows.boot_int (by decide +kernel) (by decide +kernel) ok hm hmT ha hg hgT he
theorem k_isBool {q2 : Pos} (ok : Ok P X) (hm : X.mg "isinstance" = none) (hmT : X.mg "bool" = none) (ha : PE X e (tE P x)) (hg : Gl X "isinstance" := by rfl) (hgT : Gl X "bool" := by rfl) (he : starEach [e, .Name "bool" q2] X.env = (false, eval e X.env) :: starEach [.Name "bool" q2] X.env := by rfl) :
    PE X (.Call (.Name "isinstance" q) [e, .Name "bool" q2] [] pos) (tE P (.blt .isBool [x])) := k_isOne isBlD kBool (fun _ => rfl) PyProof.Rows.boot_bool (by decide +kernel) (by decide +kernel) ok hm hmT ha hg hgT he
theorem k_isTuple {q2 : Pos} (ok : Ok P X) (hm : X.mg "isinstance" = none) (hmT : X.mg "tuple" = none) (ha : PE X e (tE P x)) (hg : Gl X "isinstance" := by rfl) (hgT : Gl X "tuple" := by rfl) (he : starEach [e, .Name "tuple" q2] X.env = (false, eval e X.env) :: starEach [.Name "tuple" q2] X.env := by rfl) :
    PE X (.Call (.Name "isinstance" q) [e, .Name "tuple" q2] [] pos) (tE P (.blt .isTuple [x])) := k_isOne isTupD kTup (fun _ => rfl) PyProof.Rows.boot_tuple (by decide +kernel) (by decide +kernel) ok hm hmT ha hg hgT he
theorem k_isStr {q2 : Pos} (ok : Ok P X) (hm : X.mg "isinstance" = none) (hmT : X.mg "str" = none) (ha : PE X e (tE P x)) (hg : Gl X "isinstance" := by rfl) (hgT : Gl X "str" := by rfl) (he : starEach [e, .Name "str" q2] X.env = (false, eval e X.env) :: starEach [.Name "str" q2] X.env := by rfl) :
    PE X (.Call (.Name "isinstance" q) [e, .Name "str" q2] [] pos) (tE P (.blt .isStr [x])) := k_isOne isStrD kStr (fun _ => rfl) PyProof.Rows.boot_str (by decide +kernel) (by decide +kernel) ok hm hmT ha hg hgT he
theorem k_isList {q2 : Pos} (ok : Ok P X) (hm : X.mg "isinstance" = none) (hmT : X.mg "list" = none) (ha : PE X e (tE P x)) (hg : Gl X "isinstance" := by rfl) (hgT : Gl X "list" := by rfl) (he : starEach [e, .Name "list" q2] X.env = (false, eval e X.env) :: starEach [.Name "list" q2] X.env := by rfl) :
    PE X (.Call (.Name "isinstance" q) [e, .Name "list" q2] [] pos) (tE P (.blt .isList [x])) := k_isOne isLstD kLst (fun _ => rfl) PyProof.Rows.boot_list (by decide +kernel) (by decide +kernel) ok hm hmT ha hg hgT he
theorem k_isSeq {q2 q3 q4 : Pos} {kk : Nat} (ok : Ok P X) (hm : X.mg "isinstance" = none) (hmT : X.mg "tuple" = none) (hmL : X.mg "list" = none) (ha : PE X e (tE P x)) (hg : Gl X "isinstance" := by rfl) (hgT : Gl X "tuple" := by rfl) (hgL : Gl X "list" := by rfl)
    (he : starEach [e, .Tuple [.Name "tuple" q2, .Name "list" q3] kk q4] X.env = (false, eval e X.env) :: starEach [.Tuple [.Name "tuple" q2, .Name "list" q3] kk q4] X.env := by rfl) :
    PE X (.Call (.Name "isinstance" q) [e, .Tuple [.Name "tuple" q2, .Name "list" q3] kk q4] [] pos) (tE P (.blt .isSeq [x])) :=
  gi_two ok isTupD isLstD (pe_callB call_isiTG hg hm PyProof.Rows.boot_isinstance (pa_cons ha (pa_cons (pe_tup (pa_cons (pe_bltn (v := .ty "tuple") hgT hmT PyProof.Rows.boot_tuple rfl (by decide +kernel) (by decide +kernel)) (pa_cons (pe_bltn (v := .ty "list") hgL hmL PyProof.Rows.boot_list rfl (by decide +kernel) (by decide +kernel)) pa_nil rfl) rfl)) pa_nil rfl) he) (by decide +kernel) (by decide +kernel) he rfl) kTup kLst (fun _ => rfl)
end
/-! ### calls of defs -/
theorem k_call {k k' id : Nat} {n : Nat} {φ : List G.D → R G.D} {ps : List Str} {x : Str} {q : Pos} {e : Expr} {es : List Expr} {xs : List Ex} (ok : Ok P X) (C : Cal X.prog X.w X.K X.mg X.base k x ps (spF X.K n φ)) (hr : Room k' X.A) (ha : PA X (e :: es) (tA P xs)) (hk : k ≤ k' := by decide) (hΦ : P.Φ.fn id = some φ := by rfl) (hn : n = (e :: es).length := by rfl) (hxs : xs.length = (e :: es).length := by rfl) (hg : Gl X x := by rfl)
    (hdb : (x == ("__debug__" : Str)) = false := by decide +kernel) (he : starEach (e :: es) X.env = (false, eval e X.env) :: starEach es X.env := by rfl) (hpl : (backTo pos (starEach es X.env)).any (·.1) = false := by rfl) :
    PE X (.Call (.Name x q) (e :: es) [] pos) (tE P (.call id xs)) := by
  obtain ⟨f, fd, hm, hkp, hb, F⟩ := C.ex
  exact ge_call ok hΦ F hn hxs (hr.mono hk) hg hm hkp hb ha hdb he hpl
theorem k_callM {k k' id i : Nat} {n : Nat} {ψ : List G.D → List G.D → R (G.D × List G.D)} {ps : List Str} {x y : Str} {q py : Pos} {es : List Expr} {xs : List Ex} (ok : Ok P X) (C : Cal X.prog X.w X.K X.mg X.base k x ps (spM X.K n ψ)) (hr : Room k' X.A) (ha : PA X es (tA P xs)) (hk : k ≤ k' := by decide) (hΦ : P.Φ.mt id = some ψ := by rfl) (hcell : P.cell = some i := by rfl)
    (hN : X.N[i]? = some y := by rfl) (hv : Vis X.env.scope y := by first | exact Or.inl rfl | exact Or.inr (Or.inl rfl) | exact Or.inr (Or.inr rfl)) (hd : (y == ("__debug__" : Str)) = false := by decide +kernel) (hcd : (y == ("__classdict__" : Str)) = false := by decide +kernel) (hn : n = es.length := by rfl) (hxs : xs.length = es.length := by rfl) (hg : Gl X x := by rfl)
    (hdb : (x == ("__debug__" : Str)) = false := by decide +kernel) (he : starEach (.Name y py :: es) X.env = (false, eval (.Name y py) X.env) :: starEach es X.env := by rfl) (hpl : (backTo pos (starEach es X.env)).any (·.1) = false := by rfl) :
    PE X (.Call (.Name x q) (.Name y py :: es) [] pos) (tE P (.callM id xs)) := by
  obtain ⟨f, fd, hm, hkp, hb, F⟩ := C.ex
  exact ge_callM ok hΦ hcell hN hv hd hcd F hn hxs (hr.mono hk) hg hm hkp hb ha hdb he hpl
theorem k_cell {i : Nat} {y : Str} {py : Pos} {b : Expr} {x : Ex} (ok : Ok P X) (hb : PE X b (tE P x)) (hcell : P.cell = some i := by rfl) (hN : X.N[i]? = some y := by rfl) (hv : Vis X.env.scope y := by first | exact Or.inl rfl | exact Or.inr (Or.inl rfl) | exact Or.inr (Or.inr rfl)) (hd : (y == ("__debug__" : Str)) = false := by decide +kernel) (hcd : (y == ("__classdict__" : Str)) = false := by decide +kernel)
    (hp : PlainIx b := by intro _ _; rfl) : PE X (.Subscript (.Name y py) b pos) (tE P (.cellIx x)) := ge_cellIx ok hcell hN hv hd hcd hb hp
/-! ### comprehensions -/
abbrev CPl (P : Pl) : Pl := P
theorem f_lc {elt tg iter : Expr} {ifs : List Expr} {scope : Scope} {own : List (Str × Nat)} {t : Tg} {it : Wlk} {y : Ex} {fs : List Ex} (ok : Ok P X) (hN : X.N.Nodup) (hi : PI X tg iter (tI P it)) (bk : BlkOk X.N X.env.scope scope own)
    (hg : ∀ (s : Shared) (H : Hp) (C : Addr) (cl : List (Str × Addr)) (fp : List Addr), PG (X.blk s H scope (compEnvC scope cl C X.env) fp) tg (gT P.K t))
    (ht : ∀ (s : Shared) (H : Hp) (C : Addr) (cl : List (Str × Addr)) (fp : List Addr), Ok P (X.blk s H scope (compEnvC scope cl C X.env) fp) → PTs (X.blk s H scope (compEnvC scope cl C X.env) fp) ifs (tC' P fs))
    (he : ∀ (s : Shared) (H : Hp) (C : Addr) (cl : List (Str × Addr)) (fp : List Addr), Ok P (X.blk s H scope (compEnvC scope cl C X.env) fp) → PE (X.blk s H scope (compEnvC scope cl C X.env) fp) elt (tE P y))
    (hts : ((tgSlots t).all fun i => (own.map (·.2)).contains i) = true := by rfl) (hown : ((own.map (·.2)).all fun i => P.cell != some i) = true := by rfl) (hs : ∀ x, foldedSetIterable iter X.env x = pure x := by intro _; rfl) :
    PE X (.ListComp elt [⟨tg, iter, ifs, 0⟩] scope pos) (tF P (.comp (own.map (·.2)) y t it fs)) :=
  (pe_lc ok.calm hN hi bk hg (fun s H C cl fp => ht s H C cl fp ⟨ok.K, ok.calm, ok.hu, ok.xn⟩) (fun s H C cl fp => he s H C cl fp ⟨ok.K, ok.calm, ok.hu, ok.xn⟩) hs).imp fun σ H Q h => lc_imp ok.xn (fun i hi => by simpa using List.all_eq_true.mp hts i hi) (fun i hi => by simpa using List.all_eq_true.mp hown i hi) h
theorem w_seq {tg e : Expr} {x : Ex} (ok : Ok P X) (h : PE X e (tE P x)) : PI X tg e (tI P (.seq x)) := gi_seq ok h
theorem w_rng1 {tg a : Expr} {x : Ex} {q : Pos} (hm : X.mg "range" = none) (ha : PE X a (tE P x)) (hg : Gl X "range" := by rfl) (hs : starEach [a] X.env = [(false, eval a X.env)] := by rfl) : PI X tg (.Call (.Name "range" q) [a] [] pos) (tI P (.rng [x])) := gi_rng1 hg hm (ga_cons ha ga_nil hs) hs
theorem w_rng2 {tg a b : Expr} {x y : Ex} {q : Pos} (hm : X.mg "range" = none) (ha : PE X a (tE P x)) (hb : PE X b (tE P y)) (hg : Gl X "range" := by rfl) (hs : starEach [a, b] X.env = [(false, eval a X.env), (false, eval b X.env)] := by rfl) (hs2 : starEach [b] X.env = [(false, eval b X.env)] := by rfl) : PI X tg (.Call (.Name "range" q) [a, b] [] pos) (tI P (.rng [x, y])) :=
  gi_rng2 hg hm (ga_cons ha (ga_cons hb ga_nil hs2) (by rw [hs, hs2])) hs hs2
theorem r_rng1 {tg a : Expr} {x : Ex} {q : Pos} (hm : X.mg "range" = none) (ha : PE X a (tE P x)) (hg : Gl X "range" := by rfl) (hs : starEach [a] X.env = [(false, eval a X.env)] := by rfl) : PI X tg (.Call (.Name "range" q) [a] [] pos) (tIr P [x]) := gi_rngR1 hg hm (ga_cons ha ga_nil hs) hs
theorem r_rng2 {tg a b : Expr} {x y : Ex} {q : Pos} (hm : X.mg "range" = none) (ha : PE X a (tE P x)) (hb : PE X b (tE P y)) (hg : Gl X "range" := by rfl) (hs : starEach [a, b] X.env = [(false, eval a X.env), (false, eval b X.env)] := by rfl) (hs2 : starEach [b] X.env = [(false, eval b X.env)] := by rfl) : PI X tg (.Call (.Name "range" q) [a, b] [] pos) (tIr P [x, y]) :=
  gi_rngR2 hg hm (ga_cons ha (ga_cons hb ga_nil hs2) (by rw [hs, hs2])) hs hs2
theorem w_enm {elts : List Expr} {kk : Nat} {tpos q : Pos} {a : Expr} {x : Ex} (ok : Ok P X) (hm : X.mg "enumerate" = none) (ha : PE X a (tE P x)) (hg : Gl X "enumerate" := by rfl) (hs : starEach [a] X.env = [(false, eval a X.env)] := by rfl) : PI X (.Tuple elts kk tpos) (.Call (.Name "enumerate" q) [a] [] pos) (tI P (.enm x)) := gi_enm ok hg hm ha hs
/-! ### targets -/
theorem g_nm (i : Nat) {x : Str} {K : PySem.W.Frag} (hN : X.N.Nodup) (hi : X.N[i]? = some x := by rfl) (hx : Loc X.env.scope x := by first | exact Or.inl rfl | exact Or.inr rfl) (hf : X.fn x = true ∨ X.env.scope.names.lookup x = some .local := by first | exact .inl rfl | exact .inr rfl) : PG X (.Name x pos) (gT K (.nm i)) := by
  rw [gT]
  exact pg_name hN hi hx hf
theorem g_nil {K : PySem.W.Frag} : PGs X [] (gTs K []) := by
  rw [gTs]
  exact pgs_nil
theorem g_cons {K : PySem.W.Frag} {e : Expr} {es : List Expr} {t : Tg} {ts : List Tg} (h1 : PG X e (gT K t)) (h2 : PGs X es (gTs K ts)) (hs : (assignEach (e :: es) X.env).map (·.2) = PySem.assign e X.env :: (assignEach es X.env).map (·.2) := by rfl) : PGs X (e :: es) (gTs K (t :: ts)) := by
  rw [gTs]
  exact pgs_cons h1 h2 hs
theorem g_tup {K : PySem.W.Frag} {es : List Expr} {k : Nat} {ts : List Tg} (hK : K = X.K) (hc : X.calm = true) (h : PGs X es (gTs K ts)) (hn : (assignEach es X.env).length = ts.length := by rfl) (hst : (assignEach es X.env).findIdx? (·.1) = none := by rfl) : PG X (.Tuple es k pos) (gT K (.tp ts)) := by
  rw [gT]
  subst hK
  exact pg_tup hc h hn hst
end
end G
/-! G16: statements in short. -/
namespace G
open PySem L2
variable [TQ]
section
variable {X : Cx} {p : Cfg} {pos : Pos}
theorem s_nil : PSs X [] (tSs p []) := gs_nil
theorem s_cons {st : Stmt} {rest : List Stmt} {s : Stm} {ss : List Stm} (h1 : PS X st (tS p s)) (h2 : PSs X rest (tSs p ss)) : PSs X (st :: rest) (tSs p (s :: ss)) := gs_cons h1 h2
theorem s_never {st : Stmt} : PS X st (tS p .never) := gs_never
theorem s_retN {e : Expr} {x : Ex} (h : PE X e (tE p.non x)) : PS X (.Return (some e) pos) (tS p (.ret false x)) := gs_ret (chk := false) h
theorem s_retA {e : Expr} {x : Ex} (h : PE X e (tE p.all x)) : PS X (.Return (some e) pos) (tS p (.ret true x)) := gs_ret (chk := true) h
theorem s_exprN {e : Expr} {x : Ex} (h : PE X e (tE p.non x)) (hs : swapsWith e none pos.line X.env = pure false := by rfl) : PS X (.Expr e pos) (tS p (.expr false x)) := gs_expr (chk := false) h hs
theorem s_iteN {t : Expr} {a b : List Stmt} {x : Ex} {ss ts : List Stm} (h : PT X t (tT p.non x)) (ha : PSs X a (tSs p ss)) (hb : PSs X b (tSs p ts)) : PS X (.If t a b pos) (tS p (.ite false x ss ts)) := gs_ite (chk := false) h ha hb
theorem s_iteA {t : Expr} {a b : List Stmt} {x : Ex} {ss ts : List Stm} (h : PT X t (tT p.all x)) (ha : PSs X a (tSs p ss)) (hb : PSs X b (tSs p ts)) : PS X (.If t a b pos) (tS p (.ite true x ss ts)) := gs_ite (chk := true) h ha hb
theorem s_set (i : Nat) {x : Str} {e : Expr} {y : Ex} {pos' : Pos} (hN : X.N.Nodup) (he : PE X e (tE p.non y)) (ok : okTg p (.nm i) = true := by rfl) (hi : X.N[i]? = some x := by rfl) (hx : Loc X.env.scope x := by first | exact Or.inl rfl | exact Or.inr rfl) (hs : swapsWith e (some (.Name x pos')) pos.line X.env = pure false := by rfl) (hf : X.fn x = true ∨ X.env.scope.names.lookup x = some .local := by first | exact .inl rfl | exact .inr rfl) :
    PS X (.Assign [.Name x pos'] e pos) (tS p (.asg (.nm i) y)) := gs_set ok hN hi hx he hs hf
theorem s_setF (i : Nat) {x : Str} {e : Expr} {y : Ex} {pos' : Pos} (hN : X.N.Nodup) (he : PE X e (tE p.all y)) (ok : okTg p (.nm i) = true := by rfl) (hi : X.N[i]? = some x := by rfl) (hx : Loc X.env.scope x := by first | exact Or.inl rfl | exact Or.inr rfl) (hs : swapsWith e (some (.Name x pos')) pos.line X.env = pure false := by rfl) (hf : X.fn x = true ∨ X.env.scope.names.lookup x = some .local := by first | exact .inl rfl | exact .inr rfl) :
    PS X (.Assign [.Name x pos'] e pos) (tS p (.asgF (.nm i) y)) := gs_setF ok hN hi hx he hs hf
theorem s_asg {tg e : Expr} {t : Tg} {y : Ex} (he : PE X e (tE p.non y)) (hg : PG X tg (gT p.K t)) (ok : okTg p t = true := by rfl) (hs : swapsWithSole [tg] e pos.line X.env = pure false := by rfl) (hw : swappedStores [tg] e X.env = pure none := by rfl) (h1 : (assignEach [tg] X.env).map (·.2) = [PySem.assign tg X.env] := by rfl) :
    PS X (.Assign [tg] e pos) (tS p (.asg t y)) := gs_asg ok he hg hs hw h1
theorem s_ownN (i : Nat) {x : Str} {e : Expr} {y : Ex} {pos' : Pos} (hN : X.N.Nodup) (he : PE X e (tF p.non y)) (hi' : p.own.contains i = true := by rfl) (hkl : p.lock.contains i = false := by rfl) (hc : (p.cell != some i) = true := by rfl) (hxn : (p.xn.map (·.i) != some i) = true := by rfl) (hi : X.N[i]? = some x := by rfl) (hx : Loc X.env.scope x := by first | exact Or.inl rfl | exact Or.inr rfl) (hs : swapsWith e (some (.Name x pos')) pos.line X.env = pure false := by rfl) (hf : X.fn x = true ∨ X.env.scope.names.lookup x = some .local := by first | exact .inl rfl | exact .inr rfl) :
    PS X (.Assign [.Name x pos'] e pos) (tS p (.own false i y)) := gs_own (chk := false) (by simpa using hi') (by simpa using hkl) (by simpa using hc) (by simpa using hxn) hN hi hx he hs hf
theorem s_ownA (i : Nat) {x : Str} {e : Expr} {y : Ex} {pos' : Pos} (hN : X.N.Nodup) (he : PE X e (tF p.all y)) (hi' : p.own.contains i = true := by rfl) (hkl : p.lock.contains i = false := by rfl) (hc : (p.cell != some i) = true := by rfl) (hxn : (p.xn.map (·.i) != some i) = true := by rfl) (hi : X.N[i]? = some x := by rfl) (hx : Loc X.env.scope x := by first | exact Or.inl rfl | exact Or.inr rfl) (hs : swapsWith e (some (.Name x pos')) pos.line X.env = pure false := by rfl) (hf : X.fn x = true ∨ X.env.scope.names.lookup x = some .local := by first | exact .inl rfl | exact .inr rfl) :
    PS X (.Assign [.Name x pos'] e pos) (tS p (.own true i y)) := gs_own (chk := true) (by simpa using hi') (by simpa using hkl) (by simpa using hc) (by simpa using hxn) hN hi hx he hs hf
theorem s_app {chk : Bool} (i : Nat) {x : Str} {px pa pc : Pos} {e : Expr} {y : Ex} (he : PE X e (tE (p.md chk) y)) (hi : p.own.contains i = true) (hkl : p.lock.contains i = false) (hN : X.N[i]? = some x) (hv : Vis X.env.scope x) (hd : (x == ("__debug__" : Str)) = false) (hcd : (x == ("__classdict__" : Str)) = false) (hst : starEach [e] X.env = (false, eval e X.env) :: starEach [] X.env)
    (hfew : ((backTo pc (starEach [e] X.env)).all (fun x => !x.1) && (backToKw pc (keywordEach [] X.env)).all (fun x => x.1.isSome)
      && decide (([e] : List Expr).length + ([] : List Keyword).length + (if ([] : List Keyword).isEmpty then 0 else 1) < 30)) = true)
    (hline : (pa.endLine == pc.line) = true) (hs : swapsWith (.Call (.Attribute (.Name x px) "append" pa) [e] [] pc) none pos.line X.env = pure false) : PS X (.Expr (.Call (.Attribute (.Name x px) "append" pa) [e] [] pc) pos) (tS p (.app chk i y)) :=
  gs_app (by simpa using hi) (by simpa using hkl) hN hv hd hcd he hst hfew hline hs
theorem s_appN (i : Nat) {x : Str} {px pa pc : Pos} {e : Expr} {y : Ex} (he : PE X e (tE p.non y)) (hi : p.own.contains i = true := by rfl) (hkl : p.lock.contains i = false := by rfl) (hN : X.N[i]? = some x := by rfl) (hv : Vis X.env.scope x := by first | exact Or.inl rfl | exact Or.inr (Or.inl rfl) | exact Or.inr (Or.inr rfl)) (hd : (x == ("__debug__" : Str)) = false := by decide +kernel) (hcd : (x == ("__classdict__" : Str)) = false := by decide +kernel) (hst : starEach [e] X.env = (false, eval e X.env) :: starEach [] X.env := by rfl)
    (hfew : ((backTo pc (starEach [e] X.env)).all (fun x => !x.1) && (backToKw pc (keywordEach [] X.env)).all (fun x => x.1.isSome)
      && decide (([e] : List Expr).length + ([] : List Keyword).length + (if ([] : List Keyword).isEmpty then 0 else 1) < 30)) = true := by rfl)
    (hline : (pa.endLine == pc.line) = true := by rfl) (hs : swapsWith (.Call (.Attribute (.Name x px) "append" pa) [e] [] pc) none pos.line X.env = pure false := by rfl) : PS X (.Expr (.Call (.Attribute (.Name x px) "append" pa) [e] [] pc) pos) (tS p (.app false i y)) :=
  s_app (chk := false) i he hi hkl hN hv hd hcd hst hfew hline hs
theorem s_appA (i : Nat) {x : Str} {px pa pc : Pos} {e : Expr} {y : Ex} (he : PE X e (tE p.all y)) (hi : p.own.contains i = true := by rfl) (hkl : p.lock.contains i = false := by rfl) (hN : X.N[i]? = some x := by rfl) (hv : Vis X.env.scope x := by first | exact Or.inl rfl | exact Or.inr (Or.inl rfl) | exact Or.inr (Or.inr rfl)) (hd : (x == ("__debug__" : Str)) = false := by decide +kernel) (hcd : (x == ("__classdict__" : Str)) = false := by decide +kernel) (hst : starEach [e] X.env = (false, eval e X.env) :: starEach [] X.env := by rfl)
    (hfew : ((backTo pc (starEach [e] X.env)).all (fun x => !x.1) && (backToKw pc (keywordEach [] X.env)).all (fun x => x.1.isSome)
      && decide (([e] : List Expr).length + ([] : List Keyword).length + (if ([] : List Keyword).isEmpty then 0 else 1) < 30)) = true := by rfl)
    (hline : (pa.endLine == pc.line) = true := by rfl) (hs : swapsWith (.Call (.Attribute (.Name x px) "append" pa) [e] [] pc) none pos.line X.env = pure false := by rfl) : PS X (.Expr (.Call (.Attribute (.Name x px) "append" pa) [e] [] pc) pos) (tS p (.app true i y)) :=
  s_app (chk := true) i he hi hkl hN hv hd hcd hst hfew hline hs
theorem s_setC {i : Nat} {x : Str} {px pt : Pos} {b e : Expr} {k y : Ex} (hb : PE X b (tE p.non k)) (he : PE X e (tE p.non y)) (hcell : p.cell = some i := by rfl) (hN : X.N[i]? = some x := by rfl) (hv : Vis X.env.scope x := by first | exact Or.inl rfl | exact Or.inr (Or.inl rfl) | exact Or.inr (Or.inr rfl)) (hd : (x == ("__debug__" : Str)) = false := by decide +kernel) (hcd : (x == ("__classdict__" : Str)) = false := by decide +kernel)
    (hs : swapsWithSole [.Subscript (.Name x px) b pt] e pos.line X.env = pure false := by rfl) (hw : swappedStores [.Subscript (.Name x px) b pt] e X.env = pure none := by rfl) (h1 : (assignEach [.Subscript (.Name x px) b pt] X.env).map (·.2) = [PySem.assign (.Subscript (.Name x px) b pt) X.env] := by rfl)
    (ha : ∀ v, PySem.assign (.Subscript (.Name x px) b pt) X.env v = (do
      let ov ← holding [v] (eval (.Name x px) X.env)
      let iv ← holding [v, ov] (eval b X.env)
      standAt pt
      holding [v, ov, iv] (setItem ov iv v)
      release [v, ov, iv] []) := by intro _; rfl) : PS X (.Assign [.Subscript (.Name x px) b pt] e pos) (tS p (.setC k y)) := gs_setC hcell hN hv hd hcd he hb hs hw h1 ha
theorem s_newC (i : Nat) {x : Str} {pos' : Pos} {e : Expr} {es : List Ex} (hN : X.N.Nodup) (he : PE X e (tF p.non (.lst es))) (hcell : p.cell = some i := by rfl) (hown : p.own.contains i = false := by rfl) (hxn : p.xn = none := by rfl) (hi : X.N[i]? = some x := by rfl) (hx : Loc X.env.scope x := by first | exact Or.inl rfl | exact Or.inr rfl) (hs : swapsWith e (some (.Name x pos')) pos.line X.env = pure false := by rfl) (hf : X.fn x = true ∨ X.env.scope.names.lookup x = some .local := by first | exact .inl rfl | exact .inr rfl) :
    PS X (.Assign [.Name x pos'] e pos) (tS p (.newC i es)) := gs_newC hcell (by simpa using hown) hxn hN hi hx he hs hf
theorem s_for {tg iter : Expr} {body : List Stmt} {t : Tg} {it : Wlk} {b : List Stm} (hc : X.calm = true) (hi : PI X tg iter (tI p.non it)) (hg : PG X tg (gT p.K t)) (hb : PSs X body (tSs p b)) (hp : PassesOwn (model X.prog X.w) X.A X.env X.xe := by first | exact PassesOwn.never | exact passes_of rfl) (ok : okTg p t = true := by rfl) (hs : ∀ x, foldedSetIterable iter X.env x = pure x := by intro _; rfl) :
    PS X (.For tg iter body [] pos) (tS p (.forS false t it b)) := gs_for ok hp hc hi hg hb hs
theorem s_forR {tg iter : Expr} {body : List Stmt} {t : Tg} {es : List Ex} {b : List Stm} (hc : X.calm = true) (hi : PI X tg iter (tIr p.all es)) (hg : PG X tg (gT p.K t)) (hb : PSs X body (tSs p b)) (hp : PassesOwn (model X.prog X.w) X.A X.env X.xe := by first | exact PassesOwn.never | exact passes_of rfl) (ok : okTg p t = true := by rfl) (hs : ∀ x, foldedSetIterable iter X.env x = pure x := by intro _; rfl) :
    PS X (.For tg iter body [] pos) (tS p (.forS true t (.rng es) b)) := gs_forR ok hp hc hi hg hb hs
theorem s_par2 (i j : Nat) {bi bj : Bool} {x y : Str} {a b : Expr} {ea eb : Ex} {px py pt : Pos} {kt k2 pt2} (hc : X.calm = true) (hN : X.N.Nodup) (ha : PE X a (if bi then tF p.non ea else tE p.non ea)) (hb : PE X b (if bj then tF p.non eb else tE p.non eb)) (ok : okPar p [(bi, i), (bj, j)] = true := by rfl) (hi : X.N[i]? = some x := by rfl) (hj : X.N[j]? = some y := by rfl) (hij : i ≠ j := by decide)
    (hx : X.env.scope.names.lookup x = some .local := by rfl) (hy : X.env.scope.names.lookup y = some .local := by rfl)
    (h1 : starEach [a, b] X.env = (false, eval a X.env) :: starEach [b] X.env := by rfl) (h2 : starEach [b] X.env = (false, eval b X.env) :: starEach [] X.env := by rfl)
    (hw : swappedStores [.Tuple [.Name x px, .Name y py] kt pt] (.Tuple [a, b] k2 pt2) X.env = pure (some [x, y]) := by rfl)
    (hs : swapsWithSole [.Tuple [.Name x px, .Name y py] kt pt] (.Tuple [a, b] k2 pt2) pos.line X.env = pure false := by rfl) :
    PS X (.Assign [.Tuple [.Name x px, .Name y py] kt pt] (.Tuple [a, b] k2 pt2) pos) (tS p (.par [(bi, i), (bj, j)] [ea, eb])) := gs_par2 ok hc hN hi hj hij hx hy ha hb h1 h2 hw hs
theorem s_par3 (i j l : Nat) {bi bj bl : Bool} {x y z : Str} {a b c : Expr} {ea eb ec : Ex} {px py pz pt : Pos} {kt k2 pt2} (hc : X.calm = true) (hN : X.N.Nodup) (ha : PE X a (if bi then tF p.non ea else tE p.non ea)) (hb : PE X b (if bj then tF p.non eb else tE p.non eb)) (hcc : PE X c (if bl then tF p.non ec else tE p.non ec)) (ok : okPar p [(bi, i), (bj, j), (bl, l)] = true := by rfl) (hi : X.N[i]? = some x := by rfl) (hj : X.N[j]? = some y := by rfl) (hl : X.N[l]? = some z := by rfl)
    (hij : i ≠ j := by decide) (hil : i ≠ l := by decide) (hjl : j ≠ l := by decide) (hx : X.env.scope.names.lookup x = some .local := by rfl) (hy : X.env.scope.names.lookup y = some .local := by rfl) (hz : X.env.scope.names.lookup z = some .local := by rfl)
    (h1 : starEach [a, b, c] X.env = (false, eval a X.env) :: starEach [b, c] X.env := by rfl) (h2 : starEach [b, c] X.env = (false, eval b X.env) :: starEach [c] X.env := by rfl) (h3 : starEach [c] X.env = (false, eval c X.env) :: starEach [] X.env := by rfl)
    (hw : swappedStores [.Tuple [.Name x px, .Name y py, .Name z pz] kt pt] (.Tuple [a, b, c] k2 pt2) X.env = pure (some [x, y, z]) := by rfl)
    (hs : swapsWithSole [.Tuple [.Name x px, .Name y py, .Name z pz] kt pt] (.Tuple [a, b, c] k2 pt2) pos.line X.env = pure false := by rfl) :
    PS X (.Assign [.Tuple [.Name x px, .Name y py, .Name z pz] kt pt] (.Tuple [a, b, c] k2 pt2) pos) (tS p (.par [(bi, i), (bj, j), (bl, l)] [ea, eb, ec])) := gs_par3 ok hc hN hi hj hl hij hil hjl hx hy hz ha hb hcc h1 h2 h3 hw hs
theorem p_nil : PA X [] (tArgs p [] []) := pa_nil
theorem p_consE (i : Nat) {e : Expr} {es : List Expr} {x : Ex} {xs : List Ex} {ts : List (Bool × Nat)} (he : PE X e (tE p.non x)) (hs : PA X es (tArgs p ts xs)) (hst : starEach (e :: es) X.env = (false, eval e X.env) :: starEach es X.env := by rfl) : PA X (e :: es) (tArgs p ((false, i) :: ts) (x :: xs)) := pa_cons he hs hst
theorem p_consF (i : Nat) {e : Expr} {es : List Expr} {x : Ex} {xs : List Ex} {ts : List (Bool × Nat)} (he : PE X e (tF p.non x)) (hs : PA X es (tArgs p ts xs)) (hst : starEach (e :: es) X.env = (false, eval e X.env) :: starEach es X.env := by rfl) : PA X (e :: es) (tArgs p ((true, i) :: ts) (x :: xs)) := pa_cons he hs hst
theorem s_parT {ts : List (Bool × Nat)} {es tgs : List Expr} {xs : List Ex} {pt pt2 : Pos} {kt k2 : Nat} (hc : X.calm = true) (ha : PA X es (tArgs p ts xs)) (hg : PGs X tgs (gTs p.K (ts.map fun t => Tg.nm t.2))) (hK : p.K = X.K := by rfl) (ok : okPar p ts = true := by rfl) (hl : ts.length = xs.length := by rfl) (hn : ts.length ≤ 100 := by decide)
    (hn1 : (assignEach tgs X.env).length = ts.length := by rfl) (hst : (assignEach tgs X.env).findIdx? (·.1) = none := by rfl) (hs : swapsWithSole [.Tuple tgs kt pt] (.Tuple es k2 pt2) pos.line X.env = pure false := by rfl) (hw : swappedStores [.Tuple tgs kt pt] (.Tuple es k2 pt2) X.env = pure none := by rfl)
    (h1 : (assignEach [.Tuple tgs kt pt] X.env).map (·.2) = [PySem.assign (.Tuple tgs kt pt) X.env] := by rfl) : PS X (.Assign [.Tuple tgs kt pt] (.Tuple es k2 pt2) pos) (tS p (.par ts xs)) := gs_parT ok hK hc hl hn ha hg hn1 hst hs hw h1
/-! ### name = [..] -/
section
variable {y : Str} {py : Pos} {elt tg iter : Expr} {ifs : List Expr} {scope : Scope} {own : List (Str × Nat)} {cpos : Pos} {t : Tg} {it : Wlk} {x : Ex} {fs : List Ex}
theorem lc_ps {P : Pl} (i : Nat) (ok : Ok P X) (hN : X.N.Nodup) (hi : PI X tg iter (tI P it)) (bk : BlkOk X.N X.env.scope scope own)
    (hg : ∀ (s : Shared) (H : Hp) (C : Addr) (cl : List (Str × Addr)) (fp : List Addr), PG (X.blk s H scope (compEnvC scope cl C X.env) fp) tg (gT P.K t))
    (ht : ∀ (s : Shared) (H : Hp) (C : Addr) (cl : List (Str × Addr)) (fp : List Addr), Ok P (X.blk s H scope (compEnvC scope cl C X.env) fp) → PTs (X.blk s H scope (compEnvC scope cl C X.env) fp) ifs (tC' P fs))
    (he : ∀ (s : Shared) (H : Hp) (C : Addr) (cl : List (Str × Addr)) (fp : List Addr), Ok P (X.blk s H scope (compEnvC scope cl C X.env) fp) → PE (X.blk s H scope (compEnvC scope cl C X.env) fp) elt (tE P x))
    (hy : X.N[i]? = some y) (hyl : X.env.scope.names.lookup y = some .local) (hsw : swapsWith (.ListComp elt [⟨tg, iter, ifs, 0⟩] scope cpos) (some (.Name y py)) pos.line X.env = pure true) (hs : ∀ x, foldedSetIterable iter X.env x = pure x) :
    PS X (.Assign [.Name y py] (.ListComp elt [⟨tg, iter, ifs, 0⟩] scope cpos) pos) (tAsg (tLc (tI P it) (gT P.K t) (tC' P fs) (tE P x) (own.map (·.2))) (gName i)) :=
  ps_setLc ok.calm hN hy hyl hsw hi bk hg (fun s H C cl fp => ht s H C cl fp ⟨ok.K, ok.calm, ok.hu, ok.xn⟩) (fun s H C cl fp => he s H C cl fp ⟨ok.K, ok.calm, ok.hu, ok.xn⟩) hs
theorem s_setLc (i : Nat) (ok : Ok p.non X) (hN : X.N.Nodup) (hi : PI X tg iter (tI p.non it)) (bk : BlkOk X.N X.env.scope scope own)
    (hg : ∀ (s : Shared) (H : Hp) (C : Addr) (cl : List (Str × Addr)) (fp : List Addr), PG (X.blk s H scope (compEnvC scope cl C X.env) fp) tg (gT p.K t))
    (ht : ∀ (s : Shared) (H : Hp) (C : Addr) (cl : List (Str × Addr)) (fp : List Addr), Ok p.non (X.blk s H scope (compEnvC scope cl C X.env) fp) → PTs (X.blk s H scope (compEnvC scope cl C X.env) fp) ifs (tC' p.non fs))
    (he : ∀ (s : Shared) (H : Hp) (C : Addr) (cl : List (Str × Addr)) (fp : List Addr), Ok p.non (X.blk s H scope (compEnvC scope cl C X.env) fp) → PE (X.blk s H scope (compEnvC scope cl C X.env) fp) elt (tE p.non x))
    (hown : ((own.map (·.2)).all fun i => p.cell != some i) = true := by rfl) (hts : ((tgSlots t).all fun i => (own.map (·.2)).contains i) = true := by rfl) (okt : okTg p (.nm i) = true := by rfl)
    (hy : X.N[i]? = some y := by rfl) (hyl : X.env.scope.names.lookup y = some .local := by rfl) (hsw : swapsWith (.ListComp elt [⟨tg, iter, ifs, 0⟩] scope cpos) (some (.Name y py)) pos.line X.env = pure true := by rfl) (hs : ∀ x, foldedSetIterable iter X.env x = pure x := by intro _; rfl) :
    PS X (.Assign [.Name y py] (.ListComp elt [⟨tg, iter, ifs, 0⟩] scope cpos) pos) (tS p (.asg (.nm i) (.comp (own.map (·.2)) x t it fs))) :=
  (lc_ps (P := p.non) i ok hN hi bk hg ht he hy hyl hsw hs).imp fun D σ H h => by
    have h1 := asg_imp okt h
    simp only [gT] at h1
    exact lc_imp ok.xn (fun i hi => by simpa using List.all_eq_true.mp hts i hi) (fun i hi => by simpa using List.all_eq_true.mp hown i hi) (tE_tF rfl h1)
theorem s_setLcF (i : Nat) (ok : Ok p.all X) (hN : X.N.Nodup) (hi : PI X tg iter (tI p.all it)) (bk : BlkOk X.N X.env.scope scope own)
    (hg : ∀ (s : Shared) (H : Hp) (C : Addr) (cl : List (Str × Addr)) (fp : List Addr), PG (X.blk s H scope (compEnvC scope cl C X.env) fp) tg (gT p.K t))
    (ht : ∀ (s : Shared) (H : Hp) (C : Addr) (cl : List (Str × Addr)) (fp : List Addr), Ok p.all (X.blk s H scope (compEnvC scope cl C X.env) fp) → PTs (X.blk s H scope (compEnvC scope cl C X.env) fp) ifs (tC' p.all fs))
    (he : ∀ (s : Shared) (H : Hp) (C : Addr) (cl : List (Str × Addr)) (fp : List Addr), Ok p.all (X.blk s H scope (compEnvC scope cl C X.env) fp) → PE (X.blk s H scope (compEnvC scope cl C X.env) fp) elt (tE p.all x))
    (hts : ((tgSlots t).all fun i => (own.map (·.2)).contains i) = true := by rfl) (hi' : p.own.contains i = true := by rfl) (hkl : p.lock.contains i = false := by rfl) (hc : (p.cell != some i) = true := by rfl)
    (hy : X.N[i]? = some y := by rfl) (hyl : X.env.scope.names.lookup y = some .local := by rfl) (hsw : swapsWith (.ListComp elt [⟨tg, iter, ifs, 0⟩] scope cpos) (some (.Name y py)) pos.line X.env = pure true := by rfl) (hs : ∀ x, foldedSetIterable iter X.env x = pure x := by intro _; rfl) :
    PS X (.Assign [.Name y py] (.ListComp elt [⟨tg, iter, ifs, 0⟩] scope cpos) pos) (tS p (.own true i (.comp (own.map (·.2)) x t it fs))) :=
  (lc_ps (P := p.all) i ok hN hi bk hg ht he hy hyl hsw hs).imp fun D σ H h => by
    have h1 := own_imp (chk := true) (by simpa using hi') (by simpa using hkl) (by simpa using hc) (by rw [show p.xn = none from ok.xn]; simp) h
    exact lc_imp (P := p.all) ok.xn (fun i hi => by simpa using List.all_eq_true.mp hts i hi) (fun _ _ z => by cases z) h1
end
/-! ### tests in short -/
theorem c_one {P : Pl} {e : Expr} {x : Ex} (h : PT X e (tT P x)) : PTs X [e] (tC' P [x]) := gc_one h
theorem c_nil {P : Pl} : PTs X [] (tC' P []) := gc_nil
end
end G
/-! G17: the law's promise. -/
namespace G
open PySem L2
variable [TQ]
/-- what stands, but for the tables -/
def noTab (H : Hp) : Hp := fun p => match H p with
  | some (.tbl _) => none
  | o => o
theorem noTab_nt (H : Hp) : NoT (noTab H) := fun p ps e => by
  unfold noTab at e
  cases h : H p with
  | none => rw [h] at e; cases e
  | some o => cases o <;> rw [h] at e <;> cases e
theorem noTab_same (H : Hp) : Same (noTab H) H := fun p o e => by
  unfold noTab at e
  cases h : H p with
  | none => rw [h] at e; cases e
  | some u => cases u <;> rw [h] at e <;> first | exact e | cases e
theorem noTab_rd {H : Hp} {a : Addr} {u : HO} (n : ∀ ps, u ≠ .tbl ps) (h : Rd H a u) : Rd (noTab H) a u := by
  rcases h with h | ⟨o, h⟩
  · refine .inl ?_
    unfold noTab
    rw [h]
    cases u <;> first | rfl | exact absurd rfl (n _)
  · refine .inr ⟨o, ?_⟩
    unfold noTab
    rw [h]
theorem law_sp {K : PySem.W.Frag} {φ : List D → R D} (h : ∀ ns : List Int, ns.length ≤ 63 → φ [.lst (ns.map .int)] = .ok (.bl true)) {H : Hp} {a : Addr} {ns : List Int} (htb : TB H) (hl : ns.length ≤ 63) (hS : SqL K H a (ns.map V.int)) {E : XK} : spF K 1 φ [.ref a] H (fun v _ => v = .bl true) E := by
  have hS' : SqL K (noTab H) a (ns.map V.int) := by
    rcases hS with hS | hS
    · exact .inl (noTab_rd (fun _ z => by cases z) hS)
    · exact .inr hS
  refine ⟨rfl, noTab H, [.lst (ns.map .int)], .bl true, noTab_same H, noTab_nt H, htb, ⟨_, _, rfl, ⟨a, ns.map V.int, rfl, hS', reps_ints ns, ?_⟩, rfl⟩, h ns hl, fun v G' H' _ r => r⟩
  rw [List.length_map]
  exact Nat.le_trans hl (by decide)
end G
/-! G18: an own error's __init__ that says super().__init__(x), then keeps x in a field. -/
namespace G
open PySem PySem.Spec PySem.W PySem.Calls PyProof.Rows L2
variable [TQ]
section
variable {P : Program} {w : World} {A : Around} {E : Value → Shared → Prop} {h : Heap} {g : Array GenState} {d : Drawn} {t : Nat} {os : OsState}
/-- the bound __init__ called -/
theorem call_mw {nm q : Str} {C N : Addr} {bs bm : List Value} {hdct : Bool} {sn : List Str} {sub : List Value} {ab : Bool} {col : Option Bool} {dd : Option Addr} {k0 k1 k2 k3 k5 : Option Value} {u e t0 : Addr} {rest : List Value} {Q : Value → Shared → Prop}
    (hC : h.get? C = some (excClassObj nm q C N bs bm hdct sn sub ab col dd k0 k1 k2 k3 k5 "ValueError.__new__")) (he : h.get? e = some (HandSPX.excO C t0)) (hu : h.get? u = some (kxs_mw "ValueError.__init__" e)) (hrest : rest.length ≤ sizeLine)
    (hq : ∀ h' t1, (∀ b o, b ≠ e → h.get? b = some o → h'.get? b = some o) → h'.get? e = some (HandSPX.excO C t1) → Q .none ⟨h', g, d, t, os⟩) :
    wpAny (model P w) A (call (.ref u) rest) Q E ⟨h, g, d, t, os⟩ := by
  refine wpAny_call (codeAny_of_tree ?_)
  show wpAny _ A.in1 (callAny (.ref u) ⟨rest, []⟩) _ _ _
  simp only [callAny]
  refine wpAny_bind (wpAny_load hu ?_)
  simp only [kxs_mw, show (Value.type "method-wrapper" == Value.type "method" || Value.type "method-wrapper" == Value.type "builtin_function_or_method" || Value.type "method-wrapper" == Value.type "method-wrapper") = true by decide, if_true]
  refine KFB.if_so (by decide) ?_
  refine wpAny_bind (check_bound_init F.excBase_ValueError.toExcCallFacts hC he rfl ?_)
  refine wpAny_bind (wpAny_pure (wpAny_pure ?_))
  refine ⟨plainId_quiet F.excBase_ValueError.init.plain _, codeAny_builtin F.excBase_ValueError.initEntry ?_⟩
  exact exc_init_tree (cls := .ref C) (t0 := t0) (dv := none) (c2 := .none) (c3 := .none) (b4 := .bool false) he hrest fun h' k e' _ => hq h' _ k e'
end
/-- what the written part says beside OexC -/
structure InitC (K : PySem.W.Frag) (C cc cda : Addr) (file : Str) : Prop where
  o : OexC K C
  cell : ∃ cl cld csl, K.lookup cc = some ⟨cl, cld, .cell (some (.ref C)), csl⟩
  code : ∃ ccl cdd vs ccs tf, K.lookup cda = some ⟨ccl, cdd, .fields vs, ccs⟩ ∧ vs[2]? = some (.str file tf)
  sup : ks_superIn K C C "__init__" = some (some (.builtin "ValueError.__init__"))
  opq : nsIn K cStatics "thirdparty.any" = some none
  sub : mroIn K C (.ref C) = some true
  ve : subIn K (.ref C) (.type "ValueError") = some true
  nosup : nsIn K mainGlobals "super" = some none
def spI (C : Addr) (fld : Str) : Sp := fun vs H Q _ => ∃ a x, vs = [.ref a, x] ∧ H a = some (exo a C none) ∧ ∀ d, H d = none → d ≠ a → Q .non (upd (upd H d (exd d [(fld, x)])) a (exo a C (some d)))
abbrev initBody (arg fld : Str) (p0 p1 p2 p3 p4 p5 p6 p7 p8 p9 : Pos) : List Stmt :=
  [.Expr (.Call (.Attribute (.Call (.Name "super" p0) [] [] p1) "__init__" p2) [.Name arg p3] [] p4) p5, .Assign [.Attribute (.Name "self" p6) fld p7] (.Name arg p8) p9]
theorem init_super {P : Program} {w : World} {K : PySem.W.Frag} {mg : Str → Option Value} {base : Heap} {CX : CXT} {k : Nat} {f C cc cda : Addr} {name qual fld arg : Str} {params : Arguments} {scope : Scope} {dV kV doc pm ct oc : Value} {an od : Option Addr} {osl : Array (Option Value)} {p0 p1 p2 p3 p4 p5 p6 p7 p8 p9 : Pos}
    (lk : K.lookup f = some ⟨oc, od, .func (ksFn name qual params (initBody arg fld p0 p1 p2 p3 p4 p5 p6 p7 p8 p9) scope dV kV doc pm an (.ref cda) ct cc), osl⟩)
    (hcd : codeIn K (.ref cda) qual = true) (T : InitC K C cc cda P.main.file) (hno : findIn K (.ref C) fld = some none)
    (hco : scope.isCoroutine = false) (hgen : scope.isGenerator = false) (hk : scope.kind = .function) (hcells : ∀ x ∈ scope.names, x.2 ≠ .cell)
    (hsup : scope.names.lookup ("super" : Str) = some .globalImplicit) (hcls : scope.names.lookup ("__class__" : Str) = some .free) (hself : scope.names.lookup ("self" : Str) = some .local) (harg : scope.names.lookup arg = some .local)
    (hpar : ∃ ar, (params.posonlyargs ++ params.args).head? = some ar ∧ ar.arg = ("self" : Str)) (hne : arg ≠ ("self" : Str)) (hdb : (arg == ("__debug__" : Str)) = false)
    (htop : (P.main.scope.names.lookup ("super" : Str)).isSome = false)
    (hsw : ∀ env, swapsWith (.Name arg p8) (some (.Attribute (.Name "self" p6) fld p7)) p9.line env = pure false)
    (hev : ∀ L : Addr, ∃ pl : Sem Bool, eval (.Call (.Attribute (.Call (.Name "super" p0) [] [] p1) "__init__" p2) [.Name arg p3] [] p4) (ksEnv qual scope L f (.ref cda) cc) = (do
      let ov ← attributeBase (.Call (.Name "super" p0) [] [] p1) "__init__" (ksEnv qual scope L f (.ref cda) cc) (eval (.Call (.Name "super" p0) [] [] p1) (ksEnv qual scope L f (.ref cda) cc))
      standAt p2.atName
      let (f2, first) ← holding [ov] (getMethod ov "__init__" pl)
      callWith p4 f2 first (backTo p4 (starEach [.Name arg p3] (ksEnv qual scope L f (.ref cda) cc))) []))
    (hin : ∀ L : Addr, interactive (ksEnv qual scope L f (.ref cda) cc) = false)
    (hst : ∀ L : Addr, starEach [.Name arg p3] (ksEnv qual scope L f (.ref cda) cc) = (false, eval (.Name arg p3) (ksEnv qual scope L f (.ref cda) cc)) :: starEach [] (ksEnv qual scope L f (.ref cda) cc)) :
    FnOk P w K mg base CX (k + 1) f (ksFn name qual params (initBody arg fld p0 p1 p2 p3 p4 p5 p6 p7 p8 p9) scope dV kV doc pm an (.ref cda) ct cc) ["self", arg] (spI C fld) := by
  refine ⟨fun vs H Q E h => ?_, fun A outer s H args us vs Q E hr e0 hb r hsp => ?_⟩
  · obtain ⟨a, x, rfl, _⟩ := h
    rfl
  obtain ⟨a, x, rfl, ha, hq⟩ := hsp
  obtain ⟨ar, har, hself2⟩ := hpar
  cases r with
  | cons ra r =>
  cases r with
  | cons rx r =>
  cases r
  rename_i u0 u
  obtain rfl : u0 = Value.ref a := ra
  have KX : K.In s.heap := e0.mod.kin.keeps fun b o e => (e0.bs b o e).1
  have lim : s.heap.NoLimit := e0.mod.nolimit.keeps fun b o e => (e0.bs b o e).1
  have hglob : s.heap.Ns mainGlobals mg := e0.mod.glob.keeps fun b o e => (e0.bs b o e).1
  have hsupm : mg "super" = none := mg_none_of e0.mod.kin e0.mod.glob T.nosup
  obtain ⟨mb, hmb, hmbx⟩ := e0.mod.blt
  have hmb' : s.heap.Ns builtinsNs mb := hmb.keeps fun b o e => (e0.bs b o e).1
  obtain ⟨t0, hx⟩ := exo_at e0.hok ha
  have hok := e0.hok
  have hbare := e0.bare
  have hfrf := e0.frf
  have hfuns := e0.funs
  obtain ⟨nm, q, N, bs, bm, sn, sub, ab, col, dd, k0, k1, k2, k3, k5, hC, hbm⟩ := T.o.cls
  have hclD : clsIn K C = some { name := nm, bases := bs, mro := .ref C :: bm, ns := N, qualname := q, hasDict := true, slotNames := sn, subclasses := sub, abstract := ab, collection := col, hasDel := false } := by unfold clsIn; rw [hC] <;> rfl
  obtain ⟨hp, g, dr, tk, os⟩ := s
  have hLa : hp.objs.size ≠ a := Nat.ne_of_gt (Heap.lt_size hx)
  have hm1 : ([("self", Value.ref a), (arg, u)] : List (Str × Value)).reverse.lookup ("self" : Str) = some (.ref a) := by
    show ([(arg, u), ("self", Value.ref a)] : List (Str × Value)).lookup ("self" : Str) = _
    rw [List.lookup_cons, show (("self" : Str) == arg) = false from by simpa using fun z => hne z.symm]
    rfl
  have hm2 : ([("self", Value.ref a), (arg, u)] : List (Str × Value)).reverse.lookup arg = some u := by
    show ([(arg, u), ("self", Value.ref a)] : List (Str × Value)).lookup arg = _
    rw [List.lookup_cons, beq_self_eq_true]
  refine ks_codeAny_call_defAt (fd := ksFn name qual params (initBody arg fld p0 p1 p2 p3 p4 p5 p6 p7 p8 p9) scope dV kV doc pm an (.ref cda) ct cc) (body := initBody arg fld p0 p1 p2 p3 p4 p5 p6 p7 p8 p9) (binds := [("self", .ref a), (arg, u)]) hr.depth (KX _ _ lk) rfl lim (codeRec_of KX hcd) rfl hb hcells ?_ (fun h₁ hns hk₁ => ?_) hco hgen hk
  · intro y hy
    rcases List.mem_cons.mp hy with rfl | hy
    · exact hself
    · rcases List.mem_cons.mp hy with rfl | hy
      · exact harg
      · cases hy
  have X1 : K.In h₁ := KX.keeps hk₁
  have hx1 := hk₁ _ _ hx
  obtain ⟨cl, cld, csl, hcell⟩ := T.cell
  obtain ⟨ccl, cdd, vs, ccs, tf, hcode, hvs⟩ := T.code
  have I1 : InstAt h₁ a { cls := .ref C, dict := none, data := .fields #[.ref t0, .none, .none, .none, .bool false, .none] } C none := ⟨hx1, rfl, rfl, trivial⟩
  show _root_.PySem.wpAt _ (A.deeper (ksEnv qual scope hp.objs.size f (.ref cda) cc)) (.func _ (ksEnv qual scope hp.objs.size f (.ref cda) cc)) (execs _ (ksEnv qual scope hp.objs.size f (.ref cda) cc)) _ _ _
  obtain ⟨pl, hev⟩ := hev hp.objs.size
  refine ks_wpAt_execs_cons (ks_wpAt_Expr_any (ks_wpAt_MethodCall (he := hev) ?_) (hin _))
  refine ks_wpAt_super_base (env := ksEnv qual scope hp.objs.size f (.ref cda) cc) hsup hcls rfl rfl (X1 _ _ lk) rfl har rfl (X1 _ _ hcode) rfl hvs (by simp) htop ?_
  refine ks_loadName_global hk hsup (loadGlobal_builtin (env := ksEnv qual scope hp.objs.size f (.ref cda) cc) (hglob.keeps hk₁) hsupm (hmb'.keeps hk₁) ((hmbx _ (by decide +kernel)).trans (by kernel_rfl)) ⟨rfl, ?_⟩)
  refine wpAny_loadName_free hk hcls rfl ⟨_, X1 _ _ hcell, rfl⟩ ?_
  rw [hself2]
  refine wpAny_loadName_local hk hself hns hm1 ?_
  refine ks_wpAny_isType_cls (X1 _ _ hC) rfl ⟨rfl, ?_⟩
  refine ks_wpAny_call_super (X1 _ _ hC) rfl I1.at_ I1.cls (fun c e => ?_) (looks_mroIn X1 T.sub) (fun h2 e2 k2 => ?_)
  · cases e
  have X2 : K.In h2 := X1.keeps k2
  have hx2 := k2 _ _ hx1
  have I2 : InstAt h2 a { cls := .ref C, dict := none, data := .fields #[.ref t0, .none, .none, .none, .bool false, .none] } C none := ⟨hx2, rfl, rfl, trivial⟩
  have hmro := T.sup
  unfold ks_superIn at hmro
  rw [hclD] at hmro
  refine kxs_getMethod kxs_ValueError e2 (looks_opaque X2 T.opq) (l₀ := .ref C :: bm) (fun A Q E s k q => wpAny_bind ((looks_clsIn X2 hclD) A _ E s k (wpAny_pure q))) rfl X2 hmro (I2.type.andThen (looks_subIn X2 T.ve)) (ks_ne X2 I2 hclD) rfl ?_
  refine kxs_callWith (i := "ValueError.__init__") (x := a) (by rw [hst]; rfl) ?_
  have hargs : ∀ {A' : Around} {fn : Value} {Q' : Args → Shared → Prop} {E' : Value → Shared → Prop} {s' : Shared}, wpAny (model P w) A' (spliced (backTo p4 (starEach [.Name arg p3] (ksEnv qual scope hp.objs.size f (.ref cda) cc)))) (fun vs s' => Q' ⟨vs, []⟩ s') E' s' →
      wpAny (model P w) A' (evalArgs fn true (backTo p4 (starEach [.Name arg p3] (ksEnv qual scope hp.objs.size f (.ref cda) cc))) []) Q' E' s' := fun h => by
    rw [hst] at h ⊢
    exact evalArgs_plain h
  have k3 : ∀ b o, h2.get? b = some o → (h2.push (kxs_mw "ValueError.__init__" a)).get? b = some o := fun b o e => Heap.get?_push_of_some _ e
  have hns3 : (h2.push (kxs_mw "ValueError.__init__" a)).Ns hp.objs.size _ := hns.at fun o q => k3 _ _ (k2 _ _ q)
  refine hargs (spliced_more (wpAny_Name (wpAny_loadName_local hk harg hns3 hm2 (Calls.spliced_nil ⟨Heap.get?_push_at rfl rfl, ?_⟩)) hdb) (hst _))
  have nb : ∀ b o, base.get? b = some o → b ≠ a := fun b o e z => by
    have y := (e0.bs b o e).2
    rw [z, ha] at y
    cases y
  refine call_mw (X2.keeps k3 _ _ hC) (k3 _ _ hx2) (Heap.get?_push_at rfl rfl) (by rw [sizeLine_eq]; show 1 ≤ 16777216; decide) fun h4 t4 k4 hx4 => ?_
  have X4 : K.In h4 := e0.mod.kin.keeps fun b o e => k4 b o (nb b o e) (k3 _ _ (k2 _ _ (hk₁ _ _ (e0.bs b o e).1)))
  have hns4 : h4.Ns hp.objs.size _ := hns3.at fun o q => k4 _ _ hLa q
  show _root_.PySem.wpAt _ _ _ _ _ _ _
  refine wpAt_of_wpAny (wpAny_execs_cons (plainObj_wpAny_Assign_Attribute (wpAny_Name (wpAny_loadName_local hk harg hns4 hm2 (wpAny_Name (wpAny_loadName_local hk hself hns4 hm1 ?_) (by decide))) hdb) (hsw _)))
  refine set_plain X4 (ox := { cls := .ref C, dict := none, data := .fields #[.ref t4, .none, .none, .none, .bool false, .none] }) (od := none) ⟨hx4, rfl, rfl, trivial⟩ T.o.sa ?_
  refine HandSPX.exc_osa X4 hx4 hclD (show HandSPX.refsVE (.ref C :: bm) = true from hbm) rfl hno (fun h5 tk5 dx k5 dn dne hx5 hn5 => ?_)
  refine wpAny_execs_nil ?_
  have KK : ∀ b o, hp.get? b = some o → b ≠ a → h5.get? b = some o := fun b o e n => k5 b o n (k4 b o n (k3 _ _ (k2 _ _ (hk₁ _ _ e))))
  have szL : hp.objs.size ≤ h4.objs.size := by
    obtain ⟨oL, _, _, hL, _⟩ := hns4
    exact Nat.le_of_lt (Heap.lt_size hL)
  have hnd : H dx = none := hok.fresh (Nat.le_trans szL dn)
  have nd : ∀ {b : Addr} {o : Obj}, hp.get? b = some o → b ≠ dx := fun {b o} q => Nat.ne_of_lt (Nat.lt_of_lt_of_le (Heap.lt_size q) (Nat.le_trans szL dn))
  have na : ∀ {b : Addr}, H b = none → b ≠ a := fun {b} n z => by
    rw [z, ha] at n
    cases n
  refine ⟨.non, upd (upd H dx (exd dx [(fld, x)])) a (exo a C (some dx)), rfl, hbare, ?_, fun b o q => ?_, rfl, hq dx hnd dne⟩
  · exact {
      keep := fun b o q n _ _ => KK b o q (na n)
      slot := fun b o q n _ _ => ⟨o.slots, KK b o q (na n)⟩
      free := fun b o q n _ => by rw [upd_ne (na n), upd_ne (nd q)]; exact n
      there := fun b o q _ => by
        by_cases hb : b = a
        · exact ⟨_, by rw [hb]; exact hx5⟩
        · exact ⟨o, KK b o q hb⟩
      tups := fun b xs q => by rw [upd_ne (at_ne ha q exo_tup), upd_ne (ne_of_none q hnd)]; exact q
      frzs := fun b o v q => by rw [upd_ne (at_ne ha q exo_frz), upd_ne (ne_of_none q hnd)]; exact q
      tbls := fun b ps q => ⟨#[], by rw [upd_ne (at_ne ha q exo_tbl), upd_ne (ne_of_none q hnd), q]; simp⟩ }
  · by_cases hb : b = a
    · subst hb
      rw [upd_same] at q
      cases q
      exact exo_ok hx5
    · rw [upd_ne hb] at q
      by_cases hd : b = dx
      · subst hd
        rw [upd_same] at q
        cases q
        exact exd_ok hn5 (relO_put (fs := []) rx fun g => True.intro)
      · rw [upd_ne hd] at q
        exact (hok b o q).stay (fun c v hc z => KK c v z (by
            rcases hc with hc | hc
            · rw [hc]
              exact hb
            · exact at_ne ha hc exo_own))
          (fun c hc => by rw [upd_ne (at_ne ha hc exo_own), upd_ne (ne_of_none hc hnd)]; exact hc) (fun c xs hc => by rw [upd_ne (at_ne ha hc exo_tup), upd_ne (ne_of_none hc hnd)]; exact hc)
end G
/-! G19: calls that raise, raise, try .. except .. as .., what a handler asks of the error. -/
namespace G
open PySem L2
variable [TQ]
section
variable {X : Cx} {p : Cfg} {pos : Pos}
/-! ### a call that may raise -/
/-- f(e, ..), what is wished of its error may tell of the slots -/
theorem pe_callX {W : WX} {k : Nat} {f : Addr} {fd : FuncData} {ps : List Str} {sp : Sp} {x : Str} {px : Pos} {e : Expr} {es : List Expr} {t : TA} (tk : Takes X W) (F : FnOk X.prog X.w X.K X.mg X.base (L2.CX X.prog X.w) k f fd ps sp) (hr : Room k X.A) (hg : Gl X x) (hm : X.mg x = some (.ref f))
    (hk : PySem.W.keepIn X.K (.ref f) = true) (hb : Binds X.K fd ps []) (ha : PA X (e :: es) t) (hdb : (x == ("__debug__" : Str)) = false) (he : starEach (e :: es) X.env = (false, eval e X.env) :: starEach es X.env) (hpl : (backTo pos (starEach es X.env)).any (·.1) = false) :
    PE X (.Call (.Name x px) (e :: es) [] pos) (fun σ H Q => t σ H fun vs H1 => sp vs H1 Q fun cls d H2 => W cls d σ H2) := by
  refine ⟨fun pins s σ H Q I h => ?_⟩
  refine wpAny_Call_Name_kw (ld_glob I hg hm ?_ hdb)
  refine PySem.W.callWith_K (h₀ := X.base) I.ok.mod.kin hk (thn (ha.run pos pins s σ H _ I h) fun us s1 ⟨vs, H1, I1, r, q⟩ => ⟨I1.kIn, ?_⟩) he hpl
  have hl : us.length = ps.length := by rw [← r.length]; exact F.len _ _ _ _ q
  refine wpAny_call (codeAny_mono (F.run X.A X.stack s1 H1 ⟨us, []⟩ us vs Q _ hr I1.env0 (by have := hb s1 us I1.kIn (by rw [List.append_nil]; exact hl); rw [List.append_nil] at this; exact this) r q) fun r s' hq => ?_)
  cases r with
  | error e => exact tk _ _ (XE.of_call I1 (fun cls d H' h => h) hq)
  | ok fl =>
    cases fl with
    | ret u => exact I1.after hq
    | next => exact False.elim hq
    | brk => exact False.elim hq
    | cont => exact False.elim hq
/-- the reading of a call that may raise -/
def tX (p : Cfg) (n : Nat) (φ : List G.D → R G.D) (xs : List Ex) : TE := fun σ H Q => tA p.non xs σ H fun vs H1 => spX p.K n p.xc φ vs H1 Q p.E
theorem xc_tX {t : XT} {n id : Nat} {φ : List G.D → R G.D} {xs : List Ex} {en : En} {lc : Option Addr} {F H : Hp} {ρ : Env} {σ : L2.St} {c : Cell} {D : Ends} {Q : VK} (hΦ : p.Φ.fn id = some φ) (hn : xs.length = n) (s : StS p en lc F H ρ σ c) (h : OutS p en (ex p.Φ (.xcall t id xs) ρ c) D)
    (kq : ∀ d c1 v F2 H2, StS p en lc F2 H2 ρ σ c1 → Rep p.K F2 d v → OutS p en (xdone ρ t d c1) D → Q v H2) : tX p n φ xs σ H Q := by
  unfold ex at h
  obtain ⟨ds, c1, e, h1⟩ := os_bnd h
  rw [hΦ] at h1
  refine ⟨lc, F, ρ, c, s.at_non, ?_⟩
  show OutA p.non lc F H (evs p.Φ xs ρ c) _
  rw [e]
  intro vs F1 H1 e1 r1 k1
  have s1 := s.step e1 k1
  refine ⟨by rw [← r1.length, evs_length e, hn], F1, ds, s1.inn, s1.ext.nt en.nt, fun P z => s1.ext.tab P (en.tb P z), r1, ?_⟩
  have h2 : OutS p en ((match φ ds with | .ok d => xdone ρ t d | .err k x => C.fail k x | .stuck => C.stk) c1) D := h1
  cases eφ : φ ds with
  | ok d =>
    rw [eφ] at h2
    exact fun v G' H' e' r' => kq d c1 v G' H' (s1.step e'.any (k1.ext e')) r' h2
  | err k x =>
    rw [eφ] at h2
    have h3 : ErrW p en k x := h2
    exact fun cls d G' H' e' r' => h3 cls d G' H' (s1.step e'.any (k1.ext e')).ext r'
  | stuck => rw [eφ] at h2; exact h2.elim
theorem gs_xset {i n id : Nat} {φ : List G.D → R G.D} {xs : List Ex} {x : Str} {e : Expr} {pos' : Pos} (hΦ : p.Φ.fn id = some φ) (hn : xs.length = n) (ok : okTg p (.nm i) = true) (hN : X.N.Nodup) (hi : X.N[i]? = some x) (hx : Loc X.env.scope x) (he : PE X e (tX p n φ xs)) (hs : swapsWith e (some (.Name x pos')) pos.line X.env = pure false) (hf : X.fn x = true ∨ X.env.scope.names.lookup x = some .local) :
    PS X (.Assign [.Name x pos'] e pos) (tS p (.xcall (.set (.nm i)) id xs)) := (ps_set hN hi hx he hs hf).imp fun D σ H ⟨en, lc, F, ρ, c, s, h⟩ => by
  refine xc_tX hΦ hn s h fun d c1 v F2 H2 s2 r2 h2 => ?_
  unfold xdone at h2
  obtain ⟨ρ', c2, e2, h3⟩ := os_bnd h2
  obtain ⟨e3, e4⟩ := opt_ok e2
  subst e4
  have := asg_put (Q := fun σ' H' => D.nx σ' H') s2 ok e3 r2 fun σ' s3 => h3 lc F2 H2 σ' s3
  simp only [gT] at this
  exact this
theorem gs_xasg {n id : Nat} {φ : List G.D → R G.D} {xs : List Ex} {tg e : Expr} {t : Tg} (hΦ : p.Φ.fn id = some φ) (hn : xs.length = n) (ok : okTg p t = true) (he : PE X e (tX p n φ xs)) (hg : PG X tg (gT p.K t)) (hs : swapsWithSole [tg] e pos.line X.env = pure false) (hw : swappedStores [tg] e X.env = pure none)
    (h1 : (assignEach [tg] X.env).map (·.2) = [PySem.assign tg X.env]) : PS X (.Assign [tg] e pos) (tS p (.xcall (.set t) id xs)) := (ps_asg he hg hs hw h1).imp fun D σ H ⟨en, lc, F, ρ, c, s, h⟩ => by
  refine xc_tX hΦ hn s h fun d c1 v F2 H2 s2 r2 h2 => ?_
  unfold xdone at h2
  obtain ⟨ρ', c2, e2, h3⟩ := os_bnd h2
  obtain ⟨e3, e4⟩ := opt_ok e2
  subst e4
  exact asg_put s2 ok e3 r2 fun σ' s3 => h3 lc F2 H2 σ' s3
theorem gs_xexpr {n id : Nat} {φ : List G.D → R G.D} {xs : List Ex} {e : Expr} (hΦ : p.Φ.fn id = some φ) (hn : xs.length = n) (he : PE X e (tX p n φ xs)) (hs : swapsWith e none pos.line X.env = pure false) : PS X (.Expr e pos) (tS p (.xcall .drop id xs)) := (ps_expr he hs).imp fun D σ H ⟨en, lc, F, ρ, c, s, h⟩ => by
  refine xc_tX hΦ hn s h fun d c1 v F2 H2 s2 r2 h2 => ?_
  exact h2 lc F2 H2 σ s2
theorem gs_xret {n id : Nat} {φ : List G.D → R G.D} {xs : List Ex} {e : Expr} (hΦ : p.Φ.fn id = some φ) (hn : xs.length = n) (he : PE X e (tX p n φ xs)) : PS X (.Return (some e) pos) (tS p (.xcall .ret id xs)) := (ps_ret he).imp fun D σ H ⟨en, lc, F, ρ, c, s, h⟩ => by
  refine xc_tX hΦ hn s h fun d c1 v F2 H2 s2 r2 h2 => ?_
  exact h2 v lc F2 H2 s2.ext r2 s2.cr s2.lcok fun z hz => (s2.lock z hz).2.2.2.2
/-! ### raise -/
theorem del_upd3 {H : Hp} {a d : Addr} {u v w z : HO} (ha : H a = none) (hne : d ≠ a) : upd (del (upd (upd (upd H a u) d v) a w) a) d z = upd H d z := by
  funext b
  by_cases hb : b = d
  · subst hb
    rw [upd_same, upd_same]
  · rw [upd_ne hb, upd_ne hb]
    by_cases hb2 : b = a
    · subst hb2
      rw [del_same, ha]
    · rw [del_ne hb2, upd_ne hb2, upd_ne hb, upd_ne hb2]
/-- a class whose __init__ keeps its argument in a field -/
structure RaC (P : Program) (w : World) (K : PySem.W.Frag) (mg : Str → Option Value) (base : Heap) (k : Nat) (x : Str) (C : Addr) (fld : Str) : Prop where
  o : OexC K C
  glo : mg x = some (.ref C)
  ex : ∃ fI fd ps, PySem.W.findIn K (.ref C) "__init__" = some (some (.ref fI)) ∧ PySem.W.typeIn K (.ref fI) = some (.type "function") ∧ FnOk P w K mg base (L2.CX P w) k fI fd ps (spI C fld) ∧ Binds K fd ps []
theorem gs_raise {k : Nat} {C : Addr} {fld x : Str} {ek : EK} {e : Expr} {y : Ex} {px pos' : Pos} (rc : RaC X.prog X.w X.K X.mg X.base k x C fld) (hxc : p.xc ek = some (C, some fld)) (hc : X.calm = true) (tk : Takes X (fun cls d _ H => p.E cls d H)) (hr : Room (k + 1) X.A) (hg : Gl X x) (he : PE X e (tE p.non y))
    (hdb : (x == ("__debug__" : Str)) = false) (hst : starEach [e] X.env = (false, eval e X.env) :: starEach [] X.env) (hpl : (backTo pos (starEach [] X.env)).any (·.1) = false) :
    PS X (.Raise (some (.Call (.Name x px) [e] [] pos)) none pos') (tS p (.raise ek (some y))) := by
  obtain ⟨fI, fd, ps, iC, tI, F1, hb⟩ := rc.ex
  refine (ps_raise hc tk (pmk_oex rc.o iC tI F1 hr hb .nil passE0 hg rc.glo (ga_cons he ga_nil hst) hdb hst hpl)).imp fun D σ H ⟨en, lc, F, ρ, c, s, h⟩ => ?_
  unfold ex at h
  obtain ⟨d0, c1, e1, h1⟩ := os_bnd h
  have h1 : ErrW p en ek (some d0) := h1
  refine ⟨lc, F, ρ, c, s.at_non, ?_⟩
  show OutA p.non lc F H (evs p.Φ [y] ρ c) _
  have ee : evs p.Φ [y] ρ c = .ok ([d0], c1) := by
    unfold evs
    unfold G.C.bnd
    rw [e1]
    rfl
  rw [ee]
  intro vs F1 H1 x1 r1 k1
  obtain ⟨v, rfl, r⟩ := reps1 r1
  have s1 := s.step x1 k1
  refine ⟨by simp, fun a ha => ⟨a, v, rfl, upd_same, fun d hd hne => ⟨rfl, d, [(fld, v)], upd_same, ?_, ?_, ?_⟩⟩⟩
  · rw [upd_ne hne]; exact upd_same
  · rw [upd_ne hne] at hd; exact hd
  · have hd : H1 d = none := by rw [upd_ne hne] at hd; exact hd
    rw [del_upd3 ha hne]
    have xn : Ext lc F1 H1 (upd F1 d (.xd [(fld, v)])) (upd H1 d (.xd [(fld, v)])) := .new s1.inn hd
    refine h1 _ _ _ _ (s1.ext.comp xn s1.lcok) ?_
    unfold ExR
    rw [hxc]
    exact ⟨rfl, d, v, rfl, upd_same, r.mono xn.sub⟩
/-! ### try: name = call, except Class as name: suite -/
/-- the config of a handler -/
abbrev Cfg.hnd (p : Cfg) (z : Xn) (k : EK) (x : Option G.D) : Cfg := ⟨p.K, p.Φ.inn k x, p.own, p.cell, p.xc, p.E, some z, p.lock⟩
theorem StS.into {en : En} {lc : Option Addr} {F H : Hp} {ρ : Env} {σ : L2.St} {c : Cell} (s : StS p en lc F H ρ σ c) {i : Nat} {a : Addr} {cls : Value} {d : Option Addr} {k : EK} {x : Option G.D} (hi : get ρ i = none) (hl : i < ρ.length) (hc : p.cell ≠ some i) (r : ExR p.K p.xc k x cls d F) :
    StS (p.hnd ⟨i, a, cls, d⟩ k x) en lc F H ρ (σ.set i (some (.ref a))) c where
  inn := s.inn
  non := fun j e hj he => by
    have z : i ≠ j := fun z => by rw [z, he] at hi; cases hi
    rw [List.getElem?_set_ne z]
    exact s.non j e hj he
  own := fun j e hj he => by
    have z : i ≠ j := fun z => by rw [z, he] at hi; cases hi
    rw [List.getElem?_set_ne z]
    exact s.own j e hj he
  dist := fun j k d' e' l hj hk hjk ej ek sj sk => by
    have zj : i ≠ j := fun z => by rw [z, ej] at hi; cases hi
    have zk : i ≠ k := fun z => by rw [z, ek] at hi; cases hi
    rw [List.getElem?_set_ne zj] at sj
    rw [List.getElem?_set_ne zk] at sk
    exact s.dist j k d' e' l hj hk hjk ej ek sj sk
  cel := fun j l hj hl => by
    have z : i ≠ j := fun z => hc (z ▸ hj)
    rw [List.getElem?_set_ne z]
    exact s.cel j l hj hl
  len := by rw [List.length_set]; exact s.len
  cr := s.cr
  ext := s.ext
  kept := s.kept
  lcok := s.lcok
  exn := fun z hz => by
    cases hz
    exact ⟨List.getElem?_set_self (by rw [← s.len]; exact hl), k, x, rfl, r⟩
  xf := fun z hz => by
    cases hz
    exact hi
  lock := fun z hz => by
    obtain ⟨h1, h2, ⟨d, h3⟩, h4, h5⟩ := s.lock z hz
    have ne : i ≠ z.1 := fun e => by rw [e, h3] at hi; cases hi
    exact ⟨h1, h2, ⟨d, h3⟩, by rw [List.getElem?_set_ne ne]; exact h4, h5⟩
theorem StS.outof {en : En} {lc : Option Addr} {F H : Hp} {ρ : Env} {σ : L2.St} {c : Cell} {z : Xn} {k : EK} {x : Option G.D} (s : StS (p.hnd z k x) en lc F H ρ σ c) (hx : p.xn = none) (hc : p.cell ≠ some z.i) : StS p en lc F H ρ (σ.set z.i none) c := by
  have hi : get ρ z.i = none := s.xf z rfl
  exact {
    inn := s.inn
    non := fun j e hj he => by
      have z : z.i ≠ j := fun z => by rw [z, he] at hi; cases hi
      rw [List.getElem?_set_ne z]
      exact s.non j e hj he
    own := fun j e hj he => by
      have z : z.i ≠ j := fun z => by rw [z, he] at hi; cases hi
      rw [List.getElem?_set_ne z]
      exact s.own j e hj he
    dist := fun j k d' e' l hj hk hjk ej ek sj sk => by
      have zj : z.i ≠ j := fun z => by rw [z, ej] at hi; cases hi
      have zk : z.i ≠ k := fun z => by rw [z, ek] at hi; cases hi
      rw [List.getElem?_set_ne zj] at sj
      rw [List.getElem?_set_ne zk] at sk
      exact s.dist j k d' e' l hj hk hjk ej ek sj sk
    cel := fun j l hj hl => by
      have z : z.i ≠ j := fun z => hc (z ▸ hj)
      rw [List.getElem?_set_ne z]
      exact s.cel j l hj hl
    len := by rw [List.length_set]; exact s.len
    cr := s.cr
    ext := s.ext
    kept := s.kept
    lcok := s.lcok
    exn := fun z hz => by rw [show p.xn = some z from hz] at hx; cases hx
    xf := fun z hz => by rw [hz] at hx; cases hx
    lock := fun y hy => by
      obtain ⟨h1, h2, ⟨d, h3⟩, h4, h5⟩ := s.lock y hy
      have ne : z.i ≠ y.1 := fun e => by rw [e, h3] at hi; cases hi
      exact ⟨h1, h2, ⟨d, h3⟩, by rw [List.getElem?_set_ne ne]; exact h4, h5⟩ }
abbrev endsOut (D : Ends) (i : Nat) : Ends := { nx := fun σ' H' => D.nx (σ'.set i none) H', rt := D.rt, bk := fun σ' H' => D.bk (σ'.set i none) H', ct := fun σ' H' => D.ct (σ'.set i none) H' }
theorem OutS.into {en : En} {r : R (Fl × Cell)} {D : Ends} (h : OutS p en r D) {z : Xn} {k : EK} {x : Option G.D} (hx : p.xn = none) (hc : p.cell ≠ some z.i) : OutS (p.hnd z k x) en r (endsOut D z.i) := by
  match r, h with
  | .ok (.nx ρ, c), h => exact fun lc F H σ s => h lc F H _ (s.outof hx hc)
  | .ok (.rt d, c), h => exact h
  | .err _ _, h => exact h
/-- the body's call within the try: what is wished of its error tells of the slots -/
def tXW (p : Cfg) (n : Nat) (φ : List G.D → R G.D) (xs : List Ex) (W : WX) : TE := fun σ H Q => tA p.non xs σ H fun vs H1 => spX p.K n p.xc φ vs H1 Q fun cls d H2 => W cls d σ H2
theorem try_tX {t : XT} {n id i : Nat} {φ : List G.D → R G.D} {xs : List Ex} {hs : List Stm} {en : En} {lc : Option Addr} {F H : Hp} {ρ : Env} {σ : L2.St} {c : Cell} {D : Ends} {Q : VK} {cv : Value} {K0 : PySem.W.Frag} {Wout : WX} (hΦ : p.Φ.fn id = some φ) (hn : xs.length = n) (hx : p.xn = none) (hc : p.cell ≠ some i) (hK : p.K = K0)
    (hcl : ∀ k C fo, p.xc k = some (C, fo) → PySem.W.exmOne K0 (.ref C) cv = some true) (s : StS p en lc F H ρ σ c) (h : OutS p en (ex p.Φ (.tryS t id xs i hs) ρ c) D)
    (kq : ∀ d c1 v F2 H2, StS p en lc F2 H2 ρ σ c1 → Rep p.K F2 d v → OutS p en (xdone ρ t d c1) D → Q v H2) :
    tXW p n φ xs (wAs K0 cv i (fun a cls d D σ H => ∃ k x, tSs (p.hnd ⟨i, a, cls, d⟩ k x) hs D σ H) Wout D) σ H Q := by
  unfold ex at h
  obtain ⟨ds, c1, e, h1⟩ := os_bnd h
  obtain ⟨u, c2, eg, h2⟩ := os_bnd h1
  obtain ⟨hfr, e4⟩ := guard_ok eg
  subst e4
  obtain ⟨hfr, hlt⟩ := freeAt_ok hfr
  rw [hΦ] at h2
  refine ⟨lc, F, ρ, c, s.at_non, ?_⟩
  show OutA p.non lc F H (evs p.Φ xs ρ c) _
  rw [e]
  intro vs F1 H1 e1 r1 k1
  have s1 := s.step e1 k1
  refine ⟨by rw [← r1.length, evs_length e, hn], F1, ds, s1.inn, s1.ext.nt en.nt, fun P z => s1.ext.tab P (en.tb P z), r1, ?_⟩
  have h2 : OutS p en ((match φ ds with | .ok d => xdone ρ t d | .err k x => exs (p.Φ.inn k x) hs ρ | .stuck => C.stk) c2) D := h2
  cases eφ : φ ds with
  | ok d =>
    rw [eφ] at h2
    exact fun v G' H' e' r' => kq d c2 v G' H' (s1.step e'.any (k1.ext e')) r' h2
  | err k x =>
    rw [eφ] at h2
    intro cls d G' H' e' r'
    have s2 := s1.step (e'.any (lc := lc)) (k1.ext e')
    have hcls : ∃ C fo, p.xc k = some (C, fo) ∧ cls = .ref C := by
      unfold ExR at r'
      split at r'
      · rename_i C hk; exact ⟨C, none, hk, r'.1⟩
      · rename_i C f y hk; exact ⟨C, some f, hk, r'.1⟩
      · exact r'.elim
    obtain ⟨C, fo, hk, rfl⟩ := hcls
    refine ⟨true, hcl k C fo hk, fun _ a ha => ⟨k, x, en, lc, G', ρ, c2, s2.into hfr hlt hc r', h2.into hx hc⟩, fun z => by cases z⟩
  | stuck => rw [eφ] at h2; exact h2.elim
theorem gs_trySet {n id i j : Nat} {φ : List G.D → R G.D} {xs : List Ex} {hs : List Stm} {x y xn : Str} {cv : Value} {e : Expr} {b₀ : Stmt} {suite : List Stmt} {py np pos1 pos' : Pos} (hΦ : p.Φ.fn id = some φ) (hn : xs.length = n) (hK : p.K = X.K) (hxn : p.xn = none) (hc : p.cell ≠ some i) (ok : okTg p (.nm j) = true)
    (hcl : ∀ k C fo, p.xc k = some (C, fo) → PySem.W.exmOne X.K (.ref C) cv = some true) (hst : X.stack = X.env :: X.outer) (hfr : X.env.frame = some X.env.locals) (hN : X.N.Nodup) (hi : X.N[i]? = some xn) (hln : X.env.kindOf xn = some .local) (hcn : Names X x cv)
    (hj : X.N[j]? = some y) (hy : Loc X.env.scope y) (hsw : swapsWith e (some (.Name y py)) pos1.line X.env = pure false) (hf : X.fn y = true ∨ X.env.scope.names.lookup y = some .local)
    (he : ∀ (W : WX) (pn : List (Addr × Obj)) (xe : Value → Shared → Prop), Takes (X.tr pn xe) W → PE (X.tr pn xe) e (tXW p n φ xs W))
    (hh : ∀ (a : Addr) (oe : Obj) (cls : Value) (d : Option Addr) (pn : List (Addr × Obj)) (k : EK) (x : Option G.D), Zc cls d oe → (∃ vs, oe.data = .fields vs) → PSs (X.suite a ((a, oe) :: pn)) (b₀ :: suite) (tSs (p.hnd ⟨i, a, cls, d⟩ k x) hs)) :
    PS X (.Try [.Assign [.Name y py] e pos1] [.ExceptHandler (some (.Name x np)) (some xn) (b₀ :: suite) pos'] [] [] pos) (tS p (.tryS (.set (.nm j)) id xs i hs)) := by
  refine (ps_try_as (Wout := fun _ _ _ _ => False) (tb := fun W => tSeq (tAsg (tXW p n φ xs W) (gName j)) tNext) (ts := fun a cls d D σ H => ∃ k x, tSs (p.hnd ⟨i, a, cls, d⟩ k x) hs D σ H) hst hfr hN hi hln hcn takes0
    (fun W pn xe tk _ => pss_cons (ps_set (X := X.tr pn xe) hN hj hy (he W pn xe tk) hsw hf) pss_nil)
    (fun a oe cls d pn hz hd => ⟨fun pins s σ H D I ⟨k, x, h⟩ => (hh a oe cls d pn k x hz hd).run pins s σ H D I h⟩)).imp fun D σ H ⟨en, lc, F, ρ, c, s, h⟩ => ?_
  refine try_tX hΦ hn hxn hc hK hcl s h fun d c1 v F2 H2 s2 r2 h2 => ?_
  unfold xdone at h2
  obtain ⟨ρ', c2, e2, h3⟩ := os_bnd h2
  obtain ⟨e3, e4⟩ := opt_ok e2
  subst e4
  have := asg_put (Q := fun σ' H' => D.nx σ' H') s2 ok e3 r2 fun σ' s3 => h3 lc F2 H2 σ' s3
  simp only [gT] at this
  exact this
/-! ### what a handler asks -/
theorem exr_fld {P : Pl} {k k' : EK} {x : Option G.D} {cls : Value} {d : Option Addr} {F : Hp} {w : G.D} {C : Addr} {f : Str} (e : errFldD k (some (k', x)) = some w) (hxc : P.xc k = some (C, some f)) (r : ExR P.K P.xc k' x cls d F) : cls = .ref C ∧ ∃ a v, d = some a ∧ F a = some (.xd [(f, v)]) ∧ Rep P.K F w v := by
  cases x with
  | none => cases e
  | some y =>
    unfold errFldD at e
    dsimp only at e
    split at e
    · rename_i hk
      subst hk
      cases e
      unfold ExR at r
      rw [hxc] at r
      exact r
    · cases e
/-- error.field -/
theorem ge_errFld {P : Pl} {i : Nat} {k : EK} {C a : Addr} {cls : Value} {d : Option Addr} {oe : Obj} {pn : List (Addr × Obj)} {f n : Str} {pn' : Pos} (hP : P.xn = some ⟨i, a, cls, d⟩) (hxc : P.xc k = some (C, some f)) (T : XfC X.K C) (hno : PySem.W.findIn X.K (.ref C) f = some none) (hz : Zc cls d oe) (hf : ∃ vs, oe.data = .fields vs)
    (hN : X.N[i]? = some n) (hv : Vis X.env.scope n) (hd : (n == ("__debug__" : Str)) = false) (hcd : (n == ("__classdict__" : Str)) = false) (hb : attributeBase (.Name n pn') f X.env (eval (.Name n pn') X.env) = eval (.Name n pn') X.env) :
    PE (X.suite a ((a, oe) :: pn)) (.Attribute (.Name n pn') f pos) (tE P (.errFld k)) := by
  refine (pe_xf T hno hz hf (pe_var (X := X.suite a ((a, oe) :: pn)) hN hv hd hcd) hb).imp fun σ H Q ⟨lc, F, ρ, c, at_, h⟩ => ?_
  unfold ev at h
  obtain ⟨w, e, h⟩ := h.opt
  obtain ⟨h1, k', x, h2, h3⟩ := at_.exn _ hP
  rw [h2] at e
  obtain ⟨ec, a', v, h4, h5, h6⟩ := exr_fld e hxc h3
  exact ⟨.ref a, h1, rfl, ec, a', _, v, h4, at_.inn _ _ h5, by simp [List.lookup], h.out at_.inn h6 at_.cel⟩
def rIsX (K : PySem.W.Frag) (a : Addr) (cls : Value) (d : Option Addr) : List V → Hp → VK → Prop := fun xs H Q => ∃ (D : Addr) (c : V) (cv : Value) (b : Bool), cls = .ref D ∧ ExcC K D ∧ (d = none ∨ ∃ dd fs, d = some dd ∧ H dd = some (.xd fs)) ∧ xs = [.ref a, c] ∧ (∀ u, L2.RelV c u → u = cv) ∧ PySem.W.kitOne K (.ref D) cv = some b ∧ Q (.bl b) H
theorem call_isX {a : Addr} {cls : Value} {d : Option Addr} {oe : Obj} {pn : List (Addr × Obj)} (hz : Zc cls d oe) (hf : ∃ vs, oe.data = .fields vs) : CallR (X.suite a ((a, oe) :: pn)) (.builtin "isinstance") (rIsX X.K a cls d) := by
  intro pins s σ H xs us Q I r h
  obtain ⟨D, c, cv, b, ec, C, hd, rfl, hcv, e, q⟩ := h
  cases r with
  | cons rx rr =>
    cases rr with
    | cons rt rr =>
      cases rr
      cases rx
      have ecv := hcv _ rt
      subst ecv
      obtain ⟨hget, _⟩ := I.pin (a, oe) (List.mem_append.mpr (.inl List.mem_cons_self))
      obtain ⟨vs, hv⟩ := hf
      have J : ∃ od, PySem.W.InstAt s.heap a oe D od := by
        obtain ⟨oc, odd, oda, osl⟩ := oe
        obtain ⟨h1, h2⟩ := hz
        dsimp only at h1 h2 hv
        subst h2 hv
        rw [ec] at h1
        subst h1
        rcases hd with hd | ⟨dd, fs, hd, hH⟩
        · subst hd
          exact ⟨none, hget, rfl, rfl, trivial⟩
        · subst hd
          have hx : ObjOk X.prog X.w H s.heap dd (.xd fs) := I.hok dd _ hH
          obtain ⟨mA, ⟨o, es, ep, ho, _⟩, _⟩ := hx
          exact ⟨some o, hget, rfl, rfl, ho⟩
      obtain ⟨od, J⟩ := J
      obtain ⟨cd, hcd, _⟩ := PySem.W.any_some C.hd
      exact PySem.W.kia_one (PySem.W.kitx_exc (by rw [hcd]; rfl) C.hg C.hk C.hs C.ha C.hn C.ht C.hm) I.kIn J e (fun z => nomatch z) fun tk => ⟨.bl b, H, I.kept (t' := tk) fun _ _ z => z, rfl, q⟩
/-- isinstance(error, Class) -/
theorem ge_errIs {P : Pl} {i : Nat} {ks : List EK} {a : Addr} {cls : Value} {d : Option Addr} {oe : Obj} {pn : List (Addr × Obj)} {n x2 : Str} {pn' pf p2 : Pos} {cu : Value} {cV : V} (hP : P.xn = some ⟨i, a, cls, d⟩) (hrel : L2.RelV cV cu) (hun : ∀ u, L2.RelV cV u → u = cu)
    (hki : ∀ k C fo, P.xc k = some (C, fo) → ExcC X.K C ∧ PySem.W.kitOne X.K (.ref C) cu = some (ks.contains k)) (hz : Zc cls d oe) (hf : ∃ vs, oe.data = .fields vs)
    (hN : X.N[i]? = some n) (hv : Vis X.env.scope n) (hd : (n == ("__debug__" : Str)) = false) (hcd : (n == ("__classdict__" : Str)) = false) (hg : Gl X "isinstance") (hm : X.mg "isinstance" = none)
    (h2 : PE (X.suite a ((a, oe) :: pn)) (.Name x2 p2) (tC cV)) (he : starEach [.Name n pn', .Name x2 p2] X.env = (false, eval (.Name n pn') X.env) :: starEach [.Name x2 p2] X.env) (he2 : starEach [.Name x2 p2] X.env = (false, eval (.Name x2 p2) X.env) :: starEach [] X.env) :
    PE (X.suite a ((a, oe) :: pn)) (.Call (.Name "isinstance" pf) [.Name n pn', .Name x2 p2] [] pos) (tE P (.errIs ks)) := by
  refine (pe_callB (X := X.suite a ((a, oe) :: pn)) (call_isX hz hf) hg hm PyProof.Rows.boot_isinstance (pa_cons (pe_var (X := X.suite a ((a, oe) :: pn)) hN hv hd hcd) (pa_cons h2 pa_nil he2) he) (by decide +kernel) (by decide +kernel) he (by rw [he2]; rfl)).imp fun σ H Q ⟨lc, F, ρ, c, at_, h⟩ => ?_
  unfold ev at h
  obtain ⟨w, e, h⟩ := h.opt
  obtain ⟨h1, k', x, h2', h3⟩ := at_.exn _ hP
  rw [h2'] at e
  cases e
  have hC : ∃ C fo, P.xc k' = some (C, fo) ∧ cls = .ref C ∧ (d = none ∨ ∃ dd fs, d = some dd ∧ H dd = some (.xd fs)) := by
    unfold ExR at h3
    split at h3
    · rename_i C hk; exact ⟨C, none, hk, h3.1, .inl h3.2⟩
    · rename_i C f y hk
      obtain ⟨q1, a', v, q2, q3, q4⟩ := h3
      exact ⟨C, some f, hk, q1, .inr ⟨a', _, q2, at_.inn _ _ q3⟩⟩
    · exact h3.elim
  obtain ⟨C, fo, hk, hcls, hd'⟩ := hC
  obtain ⟨q1, q2⟩ := hki k' C fo hk
  exact ⟨.ref a, h1, ⟨C, cV, cu, _, hcls, q1, hd', rfl, hun, q2, h.out (d := .bl (ks.contains k')) at_.inn rfl at_.cel⟩⟩
end
end G
/-! G20: the head's facts of own errors. -/
namespace G
open PySem PySem.Spec PySem.W L2 He
variable [TQ]
/-- an error class whose __init__ says super().__init__(x) and keeps x -/
structure IniD where
  cls : Str
  fld : Str
  arg : Str
  name : Str
  qual : Str
  params : Arguments
  body : List Stmt
  scope : Scope
abbrev IniW : Type := Option (Str × Str × Arguments × FuncBody × Scope × Addr × List Str × Addr)
def iniW (K : PySem.W.Frag) (d : IniD) : IniW := match K.lookup (ma K (ga K d.cls) "__init__") with
  | some ⟨_, _, .func fd, _⟩ => some (fd.name, fd.qualname, fd.params, fd.body, fd.scope, fd.globals, fd.closure.map (·.1), fd.builtins)
  | _ => none
def IniD.val (d : IniD) : IniW := some (d.name, d.qual, d.params, .stmts d.body, d.scope, mainGlobals, ["__class__"], builtinsNs)
/-- the class's object -/
def oexB (K : PySem.W.Frag) (C : Addr) : Bool := (match K.lookup C with
  | some ⟨.type "type", _, .cls cd, sl⟩ => (match cd.mro, sl.toList with
    | .ref C' :: bm, [_, _, _, _, some (.builtin n), _] => C' == C && n == "ValueError.__new__" && !cd.hasDel && cd.hasDict && PySem.HandSPX.refsVE bm
    | _, _ => false)
  | _ => false) && (eqO (findIn K (.ref C) "__setattr__") (some (some (.builtin "object.__setattr__"))) && (decide (subIn K (.ref C) (.type "BaseException") = some true) && (decide (typeIn K (.ref C) = some (.type "type")) && keepIn K (.ref C))))
theorem oexB_ok {K : PySem.W.Frag} {C : Addr} (h : oexB K C = true) : OexC K C := by
  obtain ⟨q, h⟩ := ba h
  obtain ⟨h1, h⟩ := ba h
  obtain ⟨h2, h⟩ := ba h
  obtain ⟨h3, h4⟩ := ba h
  refine ⟨?_, eqO_ok h1, of_decide_eq_true h2, of_decide_eq_true h3, h4⟩
  split at q
  · rename_i dd cd sl ho
    split at q
    · rename_i C' bm k0 k1 k2 k3 n k5 hm hs
      simp only [Bool.and_eq_true, beq_iff_eq, Bool.not_eq_true'] at q
      obtain ⟨⟨⟨⟨rfl, rfl⟩, hdel⟩, hdc⟩, ht⟩ := q
      obtain ⟨nm, bs, mro, ns, qn, hd, sn, sb, ab, col, del⟩ := cd
      dsimp only at hm hdel hdc
      subst hm hdel hdc
      have hsl : sl = #[k0, k1, k2, k3, some (.builtin "ValueError.__new__"), k5] := by
        obtain ⟨l⟩ := sl
        simp only at hs
        rw [hs]
      subst hsl
      exact ⟨nm, qn, ns, bs, bm, sn, sb, ab, col, dd, k0, k1, k2, k3, k5, ho, ht⟩
    · cases q
  · cases q
/-- what is asked of the init def -/
def codB (K : PySem.W.Frag) (C : Addr) (qual file : Str) (fd : FuncData) : Bool := codeIn K fd.code qual && ((match fd.defaults with | .none => true | _ => false) && ((match fd.code with
  | .ref cda => (match K.lookup cda with
    | some ⟨_, _, .fields vs, _⟩ => (match (vs[2]? : Option Value) with
      | some (.str f2 _) => decide (f2 = file)
      | _ => false)
    | _ => false)
  | _ => false) && (match fd.closure with
  | [(_, cc)] => (match K.lookup cc with
    | some ⟨_, _, .cell (some (.ref C')), _⟩ => decide (C' = C)
    | _ => false)
  | _ => false)))
def iniB (K : PySem.W.Frag) (file : Str) (d : IniD) : Bool :=
  oexB K (ga K d.cls) && (eqO (nsIn K mainGlobals d.cls) (some (some (.ref (ga K d.cls)))) && (eqO (findIn K (.ref (ga K d.cls)) "__init__") (some (some (.ref (ma K (ga K d.cls) "__init__")))) && (decide (typeIn K (.ref (ma K (ga K d.cls) "__init__")) = some (.type "function")) &&
  (eqO (ks_superIn K (ga K d.cls) (ga K d.cls) "__init__") (some (some (.builtin "ValueError.__init__"))) && (eqO (nsIn K cStatics "thirdparty.any") (some none) && (decide (mroIn K (ga K d.cls) (.ref (ga K d.cls)) = some true) && (decide (subIn K (.ref (ga K d.cls)) (.type "ValueError") = some true) &&
  (eqO (nsIn K mainGlobals "super") (some none) && (eqO (findIn K (.ref (ga K d.cls)) d.fld) (some none) && (match K.lookup (ma K (ga K d.cls) "__init__") with
    | some ⟨_, _, .func fd, _⟩ => codB K (ga K d.cls) d.qual file fd
    | _ => false))))))))))
theorem ini_ra {P : Program} {w : World} {K : PySem.W.Frag} {mg : Str → Option Value} {base : Heap} {d : IniD} {p0 p1 p2 p3 p4 p5 p6 p7 p8 p9 : Pos} (e : iniW K d = d.val) (c : iniB K P.main.file d = true) (X : K.In base) (G : base.Ns mainGlobals mg)
    (hbody : d.body = initBody d.arg d.fld p0 p1 p2 p3 p4 p5 p6 p7 p8 p9)
    (hco : d.scope.isCoroutine = false) (hgen : d.scope.isGenerator = false) (hk : d.scope.kind = .function) (hcells : ∀ x ∈ d.scope.names, x.2 ≠ .cell)
    (hsup : d.scope.names.lookup ("super" : Str) = some .globalImplicit) (hcls : d.scope.names.lookup ("__class__" : Str) = some .free) (hself : d.scope.names.lookup ("self" : Str) = some .local) (harg : d.scope.names.lookup d.arg = some .local)
    (hpar : ∃ ar, (d.params.posonlyargs ++ d.params.args).head? = some ar ∧ ar.arg = ("self" : Str)) (hne : d.arg ≠ ("self" : Str)) (hdb : (d.arg == ("__debug__" : Str)) = false)
    (htop : (P.main.scope.names.lookup ("super" : Str)).isSome = false)
    (hbind : ∀ (kV doc pm : Value) (an : Option Addr) (cdv ct : Value) (cc : Addr) (us : List Value), us.length = 2 → bindArgs (ksFn d.name d.qual d.params d.body d.scope .none kV doc pm an cdv ct cc) ⟨us, []⟩ = pure (([("self" : Str), d.arg] : List Str).zip us))
    (hsw : ∀ env, swapsWith (.Name d.arg p8) (some (.Attribute (.Name "self" p6) d.fld p7)) p9.line env = pure false)
    (hev : ∀ f cda cc L : Addr, ∃ pl : Sem Bool, eval (.Call (.Attribute (.Call (.Name "super" p0) [] [] p1) "__init__" p2) [.Name d.arg p3] [] p4) (ksEnv d.qual d.scope L f (.ref cda) cc) = (do
      let ov ← attributeBase (.Call (.Name "super" p0) [] [] p1) "__init__" (ksEnv d.qual d.scope L f (.ref cda) cc) (eval (.Call (.Name "super" p0) [] [] p1) (ksEnv d.qual d.scope L f (.ref cda) cc))
      standAt p2.atName
      let (f2, first) ← holding [ov] (getMethod ov "__init__" pl)
      callWith p4 f2 first (backTo p4 (starEach [.Name d.arg p3] (ksEnv d.qual d.scope L f (.ref cda) cc))) []))
    (hin : ∀ f cda cc L : Addr, interactive (ksEnv d.qual d.scope L f (.ref cda) cc) = false)
    (hst : ∀ f cda cc L : Addr, starEach [.Name d.arg p3] (ksEnv d.qual d.scope L f (.ref cda) cc) = (false, eval (.Name d.arg p3) (ksEnv d.qual d.scope L f (.ref cda) cc)) :: starEach [] (ksEnv d.qual d.scope L f (.ref cda) cc)) :
    RaC P w K mg base 1 d.cls (ga K d.cls) d.fld := by
  obtain ⟨b1, c⟩ := ba c
  obtain ⟨b2, c⟩ := ba c
  obtain ⟨b3, c⟩ := ba c
  obtain ⟨b4, c⟩ := ba c
  obtain ⟨b5, c⟩ := ba c
  obtain ⟨b6, c⟩ := ba c
  obtain ⟨b7, c⟩ := ba c
  obtain ⟨b8, c⟩ := ba c
  obtain ⟨b9, c⟩ := ba c
  obtain ⟨b10, c⟩ := ba c
  have O := oexB_ok b1
  unfold iniW at e
  cases q : K.lookup (ma K (ga K d.cls) "__init__") with
  | none => rw [q] at c; cases c
  | some o =>
    obtain ⟨oc, od, dt, osl⟩ := o
    rw [q] at c e
    cases dt with
    | func fd =>
      obtain ⟨n1, n2, n3, n4, n5, n6, n7, n8, n9, n10, n11, n12, n13, n14, n15⟩ := fd
      have e2 : (some (n1, n2, n3, n4, n5, n6, n7.map (·.1), n15) : IniW) = (some (d.name, d.qual, d.params, FuncBody.stmts d.body, d.scope, mainGlobals, [("__class__" : Str)], builtinsNs) : IniW) := e
      simp only [Option.some.injEq, Prod.mk.injEq] at e2
      obtain ⟨h1, h2, h3, h4, h5, h6, h7, h8⟩ := e2
      subst h1 h2 h3 h4 h5 h6 h8
      have c2 : codB K (ga K d.cls) d.qual P.main.file ⟨d.name, d.qual, d.params, .stmts d.body, d.scope, mainGlobals, n7, n8, n9, n10, n11, n12, n13, n14, builtinsNs⟩ = true := c
      obtain ⟨k1, c2⟩ := ba c2
      obtain ⟨k2, c2⟩ := ba c2
      obtain ⟨k3, k4⟩ := ba c2
      dsimp only at k1 k2 k3 k4
      have hcl : ∃ cc, n7 = [(("__class__" : Str), cc)] := by
        match n7, h7 with
        | [(y, cc)], h7 =>
          have : y = ("__class__" : Str) := by simpa using h7
          exact ⟨cc, by rw [this]⟩
      obtain ⟨cc, rfl⟩ := hcl
      have hdf : n8 = .none := by
        cases n8 <;> first | rfl | cases k2
      subst hdf
      have hcr : ∃ cda, n13 = .ref cda := by
        cases n13 <;> first | exact ⟨_, rfl⟩ | cases k1
      obtain ⟨cda, rfl⟩ := hcr
      have hcode : ∃ ccl cdd vs ccs tf, K.lookup cda = some ⟨ccl, cdd, .fields vs, ccs⟩ ∧ vs[2]? = some (.str P.main.file tf) := by
        dsimp only at k3
        split at k3
        · rename_i ccl cdd vs ccs hh
          split at k3
          · rename_i f2 tf hv
            have : f2 = P.main.file := of_decide_eq_true k3
            subst this
            exact ⟨ccl, cdd, vs, ccs, tf, hh, hv⟩
          · cases k3
        · cases k3
      have hcell : ∃ cl cld csl, K.lookup cc = some ⟨cl, cld, .cell (some (.ref (ga K d.cls))), csl⟩ := by
        dsimp only at k4
        split at k4
        · rename_i cl cld C' csl hh
          have : C' = ga K d.cls := of_decide_eq_true k4
          subst this
          exact ⟨cl, cld, csl, hh⟩
        · cases k4
      have hm : mg d.cls = some (.ref (ga K d.cls)) := mg_of X G (eqO_ok b2)
      refine ⟨O, hm, _, _, ["self", d.arg], eqO_ok b3, of_decide_eq_true b4, ?_, .all (hbind n9 n10 n11 n12 (.ref cda) n14 cc)⟩
      rw [hbody] at q
      have := init_super (P := P) (w := w) (K := K) (mg := mg) (base := base) (CX := L2.CX P w) (k := 0) (f := ma K (ga K d.cls) "__init__") (C := ga K d.cls) (cc := cc) (cda := cda) (name := d.name) (qual := d.qual) (fld := d.fld) (arg := d.arg) (params := d.params) (scope := d.scope) q k1
        ⟨O, hcell, hcode, eqO_ok b5, eqO_ok b6, of_decide_eq_true b7, of_decide_eq_true b8, eqO_ok b9⟩ (eqO_ok b10) hco hgen hk hcells hsup hcls hself harg hpar hne hdb htop hsw (hev _ _ _) (hin _ _ _) (hst _ _ _)
      rw [hbody]
      exact this
    | _ => cases c
/-! ### the classes of errors -/
structure ErrD where
  k : EK
  cls : Str
  fld : Option Str
def xcOf (K : PySem.W.Frag) (l : List ErrD) : XC := fun k => (l.find? fun q => decide (q.k = k)).map fun q => (ga K q.cls, q.fld)
theorem xcOf_mem {K : PySem.W.Frag} {l : List ErrD} {k : EK} {C : Addr} {fo : Option Str} (h : xcOf K l k = some (C, fo)) : ∃ q ∈ l, q.k = k ∧ ga K q.cls = C ∧ q.fld = fo := by
  obtain ⟨q, h1, h2⟩ := Option.map_eq_some_iff.mp h
  cases h2
  exact ⟨q, List.mem_of_find?_eq_some h1, of_decide_eq_true (List.find?_some (p := fun q : ErrD => decide (q.k = k)) h1), rfl, rfl⟩
/-- except x catches them all -/
def exmB (K : PySem.W.Frag) (l : List ErrD) (x : Str) : Bool := l.all fun q => decide (exmOne K (.ref (ga K q.cls)) (.ref (ga K x)) = some true)
theorem exmB_ok {K : PySem.W.Frag} {l : List ErrD} {x : Str} (h : exmB K l x = true) : ∀ k C fo, xcOf K l k = some (C, fo) → exmOne K (.ref C) (.ref (ga K x)) = some true := fun k C fo e => by
  obtain ⟨q, h1, h2, h3, h4⟩ := xcOf_mem e
  subst h3
  exact of_decide_eq_true (List.all_eq_true.mp h q h1)
def excB (K : PySem.W.Frag) (C : Addr) : Bool := eqO (findIn K (.ref C) "__getattribute__") (some (some (.builtin "BaseException.__getattribute__"))) && (eqO (findIn K (.ref C) "__getattr__") (some none) && (decide (subIn K (.ref C) (.type "BaseException") = some true) && (hasDictIn K C &&
  (eqO (findIn K (.ref C) "__class__") (some (some (.builtin "object.__class__"))) && (eqO (specialIn K (.builtin "object.__class__") "__get__") (some (some (.builtin "getset_descriptor.__get__"))) && (decide (takesIn K (.builtin "object.__class__") = some true) && decide (mroIn K C (.type "object") = some true)))))))
theorem excB_ok {K : PySem.W.Frag} {C : Addr} (h : excB K C = true) : ExcC K C := by
  obtain ⟨h1, h⟩ := ba h
  obtain ⟨h2, h⟩ := ba h
  obtain ⟨h3, h⟩ := ba h
  obtain ⟨h4, h⟩ := ba h
  obtain ⟨h5, h⟩ := ba h
  obtain ⟨h6, h⟩ := ba h
  obtain ⟨h7, h8⟩ := ba h
  exact ⟨eqO_ok h1, eqO_ok h2, of_decide_eq_true h3, h4, eqO_ok h5, eqO_ok h6, of_decide_eq_true h7, of_decide_eq_true h8⟩
/-- isinstance(error, x) -/
def kitB (K : PySem.W.Frag) (l : List ErrD) (x : Str) (ks : List EK) : Bool := l.all fun q => excB K (ga K q.cls) && decide (kitOne K (.ref (ga K q.cls)) (.ref (ga K x)) = some (ks.contains q.k))
theorem kitB_ok {K : PySem.W.Frag} {l : List ErrD} {x : Str} {ks : List EK} (h : kitB K l x ks = true) : ∀ k C fo, xcOf K l k = some (C, fo) → ExcC K C ∧ kitOne K (.ref C) (.ref (ga K x)) = some (ks.contains k) := fun k C fo e => by
  obtain ⟨q, h1, h2, h3, h4⟩ := xcOf_mem e
  subst h2 h3
  obtain ⟨z1, z2⟩ := ba (List.all_eq_true.mp h q h1)
  exact ⟨excB_ok z1, of_decide_eq_true z2⟩
/-- error.f -/
def fldB (K : PySem.W.Frag) (x f : Str) : Bool := xfB K (ga K x) && eqO (findIn K (.ref (ga K x)) f) (some none)
theorem fldB_ok {K : PySem.W.Frag} {x f : Str} (h : fldB K x f = true) : XfC K (ga K x) ∧ findIn K (.ref (ga K x)) f = some none := by
  obtain ⟨h1, h2⟩ := ba h
  exact ⟨xfB_ok h1, eqO_ok h2⟩
def gloB (K : PySem.W.Frag) (x : Str) : Bool := eqO (nsIn K mainGlobals x) (some (some (.ref (ga K x))))
theorem gloB_ok {K : PySem.W.Frag} {x : Str} (h : gloB K x = true) {base : Heap} {mg : Str → Option Value} (X : K.In base) (G : base.Ns mainGlobals mg) : mg x = some (.ref (ga K x)) := mg_of X G (eqO_ok h)
/-! ### the hook -/
abbrev AlE : Type := AlD × List IniW × Bool
def obsE (fa : List Fa) (fn : List DefD) (ini : List IniD) (ex : PySem.W.Frag → Bool) (K : PySem.W.Frag) : AlE := (obsD fa fn K, ini.map (iniW K), ex K)
def valE (fn : List DefD) (ini : List IniD) : AlE := (valD fn, ini.map IniD.val, true)
def SaysE (fa : List Fa) (fn : List DefD) (ini : List IniD) (ex : PySem.W.Frag → Bool) (K : PySem.W.Frag) : Prop := obsE fa fn ini ex K = valE fn ini
def obsEG (n : Nat) (fa : List Fa) (fn : List DefD) (ini : List IniD) (ex : PySem.W.Frag → Bool) (g : Addr → Option Obj) : AlE := obsE fa fn ini ex (frG g (cStatics :: asD g n))
def hookE (n : Nat) (fa : List Fa) (fn : List DefD) (ini : List IniD) (ex : PySem.W.Frag → Bool) : PySem.W.Hook where
  α := AlE
  obs := fun s => obsEG n fa fn ini ex s.heap.get?
  val := fun _ => valE fn ini
  says := fun _ h => ∃ K : PySem.W.Frag, K.In h ∧ SaysE fa fn ini ex K
  of := fun _ _ e => ⟨_, frG_in, e⟩
  keeps := fun _ _ _ ⟨K, hK, c⟩ k => ⟨K, PySem.W.Frag.In.keeps hK k, c⟩
theorem obsEG_eq {n : Nat} {fa : List Fa} {fn : List DefD} {ini : List IniD} {ex : PySem.W.Frag → Bool} {g : Addr → Option Obj} {s : Shared} (h : ∀ a, g a = s.heap.get? a) : obsEG n fa fn ini ex g = (hookE n fa fn ini ex).obs s := by
  have e : g = s.heap.get? := funext h
  rw [e] <;> rfl
section
variable {fa : List Fa} {fn : List DefD} {il : List IniD} {ex : PySem.W.Frag → Bool} {K : PySem.W.Frag}
theorem SaysE.d (c : SaysE fa fn il ex K) : SaysD fa fn K := congrArg (fun z : AlE => z.1) c
theorem SaysE.ini (c : SaysE fa fn il ex K) (i : Nat) {d : IniD} (h : il[i]? = some d := by rfl) : iniW K d = d.val := by
  have e : il.map (iniW K) = il.map IniD.val := congrArg (fun z : AlE => z.2.1) c
  have e2 : (il.map (iniW K))[i]? = (il.map IniD.val)[i]? := by rw [e]
  rw [List.getElem?_map, List.getElem?_map, h] at e2
  exact Option.some.inj e2
theorem SaysE.more (c : SaysE fa fn il ex K) : ex K = true := congrArg (fun z : AlE => z.2.2) c
end
end G
/-! GO: dicts, while, pop in short. -/
namespace G
open PySem L2
variable [TQ]
section
variable {X : Cx} {P : Pl} {p : Cfg} {pos : Pos}
theorem f_dnew : PE X (.Dict [] [] pos) (tF P .dnew) := gf_dnew
theorem f_slc {a : Expr} {lo hi : Option Expr} {x y z : Ex} {tl th : TO} {p2 : Pos} (ok : Ok P X) (ha : PE X a (tE P x)) (hl : PO X lo tl ∧ PartR P y tl) (hu : PO X hi th ∧ PartR P z th) : PE X (.Subscript a (.Slice lo hi none p2) pos) (tF P (.slc x y z)) := gf_slc ok ha hl.1 hu.1 hl.2 hu.2
theorem f_dsorted {o : Expr} {x : Ex} {q pos2 apos : Pos} (ok : Ok P X) (hm : X.mg "sorted" = none) (ha : PE X o (tE P x)) (hg : Gl X "sorted" := by rfl) (hbase : attributeBase o "keys" X.env (eval o X.env) = eval o X.env := by rfl) (hline : (apos.endLine == pos2.line) = true := by rfl)
    (he : starEach [.Call (.Attribute o "keys" apos) [] [] pos2] X.env = (false, eval (.Call (.Attribute o "keys" apos) [] [] pos2) X.env) :: starEach [] X.env := by rfl) :
    PE X (.Call (.Name "sorted" q) [.Call (.Attribute o "keys" apos) [] [] pos2] [] pos) (tF P (.blt .dsorted [x])) := gf_dsorted ok hm ha hg hbase hline he
theorem k_dget {o e f : Expr} {x y z : Ex} {apos cpos : Pos} (ok : Ok P X) (ho : PE X o (tE P x)) (he : PE X e (tE P y)) (hf : PE X f (tE P z)) (hbase : attributeBase o "get" X.env (eval o X.env) = eval o X.env := by rfl)
    (few : ((backTo cpos (starEach [e, f] X.env)).all (fun x => !x.1) && (backToKw cpos (keywordEach [] X.env)).all (fun x => x.1.isSome)
      && decide (([e, f] : List Expr).length + ([] : List Keyword).length + (if ([] : List Keyword).isEmpty then 0 else 1) < 30)) = true := by rfl) (line : (apos.endLine == cpos.line) = true := by rfl)
    (trees : backTo cpos (starEach [e, f] X.env) = [(false, eval e X.env), (false, eval f X.env)] := by rfl) : PE X (.Call (.Attribute o "get" apos) [e, f] [] cpos) (tE P (.blt .dget [x, y, z])) := ge_dget ok ho he hf ⟨hbase, few, line, trees⟩
theorem s_setD {chk : Bool} (i : Nat) {x : Str} {px pt : Pos} {b e : Expr} {k y : Ex} (ok : Ok p.non X) (hb : PE X b (tE (p.md chk) k)) (he : PE X e (tE (p.md chk) y)) (hi : p.own.contains i = true) (hkl : p.lock.contains i = false) (hN : X.N[i]? = some x) (hv : Vis X.env.scope x) (hd : (x == ("__debug__" : Str)) = false) (hcd : (x == ("__classdict__" : Str)) = false)
    (hs : swapsWithSole [.Subscript (.Name x px) b pt] e pos.line X.env = pure false) (hw : swappedStores [.Subscript (.Name x px) b pt] e X.env = pure none) (h1 : (assignEach [.Subscript (.Name x px) b pt] X.env).map (·.2) = [PySem.assign (.Subscript (.Name x px) b pt) X.env])
    (ha : ∀ v, PySem.assign (.Subscript (.Name x px) b pt) X.env v = (do
      let ov ← holding [v] (eval (.Name x px) X.env)
      let iv ← holding [v, ov] (eval b X.env)
      standAt pt
      holding [v, ov, iv] (setItem ov iv v)
      release [v, ov, iv] [])) : PS X (.Assign [.Subscript (.Name x px) b pt] e pos) (tS p (.setD chk i k y)) :=
  gs_setD ok.K (by have := ok.hu; omega) (by simpa using hi) (by simpa using hkl) hN hv hd hcd he hb hs hw h1 ha
theorem s_setDN (i : Nat) {x : Str} {px pt : Pos} {b e : Expr} {k y : Ex} (ok : Ok p.non X) (hb : PE X b (tE p.non k)) (he : PE X e (tE p.non y)) (hi : p.own.contains i = true := by rfl) (hkl : p.lock.contains i = false := by rfl) (hN : X.N[i]? = some x := by rfl) (hv : Vis X.env.scope x := by first | exact Or.inl rfl | exact Or.inr (Or.inl rfl) | exact Or.inr (Or.inr rfl)) (hd : (x == ("__debug__" : Str)) = false := by decide +kernel) (hcd : (x == ("__classdict__" : Str)) = false := by decide +kernel)
    (hs : swapsWithSole [.Subscript (.Name x px) b pt] e pos.line X.env = pure false := by rfl) (hw : swappedStores [.Subscript (.Name x px) b pt] e X.env = pure none := by rfl) (h1 : (assignEach [.Subscript (.Name x px) b pt] X.env).map (·.2) = [PySem.assign (.Subscript (.Name x px) b pt) X.env] := by rfl)
    (ha : ∀ v, PySem.assign (.Subscript (.Name x px) b pt) X.env v = (do
      let ov ← holding [v] (eval (.Name x px) X.env)
      let iv ← holding [v, ov] (eval b X.env)
      standAt pt
      holding [v, ov, iv] (setItem ov iv v)
      release [v, ov, iv] []) := by intro _; rfl) : PS X (.Assign [.Subscript (.Name x px) b pt] e pos) (tS p (.setD false i k y)) := s_setD (chk := false) i ok hb he hi hkl hN hv hd hcd hs hw h1 ha
theorem s_setDA (i : Nat) {x : Str} {px pt : Pos} {b e : Expr} {k y : Ex} (ok : Ok p.non X) (hb : PE X b (tE p.all k)) (he : PE X e (tE p.all y)) (hi : p.own.contains i = true := by rfl) (hkl : p.lock.contains i = false := by rfl) (hN : X.N[i]? = some x := by rfl) (hv : Vis X.env.scope x := by first | exact Or.inl rfl | exact Or.inr (Or.inl rfl) | exact Or.inr (Or.inr rfl)) (hd : (x == ("__debug__" : Str)) = false := by decide +kernel) (hcd : (x == ("__classdict__" : Str)) = false := by decide +kernel)
    (hs : swapsWithSole [.Subscript (.Name x px) b pt] e pos.line X.env = pure false := by rfl) (hw : swappedStores [.Subscript (.Name x px) b pt] e X.env = pure none := by rfl) (h1 : (assignEach [.Subscript (.Name x px) b pt] X.env).map (·.2) = [PySem.assign (.Subscript (.Name x px) b pt) X.env] := by rfl)
    (ha : ∀ v, PySem.assign (.Subscript (.Name x px) b pt) X.env v = (do
      let ov ← holding [v] (eval (.Name x px) X.env)
      let iv ← holding [v, ov] (eval b X.env)
      standAt pt
      holding [v, ov, iv] (setItem ov iv v)
      release [v, ov, iv] []) := by intro _; rfl) : PS X (.Assign [.Subscript (.Name x px) b pt] e pos) (tS p (.setD true i k y)) := s_setD (chk := true) i ok hb he hi hkl hN hv hd hcd hs hw h1 ha
theorem s_pop (i j : Nat) {x y : Str} {px pa pc pos' : Pos} (hNN : X.N.Nodup) (ok : okTg p (.nm j) = true := by rfl) (hi : p.own.contains i = true := by rfl) (hkl : p.lock.contains i = false := by rfl) (hN : X.N[i]? = some x := by rfl) (hv : Vis X.env.scope x := by first | exact Or.inl rfl | exact Or.inr (Or.inl rfl) | exact Or.inr (Or.inr rfl)) (hd : (x == ("__debug__" : Str)) = false := by decide +kernel) (hcd : (x == ("__classdict__" : Str)) = false := by decide +kernel)
    (hj : X.N[j]? = some y := by rfl) (hy : Loc X.env.scope y := by first | exact Or.inl rfl | exact Or.inr rfl) (hline : (pa.endLine == pc.line) = true := by rfl) (hs : swapsWith (.Call (.Attribute (.Name x px) "pop" pa) [] [] pc) (some (.Name y pos')) pos.line X.env = pure false := by rfl) (hf : X.fn y = true ∨ X.env.scope.names.lookup y = some .local := by first | exact .inl rfl | exact .inr rfl) :
    PS X (.Assign [.Name y pos'] (.Call (.Attribute (.Name x px) "pop" pa) [] [] pc) pos) (tS p (.pop (.nm j) i)) := gs_pop ok (by simpa using hi) (by simpa using hkl) hNN hN hv hd hcd hj hy hline hs hf
theorem s_move (i j : Nat) {x y : Str} {px pos' : Pos} (hNN : X.N.Nodup) (hi : p.own.contains i = true := by rfl) (hj : p.own.contains j = true := by rfl) (hki : p.lock.contains i = false := by rfl) (hkj : p.lock.contains j = false := by rfl) (hc : (p.cell != some i) = true := by rfl) (hxn : (p.xn.map (·.i) != some i) = true := by rfl) (hN : X.N[i]? = some x := by rfl) (hx : Loc X.env.scope x := by first | exact Or.inl rfl | exact Or.inr rfl) (hJ : X.N[j]? = some y := by rfl)
    (hv : Vis X.env.scope y := by first | exact Or.inl rfl | exact Or.inr (Or.inl rfl) | exact Or.inr (Or.inr rfl)) (hd : (y == ("__debug__" : Str)) = false := by decide +kernel) (hcd : (y == ("__classdict__" : Str)) = false := by decide +kernel)
    (hs : swapsWith (.Name y px) (some (.Name x pos')) pos.line X.env = pure false := by rfl) (hf : X.fn x = true ∨ X.env.scope.names.lookup x = some .local := by first | exact .inl rfl | exact .inr rfl) : PS X (.Assign [.Name x pos'] (.Name y px) pos) (tS p (.move i j)) :=
  gs_move (by simpa using hi) (by simpa using hj) (by simpa using hki) (by simpa using hkj) (by simpa using hc) (by simpa using hxn) hNN hN hx hJ hv hd hcd hs hf
theorem s_forK (i : Nat) {tg : Expr} {body : List Stmt} {t : Tg} {b : List Stm} {x : Str} {px apos cpos : Pos} (hc : X.calm = true) (hg : PG X tg (gT p.K t)) (hb : PSs X body (tSs (p.lkd i) b)) (hK : p.K = X.K := by rfl) (ok : okTg (p.lkd i) t = true := by rfl) (hi : p.own.contains i = true := by rfl) (hkl : p.lock.contains i = false := by rfl) (hN : X.N[i]? = some x := by rfl) (hv : Vis X.env.scope x := by first | exact Or.inl rfl | exact Or.inr (Or.inl rfl) | exact Or.inr (Or.inr rfl)) (hd : (x == ("__debug__" : Str)) = false := by decide +kernel) (hcd : (x == ("__classdict__" : Str)) = false := by decide +kernel)
    (hp : PassesOwn (model X.prog X.w) X.A X.env X.xe := by first | exact PassesOwn.never | exact passes_of rfl) (hs : ∀ y, foldedSetIterable (.Call (.Attribute (.Name x px) "keys" apos) [] [] cpos) X.env y = pure y := by intro _; rfl)
    (hbase : attributeBase (.Name x px) "keys" X.env (eval (.Name x px) X.env) = eval (.Name x px) X.env := by rfl) (hline : (apos.endLine == cpos.line) = true := by rfl) : PS X (.For tg (.Call (.Attribute (.Name x px) "keys" apos) [] [] cpos) body [] pos) (tS p (.forK t i b)) :=
  gs_forK hK ok (by simpa using hi) (by simpa using hkl) hN hv hd hcd hp hc hg hb hs hbase hline
theorem s_forO (i : Nat) {tg : Expr} {body : List Stmt} {t : Tg} {b : List Stm} {x : Str} {px : Pos} (hc : X.calm = true) (hg : PG X tg (gT p.K t)) (hb : PSs X body (tSs (p.lkd i) b)) (hK : p.K = X.K := by rfl) (ok : okTg (p.lkd i) t = true := by rfl) (hi : p.own.contains i = true := by rfl) (hkl : p.lock.contains i = false := by rfl) (hN : X.N[i]? = some x := by rfl) (hv : Vis X.env.scope x := by first | exact Or.inl rfl | exact Or.inr (Or.inl rfl) | exact Or.inr (Or.inr rfl)) (hd : (x == ("__debug__" : Str)) = false := by decide +kernel) (hcd : (x == ("__classdict__" : Str)) = false := by decide +kernel)
    (hp : PassesOwn (model X.prog X.w) X.A X.env X.xe := by first | exact PassesOwn.never | exact passes_of rfl) (hs : ∀ y, foldedSetIterable (.Name x px) X.env y = pure y := by intro _; rfl) : PS X (.For tg (.Name x px) body [] pos) (tS p (.forO t i b)) :=
  gs_forO hK ok (by simpa using hi) (by simpa using hkl) hN hv hd hcd hp hc hg hb hs
theorem s_ext (i : Nat) {x : Str} {e : Expr} {y : Ex} {px pb pos' : Pos} (hN : X.N.Nodup) (he : PE X e (tE p.non y)) (hK : p.K = X.K := by rfl) (hi' : p.own.contains i = true := by rfl) (hkl : p.lock.contains i = false := by rfl) (hc : (p.cell != some i) = true := by rfl) (hxn : (p.xn.map (·.i) != some i) = true := by rfl) (hi : X.N[i]? = some x := by rfl) (hx : Loc X.env.scope x := by first | exact Or.inl rfl | exact Or.inr rfl) (hv : Vis X.env.scope x := by first | exact Or.inl rfl | exact Or.inr (Or.inl rfl) | exact Or.inr (Or.inr rfl)) (hd : (x == ("__debug__" : Str)) = false := by decide +kernel) (hcd : (x == ("__classdict__" : Str)) = false := by decide +kernel)
    (hs : swapsWith (.BinOp (.Name x px) .Add e pb) (some (.Name x pos')) pos.line X.env = pure false := by rfl) (hf : X.fn x = true ∨ X.env.scope.names.lookup x = some .local := by first | exact .inl rfl | exact .inr rfl) :
    PS X (.Assign [.Name x pos'] (.BinOp (.Name x px) .Add e pb) pos) (tS p (.ext i y)) := gs_ext hK (by simpa using hi') (by simpa using hkl) (by simpa using hc) (by simpa using hxn) hN hi hx hv hd hcd he hs hf
theorem s_whileN {t : Expr} {body : List Stmt} {x : Ex} {b : List Stm} (h : PT X t (tT p.non x)) (hb : PSs X body (tSs p b)) (hp : PassesOwn (model X.prog X.w) X.A X.env X.xe := by first | exact PassesOwn.never | exact passes_of rfl) : PS X (.While t body [] pos) (tS p (.whl false x b)) := gs_while (chk := false) hp h hb
theorem s_whileA {t : Expr} {body : List Stmt} {x : Ex} {b : List Stm} (h : PT X t (tT p.all x)) (hb : PSs X body (tSs p b)) (hp : PassesOwn (model X.prog X.w) X.A X.env X.xe := by first | exact PassesOwn.never | exact passes_of rfl) : PS X (.While t body [] pos) (tS p (.whl true x b)) := gs_while (chk := true) hp h hb
theorem s_aug (i : Nat) {x : Str} {e : Expr} {y : Ex} {pos' : Pos} {o : Op2} {op : Operator} (hN : X.N.Nodup) (he : PE X e (tE p.non y)) (ho : ipOp o op := by exact trivial) (ok : okTg p (.nm i) = true := by rfl) (hi : X.N[i]? = some x := by rfl) (hx : Loc X.env.scope x := by first | exact Or.inl rfl | exact Or.inr rfl) (hf : X.fn x = true ∨ X.env.scope.names.lookup x = some .local := by first | exact .inl rfl | exact .inr rfl) :
    PS X (.AugAssign (.Name x pos') op e pos) (tS p (.aug o i y)) := gs_aug ho ok hN hi hx he hf
end
end G
namespace G
open PySem L2
variable [TQ]
section
variable {X : Cx} {p : Cfg} {z : Xn} {k : EK} {x : Option G.D} {a : Addr} {l : List (Addr × Obj)}
/-! ### comparisons within a handler -/
theorem ch_eq (ok : Ok p.non X) : CmpOk (p.hnd z k x).non (X.suite a l) .eq .Eq := ⟨_, op_eqD (X := X.suite a l) (by have := ok.hu; show X.A.units + 64 < _; omega), by have h := ok.K; have e : (X.suite a l).K = (p.hnd z k x).non.K := h.symm; rw [e]; exact @sc_eq _ (p.hnd z k x).non⟩
theorem ch_ne (ok : Ok p.non X) : CmpOk (p.hnd z k x).non (X.suite a l) .ne .NotEq := ⟨_, op_neD (X := X.suite a l) (by have := ok.hu; show X.A.units + 64 < _; omega), by have h := ok.K; have e : (X.suite a l).K = (p.hnd z k x).non.K := h.symm; rw [e]; exact @sc_ne _ (p.hnd z k x).non⟩
theorem ch_lt (ok : Ok p.non X) : CmpOk (p.hnd z k x).non (X.suite a l) .lt .Lt := ⟨_, OpR.or op_lt (op_ltO (X := X.suite a l) (by have := ok.hu; show X.A.units + 65 < _; omega)), by have h := ok.K; have e : (X.suite a l).K = (p.hnd z k x).non.K := h.symm; rw [e]; exact @sc_lt _ (p.hnd z k x).non⟩
theorem ch_le (ok : Ok p.non X) : CmpOk (p.hnd z k x).non (X.suite a l) .le .LtE := ⟨_, OpR.or op_le (op_leO (X := X.suite a l) (by have := ok.hu; show X.A.units + 65 < _; omega)), by have h := ok.K; have e : (X.suite a l).K = (p.hnd z k x).non.K := h.symm; rw [e]; exact @sc_le _ (p.hnd z k x).non⟩
theorem ch_gt (ok : Ok p.non X) : CmpOk (p.hnd z k x).non (X.suite a l) .gt .Gt := ⟨_, OpR.or op_gt (op_gtO (X := X.suite a l) (by have := ok.hu; show X.A.units + 65 < _; omega)), by have h := ok.K; have e : (X.suite a l).K = (p.hnd z k x).non.K := h.symm; rw [e]; exact @sc_gt _ (p.hnd z k x).non⟩
theorem ch_ge (ok : Ok p.non X) : CmpOk (p.hnd z k x).non (X.suite a l) .ge .GtE := ⟨_, OpR.or op_ge (op_geO (X := X.suite a l) (by have := ok.hu; show X.A.units + 65 < _; omega)), by have h := ok.K; have e : (X.suite a l).K = (p.hnd z k x).non.K := h.symm; rw [e]; exact @sc_ge _ (p.hnd z k x).non⟩
theorem ch_is (ok : Ok p.non X) : CmpOk (p.hnd z k x).non (X.suite a l) .is .Is := ⟨_, op_isG, sc_is⟩
theorem ch_isn (ok : Ok p.non X) : CmpOk (p.hnd z k x).non (X.suite a l) .isn .IsNot := ⟨_, op_notN, sc_isn⟩
end
end G
namespace G
open PySem L2
variable [TQ]
section
variable {X : Cx} {P : Pl} {p : Cfg} {pos : Pos}
theorem k_rev {e : Expr} {x : Ex} {k : Nat} {p1 p2 p3 : Pos} (ok : Ok P X) (ha : PE X e (tE P x)) : PE X (.Subscript e (.Slice none none (some (.UnaryOp .USub (.Constant (.int 1) k p1) p2)) p3) pos) (tE P (.blt .trev [x])) := ge_rev ok ha
theorem f_rep {es : List Expr} {b : Expr} {xs : List Ex} {y : Ex} {lp : Pos} (ha : PE X (.List es lp) (tF P (.lst xs))) (hb : PE X b (tE P y)) : PE X (.BinOp (.List es lp) .Mult b pos) (tF P (.op .rep (.lst xs) y)) := gf_rep ha hb
theorem s_augIN (i : Nat) {x : Str} {px pt : Pos} {b e : Expr} {k y : Ex} {o : Op2} {op : Operator} (hb : PE X b (tE p.non k)) (he : PE X e (tE p.non y)) (hK : p.K = X.K := by rfl) (ho : ipOp o op := by exact trivial) (hi : p.own.contains i = true := by rfl) (hkl : p.lock.contains i = false := by rfl) (hN : X.N[i]? = some x := by rfl) (hv : Vis X.env.scope x := by first | exact Or.inl rfl | exact Or.inr (Or.inl rfl) | exact Or.inr (Or.inr rfl)) (hd : (x == ("__debug__" : Str)) = false := by decide +kernel) (hcd : (x == ("__classdict__" : Str)) = false := by decide +kernel)
    (ha : ∀ ov iv new, augStore b ov iv new = (do holding [new, ov, iv] (setItem ov iv new); release [new, ov, iv] []; pure .next) := by intros; rfl) :
    PS X (.AugAssign (.Subscript (.Name x px) b pt) op e pos) (tS p (.augI false o i k y)) := gs_augI (chk := false) hK ho (by simpa using hi) (by simpa using hkl) hN hv hd hcd hb he ha
theorem s_augIA (i : Nat) {x : Str} {px pt : Pos} {b e : Expr} {k y : Ex} {o : Op2} {op : Operator} (hb : PE X b (tE p.all k)) (he : PE X e (tE p.all y)) (hK : p.K = X.K := by rfl) (ho : ipOp o op := by exact trivial) (hi : p.own.contains i = true := by rfl) (hkl : p.lock.contains i = false := by rfl) (hN : X.N[i]? = some x := by rfl) (hv : Vis X.env.scope x := by first | exact Or.inl rfl | exact Or.inr (Or.inl rfl) | exact Or.inr (Or.inr rfl)) (hd : (x == ("__debug__" : Str)) = false := by decide +kernel) (hcd : (x == ("__classdict__" : Str)) = false := by decide +kernel)
    (ha : ∀ ov iv new, augStore b ov iv new = (do holding [new, ov, iv] (setItem ov iv new); release [new, ov, iv] []; pure .next) := by intros; rfl) :
    PS X (.AugAssign (.Subscript (.Name x px) b pt) op e pos) (tS p (.augI true o i k y)) := gs_augI (chk := true) hK ho (by simpa using hi) (by simpa using hkl) hN hv hd hcd hb he ha
end
end G
/-! GT: dict(d). -/
namespace G
open PySem L2 PySem.Spec PyProof.Rows
variable [TQ]
section
variable {prog : Program} {w : World} {K : Type} [DecidableEq K] {knd : HeapKind prog w K} {A : Around} {E : Value → Shared → Prop} {s : Shared}
theorem call_dictH {o : Addr} {more : List (K × Addr × Value)} {Q : Value → Shared → Prop} (hu : knd.room A.in1.in1) (hk : knd.Stays) (hoS : (o == sysModules) = false) (ho : s.heap.DictOfH knd o more) (hap : (more.map fun x => knd.hash x.1).Nodup) (hsz : more.length ≤ sizeLine)
    (h : ∀ h', h'.DictOfH knd s.heap.objs.size more → Heap.SameBut s.heap.objs.size (s.heap.push { cls := .type "dict", data := .dict #[] }) h' → Q (.ref s.heap.objs.size) { s with heap := h' }) :
    wpAny (model prog w) A (call (.type "dict") [.ref o]) Q E s := by
  refine callType_codes (Q₁ := fun obj s₁ => obj = .ref s.heap.objs.size ∧ s₁ = { s with heap := s.heap.push { cls := .type "dict", data := .dict #[] } }) PySem.F.kt_called_dict (PySem.F.kt_typeCall_dict_1 _) PySem.F.entry_dict_init (kt_code_dict_new _ ⟨rfl, rfl⟩) ?_
  rintro obj s₁ ⟨rfl, rfl⟩
  have hnew : (s.heap.push { cls := .type "dict", data := .dict #[] }).DictOfH knd s.heap.objs.size [] := Heap.DictOfH.new s.heap
  have push : ∀ b ob, s.heap.get? b = some ob → (s.heap.push { cls := .type "dict", data := .dict #[] }).get? b = some ob := fun b ob e => Heap.get?_push_of_some _ e
  have his : ∀ y ∈ more, knd.is (s.heap.push { cls := .type "dict", data := .dict #[] }) y.1 y.2.1 := fun y hy => by
    obtain ⟨_, _, _, _, _, _, _, his, _⟩ := id ho
    exact hk.stays (fun b ob vs n e _ => push b ob e) (his y hy)
  have ho' : (s.heap.push { cls := .type "dict", data := .dict #[] }).DictOfH knd o more := ho.at' (fun ob e => push o ob e) his
  have hn := ho.nodup
  have hdo : s.heap.objs.size ≠ o := fun e => absurd ho.lt_size (by rw [e]; exact Nat.lt_irrefl _)
  refine ⟨hnew.typeIs, PySem.F.args_dict_init_2 _ _, ?_⟩
  unfold Builtin.«dict.__init__»
  refine wpAny_bind ?_
  unfold Builtin.Dict.selfAndRest
  refine wpAny_bind (wpAny_notOrdered_dict hnew.typeIs ?_)
  show wpAny _ _ (pure (s.heap.objs.size, [Value.ref o])) _ _ _
  refine wpAny_pure ?_
  show wpAny _ _ (Builtin.Dict.updateFrom "dict.__init__" s.heap.objs.size (.ref o) [] .none) _ _ _
  unfold Builtin.Dict.updateFrom
  refine wpAny_bind (wpAny_typeOf ho'.typeIs ?_)
  rw [if_neg (by decide)]
  refine wpAny_bind ?_
  unfold Builtin.Dict.merge
  refine wpAny_bind ?_
  unfold Builtin.Dict.readDirectly
  refine wpAny_bind (wpAny_isInstance ho'.typeIs isSubtype_dict_dict ?_)
  simp only [Bool.not_true, Bool.false_eq_true, if_false]
  refine wpAny_bind (wpAny_specialOf ho'.typeIs PySem.F.slot_dict_iter.lookup (wpAny_pure ?_))
  simp only [beq_self_eq_true, if_true]
  refine wpAny_bind (wpAny_pure ?_)
  refine wpAny_mergeDict_heap (hsz := by simpa using hsz) hu hdo hoS hnew ho' (.inr ⟨fun x hx => hk.tuple (s := { s with heap := s.heap.push { cls := .type "dict", data := .dict #[] } }) (his x hx), hap⟩) fun h' hd' _ hs' => ?_
  show wpAny _ _ (Builtin.Dict.addKeywords s.heap.objs.size [] >>= _) _ _ _
  rw [storedAllH_nil_of_nodup more hn] at hd'
  exact wpAny_bind (wpAny_pure (wpAny_pure ⟨rfl, h h' hd' hs'⟩))
end
/-! ### small names hash apart -/
def hh (a b : Int) : Int := reduceHash (Builtin.Tuple.tupleHashOf [hashInt a, hashInt b])
theorem hh_all : ((List.range 4).all fun a => (List.range 8).all fun b => (List.range 4).all fun c => (List.range 8).all fun d => !decide (hh ((a : Nat) : Int) ((b : Nat) : Int) = hh ((c : Nat) : Int) ((d : Nat) : Int)) || (decide (a = c) && decide (b = d))) = true := by decide +kernel
theorem hh_apart (a : Nat) (ha : a < 4) (b : Nat) (hb : b < 8) (c : Nat) (hc : c < 4) (d : Nat) (hd : d < 8) (h : hh ((a : Nat) : Int) ((b : Nat) : Int) = hh ((c : Nat) : Int) ((d : Nat) : Int)) : a = c ∧ b = d := by
  have := List.all_eq_true.mp (List.all_eq_true.mp (List.all_eq_true.mp (List.all_eq_true.mp hh_all a (List.mem_range.mpr ha)) b (List.mem_range.mpr hb)) c (List.mem_range.mpr hc)) d (List.mem_range.mpr hd)
  rw [decide_eq_true h, Bool.not_true, Bool.false_or, Bool.and_eq_true, decide_eq_true_eq, decide_eq_true_eq] at this
  exact this
theorem small_of {d : D} (h : smallKey d = true) : ∃ a b : Nat, a < 4 ∧ b < 8 ∧ d = .tup [.int a, .int b] := by
  unfold smallKey at h
  split at h
  · rename_i a b
    simp only [Bool.and_eq_true, decide_eq_true_eq] at h
    obtain ⟨⟨⟨h1, h2⟩, h3⟩, h4⟩ := h
    refine ⟨a.toNat, b.toNat, by omega, by omega, ?_⟩
    rw [Int.toNat_of_nonneg h1, Int.toNat_of_nonneg h3]
  · cases h
theorem small_key {d : D} (h : smallKey d = true) {k : NestedKey} (hk : keyOf d = some k) : ∃ a b : Nat, a < 4 ∧ b < 8 ∧ k = .tup [.num a, .num b] := by
  obtain ⟨a, b, ha, hb, rfl⟩ := small_of h
  cases hk
  exact ⟨a, b, ha, hb, rfl⟩
theorem hash_small (w : World) (a b : Int) : NestedKey.hash w (.tup [.num a, .num b]) = hh a b := rfl
theorem small_apart {w : World} {ks : List D} {xs : List (NestedKey × Addr × Value)} (hs : ks.all smallKey = true) (hk : keysOf ks = some (xs.map (·.1))) (hn : (xs.map (·.1)).Nodup) : (xs.map fun x => NestedKey.hash w x.1).Nodup := by
  have key : ∀ (ns : List NestedKey), (∀ k ∈ ns, ∃ a b : Nat, a < 4 ∧ b < 8 ∧ k = .tup [.num a, .num b]) → ns.Nodup → (ns.map (NestedKey.hash w)).Nodup := by
    intro ns
    induction ns with
    | nil => intro _ _; exact List.nodup_nil
    | cons k ns ih =>
      intro h hn
      rw [List.nodup_cons] at hn
      rw [List.map_cons, List.nodup_cons]
      refine ⟨fun z => ?_, ih (fun x hx => h x (List.mem_cons_of_mem _ hx)) hn.2⟩
      obtain ⟨k', hk', e⟩ := List.mem_map.mp z
      obtain ⟨a, b, ha, hb, rfl⟩ := h k List.mem_cons_self
      obtain ⟨c, d, hc, hd, rfl⟩ := h k' (List.mem_cons_of_mem _ hk')
      rw [hash_small, hash_small] at e
      obtain ⟨rfl, rfl⟩ := hh_apart c hc d hd a ha b hb e
      exact hn.1 hk'
  have h2 : (xs.map fun x => NestedKey.hash w x.1) = (xs.map (·.1)).map (NestedKey.hash w) := by rw [List.map_map]; rfl
  rw [h2]
  refine key _ (fun k hk' => ?_) hn
  obtain ⟨i, hi⟩ := List.mem_iff_getElem?.mp hk'
  obtain ⟨d, hd1, hd2⟩ := keysOf_at hk hi
  exact small_key (List.all_eq_true.mp hs d (List.mem_of_getElem? hd1)) hd2
/-! ### the rule -/
def rDictC (K : PySem.W.Frag) : List V → Hp → VK → Prop := fun zs H Q => ∃ a xs G ks vs, zs = [.ref a] ∧ Same G H ∧ Rd H a (dkO a xs) ∧ DkAt K G ks vs xs ∧ ks.all smallKey = true ∧ ∀ p, H p = none → Q (.ref p) (upd H p (dkO p xs))
section
variable {X : Cx}
theorem call_dictC (hu : X.A.units + 30 < cLine) : CallR X (.type "dict") (rDictC X.K) := by
  intro pins s σ H zs us Q I r h
  obtain ⟨a, xs, G, ks, vs, rfl, hs, ea, D, hsm, q⟩ := h
  rw [Vals.ref1 r]
  obtain ⟨hd, us', hp, dd⟩ := dk_of I hs ea D
  have hlen : us'.length ≤ sizeLine := by
    have l1 := D.rk.length
    have l2 := (Paired.length hp).symm
    rw [List.length_map] at l1
    have : ks.length ≤ sizeLine := D.len
    omega
  have hap : (us'.map fun x => (nestedKind X.prog X.w).hash x.1).Nodup := small_apart (w := X.w) hsm (by rw [pair_keys hp]; exact D.keys) (by rw [pair_keys hp]; exact D.nd)
  refine call_dictH (s := s) ?_ nestedKind_stays hd dd hap hlen fun h' hd' hs' => ?_
  · show X.A.units + 1 + 1 + 8 < cLine
    omega
  · have keep : ∀ b ob, s.heap.get? b = some ob → h'.get? b = some ob := fun b ob e => (hs'.2 b (Nat.ne_of_lt (Heap.lt_size e))).trans (Heap.get?_push_of_some _ e)
    exact ⟨.ref s.heap.objs.size, _, I.laid (a := s.heap.objs.size) (t' := s.toks) keep (Nat.le_refl _) (dkO_of (beq_eq_false_iff_ne.mpr (Ne.symm (Nat.ne_of_lt I.big))) D.keys hp hd'), rfl, q _ (I.hok.fresh (Nat.le_refl _))⟩
theorem sf_dcopy {P : Pl} : ServesF P .dcopy (rDictC P.K) := by
  intro lc G H c Q ds vs hs r k q
  obtain ⟨d, e, q⟩ := q.opt
  match ds, e with
  | [.dct ks ws], e =>
    obtain ⟨v, rfl, a, xs, rfl, h1, h2, h3, h4, h5, h6, h7⟩ := reps1 r
    obtain ⟨hsm, rfl⟩ := ite_some (show (if ks.all smallKey = true then some (D.dct ks ws) else none) = some d from e)
    refine ⟨a, xs, G, ks, ws, rfl, hs, (by rcases h1 with h1 | ⟨o, h1⟩; exact .inl (hs _ _ h1); exact .inr ⟨o, hs _ _ h1⟩), ⟨h2, h3, h4, h5, h6, h7⟩, hsm, fun p hp => ?_⟩
    obtain ⟨_, q⟩ := q
    refine q p G _ (.lay hs hp) hp ?_ ⟨xs, upd_same, h2, h3, h4, h5, h6, h7⟩ (k.lay hp)
    cases z : G p with
    | none => rfl
    | some o => rw [hs _ _ z] at hp; cases hp
theorem f_dcopy {P : Pl} {e : Expr} {x : Ex} {q pos : Pos} (ok : Ok P X) (hm : X.mg "dict" = none) (ha : PE X e (tE P x)) (hg : Gl X "dict" := by rfl) (he : starEach [e] X.env = (false, eval e X.env) :: starEach [] X.env := by rfl) : PE X (.Call (.Name "dict" q) [e] [] pos) (tF P (.blt .dcopy [x])) := by
  have sv : ServesF P .dcopy (rDictC P.K) := sf_dcopy
  rw [ok.K] at sv
  exact gf_blt (pe_callTy (call_dictC (by have := ok.hu; omega)) hg hm PyProof.Rows.boot_dict (ga_cons ha ga_nil he) (by decide +kernel) (by decide +kernel) he rfl) (fun _ _ _ h => h) sv
end
end G
/-! GU: a comprehension over a dict's keys. -/
namespace G
open PySem L2 PySem.Spec PyProof.Rows PySem.W
variable [TQ]
/-- what is read goes over -/
def RdOn (G G' : Hp) : Prop := ∀ a o, (∀ od u, o ≠ .frz od u) → Rd G a o → Rd G' a o
section
variable {K : PySem.W.Frag} {G G' H H' : Hp}
theorem RdOn.l {a : Addr} {xs : List V} (e : RdOn G G') (h : SqL K G a xs) : SqL K G' a xs := by
  rcases h with h | h
  · exact .inl (e _ _ (fun _ _ z => by cases z) h)
  · exact .inr h
theorem RdOn.t {a : Addr} {xs : List V} (e : RdOn G G') (h : SqT K G a xs) : SqT K G' a xs := by
  rcases h with h | h
  · exact .inl (e _ _ (fun _ _ z => by cases z) h)
  · exact .inr h
mutual
theorem Rep.on (e : RdOn G G') : ∀ {d : D} {v : V}, Rep K G d v → Rep K G' d v
  | .non, _, h => h
  | .bl _, _, h => h
  | .int _, _, h => h
  | .str _, _, h => h
  | .tup l, _, h => by
    obtain ⟨a, vs, e1, h1, h2, h3⟩ := h
    exact ⟨a, vs, e1, e.t h1, Reps.on e h2, h3⟩
  | .lst l, _, h => by
    obtain ⟨a, vs, e1, h1, h2, h3⟩ := h
    exact ⟨a, vs, e1, e.l h1, Reps.on e h2, h3⟩
  | .dct ks vs, _, h => by
    obtain ⟨a, xs, e1, h1, h2, h3, h4, h5, h6, h7⟩ := h
    exact ⟨a, xs, e1, e _ _ (fun _ _ z => by cases z) h1, h2, h3, h4, h5, Reps.on e h6, Reps.on e h7⟩
theorem Reps.on (e : RdOn G G') : ∀ {ds : List D} {vs : List V}, Reps K G ds vs → Reps K G' ds vs
  | [], _, h => h
  | d :: ds, _, h => by
    obtain ⟨x, xs, e1, h1, h2⟩ := h
    exact ⟨x, xs, e1, Rep.on e h1, Reps.on e h2⟩
end
theorem RdOn.lock {a : Addr} {od : Obj} {xs : List (NestedKey × Addr × V)} (h : G a = some (dkO a xs)) : RdOn G (upd G a (.frz od (dkO a xs))) := fun b o _ r => by
  by_cases e : b = a
  · subst e
    rcases r with r | ⟨o', r⟩
    · rw [h] at r; cases r; exact .inr ⟨od, upd_same⟩
    · rw [h] at r; cases r
  · rcases r with r | ⟨o', r⟩
    · exact .inl (by rw [upd_ne e]; exact r)
    · exact .inr ⟨o', by rw [upd_ne e]; exact r⟩
theorem RdOn.unlock {a : Addr} {od : Obj} {u : HO} (h : G a = some (.frz od u)) : RdOn G (upd G a u) := fun b o hn r => by
  by_cases e : b = a
  · subst e
    rcases r with r | ⟨o', r⟩
    · rw [h] at r; cases r; exact absurd rfl (hn _ _)
    · rw [h] at r; cases r; exact .inl upd_same
  · rcases r with r | ⟨o', r⟩
    · exact .inl (by rw [upd_ne e]; exact r)
    · exact .inr ⟨o', by rw [upd_ne e]; exact r⟩
theorem CellR.on {lc : Option Addr} {c : Cell} (k : CellR K lc G H c) (e : RdOn G G') (hg : ∀ a, G a = none → G' a = none) (hh : ∀ a, G a = none → H' a = H a) : CellR K lc G' H' c := by
  cases c with
  | none => exact k
  | some cs =>
    obtain ⟨l0, ws, q1, q2, q3, q4⟩ := k
    exact ⟨l0, ws, q1, hg _ q2, by rw [hh _ q2]; exact q3, q4.on e⟩
theorem Walk.keysO {d : Addr} {od : Obj} {xs : List (NestedKey × Addr × V)} {ks : List D} (h : G d = some (.frz od (dkO d xs))) (r : Reps K G ks (xs.map fun x => V.ref x.2.1)) (hl : ks.length ≤ LIM) : Walk K G (ItkO d od xs) ks where
  go := fun i G1 H1 s s1 hi => ⟨s1 _ _ (s _ _ h), by have := r.length; rw [List.length_map] at this; omega⟩
  yld := fun i G1 H1 x H2 s s1 hi ⟨e, y, hy, hx⟩ => by
    subst e hx
    obtain ⟨d', hd, rd⟩ := r.get' (i := i) (v := V.ref y.2.1) (by rw [List.getElem?_map, hy]; rfl)
    exact ⟨G1, d', .refl s1, hd, rd.mono s⟩
  stop := fun i G1 H1 s s1 hi => ⟨s1 _ _ (s _ _ h), by have := r.length; rw [List.length_map] at this; omega⟩
  lim := hl
end
section
variable {X : Cx}
theorem ps_or {st : Stmt} {t1 t2 : TS} (h1 : PS X st t1) (h2 : PS X st t2) : PS X st (fun D σ H => t1 D σ H ∨ t2 D σ H) :=
  ⟨fun pins s σ H D I h => h.elim (h1.run pins s σ H D I) (h2.run pins s σ H D I)⟩
variable {p : Cfg} {pos : Pos}
/-- the turns, the dict held still -/
theorem asgK_run {lc : Option Addr} {F H : Hp} {ρ : Env} {σ : L2.St} {c : Cell} {own : List Nat} {x : Ex} {t : Tg} {fs : List Ex} {ks ys : List D} {c2 : Cell} {d : Addr} {od : Obj} {xs : List (NestedKey × Addr × V)} {Q : VK}
    (rel : RelE p.non lc F ρ σ) (inn : Same F H) (hnt : NoT F) (htb : TB H) (cel : CellR p.K lc F H c) (hd : F d = some (.frz od (dkO d xs))) (rk : Reps p.K F ks (xs.map fun x => V.ref x.2.1)) (hl : ks.length ≤ LIM)
    (xn : p.xn = none) (hts : ∀ i ∈ tgSlots t, i ∈ own) (hown : ∀ i ∈ own, p.cell ≠ some i) (e : lcL (fun y => assign t y (wip ρ own)) (evC p.Φ fs) (ev p.Φ x) ks c = .ok (ys, c2))
    (k : ∀ q F' H', Ext lc F H F' H' → H q = none → F' q = none → OwnR p.K F' H' q (.lst ys) → CellR p.K lc F' H' c2 → Q (.ref q) H') (Dd : Addr) (hD : H Dd = none) :
    ∃ W : Nat → Nat → Hp → Prop, (∃ m, W 0 m (upd H Dd (.lst []))) ∧ ∀ i m H, W i m H →
      ((ItkO d od xs).stop i H ∧ Q (.ref Dd) H) ∨ ((ItkO d od xs).go i H ∧ ∃ Nx : Hp → Prop, (∀ H', Nx H' → ∃ m', m' < m ∧ W (i + 1) m' H') ∧ ∀ x' H', (ItkO d od xs).yld i H x' H' → gT p.K t x' (wipe σ own) H' fun σ2 H2 => wipe σ2 own = wipe σ own ∧ tC' p.non fs σ2 H2 fun b H3 =>
        if b = true then tE p.non x σ2 H3 fun y H4 => ∃ acc, H4 Dd = some (.lst acc) ∧ acc.length < sizeLine ∧ Nx (upd H4 Dd (.lst (acc ++ [y]))) else Nx H3) := by
  refine lc_run (P := p.non) (K0 := p.K) rel inn hnt htb (Walk.keysO hd rk hl) cel hD xn hts hown ?_
  have h : C.bnd (lcL (fun y => assign t y (wip ρ own)) (evC p.non.Φ fs) (ev p.non.Φ x) ks) (fun ys => C.ret (G.D.lst ys)) c = .ok (G.D.lst ys, c2) := by
    unfold C.bnd
    rw [e]
    rfl
  rw [h]
  exact ⟨rfl, k⟩
theorem gs_asgK {i j : Nat} {y x : Str} {py px apos kpos cpos : Pos} {elt tg : Expr} {ifs : List Expr} {scope : Scope} {own : List (Str × Nat)} {t : Tg} {z : Ex} {fs : List Ex} (hK : p.K = X.K) (ok : Ok p.non X) (hN : X.N.Nodup) (hj : j ∉ p.own) (hNj : X.N[j]? = some x) (hv : Vis X.env.scope x) (hd : (x == ("__debug__" : Str)) = false) (hcd : (x == ("__classdict__" : Str)) = false)
    (bk : BlkOk X.N X.env.scope scope own)
    (hg : ∀ (s : Shared) (H : Hp) (C : Addr) (cl : List (Str × Addr)) (fp : List Addr), PG (X.blk s H scope (compEnvC scope cl C X.env) fp) tg (gT p.K t))
    (ht : ∀ (s : Shared) (H : Hp) (C : Addr) (cl : List (Str × Addr)) (fp : List Addr), Ok p.non (X.blk s H scope (compEnvC scope cl C X.env) fp) → PTs (X.blk s H scope (compEnvC scope cl C X.env) fp) ifs (tC' p.non fs))
    (he : ∀ (s : Shared) (H : Hp) (C : Addr) (cl : List (Str × Addr)) (fp : List Addr), Ok p.non (X.blk s H scope (compEnvC scope cl C X.env) fp) → PE (X.blk s H scope (compEnvC scope cl C X.env) fp) elt (tE p.non z))
    (hown : ((own.map (·.2)).all fun i => p.cell != some i) = true) (hts : ((tgSlots t).all fun i => (own.map (·.2)).contains i) = true) (okt : okTg p (.nm i) = true)
    (hy : X.N[i]? = some y) (hyl : X.env.scope.names.lookup y = some .local) (hsw : swapsWith (.ListComp elt [⟨tg, .Call (.Attribute (.Name x px) "keys" apos) [] [] kpos, ifs, 0⟩] scope cpos) (some (.Name y py)) pos.line X.env = pure true)
    (hs : ∀ v, foldedSetIterable (.Call (.Attribute (.Name x px) "keys" apos) [] [] kpos) X.env v = pure v)
    (hbase : attributeBase (.Name x px) "keys" X.env (eval (.Name x px) X.env) = eval (.Name x px) X.env) (hline : (apos.endLine == kpos.line) = true) :
    PS X (.Assign [.Name y py] (.ListComp elt [⟨tg, .Call (.Attribute (.Name x px) "keys" apos) [] [] kpos, ifs, 0⟩] scope cpos) pos) (tS p (.asgK i (own.map (·.2)) z t j fs)) := by
  have hps := ps_setLc (pos := cpos) ok.calm hN hy hyl hsw (pi_keysO (pe_var hNj hv hd hcd) hbase hline) bk hg (fun s H C cl fp => ht s H C cl fp ⟨ok.K, ok.calm, ok.hu, ok.xn⟩) (fun s H C cl fp => he s H C cl fp ⟨ok.K, ok.calm, ok.hu, ok.xn⟩) hs
  have hown' : ∀ i ∈ own.map (·.2), p.cell ≠ some i := fun i hi => by simpa using List.all_eq_true.mp hown i hi
  have hts' : ∀ i ∈ tgSlots t, i ∈ own.map (·.2) := fun i hi => by simpa using List.all_eq_true.mp hts i hi
  refine (ps_or (ps_lock hps) hps).imp fun D σ H ⟨en, lc, F, ρ, c, s, h⟩ => ?_
  unfold ex at h
  obtain ⟨ks, c1, e, h1⟩ := os_bnd h
  obtain ⟨e1, e2⟩ := opt_ok e
  subst e2
  have nel : NE (lcL (fun x => assign t x (wip ρ (own.map (·.2)))) (evC p.Φ fs) (ev p.Φ z) ks) := ne_lcL (fun ρ => ne_evC p.Φ fs ρ) (fun ρ => ne_ev p.Φ z ρ) ks
  obtain ⟨ys, c2, el, h2⟩ := os_bnd h1
  cases eo : get ρ j with
  | none => rw [eo] at e1; cases e1
  | some dl =>
    rw [eo] at e1
    cases dl <;> first | (cases e1; done) | skip
    rename_i ks' vs'
    have e3 : ks' = ks := Option.some.inj e1
    subst e3
    obtain ⟨v, q2, d, xs, rfl, z1, z4, z5, z6, z7, z8, z9⟩ := s.non j _ hj eo
    have at0 := s.at_non
    -- behind the turns: the state goes on
    have fin : ∀ q F' H', Ext lc F H F' H' → H q = none → F' q = none → OwnR p.K F' H' q (.lst ys) → CellR p.K lc F' H' c2 → D.nx (σ.set i (some (.ref q))) H' := by
      rintro q F' H' E hq hFq ⟨vs, w1, w2, w3⟩ k2
      have E3 := E.fix hq w1 hFq
      have sF : Same F' (upd F' q (.lst vs)) := fun a o ea => by rw [upd_ne (fun z => by rw [z, hFq] at ea; cases ea)]; exact ea
      have hlq : lc ≠ some q := fun zl => by obtain ⟨o, ho⟩ := s.cr.has zl; rw [hq] at ho; cases ho
      have k3 : CellR p.K lc (upd F' q (.lst vs)) H' c2 := by
        cases c2 with
        | none => exact k2
        | some cs =>
          obtain ⟨l0, ws, r1, r2, r3, r4⟩ := k2
          exact ⟨l0, ws, r1, by rw [upd_ne (fun z => hlq (by rw [r1, z]))]; exact r2, r3, r4.mono sF⟩
      have s3 := s.step E3 k3
      have := asg_put (p := p) (t := .nm i) (d := .lst ys) (v := .ref q) (Q := D.nx) s3 okt rfl ⟨q, vs, rfl, .inl (.of upd_same), w2.mono sF, w3⟩ fun σ' s4 => h2 lc _ H' σ' s4
      simp only [gT] at this
      exact this
    rcases z1 with z1 | ⟨od, z1⟩
    · -- it is to be locked
      refine .inl ⟨d, dkO d xs, s.inn _ _ z1, trivial, fun od => ?_⟩
      have on1 := RdOn.lock (od := od) z1
      have hlcd : lc ≠ some d := fun zl => by
        have k := s.cr
        cases c1 with
        | none =>
          obtain ⟨o, ho⟩ := s.cr.has zl
          exact absurd zl (by
            intro _
            have hk : CellR p.K lc F H none := k
            first | (rw [hk] at zl; cases zl) | (obtain ⟨_, _, _, hk2, _⟩ := hk; cases hk2))
        | some cs =>
          obtain ⟨l0, ws, r1, r2, r3, r4⟩ := k
          rw [zl] at r1
          cases r1
          rw [z1] at r2
          cases r2
      have nn : ∀ a, F a = none → a ≠ d := fun a ha z => by rw [z, z1] at ha; cases ha
      have inn1 : Same (upd F d (.frz od (dkO d xs))) (upd H d (.frz od (dkO d xs))) := fun a o ea => by
        by_cases z : a = d
        · subst z; rw [upd_same] at ea ⊢; exact ea
        · rw [upd_ne z] at ea ⊢; exact s.inn _ _ ea
      have rel1 : RelE p.non lc (upd F d (.frz od (dkO d xs))) ρ σ := ⟨fun i dd hi hdd => by
        obtain ⟨v, r1, r2⟩ := at0.rel.val i dd hi hdd
        exact ⟨v, r1, r2.on on1⟩, at0.rel.cel, at0.rel.len⟩
      have cel1 : CellR p.K lc (upd F d (.frz od (dkO d xs))) (upd H d (.frz od (dkO d xs))) c1 := s.cr.on on1 (fun a ha => by rw [upd_ne (nn a ha)]; exact ha) (fun a ha => upd_ne (nn a ha))
      refine ⟨.ref d, q2, d, od, xs, upd F d (.frz od (dkO d xs)), ks', vs', rfl, inn1, upd_same, by rw [← hK]; exact ⟨z4, z5, z6, z7, z8.on on1, z9.on on1⟩, fun Dd hDd => ?_⟩
      refine asgK_run (p := p) (Q := fun v H' => H' d = some (.frz od (dkO d xs)) ∧ D.nx (σ.set i (some v)) (upd H' d (dkO d xs))) rel1 inn1 ((s.ext.nt en.nt).upd (plain_frz d od (dkO d xs)).1) (fun P z => tab_at (s.inn _ _ z1) (plain_dk _ _) (s.ext.tab P (en.tb P z))) cel1 upd_same (z8.on on1) z7 ok.xn hts' hown' el (fun q F' H' E hq hFq how k2 => ?_) Dd hDd
      have hF'd : F' d = some (.frz od (dkO d xs)) := E.sub _ _ upd_same
      have hH'd : H' d = some (.frz od (dkO d xs)) := E.inn _ _ hF'd
      have on2 := RdOn.unlock hF'd
      have hqd : q ≠ d := fun z => by subst z; rw [upd_same] at hq; cases hq
      have nn2 : ∀ a, F' a = none → a ≠ d := fun a ha z => by rw [z, hF'd] at ha; cases ha
      have E2 : Ext lc F H (upd F' d (dkO d xs)) (upd H' d (dkO d xs)) := by
        refine ⟨fun a o hn nt ea => ?_, fun a o ea => ?_, fun a o ea => ?_, fun a o ea eb => ?_, fun a o hn ea => ?_, fun P t => tab_at hH'd (plain_frz _ _ _) (E.tab P (tab_at (s.inn _ _ z1) (plain_dk _ _) t)), fun q ps z => by
          obtain ⟨ps1, z1'⟩ := tbl_at (o := .frz od (dkO d xs)) (s.inn _ _ z1) (plain_dk _ _).1 z
          obtain ⟨ps2, z2'⟩ := E.tbl q ps1 z1'
          exact tbl_at hH'd (plain_frz d od (dkO d xs)).1 z2', fun n => (E.nt (n.upd (plain_frz d od (dkO d xs)).1)).upd (plain_dk d xs).1⟩
        · by_cases z : a = d
          · subst z; rw [s.inn _ _ z1] at ea; cases ea; exact upd_same
          · rw [upd_ne z]; exact E.same a o hn nt (by rw [upd_ne z]; exact ea)
        · by_cases z : a = d
          · subst z; rw [z1] at ea; cases ea; exact upd_same
          · rw [upd_ne z]; exact E.sub a o (by rw [upd_ne z]; exact ea)
        · by_cases z : a = d
          · subst z; rw [upd_same] at ea ⊢; exact ea
          · rw [upd_ne z] at ea ⊢; exact E.inn a o ea
        · have z := nn a ea
          rw [upd_ne z]
          exact E.fresh a o (by rw [upd_ne z]; exact ea) (by rw [upd_ne z]; exact eb)
        · have z : a ≠ d := fun z => hlcd (by rw [hn, z])
          obtain ⟨o', ho'⟩ := E.cell a o hn (by rw [upd_ne z]; exact ea)
          exact ⟨o', by rw [upd_ne z]; exact ho'⟩
      obtain ⟨vs, w1, w2, w3⟩ := how
      refine ⟨hH'd, fin q _ _ E2 (by rw [upd_ne hqd] at hq; exact hq) (by rw [upd_ne hqd]; exact hFq) ⟨vs, by rw [upd_ne hqd]; exact w1, w2.on on2, w3⟩ (k2.on on2 (fun a ha => by rw [upd_ne (nn2 a ha)]; exact ha) fun a ha => upd_ne (nn2 a ha))⟩
    · refine .inr ⟨.ref d, q2, d, od, xs, F, ks', vs', rfl, s.inn, s.inn _ _ z1, by rw [← hK]; exact ⟨z4, z5, z6, z7, z8, z9⟩, fun Dd hDd => ?_⟩
      exact asgK_run (p := p) (Q := fun v H' => D.nx (σ.set i (some v)) H') at0.rel s.inn (s.ext.nt en.nt) (fun P z => s.ext.tab P (en.tb P z)) s.cr z1 z8 z7 ok.xn hts' hown' el (fun q F' H' E hq hFq how k2 => fin q F' H' E hq hFq how k2) Dd hDd
theorem s_asgK (i j : Nat) {y x : Str} {py px apos kpos cpos : Pos} {elt tg : Expr} {ifs : List Expr} {scope : Scope} {own : List (Str × Nat)} {t : Tg} {z : Ex} {fs : List Ex} (ok : Ok p.non X) (hN : X.N.Nodup) (bk : BlkOk X.N X.env.scope scope own)
    (hg : ∀ (s : Shared) (H : Hp) (C : Addr) (cl : List (Str × Addr)) (fp : List Addr), PG (X.blk s H scope (compEnvC scope cl C X.env) fp) tg (gT p.K t))
    (ht : ∀ (s : Shared) (H : Hp) (C : Addr) (cl : List (Str × Addr)) (fp : List Addr), Ok p.non (X.blk s H scope (compEnvC scope cl C X.env) fp) → PTs (X.blk s H scope (compEnvC scope cl C X.env) fp) ifs (tC' p.non fs))
    (he : ∀ (s : Shared) (H : Hp) (C : Addr) (cl : List (Str × Addr)) (fp : List Addr), Ok p.non (X.blk s H scope (compEnvC scope cl C X.env) fp) → PE (X.blk s H scope (compEnvC scope cl C X.env) fp) elt (tE p.non z))
    (hK : p.K = X.K := by rfl) (hj : p.own.contains j = false := by rfl) (hNj : X.N[j]? = some x := by rfl) (hv : Vis X.env.scope x := by first | exact Or.inl rfl | exact Or.inr (Or.inl rfl) | exact Or.inr (Or.inr rfl)) (hd : (x == ("__debug__" : Str)) = false := by decide +kernel) (hcd : (x == ("__classdict__" : Str)) = false := by decide +kernel)
    (hown : ((own.map (·.2)).all fun i => p.cell != some i) = true := by rfl) (hts : ((tgSlots t).all fun i => (own.map (·.2)).contains i) = true := by rfl) (okt : okTg p (.nm i) = true := by rfl)
    (hy : X.N[i]? = some y := by rfl) (hyl : X.env.scope.names.lookup y = some .local := by rfl) (hsw : swapsWith (.ListComp elt [⟨tg, .Call (.Attribute (.Name x px) "keys" apos) [] [] kpos, ifs, 0⟩] scope cpos) (some (.Name y py)) pos.line X.env = pure true := by rfl)
    (hs : ∀ v, foldedSetIterable (.Call (.Attribute (.Name x px) "keys" apos) [] [] kpos) X.env v = pure v := by intro _; rfl)
    (hbase : attributeBase (.Name x px) "keys" X.env (eval (.Name x px) X.env) = eval (.Name x px) X.env := by rfl) (hline : (apos.endLine == kpos.line) = true := by rfl) :
    PS X (.Assign [.Name y py] (.ListComp elt [⟨tg, .Call (.Attribute (.Name x px) "keys" apos) [] [] kpos, ifs, 0⟩] scope cpos) pos) (tS p (.asgK i (own.map (·.2)) z t j fs)) :=
  gs_asgK hK ok hN (by simpa using hj) hNj hv hd hcd bk hg ht he hown hts okt hy hyl hsw hs hbase hline
/-- several names from a value that reads own things -/
theorem s_asgF {tg e : Expr} {t : Tg} {y : Ex} (he : PE X e (tE p.all y)) (hg : PG X tg (gT p.K t)) (ok : okTg p t = true := by rfl) (hs : swapsWithSole [tg] e pos.line X.env = pure false := by rfl) (hw : swappedStores [tg] e X.env = pure none := by rfl)
    (h1 : (assignEach [tg] X.env).map (·.2) = [PySem.assign tg X.env] := by rfl) : PS X (.Assign [tg] e pos) (tS p (.asgF t y)) := (ps_asg he hg hs hw h1).imp fun D σ H h => asgF_imp ok h
end
end G
/-! GV: d.update(d2). -/
namespace G
open PySem L2 PySem.Spec PyProof.Rows PySem.W
variable [TQ]
/-! ### (item, time): hashes apart -/
def ht (a b t : Int) : Int := reduceHash (Builtin.Tuple.tupleHashOf [hh a b, hashInt t])
def htN (a b t : Nat) : Nat := (ht a b t + 9223372036854775808).toNat
inductive Tr where
  | e | n (l : Tr) (v : Nat) (r : Tr)
def Tr.ins (x : Nat) : Tr → Option Tr
  | .e => some (.n .e x .e)
  | .n l v r => if x < v then (l.ins x).map fun l => .n l v r else if v < x then (r.ins x).map fun r => .n l v r else none
def Tr.list : Tr → List Nat
  | .e => []
  | .n l v r => l.list ++ v :: r.list
def allIn : List Nat → Tr → Option Tr
  | [], t => some t
  | x :: xs, t => match t.ins x with
    | some t => allIn xs t
    | none => none
def incr : List Nat → Bool
  | x :: y :: r => decide (x < y) && incr (y :: r)
  | _ => true
theorem ins_perm' (x : Nat) : ∀ (t t' : Tr), t.ins x = some t' → t'.list.Perm (x :: t.list)
  | .e, t', h => by cases h; exact List.Perm.refl _
  | .n l v r, t', h => by
    unfold Tr.ins at h
    split at h
    · obtain ⟨l', h1, rfl⟩ := Option.map_eq_some_iff.mp h
      exact ((ins_perm' x l l' h1).append_right (v :: r.list))
    · split at h
      · obtain ⟨r', h1, rfl⟩ := Option.map_eq_some_iff.mp h
        show (l.list ++ v :: r'.list).Perm (x :: (l.list ++ v :: r.list))
        have p1 : (l.list ++ v :: r'.list).Perm (l.list ++ v :: x :: r.list) := ((ins_perm' x r r' h1).cons v).append_left l.list
        have p2 : (l.list ++ v :: x :: r.list).Perm (x :: (l.list ++ v :: r.list)) := by
          have : l.list ++ v :: x :: r.list = (l.list ++ [v]) ++ x :: r.list := by simp
          rw [this]
          refine List.perm_middle.trans ?_
          simp
        exact p1.trans p2
      · cases h
theorem allIn_perm : ∀ (xs : List Nat) (t t' : Tr), allIn xs t = some t' → t'.list.Perm (xs ++ t.list)
  | [], t, t', h => by cases h; exact List.Perm.refl _
  | x :: xs, t, t', h => by
    unfold allIn at h
    cases e : t.ins x with
    | none => rw [e] at h; cases h
    | some t1 =>
      rw [e] at h
      refine (allIn_perm xs t1 t' h).trans ?_
      refine ((ins_perm' x t t1 e).append_left xs).trans ?_
      exact List.perm_middle
theorem incr_nodup : ∀ l : List Nat, incr l = true → l.Nodup ∧ ∀ x, l.head? = some x → ∀ y ∈ l, x ≤ y
  | [], _ => ⟨List.nodup_nil, fun x h => by cases h⟩
  | [a], _ => ⟨by simp, fun x h y hy => by cases h; rw [List.mem_singleton.mp hy]; exact Nat.le_refl _⟩
  | a :: b :: r, h => by
    unfold incr at h
    rw [Bool.and_eq_true, decide_eq_true_eq] at h
    obtain ⟨h1, h2⟩ := incr_nodup (b :: r) h.2
    have hb := h2 b rfl
    refine ⟨List.nodup_cons.mpr ⟨fun z => ?_, h1⟩, fun x hx y hy => ?_⟩
    · have := hb a z; omega
    · cases hx
      rcases List.mem_cons.mp hy with rfl | hy
      · exact Nat.le_refl _
      · have := hb y hy; omega
def keysTm : List (Nat × Nat × Nat) := (List.range 3).flatMap fun a => (List.range 5).flatMap fun b => (List.range 48).map fun t => (a, b, t)
theorem ht_all : ((allIn (keysTm.map fun k => htN k.1 k.2.1 k.2.2) .e).map fun t => incr t.list) = some true := by decide +kernel
theorem ht_nodup : (keysTm.map fun k => htN k.1 k.2.1 k.2.2).Nodup := by
  obtain ⟨t, h1, h2⟩ := Option.map_eq_some_iff.mp ht_all
  have p := allIn_perm _ _ _ h1
  have : Tr.list .e = [] := rfl
  rw [this, List.append_nil] at p
  exact p.nodup_iff.mp (incr_nodup _ h2).1
theorem nodup_inj {α β : Type} (f : α → β) : ∀ {l : List α}, (l.map f).Nodup → ∀ a ∈ l, ∀ b ∈ l, f a = f b → a = b
  | x :: l, h, a, ha, b, hb, e => by
    rw [List.map_cons, List.nodup_cons] at h
    rcases List.mem_cons.mp ha with h1 | h1 <;> rcases List.mem_cons.mp hb with h2 | h2
    · rw [h1, h2]
    · exact absurd (List.mem_map.mpr ⟨b, h2, by rw [← e, h1]⟩) h.1
    · exact absurd (List.mem_map.mpr ⟨a, h1, by rw [e, h2]⟩) h.1
    · exact nodup_inj f h.2 a h1 b h2 e
theorem ht_apart {a b t a' b' t' : Nat} (h1 : a < 3) (h2 : b < 5) (h3 : t < 48) (h1' : a' < 3) (h2' : b' < 5) (h3' : t' < 48) (h : ht a b t = ht a' b' t') : (a, b, t) = (a', b', t') := by
  have mem : ∀ {a b t : Nat}, a < 3 → b < 5 → t < 48 → (a, b, t) ∈ keysTm := fun q1 q2 q3 => List.mem_flatMap.mpr ⟨_, List.mem_range.mpr q1, List.mem_flatMap.mpr ⟨_, List.mem_range.mpr q2, List.mem_map.mpr ⟨_, List.mem_range.mpr q3, rfl⟩⟩⟩
  refine nodup_inj _ ht_nodup _ (mem h1 h2 h3) _ (mem h1' h2' h3') ?_
  show htN a b t = htN a' b' t'
  unfold htN
  rw [h]
theorem smallTm_of {d : D} (h : smallTm d = true) : ∃ a b t : Nat, a < 3 ∧ b < 5 ∧ t < 48 ∧ d = .tup [.tup [.int a, .int b], .int t] := by
  unfold smallTm at h
  split at h
  · rename_i a b t
    simp only [Bool.and_eq_true, decide_eq_true_eq] at h
    obtain ⟨⟨⟨⟨⟨h1, h2⟩, h3⟩, h4⟩, h5⟩, h6⟩ := h
    refine ⟨a.toNat, b.toNat, t.toNat, by omega, by omega, by omega, ?_⟩
    rw [Int.toNat_of_nonneg h1, Int.toNat_of_nonneg h3, Int.toNat_of_nonneg h5]
  · cases h
theorem smallTm_apart {w : World} {ks : List D} {xs : List (NestedKey × Addr × Value)} (hs : ks.all smallTm = true) (hk : keysOf ks = some (xs.map (·.1))) (hn : (xs.map (·.1)).Nodup) : (xs.map fun x => NestedKey.hash w x.1).Nodup := by
  have key : ∀ (ns : List NestedKey), (∀ k ∈ ns, ∃ a b t : Nat, a < 3 ∧ b < 5 ∧ t < 48 ∧ k = .tup [.tup [.num a, .num b], .num t]) → ns.Nodup → (ns.map (NestedKey.hash w)).Nodup := by
    intro ns
    induction ns with
    | nil => intro _ _; exact List.nodup_nil
    | cons k ns ih =>
      intro h hn
      rw [List.nodup_cons] at hn
      rw [List.map_cons, List.nodup_cons]
      refine ⟨fun z => ?_, ih (fun x hx => h x (List.mem_cons_of_mem _ hx)) hn.2⟩
      obtain ⟨k', hk', e⟩ := List.mem_map.mp z
      obtain ⟨a, b, t, ha, hb, ht', rfl⟩ := h k List.mem_cons_self
      obtain ⟨a', b', t', ha', hb', ht'', rfl⟩ := h k' (List.mem_cons_of_mem _ hk')
      have e' : ht a' b' t' = ht a b t := e
      have := ht_apart ha' hb' ht'' ha hb ht' e'
      cases this
      exact hn.1 hk'
  have h2 : (xs.map fun x => NestedKey.hash w x.1) = (xs.map (·.1)).map (NestedKey.hash w) := by rw [List.map_map]; rfl
  rw [h2]
  refine key _ (fun k hk' => ?_) hn
  obtain ⟨i, hi⟩ := List.mem_iff_getElem?.mp hk'
  obtain ⟨d, hd1, hd2⟩ := keysOf_at hk hi
  obtain ⟨a, b, t, ha, hb, ht', rfl⟩ := smallTm_of (List.all_eq_true.mp hs d (List.mem_of_getElem? hd1))
  cases hd2
  exact ⟨a, b, t, ha, hb, ht', rfl⟩
/-! ### many puts -/
def xputs (xs ys : List (NestedKey × Addr × V)) : List (NestedKey × Addr × V) := ys.foldl (fun acc y => xput acc y.1 y.2.1 y.2.2) xs
theorem pair_puts : ∀ {ys : List (NestedKey × Addr × V)} {ws : List (NestedKey × Addr × Value)}, Paired RelE3 ys ws → ∀ {xs : List (NestedKey × Addr × V)} {us : List (NestedKey × Addr × Value)}, Paired RelE3 xs us → (us.map (·.1)).Nodup → Paired RelE3 (xputs xs ys) (storedAllH us ws)
  | _, _, .nil, _, _, hp, _ => hp
  | _, _, .cons (a := p) (b := q) h t, xs, us, hp, hn => by
    show Paired RelE3 (xputs (xput xs p.1 p.2.1 p.2.2) _) (storedAllH (storedH us q.1 q.2.1 q.2.2) _)
    rw [stored_u hn, ← h.1, ← h.2.1]
    refine pair_puts t (pair_put h.2.2 hp) ?_
    rw [pair_keys (pair_put (k := p.1) (b := p.2.1) h.2.2 hp)]
    exact xput_nd (by rw [← pair_keys hp]; exact hn)
theorem DkAt.puts {K : PySem.W.Frag} {F : Hp} : ∀ {ks2 vs2 : List D} {ys : List (NestedKey × Addr × V)}, DkAt K F ks2 vs2 ys → ∀ {ks vs : List D} {xs : List (NestedKey × Addr × V)}, DkAt K F ks vs xs → ks.length + ks2.length ≤ LIM → DkAt K F (dputs ks vs ks2 vs2).1 (dputs ks vs ks2 vs2).2 (xputs xs ys)
  | [], vs2, ys, B, ks, vs, xs, A, _ => by
    have h := B.rk.length
    have : ys = [] := by
      cases ys with
      | nil => rfl
      | cons _ _ => simp at h
    subst this
    unfold dputs
    exact A
  | k :: ks2, vs2, ys, B, ks, vs, xs, A, hl => by
    obtain ⟨b1, b2, b3, b4, b5, b6⟩ := B
    cases ys with
    | nil => have := Reps.length b5; simp at this
    | cons y ys =>
      cases vs2 with
      | nil => have := Reps.length b6; simp at this
      | cons v vs2 =>
        rw [List.all_cons, Bool.and_eq_true] at b2
        obtain ⟨z1, zs1, e1, r1, r2⟩ := b5
        injection e1 with e2 e3
        subst e2 e3
        obtain ⟨z2, zs2, e1, r3, r4⟩ := b6
        injection e1 with e2 e3
        subst e2 e3
        rw [keysOf] at b1
        cases e4 : keyOf k with
        | none => rw [e4] at b1; cases b1
        | some kk =>
          cases e5 : keysOf ks2 with
          | none => rw [e4, e5] at b1; cases b1
          | some kks =>
            rw [e4, e5] at b1
            have b1 : kk :: kks = y.1 :: ys.map (·.1) := Option.some.inj b1
            injection b1 with b7 b8
            subst b7
            rw [List.map_cons, List.nodup_cons] at b3
            rw [List.length_cons] at hl b4
            have A' := A.put b2.1 e4 r1 r3 (by omega)
            have l1 := A.rk.length
            have l2 := A.rv.length
            have hlen := dput_len (x := k) (y := v) (show ks.length = vs.length by rw [l1, l2]; simp)
            unfold dputs
            exact DkAt.puts ⟨by rw [e5, b8], b2.2, b3.2, by omega, r2, r4⟩ A' (by omega)
/-! ### the rule -/
section
variable {X : Cx} {p : Cfg} {pos : Pos}
theorem gs_upd {i : Nat} {x : Str} {px pa pc : Pos} {e : Expr} {y : Ex} (hK : p.K = X.K) (hu : X.A.units + 30 < cLine) (hi : i ∈ p.own) (hkl : i ∉ p.lock) (hN : X.N[i]? = some x) (hv : Vis X.env.scope x) (hd : (x == ("__debug__" : Str)) = false) (hcd : (x == ("__classdict__" : Str)) = false) (he : PE X e (tE p.non y))
    (hbase : attributeBase (.Name x px) "update" X.env (eval (.Name x px) X.env) = eval (.Name x px) X.env)
    (hfew : ((backTo pc (starEach [e] X.env)).all (fun x => !x.1) && (backToKw pc (keywordEach [] X.env)).all (fun x => x.1.isSome)
      && decide (([e] : List Expr).length + ([] : List Keyword).length + (if ([] : List Keyword).isEmpty then 0 else 1) < 30)) = true)
    (hline : (pa.endLine == pc.line) = true) (trees : backTo pc (starEach [e] X.env) = [(false, eval e X.env)]) (hs : swapsWith (.Call (.Attribute (.Name x px) "update" pa) [e] [] pc) none pos.line X.env = pure false) :
    PS X (.Expr (.Call (.Attribute (.Name x px) "update" pa) [e] [] pc) pos) (tS p (.upd i y)) := by
  have hpe : PE X (.Call (.Attribute (.Name x px) "update" pa) [e] [] pc) (fun σ H Q => ∃ en lc F ρ c d c' w, StS p en lc F H ρ σ c ∧ ev p.Φ y ρ c = .ok (d, c') ∧ updD (get ρ i) d = some w ∧ ∀ F' H', StS p en lc F' H' (put ρ i (some w)) σ c' → Q .non H') := by
    refine ⟨fun pins s σ H Q I ⟨en, lc, F, ρ, c, d, c', w, st, ed, ew, k⟩ => ?_⟩
    cases eo : get ρ i with
    | none => rw [eo] at ew; cases ew
    | some dl =>
      rw [eo] at ew
      cases dl <;> first | (cases ew; done) | skip
      rename_i ks vs
      cases d <;> first | (cases ew; done) | skip
      rename_i ks2 vs2
      obtain ⟨hz, e8⟩ := ite_some (show (if ks2.all smallTm = true ∧ ks.length + ks2.length ≤ LIM then some (G.D.dct (dputs ks vs ks2 vs2).1 (dputs ks vs ks2 vs2).2) else none) = some w from ew)
      cases e8
      obtain ⟨l, q2, ⟨xs, z3, z4, z5, z6, z7, z8, z9⟩, q4, q5, q6⟩ := st.ownR hi hkl eo
      -- the dict
      have hvar : PE X (.Name x px) (fun σ' H' Q' => ∃ v, σ'[i]? = some (some v) ∧ Q' v H') := pe_var hN hv hd hcd
      refine wpAny_Call_method hbase hfew hline PySem.F.plainAttrs_dict PySem.F.slot_dict_update PySem.F.type_dict_update (thn (hvar.run pins s σ H (fun v H1 => v = .ref l ∧ H1 = H) I ⟨.ref l, q2, rfl, rfl⟩) fun u s1 ⟨v, H1, I1, rx, hvl, hH1⟩ => ?_)
      subst hvl hH1
      obtain rfl : u = Value.ref l := rx
      have A0 : DkAt X.K F ks vs xs := by rw [← hK]; exact ⟨z4, z5, z6, z7, z8, z9⟩
      obtain ⟨hsm0, us0, hp0, dd0⟩ := dk_of I1 st.inn (.of z3) A0
      refine ⟨dd0.typeIs, fun b e => ?_, ?_⟩
      · cases e
        obtain ⟨ob, _, _, h1, h2, _⟩ := dd0
        exact ⟨ob, h1, h2.2.1⟩
      rw [trees]
      have t2 : tE p.non y σ H1 (fun v2 H2 => ∃ F2, StS p en lc F2 H2 ρ σ c' ∧ Rep p.K F2 (.dct ks2 vs2) v2) := se_non st ed fun v F' H' s' r' _ => ⟨F', s', r'⟩
      refine Calls.callWith_builtin rfl (Calls.evalArgs_plain (Calls.spliced_cons (thn (he.run pins s1 σ H1 _ I1 t2) fun iv s2 ⟨v2, H2, I2, ry, F2, st2, r2⟩ => Calls.spliced_nil ?_)))
      obtain ⟨l', y2, ⟨xs, y3, y4, y5, y6, y7, y8, y9⟩, w4, w5, w6⟩ := st2.ownR hi hkl eo
      rw [q2] at y2
      cases y2
      have A : DkAt X.K F2 ks vs xs := by rw [← hK]; exact ⟨y4, y5, y6, y7, y8, y9⟩
      obtain ⟨b, ys, rfl, g1, g2, g3, g4, g5, g6, g7⟩ := r2
      obtain rfl : iv = Value.ref b := ry
      have B : DkAt X.K F2 ks2 vs2 ys := by rw [← hK]; exact ⟨g2, g3, g4, g5, g6, g7⟩
      have hlb : l ≠ b := fun z => by
        subst z
        rcases g1 with g1 | ⟨o, g1⟩ <;> (rw [w4] at g1; cases g1)
      obtain ⟨hsm, us, hp, dd⟩ := dk_of I2 st2.inn (.of y3) A
      obtain ⟨hsb, ws, hpw, db⟩ := dk_of I2 st2.inn (same_rd st2.inn g1) B
      have hap : (ws.map fun x => (nestedKind X.prog X.w).hash x.1).Nodup := smallTm_apart (w := X.w) hz.1 (by rw [pair_keys hpw]; exact B.keys) (by rw [pair_keys hpw]; exact B.nd)
      have l1 := A.rk.length
      have l2 := (Paired.length hp).symm
      have l3 := B.rk.length
      have l4 := (Paired.length hpw).symm
      rw [List.length_map] at l1 l3
      have hlim : ks.length + ks2.length ≤ sizeLine := hz.2
      have tys : ∀ x ∈ ws, s2.TypeIs (.ref x.2.1) "tuple" := fun x hx => by
        obtain ⟨_, _, _, _, _, _, _, his, _⟩ := id db
        exact nestedKind_stays.tuple (his x hx)
      refine call_update_dictH (s := s2) ?_ hlb hsb dd db (.inr ⟨tys, hap⟩) (by omega) fun h' hd' ho' hs' => ?_
      · show X.A.units + 1 + 8 < cLine
        omega
      · have hnu : (us.map (·.1)).Nodup := by rw [pair_keys hp]; exact A.nd
        have AB : DkAt X.K F2 (dputs ks vs ks2 vs2).1 (dputs ks vs ks2 vs2).2 (xputs xs ys) := DkAt.puts B A hz.2
        obtain ⟨o, es, ep, ho, h2⟩ := id hd'
        have I3 : Inv X pins σ (upd H2 l (dkO l (xputs xs ys))) { s2 with heap := h' } := L2.d_write (t' := s2.toks) I2 (by rw [y3]; exact True.intro) hs' ⟨o, ho⟩ (dkO_of hsm AB.keys (pair_puts hpw hp hnu) hd')
        have AB' : OwnR p.K F2 (upd H2 l (dkO l (xputs xs ys))) l (.dct (dputs ks vs ks2 vs2).1 (dputs ks vs ks2 vs2).2) := by
          have AB2 : DkAt p.K F2 (dputs ks vs ks2 vs2).1 (dputs ks vs ks2 vs2).2 (xputs xs ys) := by rw [hK]; exact AB
          exact ⟨xputs xs ys, upd_same, AB2.keys, AB2.kt, AB2.nd, AB2.len, AB2.rk, AB2.rv⟩
        exact ⟨.non, _, I3, rfl, k F2 _ (st2.write (o := dkO l (xputs xs ys)) hi hkl eo q2 AB')⟩
  refine (ps_expr hpe hs).imp fun D σ H ⟨en, lc, F, ρ, c, s, h⟩ => ?_
  unfold ex at h
  obtain ⟨d, c', e, h1⟩ := os_bnd h
  obtain ⟨w, c2, e2, h2⟩ := os_bnd h1
  obtain ⟨e3, e4⟩ := opt_ok e2
  subst e4
  exact ⟨en, lc, F, ρ, c, d, c2, w, s, e, e3, fun F' H' s' => h2 lc F' H' σ s'⟩
theorem s_upd (i : Nat) {x : Str} {px pa pc : Pos} {e : Expr} {y : Ex} (ok : Ok p.non X) (he : PE X e (tE p.non y)) (hK : p.K = X.K := by rfl) (hi : p.own.contains i = true := by rfl) (hkl : p.lock.contains i = false := by rfl) (hN : X.N[i]? = some x := by rfl) (hv : Vis X.env.scope x := by first | exact Or.inl rfl | exact Or.inr (Or.inl rfl) | exact Or.inr (Or.inr rfl)) (hd : (x == ("__debug__" : Str)) = false := by decide +kernel) (hcd : (x == ("__classdict__" : Str)) = false := by decide +kernel)
    (hbase : attributeBase (.Name x px) "update" X.env (eval (.Name x px) X.env) = eval (.Name x px) X.env := by rfl)
    (hfew : ((backTo pc (starEach [e] X.env)).all (fun x => !x.1) && (backToKw pc (keywordEach [] X.env)).all (fun x => x.1.isSome)
      && decide (([e] : List Expr).length + ([] : List Keyword).length + (if ([] : List Keyword).isEmpty then 0 else 1) < 30)) = true := by rfl)
    (hline : (pa.endLine == pc.line) = true := by rfl) (trees : backTo pc (starEach [e] X.env) = [(false, eval e X.env)] := by rfl) (hs : swapsWith (.Call (.Attribute (.Name x px) "update" pa) [e] [] pc) none pos.line X.env = pure false := by rfl) :
    PS X (.Expr (.Call (.Attribute (.Name x px) "update" pa) [e] [] pc) pos) (tS p (.upd i y)) := gs_upd hK (by have := ok.hu; omega) (by simpa using hi) (by simpa using hkl) hN hv hd hcd he hbase hfew hline trees hs
end
end G
/-! GW: a, b = l.pop(). -/
namespace G
open PySem L2 PySem.Spec PyProof.Rows PySem.W
variable [TQ]
section
variable {X : Cx} {p : Cfg} {pos : Pos}
theorem gs_popT {i : Nat} {t : Tg} {tg : Expr} {x : Str} {px pa pc : Pos} (ok : okTg p t = true) (hi : i ∈ p.own) (hkl : i ∉ p.lock) (hg : PG X tg (gT p.K t)) (hN : X.N[i]? = some x) (hv : Vis X.env.scope x) (hd : (x == ("__debug__" : Str)) = false) (hcd : (x == ("__classdict__" : Str)) = false)
    (hline : (pa.endLine == pc.line) = true) (hs : swapsWithSole [tg] (.Call (.Attribute (.Name x px) "pop" pa) [] [] pc) pos.line X.env = pure false) (hw : swappedStores [tg] (.Call (.Attribute (.Name x px) "pop" pa) [] [] pc) X.env = pure none)
    (h1 : (assignEach [tg] X.env).map (·.2) = [PySem.assign tg X.env]) :
    PS X (.Assign [tg] (.Call (.Attribute (.Name x px) "pop" pa) [] [] pc) pos) (tS p (.pop t i)) := by
  refine (ps_asg (pe_bm0 PySem.F.plainAttrs_list PySem.F.slot_list_pop PySem.F.type_list_pop mt_pop (pe_var hN hv hd hcd) rfl hline) hg hs hw h1).imp fun D σ H ⟨en, lc, F, ρ, c, s, h⟩ => ?_
  unfold ex at h
  obtain ⟨w, c2, e2, h3⟩ := os_bnd h
  obtain ⟨e3, e4⟩ := opt_ok e2
  obtain ⟨ρ', c3, e5, h4⟩ := os_bnd h3
  obtain ⟨e6, e7⟩ := opt_ok e5
  subst e4 e7
  cases eo : get ρ i with
  | none => rw [eo] at e3; simp [popD] at e3
  | some dl =>
    rw [eo] at e3
    cases dl <;> first | (simp [popD] at e3; done) | skip
    rename_i ds
    obtain ⟨d, hdl, rfl⟩ := Option.map_eq_some_iff.mp (show (ds[ds.length - 1]?).map (fun d => (d, ds.dropLast)) = some w from e3)
    obtain ⟨l, q2, ⟨vs, q3, q7, q8⟩, q4, q5, q6⟩ := s.ownR hi hkl eo
    obtain ⟨v, hv1, rv⟩ := q7.get hdl
    refine ⟨.ref l, q2, .inl ⟨rfl, vs, .of q3⟩, ?_⟩
    show rPop (.ref l) [] H (fun x H1 => gT p.K t x σ H1 D.nx)
    refine ⟨l, vs, v, rfl, rfl, q3, by rw [← q7.length]; exact hv1, ?_⟩
    have r2 : Reps p.K F ds.dropLast vs.dropLast := by
      rw [List.dropLast_eq_take, List.dropLast_eq_take, ← q7.length]
      exact q7.take _
    have s' := s.write (o := .lst vs.dropLast) (e := .lst ds.dropLast) hi hkl eo q2 ⟨_, upd_same, r2, by rw [List.length_dropLast]; omega⟩
    exact asg_put (Q := fun σ' H' => D.nx σ' H') s' ok e6 rv fun σ' s3 => h4 lc F _ σ' s3
theorem s_popT (i : Nat) {t : Tg} {tg : Expr} {x : Str} {px pa pc : Pos} (hg : PG X tg (gT p.K t)) (ok : okTg p t = true := by rfl) (hi : p.own.contains i = true := by rfl) (hkl : p.lock.contains i = false := by rfl) (hN : X.N[i]? = some x := by rfl) (hv : Vis X.env.scope x := by first | exact Or.inl rfl | exact Or.inr (Or.inl rfl) | exact Or.inr (Or.inr rfl)) (hd : (x == ("__debug__" : Str)) = false := by decide +kernel) (hcd : (x == ("__classdict__" : Str)) = false := by decide +kernel)
    (hline : (pa.endLine == pc.line) = true := by rfl) (hs : swapsWithSole [tg] (.Call (.Attribute (.Name x px) "pop" pa) [] [] pc) pos.line X.env = pure false := by rfl) (hw : swappedStores [tg] (.Call (.Attribute (.Name x px) "pop" pa) [] [] pc) X.env = pure none := by rfl)
    (h1 : (assignEach [tg] X.env).map (·.2) = [PySem.assign tg X.env] := by rfl) :
    PS X (.Assign [tg] (.Call (.Attribute (.Name x px) "pop" pa) [] [] pc) pos) (tS p (.pop t i)) := gs_popT ok (by simpa using hi) (by simpa using hkl) hg hN hv hd hcd hline hs hw h1
end
end G
/-! GX: range(a, b, -1). -/
namespace G
open PySem L2 PySem.Spec PyProof.Rows PySem.W
variable [TQ]
theorem rngDn_length : ∀ (n : Nat) (hi : Int), (rngDn n hi).length = n
  | 0, _ => rfl
  | n + 1, hi => by simp [rngDn, rngDn_length n]
theorem rngDn_get : ∀ (n : Nat) (hi : Int) (i : Nat), i < n → (rngDn n hi)[i]? = some (.int (hi + (i : Nat) * (-1)))
  | n + 1, hi, 0, _ => by
    show some (D.int hi) = some (D.int (hi + ((0 : Nat) : Int) * (-1)))
    congr 2
    omega
  | n + 1, hi, i + 1, h => by
    show (rngDn n (hi - 1))[i]? = _
    rw [rngDn_get n (hi - 1) i (by omega)]
    congr 2
    omega
section
variable {K : PySem.W.Frag} {G : Hp}
theorem Walk.rangeDn {hi : Int} {n : Nat} (hl : n ≤ LIM) : Walk K G (Itc hi (-1) n) (rngDn n hi) where
  go := fun i G1 H1 s s1 hi => by rw [rngDn_length] at hi; exact hi
  yld := fun i G1 H1 x H2 s s1 hi ⟨e, y⟩ => by
    subst e
    subst y
    rw [rngDn_length] at hi
    exact ⟨G1, _, .refl s1, rngDn_get n _ i hi, rfl⟩
  stop := fun i G1 H1 s s1 hi => by rw [rngDn_length] at hi; exact hi
  lim := by rw [rngDn_length]; exact hl
end
section
variable {X : Cx} {P : Pl} {tg : Expr} {pos : Pos}
theorem gi_rngR3 {a b c : Expr} {x y z : Ex} {p : Pos} (hg : Gl X "range") (hm : X.mg "range" = none) (ha : PA X [a, b, c] (tA P [x, y, z])) (hs : starEach [a, b, c] X.env = (false, eval a X.env) :: starEach [b, c] X.env) (hpl : (backTo pos (starEach [b, c] X.env)).any (·.1) = false) :
    PI X tg (.Call (.Name "range" p) [a, b, c] [] pos) (tIr P [x, y, z]) := by
  refine (pi_range3 hg hm ha hs hpl).imp fun σ H Q ⟨lc, G, ρ, c, a, h⟩ => ?_
  unfold evI at h
  refine ⟨lc, G, ρ, c, a, out_bndIr h fun ds c1 vs G1 H1 e0 e1 r1 k1 h1 => ?_⟩
  have hl := evs_length e0
  cases e : rngD ds with
  | none => rw [e] at h1; exact h1.elim
  | some l =>
    rw [e] at h1
    match ds, e with
    | [.int _], e => cases hl
    | [.int _, .int _], e => cases hl
    | [.int a, .int b, .int d], e =>
      obtain ⟨⟨⟨z1, z2⟩, ⟨z3, z4⟩, rfl⟩, rfl⟩ := ite_some e
      obtain ⟨v, w, u, rfl, rfl, rfl, rfl⟩ : ∃ v w u, vs = [v, w, u] ∧ v = .int a ∧ w = .int b ∧ u = .int (-1) := by
        obtain ⟨v, r, rfl, e1, w, r2, rfl, e2, u, r3, rfl, e3, e4⟩ := r1
        obtain rfl : r3 = [] := e4
        exact ⟨v, w, u, rfl, e1, e2, e3⟩
      exact ⟨a, b, -1, (a - b).toNat, rfl, RgC.neg (by omega) (by omega) (by omega) (by omega), h1 _ G1 H1 (.refl e1.inn) (fun _ _ => Walk.rangeDn (n := (a - b).toNat) (by show _ ≤ 16777216; omega)) k1⟩
theorem w_rng3 {a b c : Expr} {x y z : Ex} {q : Pos} (hm : X.mg "range" = none) (ha : PE X a (tE P x)) (hb : PE X b (tE P y)) (hc : PE X c (tE P z)) (hg : Gl X "range" := by rfl) (hs : starEach [a, b, c] X.env = (false, eval a X.env) :: starEach [b, c] X.env := by rfl) (hs2 : starEach [b, c] X.env = (false, eval b X.env) :: starEach [c] X.env := by rfl) (hs3 : starEach [c] X.env = (false, eval c X.env) :: starEach [] X.env := by rfl) (hpl : (backTo pos (starEach [b, c] X.env)).any (·.1) = false := by rfl) :
    PI X tg (.Call (.Name "range" q) [a, b, c] [] pos) (tI P (.rng [x, y, z])) :=
  (gi_rngR3 hg hm (ga_cons ha (ga_cons hb (ga_cons hc ga_nil hs3) hs2) hs) hs hpl).imp fun _ _ _ h => tIr_of h
end
section
variable {X : Cx} {p : Cfg} {pos : Pos}
/-- values that read own things, behind which the state stands -/
theorem sa_all {en : En} {lc : Option Addr} {F H : Hp} {ρ : Env} {σ : L2.St} {c : Cell} {xs : List Ex} {Q : List V → Hp → Prop} {ds : List G.D} {c2 : Cell} {n : Nat} (s : StS p en lc F H ρ σ c) (e : evs p.Φ xs ρ none = .ok (ds, c2)) (hf : ∀ d ∈ ds, flatD n d = true)
    (k : ∀ vs F' H', StS p en lc F' H' ρ σ c → Reps p.K F' ds vs → Q vs H') : tA p.all xs σ H Q := by
  refine ⟨none, _, ρ, none, s.at_all, ?_⟩
  show OutA p.all none _ H (evs p.Φ xs ρ none) Q
  rw [e]
  intro vs G' H' e' r' k'
  have b := s.back e'
  exact k vs _ H' (s.step (b.any (lc := lc)) (s.cr.ext b)) (s.cut_reps e' hf r')
/-- a, b = x, y that read own things -/
theorem gs_parF2 {i j : Nat} {x y : Str} {a b : Expr} {ea eb : Ex} {px py pt : Pos} {kt k2 : Nat} {pt2 : Pos} (ok : okTg p (.tp [.nm i, .nm j]) = true) (hc : X.calm = true) (hN : X.N.Nodup) (hi : X.N[i]? = some x) (hj : X.N[j]? = some y) (hij : i ≠ j)
    (hx : X.env.scope.names.lookup x = some .local) (hy : X.env.scope.names.lookup y = some .local) (ha : PE X a (tE p.all ea)) (hb : PE X b (tE p.all eb))
    (h1 : starEach [a, b] X.env = (false, eval a X.env) :: starEach [b] X.env) (h2 : starEach [b] X.env = (false, eval b X.env) :: starEach [] X.env)
    (hw : swappedStores [.Tuple [.Name x px, .Name y py] kt pt] (.Tuple [a, b] k2 pt2) X.env = pure (some [x, y]))
    (hs : swapsWithSole [.Tuple [.Name x px, .Name y py] kt pt] (.Tuple [a, b] k2 pt2) pos.line X.env = pure false) :
    PS X (.Assign [.Tuple [.Name x px, .Name y py] kt pt] (.Tuple [a, b] k2 pt2) pos) (tS p (.asgF (.tp [.nm i, .nm j]) (.tup [ea, eb]))) := by
  refine (ps_par (ta := tA p.all [ea, eb]) hc hN hi hj hij hx hy (ga_cons ha (ga_cons hb ga_nil h2) h1) hw hs).imp fun D σ H ⟨en, lc, F, ρ, c, s, h⟩ => ?_
  unfold ex at h
  obtain ⟨d, c', e, hh1⟩ := os_bnd h
  obtain ⟨u, c1, eg, hh2⟩ := os_bnd hh1
  obtain ⟨ρ', c2, e2, h3⟩ := os_bnd hh2
  obtain ⟨e3, e4⟩ := opt_ok e2
  obtain ⟨hf, e5⟩ := guard_ok eg
  subst e4 e5
  obtain ⟨rfl, c3, e⟩ := noCell_ok e
  unfold ev at e
  obtain ⟨ds, c4, e6, e7⟩ := bnd_ok e
  have hd : d = .tup ds := by
    by_cases hz : ds.length ≤ LIM
    · rw [if_pos hz] at e7
      cases e7
      rfl
    · rw [if_neg hz] at e7
      cases e7
  subst hd
  have hfl : ∀ d ∈ ds, flatD 59 d = true := List.all_eq_true.mp hf
  refine sa_all s e6 hfl fun vs F' H' s' r' => ?_
  have hl := evs_length e6
  match ds, hl, r', e3 with
  | [d1, d2], _, r', e3 =>
    obtain ⟨v, vs1, rfl, r1, w, vs2, rfl, r2, r3⟩ := r'
    obtain rfl : vs2 = [] := r3
    have e3' : some (put (put ρ i (some d1)) j (some d2)) = some ρ' := e3
    cases e3'
    have o1 := okTg_iff ok i (by simp [tgSlots, tgsSlots])
    have o2 := okTg_iff ok j (by simp [tgSlots, tgsSlots])
    exact ⟨v, w, rfl, h3 lc F' H' _ ((s'.put o1.1 o1.2.1 o1.2.2 r1).put o2.1 o2.2.1 o2.2.2 r2)⟩
theorem s_parF2 (i j : Nat) {x y : Str} {a b : Expr} {ea eb : Ex} {px py pt : Pos} {kt k2 : Nat} {pt2 : Pos} (hc : X.calm = true) (hN : X.N.Nodup) (ha : PE X a (tE p.all ea)) (hb : PE X b (tE p.all eb)) (ok : okTg p (.tp [.nm i, .nm j]) = true := by rfl) (hi : X.N[i]? = some x := by rfl) (hj : X.N[j]? = some y := by rfl) (hij : i ≠ j := by decide)
    (hx : X.env.scope.names.lookup x = some .local := by rfl) (hy : X.env.scope.names.lookup y = some .local := by rfl)
    (h1 : starEach [a, b] X.env = (false, eval a X.env) :: starEach [b] X.env := by rfl) (h2 : starEach [b] X.env = (false, eval b X.env) :: starEach [] X.env := by rfl)
    (hw : swappedStores [.Tuple [.Name x px, .Name y py] kt pt] (.Tuple [a, b] k2 pt2) X.env = pure (some [x, y]) := by rfl)
    (hs : swapsWithSole [.Tuple [.Name x px, .Name y py] kt pt] (.Tuple [a, b] k2 pt2) pos.line X.env = pure false := by rfl) :
    PS X (.Assign [.Tuple [.Name x px, .Name y py] kt pt] (.Tuple [a, b] k2 pt2) pos) (tS p (.asgF (.tp [.nm i, .nm j]) (.tup [ea, eb]))) := gs_parF2 ok hc hN hi hj hij hx hy ha hb h1 h2 hw hs
end
end G
/-! GY: an own list becomes data. -/
namespace G
open PySem L2 PySem.Spec PyProof.Rows PySem.W
variable [TQ]
section
variable {p : Cfg} {en : En} {lc : Option Addr} {F H : Hp} {ρ : Env} {σ : L2.St} {c : Cell}
theorem StS.freeze (s : StS p en lc F H ρ σ c) {j : Nat} {ds : List G.D} (hj : j ∈ p.own) (hkj : j ∉ p.lock) (e : get ρ j = some (.lst ds)) :
    ∃ l vs, σ[j]? = some (some (.ref l)) ∧ StS p en lc (upd F l (.lst vs)) H (G.put ρ j none) σ c ∧ Rep p.K (upd F l (.lst vs)) (.lst ds) (.ref l) := by
  obtain ⟨l, q2, ⟨vs, q3, q7, q8⟩, q4, q5, q6⟩ := s.ownR hj hkj e
  have sd := s.drop (i := j) hkj
  have hsub : Same F (upd F l (.lst vs)) := fun a o z => by
    rw [upd_ne (fun h => by rw [h, q4] at z; cases z)]; exact z
  have hinn : Same (upd F l (.lst vs)) H := fun a o z => by
    by_cases h : a = l
    · subst h
      rw [upd_same] at z
      cases z
      exact q3
    · rw [upd_ne h] at z
      exact s.inn a o z
  have jn : get (G.put ρ j none) j = none := by
    cases q : get (G.put ρ j none) j with
    | none => rfl
    | some x => cases (get_put_self q).1
  have hout : ∀ k d, k ∈ p.own → get (G.put ρ j none) k = some d → ∀ l', σ[k]? = some (some (.ref l')) → l' ≠ l := fun k d hk hd l' hs h => by
    subst h
    have hne : j ≠ k := fun h => by rw [← h, jn] at hd; cases hd
    rw [get_put_ne hne] at hd
    exact s.dist j k _ d l' hj hk hne e hd q2 hs
  refine ⟨l, vs, q2, ⟨hinn, fun i d hi hd => ?_, fun i d hi hd => ?_, sd.dist, sd.cel, sd.len, ?_, ?_, sd.kept.trans hsub, sd.lcok, ?_, sd.xf, sd.lock⟩, ?_⟩
  · obtain ⟨v, a, b⟩ := sd.non i d hi hd
    exact ⟨v, a, b.mono hsub⟩
  · obtain ⟨l', a1, a2, a3, a4, a5⟩ := sd.own i d hi hd
    exact ⟨l', a1, a2.mono hsub fun _ z => z, by rw [upd_ne (hout i d hi hd l' a1)]; exact a3, a4, a5⟩
  · have hc := s.cr
    cases c with
    | none => exact hc
    | some cs =>
      obtain ⟨l0, ws, r1, r2, r3, r4⟩ := hc
      exact ⟨l0, ws, r1, by rw [upd_ne (fun h => by rw [h] at r1; exact q5 r1)]; exact r2, r3, r4.mono hsub⟩
  · exact ⟨s.ext.same, s.ext.sub.trans hsub, hinn, fun a o z z' => by
      rw [upd_ne (fun h => by rw [h, q6] at z'; cases z')]
      exact s.ext.fresh a o z z', s.ext.cell, s.ext.tab, s.ext.tbl, fun n => (s.ext.nt n).upd (plain_lst 0 _).1⟩
  · exact s.exn.mono hsub
  · exact ⟨l, vs, rfl, .of upd_same, q7.mono hsub, q8⟩
theorem StS.freezeD (s : StS p en lc F H ρ σ c) {j : Nat} {ks vs : List G.D} (hj : j ∈ p.own) (hkj : j ∉ p.lock) (e : get ρ j = some (.dct ks vs)) :
    ∃ l xs, σ[j]? = some (some (.ref l)) ∧ StS p en lc (upd F l (dkO l xs)) H (G.put ρ j none) σ c ∧ Rep p.K (upd F l (dkO l xs)) (.dct ks vs) (.ref l) := by
  obtain ⟨l, q2, ⟨xs, q3, q7, q8, q9, q10, q11, q12⟩, q4, q5, q6⟩ := s.ownR hj hkj e
  have sd := s.drop (i := j) hkj
  have hsub : Same F (upd F l (dkO l xs)) := fun a o z => by
    rw [upd_ne (fun h => by rw [h, q4] at z; cases z)]; exact z
  have hinn : Same (upd F l (dkO l xs)) H := fun a o z => by
    by_cases h : a = l
    · subst h
      rw [upd_same] at z
      cases z
      exact q3
    · rw [upd_ne h] at z
      exact s.inn a o z
  have jn : get (G.put ρ j none) j = none := by
    cases q : get (G.put ρ j none) j with
    | none => rfl
    | some x => cases (get_put_self q).1
  have hout : ∀ k d, k ∈ p.own → get (G.put ρ j none) k = some d → ∀ l', σ[k]? = some (some (.ref l')) → l' ≠ l := fun k d hk hd l' hs h => by
    subst h
    have hne : j ≠ k := fun h => by rw [← h, jn] at hd; cases hd
    rw [get_put_ne hne] at hd
    exact s.dist j k _ d l' hj hk hne e hd q2 hs
  refine ⟨l, xs, q2, ⟨hinn, fun i d hi hd => ?_, fun i d hi hd => ?_, sd.dist, sd.cel, sd.len, ?_, ?_, sd.kept.trans hsub, sd.lcok, ?_, sd.xf, sd.lock⟩, ?_⟩
  · obtain ⟨v, a, b⟩ := sd.non i d hi hd
    exact ⟨v, a, b.mono hsub⟩
  · obtain ⟨l', a1, a2, a3, a4, a5⟩ := sd.own i d hi hd
    exact ⟨l', a1, a2.mono hsub fun _ z => z, by rw [upd_ne (hout i d hi hd l' a1)]; exact a3, a4, a5⟩
  · have hc := s.cr
    cases c with
    | none => exact hc
    | some cs =>
      obtain ⟨l0, ws, r1, r2, r3, r4⟩ := hc
      exact ⟨l0, ws, r1, by rw [upd_ne (fun h => by rw [h] at r1; exact q5 r1)]; exact r2, r3, r4.mono hsub⟩
  · exact ⟨s.ext.same, s.ext.sub.trans hsub, hinn, fun a o z z' => by
      rw [upd_ne (fun h => by rw [h, q6] at z'; cases z')]
      exact s.ext.fresh a o z z', s.ext.cell, s.ext.tab, s.ext.tbl, fun n => (s.ext.nt n).upd (plain_dk l _).1⟩
  · exact s.exn.mono hsub
  · exact ⟨l, xs, rfl, .of upd_same, q7, q8, q9, q10, q11.mono hsub, q12.mono hsub⟩
end
section
variable {X : Cx} {p : Cfg} {pos : Pos}
/-- x = y, y own: y is forgotten, x is data -/
theorem gs_frz {i j : Nat} {x y : Str} {px pos' : Pos} (ok : okTg p (.nm i) = true) (hj : j ∈ p.own) (hkj : j ∉ p.lock) (hNN : X.N.Nodup) (hN : X.N[i]? = some x) (hx : Loc X.env.scope x) (hJ : X.N[j]? = some y) (hv : Vis X.env.scope y) (hd : (y == ("__debug__" : Str)) = false) (hcd : (y == ("__classdict__" : Str)) = false)
    (hs : swapsWith (.Name y px) (some (.Name x pos')) pos.line X.env = pure false) (hf : X.fn x = true ∨ X.env.scope.names.lookup x = some .local) : PS X (.Assign [.Name x pos'] (.Name y px) pos) (tS p (.frz i j)) := by
  refine (ps_set hNN hN hx (pe_var hJ hv hd hcd) hs hf).imp fun D σ H ⟨en, lc, F, ρ, c, s, h⟩ => ?_
  unfold ex at h
  obtain ⟨d, c2, e2, h3⟩ := os_bnd h
  obtain ⟨e3, e4⟩ := opt_ok e2
  obtain ⟨u, c3, eg, h4⟩ := os_bnd h3
  obtain ⟨hb, e5⟩ := guard_ok eg
  subst e4 e5
  cases eo : get ρ j with
  | none => rw [eo] at e3; cases e3
  | some dl =>
    rw [eo] at e3
    cases dl with
    | lst ds =>
      cases e3
      obtain ⟨l, vs, q2, s', r'⟩ := s.freeze hj hkj eo
      refine ⟨.ref l, q2, ?_⟩
      show D.nx (σ.set i (some (.ref l))) H
      have o1 := okTg_iff ok i (by simp [tgSlots])
      exact h4 lc _ H _ (s'.put o1.1 o1.2.1 o1.2.2 r')
    | dct ks vs =>
      cases e3
      obtain ⟨l, xs, q2, s', r'⟩ := s.freezeD hj hkj eo
      refine ⟨.ref l, q2, ?_⟩
      show D.nx (σ.set i (some (.ref l))) H
      have o1 := okTg_iff ok i (by simp [tgSlots])
      exact h4 lc _ H _ (s'.put o1.1 o1.2.1 o1.2.2 r')
    | _ => cases e3
theorem s_frz (i j : Nat) {x y : Str} {px pos' : Pos} (hNN : X.N.Nodup) (ok : okTg p (.nm i) = true := by rfl) (hj : p.own.contains j = true := by rfl) (hkj : p.lock.contains j = false := by rfl) (hN : X.N[i]? = some x := by rfl) (hx : Loc X.env.scope x := by first | exact Or.inl rfl | exact Or.inr rfl) (hJ : X.N[j]? = some y := by rfl)
    (hv : Vis X.env.scope y := by first | exact Or.inl rfl | exact Or.inr (Or.inl rfl) | exact Or.inr (Or.inr rfl)) (hd : (y == ("__debug__" : Str)) = false := by decide +kernel) (hcd : (y == ("__classdict__" : Str)) = false := by decide +kernel)
    (hs : swapsWith (.Name y px) (some (.Name x pos')) pos.line X.env = pure false := by rfl) (hf : X.fn x = true ∨ X.env.scope.names.lookup x = some .local := by first | exact .inl rfl | exact .inr rfl) : PS X (.Assign [.Name x pos'] (.Name y px) pos) (tS p (.frz i j)) :=
  gs_frz ok (by simpa using hj) (by simpa using hkj) hNN hN hx hJ hv hd hcd hs hf
end
end G
/-! GZ: sorted(x, key=lambda one: one[:2]). -/
namespace G
open PySem PySem.Spec PyProof.Rows L2
/-- lambda x: x[:2], called with a tuple that begins with two whole numbers -/
theorem lam_call {P : Program} {w : World} {A : Around} {s : Shared} {f t c' : Addr} {qual x : Str} {params : Arguments} {body : Expr} {scope : Scope} {pm ctv : Value} {items : Array Value} {o m : Int} {to_ tm : Tok} {k : Nat} {p1 p2 p3 p4 : Pos} {E : Value → Shared → Prop}
    (hbody : body = .Subscript (.Name x p1) (.Slice none (some (.Constant (.int 2) k p2)) none p3) p4) (hdep : A.depth < recursionLimit) (hlim : s.heap.NoLimit)
    (hf : s.heap.get? f = some (PySem.W.kla_obj "<lambda>" qual params body scope [] pm c' ctv)) (hcd : s.heap.CodeRec (.ref c') qual)
    (hb : bindArgs (PySem.W.kla_fn "<lambda>" qual params body scope [] pm (.ref c') ctv) ⟨[.ref t], []⟩ = pure [(x, .ref t)])
    (hk : scope.kind = .function) (hco : scope.isCoroutine = false) (hgen : scope.isGenerator = false) (hx : scope.names.lookup x = some .local) (hcell : ∀ y ∈ scope.names, y.2 ≠ .cell) (hdb : (x == ("__debug__" : Str)) = false)
    (ht : IsTup s.heap t items) (h0 : items[0]? = some (.int o to_)) (h1 : items[1]? = some (.int m tm)) (hs : 3 ≤ items.size) (hz : items.size ≤ sizeLine) :
    wpAny (model P w) A (call (.ref f) [.ref t]) (PySem.W.KeyPure (.tuple [.int o, .int m]) s) E s := by
  subst hbody
  refine wpAny_call (codeAny_mono (R := fun r s' => ∃ v, r = .ok (.ret v) ∧ PySem.W.KeyPure (.tuple [.int o, .int m]) s v s') ?_ fun r s' hq => ?_)
  · refine PySem.W.kla_callFunE hdep hf rfl hco hgen rfl hcd ?_
    rw [hb]
    refine wpAny_pure (wpAny_newFunctionEnv hcell (fun y hy => by rw [List.mem_singleton] at hy; subst hy; exact hx) (fun h₁ hns hsb => ⟨hlim.fresh _ hsb, ?_⟩) hk)
    have kp : ∀ b o, s.heap.get? b = some o → h₁.get? b = some o := fun b o e => hsb.extBut b o (Nat.ne_of_lt (Heap.lt_size e)) (Heap.get?_push_of_some _ e)
    refine PySem.W.kla_codeExpr ?_
    refine Subscript_ (wpAny_Name (wpAny_loadName_local hk hx hns (v := .ref t) (by simp [List.lookup]) ?_) hdb)
    refine wpAny_Slice ?_
    rw [evalPart_none]
    refine wpAny_pure ?_
    rw [evalPart_some]
    refine wpAny_Constant_int ?_
    refine wpAny_pure ?_
    have ht1 := ht.keeps kp
    have ht2 : ∀ ob, IsTup (h₁.push ob) t items := fun ob => ht1.keeps fun b o e => Heap.get?_push_of_some _ e
    have e1 : HT.sIx items.size 0 none = 0 := rfl
    have e2 : HT.sIx items.size items.size (some 2) = 2 := by
      unfold HT.sIx
      simp
      omega
    refine tail_any (T := "tuple") (ops := [.ref h₁.objs.size, .ref t]) (ht2 _).typeIs PyProof.Rows.slot_tuple_getitem.lookup (HT.getItem_tuple_cut (lo := none) (hi := some 2) (ht2 _) (Heap.IsSliceOf.new ..) .none (.int 2 _) (by rw [e1, e2]; omega) ?_ hz) (by with_unfolding_all rfl)
    refine ⟨_, rfl, _, _, rfl, fun b o e => Heap.get?_push_of_some _ (Heap.get?_push_of_some _ (kp b o e)), ?_⟩
    have e3 : (items.toList.drop (HT.sIx items.size 0 none)).take (HT.sIx items.size items.size (some 2) - HT.sIx items.size 0 none) = [.int o to_, .int m tm] := by
      rw [e1, e2]
      rw [← Array.getElem?_toList] at h0 h1
      obtain ⟨a, b, r, hl⟩ : ∃ a b r, items.toList = a :: b :: r := by
        cases hl : items.toList with
        | nil => rw [hl] at h0; cases h0
        | cons a r => cases r with
          | nil => rw [hl] at h1; cases h1
          | cons b r => exact ⟨a, b, r, rfl⟩
      rw [hl] at h0 h1 ⊢
      cases h0
      cases h1
      rfl
    rw [e3]
    exact .tuple (Heap.get?_push_size _ rfl) rfl rfl (.cons (as := []) (.int o to_) (.cons (as := []) (.int m tm) .nil))
  · obtain ⟨v, rfl, h⟩ := hq
    exact h
/-- the object at f is that lambda -/
def LamO (f c' : Addr) (qual : Str) (params : Arguments) (body : Expr) (scope : Scope) : HO := .ext fun h => ∃ pm ctv : Value, h.get? f = some (PySem.W.kla_obj "<lambda>" qual params body scope [] pm c' ctv)
theorem lamO_ne {f c' : Addr} {qual : Str} {params : Arguments} {body : Expr} {scope : Scope} (ps : Array Value) : LamO f c' qual params body scope ≠ .tbl ps := fun z => by
  unfold LamO at z
  cases z
section
variable [TQ] {X : Cx} {pins : List (Addr × Obj)} {σ : L2.St} {H : Hp} {s : Shared}
theorem inv_lam {t' : Nat} {f c' : Addr} {qual : Str} {params : Arguments} {body : Expr} {scope : Scope} {pm ctv : Value} (I : Inv X pins σ H s) :
    Inv X pins σ (upd H s.heap.objs.size (LamO s.heap.objs.size c' qual params body scope)) { s with heap := s.heap.push (PySem.W.kla_obj "<lambda>" qual params body scope [] pm c' ctv), toks := t' } := by
  refine I.laid (a := s.heap.objs.size) (fun b u e => Heap.get?_push_of_some _ e) (Nat.le_refl _) ?_
  have e : (s.heap.push (PySem.W.kla_obj "<lambda>" qual params body scope [] pm c' ctv)).get? s.heap.objs.size = some (PySem.W.kla_obj "<lambda>" qual params body scope [] pm c' ctv) := Heap.get?_push_size _ rfl
  exact ⟨⟨_, _, e⟩, ⟨_, e⟩, fun h1 h2 ⟨p, t, z⟩ st => ⟨p, t, st _ z⟩⟩
/-- the lambda is made -/
theorem lam_make {c P : Addr} {params : Arguments} {body : Expr} {scope : Scope} {pos : Pos} {E : Value → Shared → Prop} {Q : Value → Shared → Prop} (I : Inv X pins σ H s) (TBk : LamX.TabB X.base X.mg c P) (hcode : X.env.code = .ref c) (tP : TabG H P) (hnm : TQ.nm P = X.env.qual ++ "<lambda>")
    (hdef : defaultsOf params X.env = ([], [])) (hfree : ∀ y ∈ scope.names, y.2 = .free → ∃ c, X.env.cells.lookup y.1 = some c) (hcl : cloFrom X.env.cells scope.names [] = [])
    (h : ∀ (f c' : Addr) (H1 : Hp) (s' : Shared), Inv X pins σ H1 s' → LamX.ExtN H H1 → (∀ b ps, H b = some (.tbl ps) → ∃ ps', H1 b = some (.tbl ps')) → (∀ R, TabG H R → TabG H1 R) → H f = none → H1 f = some (LamO f c' (X.env.qual ++ "<lambda>") params body scope) → H1 c' = some (LamX.CodeO c' (X.env.qual ++ "<lambda>")) → Q (.ref f) s') :
    wpAny (model X.prog X.w) X.A (eval (.Lambda params body scope pos) X.env) Q E s := by
  obtain ⟨ps, hP, ht, ha⟩ := id tP
  refine PySem.W.kla_eval hdef ?_
  have bP : s.heap.BuiltinsAt X.mg P := TBk.bm.keeps I.bk
  have hP' : s.heap.get? P = some { cls := .none, data := .fields ps } := I.hok P _ hP
  cases hc : codeAmong pos ps.toList with
  | none =>
    refine PySem.W.kla_makeFunction (mg := X.mg) (c := c) (P := P) (ps := ps) (closure_ok hfree) I.ok.glob (I.mod.glob.keeps I.bk) hcode (TBk.code.keeps I.bk) hP' ht hc TBk.gP bP fun c' ctv h' tk hx hge hlt hrec htb => ?_
    rw [hcl]
    obtain ⟨c2, oc, vs, t, e2, hoc, hd, hv⟩ := hrec
    cases e2
    have nC : H c' = none := I.hok.fresh hge
    have I1 := LamX.inv_table (t' := tk) (more := #[rawInt pos.line, rawInt pos.col, .ref c']) (h' := h') I hP (fun b o hb e => hx b o hb e) htb hge ⟨oc, vs, t, hoc, hd, hv⟩
    have hE : LamX.ExtN H (upd (upd H P (.tbl (ps ++ #[rawInt pos.line, rawInt pos.col, .ref c']))) c' (LamX.CodeO c' (X.env.qual ++ "<lambda>"))) := fun b o e n => by
      rw [upd_ne (ne_of_none e nC), upd_ne (fun z => n ps (Option.some.inj (e.symm.trans (by rw [z]; exact hP))))]
      exact e
    have eL : (ps ++ #[rawInt pos.line, rawInt pos.col, .ref c']).toList = ps.toList ++ [rawInt pos.line, rawInt pos.col, .ref c'] := by simp
    have T1 : ∀ R, TabG H R → TabG (upd (upd H P (.tbl (ps ++ #[rawInt pos.line, rawInt pos.col, .ref c']))) c' (LamX.CodeO c' (X.env.qual ++ "<lambda>"))) R := fun R tR => by
      by_cases hb : R = P
      · subst hb
        refine ⟨_, by rw [upd_ne (ne_of_none hP nC), upd_same], by rw [eL]; exact PySem.TriplesOk_snoc _ _ _ _ ht, fun p' cv hcv => ?_⟩
        rw [eL] at hcv
        rcases LamX.among_app _ ht hcv with z | z
        · obtain ⟨c0, e1, e2⟩ := ha p' cv z
          exact ⟨c0, e1, hE _ _ e2 LamX.codeO_ne⟩
        · refine ⟨c', z, ?_⟩
          rw [hnm]
          exact upd_same
      · obtain ⟨ps', a1, a2, a3⟩ := tR
        refine ⟨ps', by rw [upd_ne (ne_of_none a1 nC), upd_ne hb]; exact a1, a2, fun p' cv hcv => ?_⟩
        obtain ⟨c0, e1, e2⟩ := a3 p' cv hcv
        exact ⟨c0, e1, hE _ _ e2 LamX.codeO_ne⟩
    have nF := I1.hok.fresh (Nat.le_refl _)
    have I2 := inv_lam (f := 0) (c' := c') (qual := X.env.qual ++ "<lambda>") (params := params) (body := body) (scope := scope) (t' := tk) (pm := (X.mg "__name__").getD .none) (ctv := ctv) I1
    refine h h'.objs.size c' _ _ I2 (fun b o e n => ?_) (fun b qs e => ?_) (fun R tR => LamX.TabS.ext (T1 R tR) fun b o e => ?_) (I.hok.fresh (Nat.le_trans hge (Nat.le_of_lt hlt))) upd_same ?_
    · have e1 := hE b o e n
      exact (upd_ne (ne_of_none e1 nF)).trans e1
    · by_cases hb : b = P
      · subst hb
        exact ⟨_, (upd_ne (ne_of_none (H := upd (upd H b (.tbl (ps ++ #[rawInt pos.line, rawInt pos.col, .ref c']))) c' (LamX.CodeO c' (X.env.qual ++ "<lambda>"))) (by rw [upd_ne (ne_of_none hP nC), upd_same]) nF)).trans (by rw [upd_ne (ne_of_none hP nC), upd_same])⟩
      · have e1 : upd (upd H P (.tbl (ps ++ #[rawInt pos.line, rawInt pos.col, .ref c']))) c' (LamX.CodeO c' (X.env.qual ++ "<lambda>")) b = some (.tbl qs) := by rw [upd_ne (ne_of_none e nC), upd_ne hb]; exact e
        exact ⟨qs, (upd_ne (ne_of_none e1 nF)).trans e1⟩
    · exact (upd_ne (ne_of_none e nF)).trans e
    · exact (upd_ne (Nat.ne_of_lt hlt)).trans upd_same
  | some cv =>
    obtain ⟨c', e, hco⟩ := ha pos cv hc
    subst e
    rw [hnm] at hco
    refine PySem.W.kla_makeFunctionHit (mg := X.mg) (c := c) (P := P) (ps := ps) (closure_ok hfree) I.ok.glob (I.mod.glob.keeps I.bk) hcode (TBk.code.keeps I.bk) hP' ht hc bP fun ctv h' tk hx hsz => ?_
    rw [hcl]
    have I1 : Inv X pins σ H { s with heap := h', toks := tk } := I.kept hx
    have nF : H h'.objs.size = none := I1.hok.fresh (Nat.le_refl _)
    have I2 := inv_lam (f := 0) (c' := c') (qual := X.env.qual ++ "<lambda>") (params := params) (body := body) (scope := scope) (t' := tk) (pm := (X.mg "__name__").getD .none) (ctv := ctv) I1
    refine h h'.objs.size c' _ _ I2 (fun b o e n => ?_) (fun b qs e => ⟨qs, ?_⟩) (fun R tR => LamX.TabS.ext tR fun b o e => ?_) nF upd_same ?_
    · exact (upd_ne (ne_of_none e nF)).trans e
    · exact (upd_ne (ne_of_none e nF)).trans e
    · exact (upd_ne (ne_of_none e nF)).trans e
    · exact (upd_ne (ne_of_none hco nF)).trans hco
end
end G
/-! GA2: the rule for sorted(x, key=lambda one: one[:2]). -/
namespace G
open PySem PySem.Spec PyProof.Rows L2
variable [TQ]
theorem swo_mk : SrtO.Swo ltMk := ⟨fun x y h => by
    have := of_decide_eq_true h
    exact decide_eq_false (by omega), fun x y z h1 h2 => by
    have := of_decide_eq_false h1
    have := of_decide_eq_false h2
    exact decide_eq_false (by omega)⟩
theorem mk2_inv {d : D} (h : (mk2 d).isSome = true) : ∃ a b z r, d = .tup (.int a :: .int b :: z :: r) ∧ mkD d = (a, b) := by
  unfold mkD mk2 at *
  split at h
  · rename_i a b z r
    exact ⟨a, b, z, r, rfl, rfl⟩
  · cases h
theorem mk_inj : ∀ {l : List D} {x y : D}, (l.map mkD).Nodup → x ∈ l → y ∈ l → mkD x = mkD y → x = y
  | [], _, _, _, h, _, _ => absurd h (by simp)
  | d :: l, x, y, hn, hx, hy, e => by
    obtain ⟨h1, h2⟩ := List.nodup_cons.mp hn
    rcases List.mem_cons.mp hx with ex | kx
    · rcases List.mem_cons.mp hy with ey | ky
      · rw [ex, ey]
      · exact absurd (by rw [← ex, e]; exact List.mem_map_of_mem (f := mkD) ky) h1
    · rcases List.mem_cons.mp hy with ey | ky
      · exact absurd (by rw [← ey, ← e]; exact List.mem_map_of_mem (f := mkD) kx) h1
      · exact mk_inj h2 kx ky e
def kMk (d : D) : PyData := .tuple [.int (mkD d).1, .int (mkD d).2]
theorem sort_mk {l : List D} (hn : (l.map mkD).Nodup) : l.mergeSort (PySem.W.dataLe false kMk) = sortBy ltMk l := by
  have hle : PySem.W.dataLe false kMk = fun p q => decide ((mkD p).1 < (mkD q).1 ∨ ((mkD p).1 = (mkD q).1 ∧ (mkD p).2 ≤ (mkD q).2)) := PySem.W.dataLe_ii (β := D) (fun d => (mkD d).1) fun d => (mkD d).2
  rw [hle]
  have s1 := List.pairwise_mergeSort (le := fun p q : D => decide ((mkD p).1 < (mkD q).1 ∨ ((mkD p).1 = (mkD q).1 ∧ (mkD p).2 ≤ (mkD q).2))) (fun a b c h1 h2 => by
    have := of_decide_eq_true h1
    have := of_decide_eq_true h2
    exact decide_eq_true (by omega)) (fun a b => by
    rw [Bool.or_eq_true]
    by_cases h : (mkD a).1 < (mkD b).1 ∨ ((mkD a).1 = (mkD b).1 ∧ (mkD a).2 ≤ (mkD b).2)
    · exact .inl (decide_eq_true h)
    · exact .inr (decide_eq_true (by omega))) l
  have p1 := List.mergeSort_perm l fun p q : D => decide ((mkD p).1 < (mkD q).1 ∨ ((mkD p).1 = (mkD q).1 ∧ (mkD p).2 ≤ (mkD q).2))
  have s2 := sortBy_srtd swo_mk l
  have p2 := sortBy_perm (lt := ltMk) l
  refine (p1.trans p2.symm).eq_of_pairwise (le := fun p q => (mkD p).1 < (mkD q).1 ∨ ((mkD p).1 = (mkD q).1 ∧ (mkD p).2 ≤ (mkD q).2)) (fun a b ha hb h1 h2 => ?_) (s1.imp fun h => of_decide_eq_true h) (s2.imp fun {a b} h => ?_)
  · have ea : mkD a = mkD b := Prod.ext (by omega) (by omega)
    exact mk_inj hn (p1.mem_iff.mp ha) (p2.mem_iff.mp hb) ea
  · have := of_decide_eq_false h
    omega
theorem each_of {K : PySem.W.Frag} {F : Hp} : ∀ {l : List D} {xs : List V} {us : List Value}, Reps K F l xs → Vals xs us → PySem.W.EachIs (fun u d => ∃ v, RelV v u ∧ Rep K F d v) us l
  | [], _, _, h, r => by
    cases h
    cases r
    exact .nil
  | d :: l, _, _, h, r => by
    obtain ⟨x, xs, rfl, h1, h2⟩ := h
    cases r with
    | cons r1 r2 => exact .cons ⟨x, r1, h1⟩ (each_of h2 r2)
theorem each_back {K : PySem.W.Frag} {F : Hp} : ∀ {l : List D} {us : List Value}, PySem.W.EachIs (fun u d => ∃ v, RelV v u ∧ Rep K F d v) us l → ∃ xs, Vals xs us ∧ Reps K F l xs
  | _, _, .nil => ⟨[], .nil, rfl⟩
  | _, _, .cons ⟨v, h1, h2⟩ h => by
    obtain ⟨xs, r1, r2⟩ := each_back h
    exact ⟨v :: xs, .cons h1 r1, v, xs, rfl, h2, r2⟩
section
variable {X : Cx} {P : Pl} {qual y : Str} {params : Arguments} {body : Expr} {scope : Scope}
def rSM (K : PySem.W.Frag) (qual : Str) (params : Arguments) (body : Expr) (scope : Scope) : List V → List V → Hp → VK → Prop := fun vs zs H Q => ∃ (F : Hp) (a f c' : Addr) (l : List D) (xs : List V), vs = [V.ref a] ∧ zs = [V.ref f] ∧ Same F H ∧ SqL K H a xs ∧ Reps K F l xs ∧
  (l.all fun d => (mk2 d).isSome) = true ∧ l.length ≤ 1000 ∧ (l.map mkD).Nodup ∧ H f = some (LamO f c' qual params body scope) ∧ H c' = some (LamX.CodeO c' qual) ∧ ∀ ys p, Reps K F (sortBy ltMk l) ys → H p = none → Q (.ref p) (upd H p (.lst ys))
theorem cr_sortM {k : Nat} {p1 p2 p3 p4 : Pos} (hr : Room k X.A) (hbody : body = .Subscript (.Name y p1) (.Slice none (some (.Constant (.int 2) 0 p2)) none p3) p4)
    (hb : ∀ (pm cv ctv : Value) (t : Addr), bindArgs (PySem.W.kla_fn "<lambda>" qual params body scope [] pm cv ctv) ⟨[.ref t], []⟩ = pure [(y, .ref t)])
    (hk : scope.kind = .function) (hco : scope.isCoroutine = false) (hgen : scope.isGenerator = false) (hx : scope.names.lookup y = some .local) (hcell : ∀ y ∈ scope.names, y.2 ≠ .cell) (hdb : (y == ("__debug__" : Str)) = false) :
    CallRK X (.builtin "sorted") [Str.ofString "key"] (rSM X.K qual params body scope) := by
  intro pins s σ H vs zs us ws Q I r rz h
  obtain ⟨F, a, f, c', l, xs, rfl, rfl, sg, hs, rr, hall, hlen, hnd, hf, hc, q⟩ := h
  obtain rfl := Vals.ref1 r
  obtain ⟨w1, rfl, e1⟩ := vals1 rz
  obtain rfl : w1 = Value.ref f := e1
  obtain ⟨its, rv, hl, hz⟩ := I.list hs
  have hd : ∀ d : D, (kMk d).depth = 1 := fun d => by simp [kMk, PyData.depth, PyData.depthAll]
  have hlim : ∀ {n : Nat}, n ≤ 1000 → n ≤ sizeLine := fun {n} h => by rw [sizeLine_eq]; omega
  show wpAny _ _ (call (.builtin "sorted") [.ref a] [(Str.ofString "key", .ref f)]) _ _ _
  refine PySem.W.sorted_key_data (b := false) kMk hl.isList (each_of rr rv) (PySem.W.AllAlike.of fun _ _ => by simp [kMk, PySem.W.alike, PySem.W.alikeAll]) (PySem.W.Sortable.tuples fun _ => ⟨_, _, rfl⟩) (hlim hlen) (fun d _ => ?_) (ksk_s1 _ _) (fun _ => ksk_l1 _ _) (fun _ => ksk_t1 _ _)
    (fun v d hR hm h tk kp => ?_) fun out c h' tk kp hn hD hol eo => ?_
  · rw [hd]
    have := hr.un
    omega
  · obtain ⟨v', r1, r2⟩ := hR
    obtain ⟨o, m, z, r, rfl, ek⟩ := mk2_inv (List.all_eq_true.mp hall d hm)
    obtain ⟨t, vs, rfl, t1, t2, t3⟩ := r2
    obtain rfl : v = Value.ref t := r1
    have I2 : Inv X pins σ H { s with heap := h, toks := tk } := I.kept kp
    obtain ⟨its2, rv2, ht, hz2⟩ := I2.tuple (same_t sg t1)
    obtain ⟨x1, r', rfl, g1, g2⟩ := t2
    obtain ⟨x2, r'', rfl, g3, g4⟩ := g2
    obtain ⟨x3, r3, rfl, g5, g6⟩ := g4
    cases g1
    cases g3
    cases rv2 with
    | cons q1 q2 =>
    cases q2 with
    | cons q3 q4 =>
    cases q4 with
    | cons q5 q6 =>
    obtain ⟨to_, rfl⟩ := q1
    obtain ⟨tm, rfl⟩ := q3
    obtain ⟨⟨pm, ctv, hfo⟩, _⟩ := I2.hok f _ hf
    obtain ⟨⟨oc, cv, tt, hco1, hco2, hco3⟩, _⟩ := I2.hok c' _ hc
    have hlz := q6.length
    rw [kMk, ek]
    refine lam_call (scope := scope) (c' := c') (pm := pm) (ctv := ctv) hbody ?_ I2.nolimit hfo ⟨c', oc, cv, tt, rfl, hco1, hco2, hco3⟩ (hb _ _ _ _) hk hco hgen hx hcell hdb ht rfl rfl ?_ ?_
    · have := hr.dp
      show X.A.depth < _
      omega
    · simp
    · simp only [List.length_cons, List.size_toArray] at hz2 ⊢
      omega
  · rw [sort_mk hnd] at eo
    obtain ⟨ys, v1, v2⟩ := each_back eo
    refine ⟨.ref _, upd H (s.heap.objs.size + 1) (.lst ys), I.laid (t' := tk) kp (Nat.le_succ _) ⟨?_, out, c, v1, hD⟩, rfl, q _ _ v2 (I.hok.fresh (Nat.le_succ _))⟩
    rw [v1.length, hol]
    exact hlim hlen
def tLam (P : Addr) (qual : Str) (params : Arguments) (body : Expr) (scope : Scope) : TE := fun _ H Q => TabG H P ∧ ∀ (f c' : Addr) (H1 : Hp), LamX.ExtN H H1 → (∀ b ps, H b = some (.tbl ps) → ∃ ps', H1 b = some (.tbl ps')) → (∀ R, TabG H R → TabG H1 R) → H f = none → H1 f = some (LamO f c' qual params body scope) → H1 c' = some (LamX.CodeO c' qual) → Q (.ref f) H1
theorem pe_lam {c B : Addr} {pos : Pos} (TBk : LamX.TabB X.base X.mg c B) (hcode : X.env.code = .ref c) (hnm : TQ.nm B = X.env.qual ++ "<lambda>") (hdef : defaultsOf params X.env = ([], [])) (hfree : ∀ y ∈ scope.names, y.2 ≠ .free) (hcl : cloFrom X.env.cells scope.names [] = []) :
    PE X (.Lambda params body scope pos) (tLam B (X.env.qual ++ "<lambda>") params body scope) :=
  ⟨fun pins s σ H Q I ⟨t, h⟩ => lam_make I TBk hcode t hnm hdef (fun y hy e => absurd e (hfree y hy)) hcl fun f c' H1 s' I1 e1 e2 e3 e4 e5 e6 => ⟨.ref f, H1, I1, rfl, h f c' H1 e1 e2 e3 e4 e5 e6⟩⟩
theorem f_sortedM {k : Nat} {c B : Addr} {x : Ex} {e : Expr} {q pos lpos kpos p1 p2 p3 p4 : Pos} (ok : Ok P X) (hm : X.mg "sorted" = none) (hr : Room k X.A) (TBk : LamX.TabB X.base X.mg c B) (hB : TQ.is B) (hcode : X.env.code = .ref c) (hnm : TQ.nm B = X.env.qual ++ "<lambda>") (ha : PE X e (tE P x))
    (hb : ∀ (pm cv ctv : Value) (t : Addr), bindArgs (PySem.W.kla_fn "<lambda>" (X.env.qual ++ "<lambda>") params (.Subscript (.Name y p1) (.Slice none (some (.Constant (.int 2) 0 p2)) none p3) p4) scope [] pm cv ctv) ⟨[.ref t], []⟩ = pure [(y, .ref t)] := by intros; rfl)
    (hg : Gl X "sorted" := by rfl) (he : starEach [e] X.env = (false, eval e X.env) :: starEach [] X.env := by rfl)
    (hk : scope.kind = .function := by rfl) (hco : scope.isCoroutine = false := by rfl) (hgen : scope.isGenerator = false := by rfl) (hx : scope.names.lookup y = some .local := by rfl) (hcell : ∀ y ∈ scope.names, y.2 ≠ .cell := by decide) (hdb : (y == ("__debug__" : Str)) = false := by decide +kernel)
    (hdef : defaultsOf params X.env = ([], []) := by rfl) (hfree : ∀ y ∈ scope.names, y.2 ≠ .free := by decide) (hcl : cloFrom X.env.cells scope.names [] = [] := by rfl) :
    PE X (.Call (.Name "sorted" q) [e] [⟨some (Str.ofString "key"), .Lambda params (.Subscript (.Name y p1) (.Slice none (some (.Constant (.int 2) 0 p2)) none p3) p4) scope lpos, kpos⟩] pos) (tF P (.blt .sortedM [x])) := by
  have h := pe_callBK (pos := pos) (p := q) (cr_sortM hr rfl hb hk hco hgen hx hcell hdb) hg hm PyProof.Rows.boot_sorted (ga_cons ha ga_nil he) (pk_cons (nm := some (Str.ofString "key")) (kpos := kpos) (pe_lam (body := .Subscript (.Name y p1) (.Slice none (some (.Constant (.int 2) 0 p2)) none p3) p4) (pos := lpos) TBk hcode hnm hdef hfree hcl) pk_nil) (by decide +kernel) (by decide +kernel) (by rw [he]; rfl) (by rw [he]; rfl) rfl rfl rfl
  refine h.imp fun σ H Q ⟨lc, F, ρ, cc, a, h⟩ => ?_
  unfold ev at h
  refine ⟨lc, F, ρ, cc, a, af h fun ds c1 vs G1 H1 e1 r1 k1 h1 => ?_⟩
  refine ⟨e1.tab B (a.tb B hB), fun f c' H2 x1 x2 x3 nf hf hc => ?_⟩
  show rSM X.K (X.env.qual ++ "<lambda>") params _ scope vs [.ref f] H2 Q
  obtain ⟨d, ed, h2⟩ := h1.opt
  have nt1 : NoT G1 := e1.nt a.nt
  have sm2 : Same G1 H2 := fun b o e => x1 b o (e1.inn b o e) fun ps z => nt1 b ps (by rw [e, z])
  match ds, ed with
  | [.lst l], ed =>
    obtain ⟨v, rfl, p, xs, rfl, g1, g2, g3⟩ := reps1 r1
    obtain ⟨l', el, rfl⟩ := Option.map_eq_some_iff.mp (show (sortM l).map D.lst = some d from ed)
    obtain ⟨⟨y1, y2, y3⟩, rfl⟩ := ite_some (show (if _ then some (sortBy ltMk l) else none) = some l' from el)
    have X2 : ∀ lc, Ext lc G1 H1 G1 H2 := fun lc => ⟨fun b o hb ho e => x1 b o e ho, fun _ _ e => e, sm2, fun b o e _ => e, fun b o hb e => ?_, x3, x2, fun z => z⟩
    · refine ⟨G1, p, f, c', l, xs, rfl, rfl, sm2, same_l sm2 (by rw [← ok.K]; exact g1), by rw [← ok.K]; exact g2, y1, y2, y3, hf, hc, fun ys p2 hy hn => ?_⟩
      rw [← ok.K] at hy
      exact (h2.ext (X2 lc)).out sm2 hy (by rw [(sortBy_perm l).length_eq]; exact g3) (k1.ext (X2 none)) hn
    · by_cases z : ∃ ps, o = .tbl ps
      · obtain ⟨ps, rfl⟩ := z
        obtain ⟨ps', e'⟩ := x2 b ps e
        exact ⟨_, e'⟩
      · exact ⟨o, x1 b o e fun ps q => z ⟨ps, q⟩⟩
end
end G
/-! GB2: a def that makes a lambda; the head with tables of code objects. -/
namespace G
open PySem L2
/-- where no program is in sight -/
@[reducible] def dumTQ : TQ := ⟨fun _ => "", fun _ => False⟩
theorem _root_.L2.FunD.okc {P : Program} {w : World} {K : PySem.W.Frag} {mg : Str → Option Value} {base : Heap} {x qual : Str} {params : Arguments} {body : List Stmt} {scope : Scope} {dvs : List V} {kws : List (Str × V)} {f : Addr} {fd : FuncData} {CX : CXT} {N ps : List Str} {k : Nat} {sp : Sp} {cc : Addr} (F : FunD K x qual params body scope dvs kws f fd) (hc : fd.code = .ref cc) (S : FnScope N ps scope) (len : ∀ vs H Q E, sp vs H Q E → vs.length = ps.length)
    (hbody : ∀ (A : Around) (outer : List PySem.Env) (s : Shared) (H : Hp) (vs : List V) (Q : VK) (E : XK), Room k (A.deeper (PyProof.Rows.envOfC qual scope s.heap.objs.size f (.ref cc))) → sp vs H Q E →
      ∃ t, PSs (cxOf CX P w K mg base N qual scope f (.ref cc) A outer s H E) body t ∧ t { nx := fun _ H' => Q .non H', rt := Q } (start N vs) H) : FnOk P w K mg base CX (k + 1) f fd ps sp := by
  obtain ⟨oc, od, dV, kV, doc, pm, an, cdv, ct, osl, rfl, lk, hcd, _, _⟩ := F.ex
  obtain rfl : cdv = .ref cc := hc
  exact fn_of lk hcd S len fun A outer s H vs Q E hr hsp => hbody A outer s H vs Q E hr hsp
section
variable [TQ] {P : Program} {w : World} {K : PySem.W.Frag} {mg : Str → Option Value} {base : Heap}
/-- a def without the cell -/
theorem def_Fc {cc : Addr} {x : Str} {st : Stmt} {f : Addr} {fd : FuncData} {N ps : List Str} {k : Nat} {Φ : Tab} {own : List Nat} {cell : Option Nat} {xc : XC} {b : List Stm} (F : FnP K x st f fd) (hc : fd.code = .ref cc) (S : FnScope N ps (defScope st)) (ho : own.all (fun i => decide (ps.length ≤ i)) = true) (hN : ps.length ≤ N.length)
    (h : ∀ (A : Around) (outer : List PySem.Env) (s : Shared) (H : Hp) (E : XK), Room k (A.deeper (PyProof.Rows.envOfC x (defScope st) s.heap.objs.size f (.ref cc))) → PSs (cxF P w K mg base N x st f (.ref cc) A outer s H E) (defBody st) (tSs ⟨K, Φ, own, cell, xc, fun _ _ _ => False, none, []⟩ b)) :
    FnOk P w K mg base CX0 (k + 1) f fd ps (spF K ps.length (runF Φ N.length b)) := by
  refine FunD.okc F hc S (fun vs H Q E h => h.1) (fun A outer s H vs Q E hr hs => ⟨_, PSs.nox (h A outer s H E hr), ?_⟩)
  obtain ⟨hl, G, ds, d, hin, hnt, htb, r, hφ, q⟩ := hs
  have hdl : ds.length = ps.length := by rw [r.length]; exact hl
  refine ⟨⟨none, G, H, G, [], hnt, htb⟩, none, G, env0 N.length ds, none, ?_, ?_⟩
  · refine ⟨hin, fun i e _ he => ?_, fun i e hi he => ?_, fun i j e1 e2 l hi _ _ he => ?_, fun i l _ z => (by cases z), ?_, rfl, .refl hin, Same.refl G, .inl rfl, fun z hz => (by cases hz), fun z hz => (by cases hz), fun z hz => (by cases hz)⟩
    · obtain ⟨v, h1, h2⟩ := r.get (get_env0 he)
      exact ⟨v, start_get h1, h2⟩
    · have h1 := of_decide_eq_true (List.all_eq_true.mp ho i hi)
      have h2 := (List.getElem?_eq_some_iff.mp (get_env0 he)).1
      omega
    · have h1 := of_decide_eq_true (List.all_eq_true.mp ho i hi)
      have h2 := (List.getElem?_eq_some_iff.mp (get_env0 he)).1
      omega
    · rw [env0_len (by omega), start_len (by omega)]
  · unfold runF at hφ
    show OutS _ _ (exs Φ b (env0 N.length ds) none) _
    cases e : exs Φ b (env0 N.length ds) none with
    | err _ _ => rw [e] at hφ; cases hφ
    | stuck => rw [e] at hφ; cases hφ
    | ok r =>
      obtain ⟨fl, c'⟩ := r
      rw [e] at hφ
      cases fl with
      | nx ρ =>
        cases hφ
        intro lc F' H' σ s'
        exact q .non F' H' s'.ext rfl
      | rt d =>
        cases hφ
        intro v lc G' H' e' r' _ _ _
        exact q v G' H' e' r'
theorem def_Fnc {cc : Addr} {x : Str} {st : Stmt} {f : Addr} {fd : FuncData} {N ps : List Str} {k : Nat} (Φ : Tab) (own : List Nat) (cell : Option Nat) (xc : XC) (b : List Stm) (n m : Nat) (hn : N.length = n) (hm : ps.length = m) (F : FnP K x st f fd) (hc : fd.code = .ref cc) (S : FnScope N ps (defScope st)) (ho : own.all (fun i => decide (ps.length ≤ i)) = true) (hN : ps.length ≤ N.length)
    (h : ∀ (A : Around) (outer : List PySem.Env) (s : Shared) (H : Hp) (E : XK), Room k (A.deeper (PyProof.Rows.envOfC x (defScope st) s.heap.objs.size f (.ref cc))) → PSs (cxF P w K mg base N x st f (.ref cc) A outer s H E) (defBody st) (tSs ⟨K, Φ, own, cell, xc, fun _ _ _ => False, none, []⟩ b)) :
    FnOk P w K mg base CX0 (k + 1) f fd ps (spF K m (runF Φ n b)) := by
  subst hn hm
  exact def_Fc F hc S ho hN h
end
/-! ### the head -/
/-- the object is an empty table -/
def tabO (o : Obj) : Bool := match o.cls, o.data with
  | .none, .fields vs => vs.isEmpty
  | _, _ => false
/-- what the module's names reach, without empty tables -/
def frT (g : Addr → Option Obj) (n : Nat) : PySem.W.Frag := He.frG g ((He.asD g n).filter fun a => match g a with
  | some o => !tabO o
  | none => false)
theorem frG_mem {g : Addr → Option Obj} {a : Addr} {o : Obj} : ∀ as : List Addr, (He.frG g as).lookup a = some o → a ∈ as
  | [], e => nomatch (show (none : Option Obj) = some o from e)
  | b :: r, e => by
    unfold He.frG at e
    cases hb : g b with
    | none =>
      have e2 : (He.frG g r).lookup a = some o := by
        unfold He.frG
        rw [List.filterMap_cons, hb] at e
        exact e
      exact List.mem_cons_of_mem _ (frG_mem r e2)
    | some ob =>
      rw [List.filterMap_cons, hb] at e
      have e2 : (match a == b with | true => some ob | false => (He.frG g r).lookup a) = some o := e
      cases q : (a == b) with
      | true =>
        rw [beq_iff_eq.mp q]
        exact List.mem_cons_self
      | false =>
        rw [q] at e2
        exact List.mem_cons_of_mem _ (frG_mem r e2)
theorem frT_not {h : Heap} {n : Nat} {a : Addr} {o : Obj} (e : (frT h.get? n).lookup a = some o) : tabO o = false := by
  have h1 := frG_mem _ e
  have h2 : h.get? a = some o := He.frG_in a o e
  have h3 := (List.mem_filter.mp h1).2
  rw [h2] at h3
  simpa using h3
/-- the table of the code of the def that a global's name stands for -/
def tabAt (K : PySem.W.Frag) (x : Str) : Option Addr := match K.lookup (He.ga K x) with
  | some ⟨_, _, .func fd, _⟩ => (match fd.code with
    | .ref c => (match K.lookup c with
      | some ⟨_, _, .fields vs, _⟩ => (match vs[11]? with
        | some (Value.ref T) => some T
        | _ => none)
      | _ => none)
    | _ => none)
  | _ => none
abbrev AlT : Type := He.AlD × Bool
def obsT (fa : List He.Fa) (fn : List He.DefD) (xs : List Str) (K : PySem.W.Frag) : AlT := (He.obsD fa fn K, decide (xs.map (tabAt K)).Nodup)
def valT (fn : List He.DefD) : AlT := (He.valD fn, true)
structure SaysT (fa : List He.Fa) (fn : List He.DefD) (xs : List Str) (K : PySem.W.Frag) : Prop where
  d : He.SaysD fa fn K
  nd : (xs.map (tabAt K)).Nodup
  nt : ∀ P o, K.lookup P = some o → tabO o = false
def obsTG (n : Nat) (fa : List He.Fa) (fn : List He.DefD) (xs : List Str) (g : Addr → Option Obj) : AlT := obsT fa fn xs (frT g n)
def hookT (n : Nat) (fa : List He.Fa) (fn : List He.DefD) (xs : List Str) : PySem.W.Hook where
  α := AlT
  obs := fun s => obsTG n fa fn xs s.heap.get?
  val := fun _ => valT fn
  says := fun _ h => ∃ K : PySem.W.Frag, K.In h ∧ SaysT fa fn xs K
  of := fun _ _ e => ⟨_, He.frG_in, congrArg (fun z : AlT => z.1) e, of_decide_eq_true (congrArg (fun z : AlT => z.2) e), fun _ _ e => frT_not e⟩
  keeps := fun _ _ _ ⟨K, hK, c⟩ k => ⟨K, PySem.W.Frag.In.keeps hK k, c⟩
theorem obsTG_eq {n : Nat} {fa : List He.Fa} {fn : List He.DefD} {xs : List Str} {g : Addr → Option Obj} {s : Shared} (h : ∀ a, g a = s.heap.get? a) : obsTG n fa fn xs g = (hookT n fa fn xs).obs s := by
  have e : g = s.heap.get? := funext h
  rw [e] <;> rfl
/-- the code at c, its table at T, of the def that a global's name stands for -/
structure TabOf (mg : Str → Option Value) (h : Heap) (x : Str) (c T : Addr) : Prop where
  ex : ∃ a o fd, mg x = some (.ref a) ∧ h.get? a = some o ∧ o.data = .func fd ∧ fd.code = .ref c
  hd : PySem.W.CodeHd h c T
  emp : h.get? T = some { cls := .none, data := .fields #[] }
theorem TabOf.nin {mg : Str → Option Value} {h : Heap} {x : Str} {c T : Addr} {fa : List He.Fa} {fn : List He.DefD} {xs : List Str} {K : PySem.W.Frag} (t : TabOf mg h x c T) (S : SaysT fa fn xs K) (hK : K.In h) : K.lookup T = none := by
  cases e : K.lookup T with
  | none => rfl
  | some o =>
    have h1 := hK T o e
    rw [t.emp] at h1
    cases h1
    have h2 := S.nt T _ e
    cases h2
theorem TabOf.code {mg : Str → Option Value} {h : Heap} {x : Str} {c T f : Addr} {K : PySem.W.Frag} {st : Stmt} {fd : FuncData} {y : Str} (t : TabOf mg h x c T) (hK : K.In h) (hm : mg x = some (.ref f)) (F : FnP K y st f fd) : fd.code = .ref c := by
  obtain ⟨a, o, fd', h1, h2, h3, h4⟩ := t.ex
  obtain ⟨oc, od, dV, kV, doc, pm, an, cdv, ct, osl, rfl, lk, _, _, _⟩ := F.ex
  rw [hm] at h1
  cases h1
  have h5 := hK _ _ lk
  rw [h2] at h5
  cases h5
  cases h3
  exact h4
theorem TabOf.at_ {mg : Str → Option Value} {h : Heap} {x : Str} {c T f : Addr} {K : PySem.W.Frag} {st : Stmt} {fd : FuncData} {y : Str} (t : TabOf mg h x c T) (hK : K.In h) (hm : mg x = some (.ref (He.ga K x))) (F : FnP K y st (He.ga K x) fd) : tabAt K x = some T := by
  have hc := t.code hK hm F
  obtain ⟨oc, od, dV, kV, doc, pm, an, cdv, ct, osl, rfl, lk, hcd, _, _⟩ := F.ex
  obtain rfl : cdv = .ref c := hc
  unfold tabAt
  rw [lk]
  dsimp only [PySem.W.fnOf]
  unfold PySem.W.codeIn at hcd
  cases e : K.lookup c with
  | none =>
    dsimp only at hcd
    rw [e] at hcd
    cases hcd
  | some ob =>
    obtain ⟨o', vs, file, tf, flags, tg, inF, text, tt, e1, _, e3, e4, _⟩ := t.hd
    have h1 := hK c ob e
    rw [e1] at h1
    cases h1
    obtain ⟨b1, b2, b3, b4⟩ := ob
    have e5 : b3 = .fields vs := e3
    subst e5
    dsimp only
    rw [e4]
theorem walk_ofT {l : PySem.W.OpenLaw} {n k : Nat} {q : Program} {loose : List Str} {XP : (Str → Option Value) → Heap → Prop} {YP : World → Heap → Prop} {d : DefRec} {CX : World → CXT} {x : Str} (xs : List Str)
    (hn : l.most = some n) (hn2 : n ≤ sizeLine) (hdf : d.params.defaults = []) (hr : Room k callerA) (hrec : (xs.all fun x => (PyProof.Rows.recsOf q).any fun e => e.name == x) = true)
    (F : ∀ (w : World) (mg : Str → Option Value) (fa : Addr) (h : Heap), YP w h → h.Ns mainGlobals mg → mg d.name = some (.ref fa) → (∀ x ∈ xs, ∃ c T, TabOf mg h x c T) → ∃ K : PySem.W.Frag, K.In h ∧ LamX.LawAtS l w K (CX w) k n x mg fa h)
    (hCX : ∀ (w : World) (H : Hp) (s : Shared) (e : Value) (s' : Shared), CX w [] H s (fun _ _ _ => False) e s' → False) :
    PySem.W.WalkO q loose XP YP l.row.toRowW d [] (fun f vs => PySem.call f vs) := by
  refine Att.attach_callB hn hdf fun w s₀ s₁ mg mb fa o pm cd doc a vs ns G Y ho hd hcd hmg hobj hints hlen hbits hg => ?_
  have tabs : ∀ x ∈ xs, ∃ c T, TabOf mg s₁.heap x c T := fun x hx => by
    obtain ⟨dL, hm, hn1⟩ := List.any_eq_true.mp (List.all_eq_true.mp hrec x hx)
    have hn2 : dL.name = x := beq_iff_eq.mp hn1
    obtain ⟨a', o', fd', c', P', h1, h2, h3, h4, h5, h6⟩ := G.T.tab dL hm
    rw [hn2] at h1
    exact ⟨c', P', ⟨a', o', fd', h1, h2, h3, h4⟩, .of h5 h6, h6.2⟩
  obtain ⟨K, KX, fd, cs, sp, hT, nT, C, hb, hsp, hF⟩ := F w mg fa _ Y G.T.g hmg tabs
  exact LamX.law_callTs KX G.T.g G.T.b G.T.builtins G.T.nolimit hg hT nT C G.T.bmain hobj hints (Nat.le_trans hlen hn2) hr hF hb (fun H hH hS => hsp H a ns hlen hbits hH hS) fun H e s' => hCX w H s₁ e s'
end G
/-! GA3: dict(list of pairs), keys of any depth. -/
namespace G
open PySem L2 PySem.Spec PyProof.Rows
variable [TQ]
section
variable {X : Cx} {pins : List (Addr × Obj)} {σ : L2.St} {F H : Hp} {s : Shared}
/-- the pairs as they stand in the heap -/
inductive Prs (K : PySem.W.Frag) (prog : Program) (w : World) (F : Hp) (h : Heap) : List D → List Value → List (NestedKey × Addr × V) → List (NestedKey × Addr × Value) → Prop where
  | nil : Prs K prog w F h [] [] [] []
  | cons {k v : D} {t b : Addr} {nk : NestedKey} {z : V} {u : Value} {l : List D} {its : List Value} {xs : List (NestedKey × Addr × V)} {us : List (NestedKey × Addr × Value)} (kt : keyT k = true) (hk : keyOf k = some nk) (rk : Rep K F k (.ref b)) (rv : Rep K F v z) (ru : L2.RelV z u) (ht : h.IsTuple t #[.ref b, u]) (hi : (nestedKind prog w).is h nk b) (r : Prs K prog w F h l its xs us) :
      Prs K prog w F h (.tup [k, v] :: l) (.ref t :: its) ((nk, b, z) :: xs) ((nk, b, u) :: us)
theorem prs_of (I : Inv X pins σ H s) (hs : Same F H) : ∀ {l : List D} {ys : List V} {its : List Value}, l.all pairB = true → Reps X.K F l ys → Vals ys its → ∃ xs us, Prs X.K X.prog X.w F s.heap l its xs us
  | [], _, _, _, h, r => by
    cases h
    cases r
    exact ⟨[], [], .nil⟩
  | d :: l, _, _, hp, h, r => by
    obtain ⟨x, ys, rfl, h1, h2⟩ := h
    cases r with
    | cons r1 r2 =>
    rw [List.all_cons, Bool.and_eq_true] at hp
    obtain ⟨xs, us, ih⟩ := prs_of I hs hp.2 h2 r2
    have hd := hp.1
    unfold pairB at hd
    split at hd
    · rename_i k v
      obtain ⟨t, vs, rfl, t1, t2, t3⟩ := h1
      cases r1
      obtain ⟨y1, vs', rfl, g1, g2⟩ := t2
      obtain ⟨y2, vs'', rfl, g3, g4⟩ := g2
      cases g4
      obtain ⟨its2, rv2, htup, _⟩ := I.tuple (same_t hs t1)
      cases rv2 with
      | cons q1 q2 =>
      cases q2 with
      | cons q3 q4 =>
      cases q4
      obtain ⟨b, nk, rfl, rfl, hk, hi⟩ := dk_key I hs hd g1 q1
      exact ⟨_, _, .cons hd hk g1 g3 q3 htup hi ih⟩
    · cases hd
def xpsts : List (NestedKey × Addr × V) → List (NestedKey × Addr × V) → List (NestedKey × Addr × V)
  | [], acc => acc
  | p :: ps, acc => xpsts ps (xput acc p.1 p.2.1 p.2.2)
theorem prs_dk {K : PySem.W.Frag} {prog : Program} {w : World} {h : Heap} : ∀ {l : List D} {its : List Value} {xs : List (NestedKey × Addr × V)} {us : List (NestedKey × Addr × Value)}, Prs K prog w F h l its xs us → ∀ {ks vs : List D} {acc : List (NestedKey × Addr × V)}, DkAt K F ks vs acc → ks.length + l.length ≤ 2000000 → DkAt K F (dpsts l (ks, vs)).1 (dpsts l (ks, vs)).2 (xpsts xs acc)
  | _, _, _, _, .nil, ks, vs, acc, D, _ => D
  | _, _, _, _, .cons (k := k) (v := v) (l := l) kt hk rk rv _ _ _ r, ks, vs, acc, D, hl => by
    rw [List.length_cons] at hl
    have hlt : ks.length < LIM := by
      show ks.length < 16777216
      omega
    have D2 := D.put kt hk rk rv hlt
    have hlen : (dput ks vs k v).1.length ≤ ks.length + 1 := dput_len (by
      have l1 := D.rk.length
      have l2 := D.rv.length
      rw [List.length_map] at l1 l2
      omega)
    have hle : (dput ks vs k v).1.length + l.length ≤ 2000000 := by omega
    exact prs_dk r D2 hle
theorem prs_pair {K : PySem.W.Frag} {prog : Program} {w : World} {h : Heap} : ∀ {l : List D} {its : List Value} {xs : List (NestedKey × Addr × V)} {us : List (NestedKey × Addr × Value)}, Prs K prog w F h l its xs us → ∀ {acc : List (NestedKey × Addr × V)} {acu : List (NestedKey × Addr × Value)}, Paired RelE3 acc acu → (acc.map (·.1)).Nodup → Paired RelE3 (xpsts xs acc) (storedAllH acu us)
  | _, _, _, _, .nil, acc, acu, hp, _ => hp
  | _, _, _, _, .cons (nk := nk) (b := b) (z := z) (u := u) _ _ _ _ ru _ _ r, acc, acu, hp, hn => by
    have hnu : (acu.map (·.1)).Nodup := by rw [pair_keys hp]; exact hn
    have e : storedH acu nk b u = uput acu nk b u := stored_u hnu
    show Paired RelE3 (xpsts _ (xput acc nk b z)) (storedAllH (storedH acu nk b u) _)
    rw [e]
    exact prs_pair r (pair_put ru hp) (xput_nd hn)
theorem prs_len {K : PySem.W.Frag} {prog : Program} {w : World} {h : Heap} {l : List D} {its : List Value} {xs : List (NestedKey × Addr × V)} {us : List (NestedKey × Addr × Value)} (p : Prs K prog w F h l its xs us) : its.length = us.length ∧ us.length = l.length := by
  induction p with
  | nil => exact ⟨rfl, rfl⟩
  | cons _ _ _ _ _ _ _ _ ih => exact ⟨by simp [ih.1], by simp [ih.2]⟩
def adrAt (its : List Value) (j : Nat) : Addr := match its[j]? with
  | some (.ref t) => t
  | _ => 0
theorem prs_at {K : PySem.W.Frag} {prog : Program} {w : World} {h : Heap} : ∀ {l : List D} {its : List Value} {xs : List (NestedKey × Addr × V)} {us : List (NestedKey × Addr × Value)}, Prs K prog w F h l its xs us → ∀ {j : Nat} {nk : NestedKey} {b : Addr} {u : Value}, us[j]? = some (nk, b, u) → its[j]? = some (.ref (adrAt its j)) ∧ h.IsTuple (adrAt its j) #[.ref b, u] ∧ (nestedKind prog w).is h nk b
  | _, _, _, _, .nil, j, nk, b, u, e => by simp at e
  | _, _, _, _, .cons (t := t) _ _ _ _ _ ht hi r, 0, nk, b, u, e => by
    simp at e
    obtain ⟨rfl, rfl, rfl⟩ := e
    exact ⟨rfl, ht, hi⟩
  | _, _, _, _, .cons _ _ _ _ _ ht hi r, j + 1, nk, b, u, e => by
    obtain ⟨h1, h2, h3⟩ := prs_at r (j := j) (by simpa using e)
    exact ⟨h1, h2, h3⟩
/-! ### the rule -/
def rDictP (K : PySem.W.Frag) : List V → Hp → VK → Prop := fun zs H Q => ∃ a ys G l, zs = [.ref a] ∧ Same G H ∧ SqL K H a ys ∧ Reps K G l ys ∧ l.all pairB = true ∧ l.length ≤ 1000000 ∧ ∀ p xs, H p = none → DkAt K G (dpsts l ([], [])).1 (dpsts l ([], [])).2 xs → Q (.ref p) (upd H p (dkO p xs))
theorem call_dictP (hu : X.A.units + 30 < cLine) (hc : X.calm = true) : CallR X (.type "dict") (rDictP X.K) := by
  intro pins s σ H zs us Q I r h
  obtain ⟨a, ys, F, l, rfl, hs, hS, rr, hp, hlen, q⟩ := h
  rw [Vals.ref1 r]
  obtain ⟨its, rv, hl, hz⟩ := I.list hS
  obtain ⟨xs, us', pr⟩ := prs_of I hs hp rr rv
  obtain ⟨l1, l2⟩ := prs_len pr
  have D0 : DkAt X.K F [] [] [] := ⟨rfl, rfl, .nil, Nat.zero_le _, rfl, rfl⟩
  have DD := prs_dk pr D0 (by rw [List.length_nil]; omega)
  have PP := prs_pair pr (acc := []) (acu := []) .nil .nil
  refine call_dict_pairsH (knd := nestedKind X.prog X.w) (ps := us') (PairArg.list a its.toArray (adrAt its) (us'.map fun x => (.ref x.2.1, x.2.2))) (I.ok.hd hc) ?_ ⟨hl, ?_, fun j k v e => ?_⟩ ⟨?_, fun i k v e => ?_⟩ (fun h' hk x hx => ?_) ?_ fun h' tk hd' hk => ?_
  · show X.A.units + 1 + 1 + 8 < cLine
    omega
  · rw [List.size_toArray, List.length_map]
    exact l1
  · rw [List.getElem?_map] at e
    cases z : us'[j]? with
    | none => rw [z] at e; cases e
    | some x =>
      obtain ⟨nk, b, u⟩ := x
      rw [z] at e
      cases e
      obtain ⟨h1, h2, h3⟩ := prs_at pr z
      exact ⟨by simpa using h1, .inl h2⟩
  · rw [List.length_map]
  · have e' : (us'.map fun x => ((Value.ref x.2.1, x.2.2) : Value × Value))[i]? = some (k, v) := e
    rw [List.getElem?_map] at e'
    cases z : us'[i]? with
    | none => rw [z] at e'; cases e'
    | some x =>
      obtain ⟨nk, b, u⟩ := x
      rw [z] at e'
      cases e'
      exact ⟨nk, b, rfl, rfl⟩
  · obtain ⟨j, hj⟩ := List.mem_iff_getElem?.mp hx
    obtain ⟨nk, b, u⟩ := x
    have h3 := (prs_at pr hj).2.2
    exact nestedKind_stays.stays (fun c ob vs n e _ => hk c ob (Nat.ne_of_lt (Heap.lt_size e)) (by simp) e) h3
  · rw [List.length_map, sizeLine_eq]
    omega
  · have keep : ∀ b ob, s.heap.get? b = some ob → h'.get? b = some ob := fun b ob e => hk b ob (by simp) e
    exact ⟨.ref s.heap.objs.size, _, I.laid (a := s.heap.objs.size) (t' := tk) keep (Nat.le_refl _) (dkO_of (beq_eq_false_iff_ne.mpr (Ne.symm (Nat.ne_of_lt I.big))) DD.keys PP hd'), rfl, q _ _ (I.hok.fresh (Nat.le_refl _)) DD⟩
theorem sf_dpairs {P : Pl} : ServesF P .dpairs (rDictP P.K) := by
  intro lc G H c Q ds vs hs r k q
  obtain ⟨d, e, q⟩ := q.opt
  match ds, e with
  | [.lst l], e =>
    obtain ⟨v, rfl, a, ys, rfl, h1, h2, h3⟩ := reps1 r
    obtain ⟨⟨hp, hl⟩, rfl⟩ := ite_some (show (if l.all pairB = true ∧ l.length ≤ 1000000 then some (D.dct (dpsts l ([], [])).1 (dpsts l ([], [])).2) else none) = some d from e)
    refine ⟨a, ys, G, l, rfl, hs, same_l hs h1, h2, hp, hl, fun p xs hp D => ?_⟩
    obtain ⟨_, q⟩ := q
    refine q p G _ (.lay hs hp) hp ?_ ⟨xs, upd_same, D.keys, D.kt, D.nd, D.len, D.rk, D.rv⟩ (k.lay hp)
    cases z : G p with
    | none => rfl
    | some o => rw [hs _ _ z] at hp; cases hp
theorem f_dpairs {P : Pl} {e : Expr} {x : Ex} {q pos : Pos} (ok : Ok P X) (hm : X.mg "dict" = none) (ha : PE X e (tE P x)) (hg : Gl X "dict" := by rfl) (he : starEach [e] X.env = (false, eval e X.env) :: starEach [] X.env := by rfl) : PE X (.Call (.Name "dict" q) [e] [] pos) (tF P (.blt .dpairs [x])) := by
  have sv : ServesF P .dpairs (rDictP P.K) := sf_dpairs
  rw [ok.K] at sv
  exact gf_blt (pe_callTy (call_dictP (by have := ok.hu; omega) ok.calm) hg hm PyProof.Rows.boot_dict (ga_cons ha ga_nil he) (by decide +kernel) (by decide +kernel) he rfl) (fun _ _ _ h => h) sv
end
end G
/-! GC: a walk of a list made anew from own things. -/
namespace G
open PySem L2 PySem.Spec PyProof.Rows PySem.W
variable [TQ]
section
variable {p : Cfg} {en : En} {lc : Option Addr} {F H : Hp} {ρ : Env} {σ : L2.St} {c : Cell}
theorem StS.layF (s : StS p en lc F H ρ σ c) {q : Addr} {vs : List V} {xs : List G.D} (hq : H q = some (.lst vs)) (hF : F q = none) (hr : ¬ Root p ρ σ q) (hl : lc ≠ some q) (he : en.H0 q = none) : StS p en lc (upd F q (.lst vs)) H ρ σ c := by
  have hsub : Same F (upd F q (.lst vs)) := fun a o z => by
    rw [upd_ne (fun h => by rw [h, hF] at z; cases z)]; exact z
  have hinn : Same (upd F q (.lst vs)) H := fun a o z => by
    by_cases h : a = q
    · subst h
      rw [upd_same] at z
      cases z
      exact hq
    · rw [upd_ne h] at z
      exact s.inn a o z
  refine ⟨hinn, fun i d hi hd => ?_, fun i d hi hd => ?_, s.dist, s.cel, s.len, ?_, ?_, s.kept.trans hsub, s.lcok, ?_, s.xf, s.lock⟩
  · obtain ⟨v, a, b⟩ := s.non i d hi hd
    exact ⟨v, a, b.mono hsub⟩
  · obtain ⟨l', a1, a2, a3, a4, a5⟩ := s.own i d hi hd
    have hne : l' ≠ q := fun h => hr ⟨i, d, hi, hd, by rw [← h]; exact a1⟩
    exact ⟨l', a1, a2.mono hsub fun _ z => z, by rw [upd_ne hne]; exact a3, a4, a5⟩
  · have hc := s.cr
    cases c with
    | none => exact hc
    | some cs =>
      obtain ⟨l0, ws, r1, r2, r3, r4⟩ := hc
      exact ⟨l0, ws, r1, by rw [upd_ne (fun h => by rw [h] at r1; exact hl r1)]; exact r2, r3, r4.mono hsub⟩
  · exact ⟨s.ext.same, s.ext.sub.trans hsub, hinn, fun a o z z' => by
      rw [upd_ne (fun h => by rw [h, he] at z'; cases z')]
      exact s.ext.fresh a o z z', s.ext.cell, s.ext.tab, s.ext.tbl, fun n => (s.ext.nt n).upd (plain_lst 0 _).1⟩
  · exact s.exn.mono hsub
end
section
variable {X : Cx} {p : Cfg} {pos : Pos}
theorem gs_forF {tg iter : Expr} {body : List Stmt} {t tt : Tg} {own : List Nat} {elt : Ex} {it : Wlk} {ifs : List Ex} {b : List Stm} (oka : Ok p.all X) (ok : okTg p t = true) (hp : PassesOwn (model X.prog X.w) X.A X.env X.xe) (hc : X.calm = true) (hi : PE X iter (tF p.all (.comp own elt tt it ifs))) (hg : PG X tg (gT p.K t)) (hb : PSs X body (tSs p b))
    (hs : ∀ x, foldedSetIterable iter X.env x = pure x) : PS X (.For tg iter body [] pos) (tS p (.forS true t (.seq (.comp own elt tt it ifs)) b)) := by
  refine (ps_for hp hc (pi_seq hi) hg hb hs).imp fun D σ H ⟨en, lc, F, ρ, c, s, h⟩ => ?_
  unfold ex at h
  obtain ⟨xs, c1, e, h1⟩ := os_bnd h
  obtain ⟨u, c2, eg, h2⟩ := os_bnd h1
  obtain ⟨hfl, e5⟩ := guard_ok eg
  subst e5
  rcases hide_ok e with ⟨hk, _⟩ | ⟨_, hcc, c3, e1⟩
  · cases hk
  · subst hcc
    have e2 : ev p.Φ (.comp own elt tt it ifs) ρ none = .ok (.lst xs, c3) := by
      rw [evI] at e1
      unfold C.bnd at e1
      cases q : ev p.Φ (.comp own elt tt it ifs) ρ none with
      | ok z =>
        rw [q] at e1
        obtain ⟨d, c4⟩ := z
        rw [ev] at q
        unfold C.bnd at q
        cases q1 : evI p.Φ it ρ none with
        | ok z1 =>
          rw [q1] at q
          dsimp only at q
          cases q2 : lcL (fun x => assign tt x (wip ρ own)) (evC p.Φ ifs) (ev p.Φ elt) z1.1 z1.2 with
          | ok z2 =>
            rw [q2] at q
            cases q
            cases e1
            rfl
          | err k x => rw [q2] at q; cases q
          | stuck => rw [q2] at q; cases q
        | err k x => rw [q1] at q; cases q
        | stuck => rw [q1] at q; cases q
      | err k x => rw [q] at e1; cases e1
      | stuck => rw [q] at e1; cases e1
    refine ⟨none, _, ρ, none, s.at_all, ?_⟩
    show OutF p.all none (addOwn p ρ σ F H) H (ev p.Φ (.comp own elt tt it ifs) ρ none) _
    rw [e2]
    refine ⟨rfl, fun q G' H' e' h0 h4 h3 k' => ?_⟩
    have bk := s.back e'
    have s' := s.step (bk.any (lc := lc)) (s.cr.ext bk)
    have hroot : ¬ Root p ρ σ q := fun r => by
      obtain ⟨o, ho, _⟩ := s.root r
      rw [h0] at ho
      cases ho.1
    have h4' : cutOwn p ρ σ G' q = none := by
      unfold cutOwn
      split
      · rfl
      · exact h4
    obtain ⟨vs, o1, o2, o3⟩ := s.cut_own e' (d := .lst xs) hfl h3
    have hsub : Same (cutOwn p ρ σ G') (upd (cutOwn p ρ σ G') q (.lst vs)) := fun a o z => by
      rw [upd_ne (fun h => by rw [h, h4'] at z; cases z)]; exact z
    have s2 := s'.layF (xs := xs) o1 h4' hroot (fun z => by
      obtain ⟨o, ho⟩ := s.cr.has z
      rw [h0] at ho; cases ho) (s.ext.free h0)
    refine ⟨q, rfl, .inl ⟨⟨vs, by rw [← oka.K]; exact .of o1⟩, ?_⟩⟩
    rw [← oka.K]
    exact for_run ok s2 (.list (.of upd_same) (o2.mono hsub) o3) h2
theorem s_forF {tg iter : Expr} {body : List Stmt} {t tt : Tg} {own : List Nat} {elt : Ex} {it : Wlk} {ifs : List Ex} {b : List Stm} (oka : Ok p.all X) (hc : X.calm = true) (hi : PE X iter (tF p.all (.comp own elt tt it ifs))) (hg : PG X tg (gT p.K t)) (hb : PSs X body (tSs p b)) (hp : PassesOwn (model X.prog X.w) X.A X.env X.xe := by first | exact PassesOwn.never | exact passes_of rfl) (ok : okTg p t = true := by rfl) (hs : ∀ x, foldedSetIterable iter X.env x = pure x := by intro _; rfl) :
    PS X (.For tg iter body [] pos) (tS p (.forS true t (.seq (.comp own elt tt it ifs)) b)) := gs_forF oka ok hp hc hi hg hb hs
end
end G
/-! GE: {key: value}, the key of any depth. -/
namespace G
open PySem L2 PySem.Spec PyProof.Rows
variable [TQ]
section
variable {K : Type} [DecidableEq K] {prog : Program} {w : World} {knd : HeapKind prog w K} {A : Around} {E : Value → Shared → Prop} {s : Shared} {env : PySem.Env}
theorem disp1 {k v : Expr} {pos : Pos} {Q : Value → Shared → Prop} (hu : knd.room A)
    (h : wpAny (model prog w) A (evalPairs (pairTrees [some k] [v] env pos)) (fun us s1 => ∃ ps, CarriesH knd s1.heap us ps ∧ s1.heap.DictOfH knd s.heap.objs.size [] ∧
      ∀ g tk, g.DictOfH knd s.heap.objs.size (storedAllH [] ps) → Heap.SameBut s.heap.objs.size s1.heap g → Q (.ref s.heap.objs.size) { s1 with heap := g, toks := tk }) E { s with heap := s.heap.push { cls := .type "dict", data := .dict #[] } }) :
    wpAny (model prog w) A (eval (.Dict [some k] [v] pos) env) Q E s := by
  have hz := zip_pairTrees [some k] [v] env pos rfl rfl
  have hl : (pairTrees [some k] [v] env pos).length = 1 := pairTrees_length [some k] [v] env pos rfl rfl
  have hn : pairTrees [some k] [v] env pos ≠ [] := fun z => by rw [z] at hl; cases hl
  rw [arm_eval_Dict, hz, dictDisplay_pairs _ hn (by omega)]
  refine wpAny_bind (wpAny_standAt (wpAny_bind (wpAny_subDictH (knd := knd) (Q := fun d t => wpAny (model prog w) A (pure (Value.ref d)) Q E t) hu (by omega) (wpAny_mono h (fun us s1 h1 => ?_) fun _ _ e => e))))
  obtain ⟨ps, a, b, c⟩ := h1
  exact ⟨ps, a, b, fun g tk g1 g2 => wpAny_pure (c g tk g1 g2)⟩
end
section
variable {X : Cx} {P : Pl} {pos : Pos}
/-- the new dict stands empty while its key and its value are made -/
def tDisp1 (K : PySem.W.Frag) (tk tv : TE) : TE := fun σ H Q => ∀ p, H p = none → tk σ (upd H p (dkO p [])) fun x H1 => tv σ H1 fun y H2 => H2 p = some (dkO p []) ∧ ∃ G d nk b, Same G H2 ∧ keyT d = true ∧ keyOf d = some nk ∧ x = .ref b ∧ Rep K G d (.ref b) ∧ Q (.ref p) (upd H2 p (dkO p [(nk, b, y)]))
theorem pe_disp1 {k v : Expr} {tk tv : TE} (hu : X.A.units + 20 < cLine) (hk : PE X k tk) (hv : PE X v tv) : PE X (.Dict [some k] [v] pos) (tDisp1 X.K tk tv) := by
  refine ⟨fun pins s σ H Q I q => ?_⟩
  have hn := I.hok.fresh (Nat.le_refl s.heap.objs.size)
  have hb : (s.heap.objs.size == sysModules) = false := beq_eq_false_iff_ne.mpr (Ne.symm (Nat.ne_of_lt I.big))
  have I1 := I.laid (a := s.heap.objs.size) (o := dkO s.heap.objs.size []) (h' := s.heap.push { cls := .type "dict", data := .dict #[] }) (t' := s.toks) (fun _ _ q => Heap.get?_push_of_some _ q) (Nat.le_refl _) (dkO_of (ks := []) (us := []) hb rfl .nil ⟨_, #[], 0, Heap.get?_push_size _ rfl, ⟨rfl, rfl, rfl⟩, rfl, rfl, fun x hx => (by cases hx), List.nodup_nil⟩)
  refine disp1 (knd := nestedKind X.prog X.w) (by show X.A.units + 8 < cLine; omega) (pairTrees_cons_walk (thn (hk.run pins _ σ _ _ I1 (q _ hn)) fun u s1 ⟨x, H1, J1, rx, q1⟩ => thn (hv.run pins s1 σ H1 _ J1 q1) fun u2 s2 ⟨y, H2, J2, ry, q2⟩ => pairTrees_nil_walk ?_))
  obtain ⟨e, G, d, nk, b, hs, kt, hk', rfl, rd, q3⟩ := q2
  obtain rfl : u = Value.ref b := rx
  obtain ⟨b', k', e1, e2, e3, hi⟩ := dk_key J2 hs kt rd (u := .ref b) rfl
  cases e1
  rw [hk'] at e3
  cases e3
  obtain ⟨hd, us, hp, dd⟩ := dk_of J2 (G := fun _ => none) (fun _ _ z => by cases z) (.of e) (ks := []) (vs := []) ⟨rfl, rfl, .nil, Nat.zero_le _, rfl, rfl⟩
  cases hp
  refine ⟨[(nk, b, u2)], ⟨rfl, rfl, hi, True.intro⟩, dd, fun g tk g1 g2 => ⟨.ref s.heap.objs.size, _, ?_, rfl, q3⟩⟩
  obtain ⟨o, es, ep, ho, h2⟩ := id g1
  exact d_write J2 (by rw [e]; exact True.intro) g2 ⟨o, ho⟩ (dkO_of (ks := [d]) hb (by rw [keysOf, hk']; rfl) (.cons ⟨rfl, rfl, ry⟩ .nil) g1)
theorem ev_disp (Φ : Tab) (x y : Ex) (ρ : Env) : ev Φ (.blt .dpairs [.lst [.tup [x, y]]]) ρ = C.bnd (ev Φ x ρ) fun d => C.bnd (ev Φ y ρ) fun e => C.opt (builtin .dpairs [.lst [.tup [d, e]]]) := by
  have h2 : ∀ a b : _root_.G.D, ([a, b].length ≤ LIM) := fun a b => by show 2 ≤ LIM; decide
  have h1 : ∀ a : _root_.G.D, ([a].length ≤ LIM) := fun a => by show 1 ≤ LIM; decide
  simp only [ev, evs, C.bnd_bnd, C.ret_bnd, h1, h2, if_true]
theorem Ext.over {lc : Option Addr} {G H G2 H2 : Hp} {p : Addr} {o1 : HO} (hp : H p = none) (hg : G p = none) (e : Ext lc G (upd H p (dkO p [])) G2 H2) (h2 : H2 p = some (dkO p [])) : Ext lc G H G2 (upd H2 p o1) where
  same := fun q u hq hn z => by
    have hne := ne_of_none z hp
    rw [upd_ne hne]
    exact e.same q u hq hn (by rw [upd_ne hne]; exact z)
  sub := e.sub
  inn := fun q u z => by
    have g2 : G2 p = none := e.fresh p _ hg upd_same
    rw [upd_ne (ne_of_none z g2)]
    exact e.inn q u z
  fresh := fun q u z z' => e.fresh q u z (by rw [upd_ne (ne_of_none z' hp)]; exact z')
  cell := fun q u hq z => by
    have hne := ne_of_none z hp
    obtain ⟨o', ho⟩ := e.cell q u hq (by rw [upd_ne hne]; exact z)
    exact ⟨o', by rw [upd_ne hne]; exact ho⟩
  tab := fun P t => tab_at h2 (plain_dk _ _) (e.tab P (tab_new hp t))
  tbl := fun q ps z => by
    have hne := ne_of_none z hp
    obtain ⟨ps', ho⟩ := e.tbl q ps (by rw [upd_ne hne]; exact z)
    exact ⟨ps', by rw [upd_ne hne]; exact ho⟩
  nt := e.nt
theorem gf_disp1 {k v : Expr} {x y : Ex} (ok : Ok P X) (hk : PE X k (tE P x)) (hv : PE X v (tE P y)) : PE X (.Dict [some k] [v] pos) (tF P (.blt .dpairs [.lst [.tup [x, y]]])) := by
  refine (pe_disp1 (by have := ok.hu; omega) hk hv).imp fun σ H Q ⟨lc, G, ρ, c, a, h⟩ => ?_
  rw [ev_disp] at h
  unfold C.bnd at h
  cases q1 : ev P.Φ x ρ c with
  | err _ _ => rw [q1] at h; exact h.elim
  | stuck => rw [q1] at h; exact h.elim
  | ok z1 =>
    obtain ⟨d1, c1⟩ := z1
    rw [q1] at h
    dsimp only at h
    cases q2 : ev P.Φ y ρ c1 with
    | err _ _ => rw [q2] at h; exact h.elim
    | stuck => rw [q2] at h; exact h.elim
    | ok z2 =>
      obtain ⟨d2, c2⟩ := z2
      rw [q2] at h
      have h : OutF P lc G H (C.opt (builtin .dpairs [.lst [.tup [d1, d2]]]) c2) Q := h
      obtain ⟨w, ew, h3⟩ := h.opt
      obtain ⟨hc, ew⟩ := ite_some (show (if [D.tup [d1, d2]].all pairB = true ∧ [D.tup [d1, d2]].length ≤ 1000000 then some (D.dct (dpsts [D.tup [d1, d2]] ([], [])).1 (dpsts [D.tup [d1, d2]] ([], [])).2) else none) = some w from ew)
      have kt : keyT d1 = true := by
        have := hc.1
        simpa [pairB] using this
      have ew : w = .dct [d1] [d2] := ew.symm
      subst ew
      intro p hp
      have hg : G p = none := by
        cases z : G p with
        | none => rfl
        | some o => rw [a.inn _ _ z] at hp; cases hp
      have hlc : lc ≠ some p := fun z => by
        obtain ⟨o, ho⟩ := a.cel.has z
        rw [hp] at ho
        cases ho
      have a1 : At P lc G (upd H p (dkO p [])) ρ σ c := a.step (.lay a.inn hp) (a.cel.lay hp)
      refine ⟨lc, G, ρ, c, a1, ?_⟩
      show OutE P lc G _ (ev P.Φ x ρ c) _
      rw [q1]
      intro v1 G1 H1 e1 r1 k1
      refine ⟨lc, G1, ρ, c1, a1.step e1 k1, ?_⟩
      show OutE P lc G1 _ (ev P.Φ y ρ c1) _
      rw [q2]
      intro v2 G2 H2 e2 r2 k2
      have e := e1.trans e2
      have hat : H2 p = some (dkO p []) := e.same p _ hlc (plain_dk p []).1 upd_same
      obtain ⟨l1, rfl, hb1⟩ := keyT_two kt
      obtain ⟨nk, hnk⟩ := keyOf_some hb1
      obtain ⟨b, zs, rfl, g1, g2, g3⟩ := id r1
      have rd : Rep X.K G2 (.tup l1) (.ref b) := by rw [← ok.K]; exact r1.mono e2.sub
      refine ⟨hat, G2, .tup l1, nk, b, e.inn, kt, hnk, rfl, rd, ?_⟩
      have hg2 : G2 p = none := e.fresh p _ hg upd_same
      refine h3.2 p G2 _ (Ext.over hp hg e hat) hp hg2 ⟨[(nk, b, v2)], upd_same, by rw [keysOf, hnk]; rfl, by simpa using kt, by simp, by show 1 ≤ LIM; decide, ⟨_, [], rfl, r1.mono e2.sub, rfl⟩, ⟨_, [], rfl, r2, rfl⟩⟩ ?_
      cases c2 with
      | none => exact k2
      | some cs =>
        obtain ⟨l0, ws, z1, z2, z3, z4⟩ := k2
        exact ⟨l0, ws, z1, z2, by rw [upd_ne (fun z => by rw [z] at z1; exact hlc z1)]; exact z3, z4⟩
theorem f_disp1 {k v : Expr} {x y : Ex} (ok : Ok P X) (hk : PE X k (tE P x)) (hv : PE X v (tE P y)) : PE X (.Dict [some k] [v] pos) (tF P (.blt .dpairs [.lst [.tup [x, y]]])) := gf_disp1 ok hk hv
end
end G
/-! GD: texts: str(n) of one digit, sep.join(texts). -/
namespace G
open PySem L2
variable [TQ]
section
variable {P : Pl} {X : Cx}
theorem dg_ok : ∀ i : Int, -10 < i → i < 10 → Str.ofString (toString i) = (⟨(dgI i).toArray⟩ : Str) ∧ okS (dgI i) := fun i h1 h2 => by
  have : i = -9 ∨ i = -8 ∨ i = -7 ∨ i = -6 ∨ i = -5 ∨ i = -4 ∨ i = -3 ∨ i = -2 ∨ i = -1 ∨ i = 0 ∨ i = 1 ∨ i = 2 ∨ i = 3 ∨ i = 4 ∨ i = 5 ∨ i = 6 ∨ i = 7 ∨ i = 8 ∨ i = 9 := by omega
  unfold okS
  rcases this with rfl | rfl | rfl | rfl | rfl | rfl | rfl | rfl | rfl | rfl | rfl | rfl | rfl | rfl | rfl | rfl | rfl | rfl | rfl <;> exact ⟨by decide +kernel, by decide +kernel⟩
theorem sb_strI : ServesB P .strI (fun xs H Q => ∃ i, xs = [.int i] ∧ i.natAbs.log2 < 1920 ∧ Q (.str (Str.ofString (toString i))) H) := by
  intro lc G H c Q ds vs hs r k q
  obtain ⟨d, e, q⟩ := q.opt
  match ds, e with
  | [.int i], e =>
    obtain ⟨v, rfl, rfl⟩ := reps1 r
    obtain ⟨⟨h1, h2⟩, rfl⟩ := ite_some (show (if -10 < i ∧ i < 10 then some (D.str (dgI i)) else none) = some d from e)
    obtain ⟨e1, e2⟩ := dg_ok i h1 h2
    refine ⟨i, rfl, ?_, q.out hs ⟨by rw [e1], e2⟩ k⟩
    have h3 : i.natAbs < 2 ^ 4 := by omega
    have : i.natAbs.log2 < 1920 := by
      rcases Nat.eq_zero_or_pos i.natAbs with z | z
      · rw [z]; decide
      · exact Nat.lt_of_le_of_lt (Nat.log2_le_self _) (by omega)
    exact this
theorem k_strI {e : Expr} {x : Ex} {q pos : Pos} (ok : Ok P X) (hm : X.mg "str" = none) (ha : PE X e (tE P x)) (hg : Gl X "str" := by rfl) (he : starEach [e] X.env = (false, eval e X.env) :: starEach [] X.env := by rfl) : PE X (.Call (.Name "str" q) [e] [] pos) (tE P (.blt .strI [x])) :=
  ge_blt (pe_callTy call_str_int hg hm PyProof.Rows.boot_str (ga_cons ha ga_nil he) (by decide +kernel) (by decide +kernel) he rfl) (fun _ _ _ h => h) sb_strI
abbrev mkS (s : List Nat) : Str := ⟨s.toArray⟩
theorem dstrs_reps {K : PySem.W.Frag} {F : Hp} : ∀ {l : List D} {ys : List (List Nat)} {xs : List V}, dStrs l = some ys → Reps K F l xs → xs = (ys.map mkS).map V.str ∧ ∀ y ∈ ys, okS y
  | [], ys, xs, e, r => by
    cases e
    have : xs = [] := r
    subst this
    exact ⟨rfl, fun y hy => by cases hy⟩
  | .str s :: l, ys, xs, e, r => by
    obtain ⟨ys', e1, rfl⟩ := Option.map_eq_some_iff.mp (show (dStrs l).map (s :: ·) = some ys from e)
    obtain ⟨x, xs', rfl, ⟨rfl, h1⟩, h2⟩ := r
    obtain ⟨rfl, h3⟩ := dstrs_reps e1 h2
    exact ⟨rfl, fun y hy => by
      rcases List.mem_cons.mp hy with rfl | hy
      · exact h1
      · exact h3 y hy⟩
theorem tl_mk (s : List Nat) : TL.tl (mkS s) = s := TL.tl_mk s
theorem joinN_eq (s : List Nat) : ∀ ys : List (List Nat), joinN s ys = TL.joinL s ys
  | [] => rfl
  | [_] => rfl
  | p :: q :: r => by rw [joinN, TL.joinL, joinN_eq s (q :: r)]
theorem join_mk (s : List Nat) (ys : List (List Nat)) : Txt.join (mkS s) (ys.map mkS) = mkS (joinN s ys) := by
  rw [TL.join_eq]
  have h := TL.tl_join (mkS s) (ys.map mkS)
  rw [tl_mk, List.map_map, show (TL.tl ∘ mkS) = id from funext tl_mk, List.map_id, ← joinN_eq] at h
  rw [← h]
theorem ok_all {s : List Nat} : okS s ↔ ∀ x ∈ s, x < 0x110000 := by
  unfold okS PyData.strOk
  simp
theorem ok_join {s : List Nat} (hs : okS s) : ∀ {ys : List (List Nat)}, (∀ y ∈ ys, okS y) → okS (joinN s ys)
  | [], _ => ok_all.mpr fun x hx => by cases hx
  | [p], h => h p List.mem_cons_self
  | p :: q :: r, h => by
    have h1 := ok_all.mp (h p List.mem_cons_self)
    have h2 := ok_all.mp (ok_join hs (ys := q :: r) fun y hy => h y (List.mem_cons_of_mem _ hy))
    have h3 := ok_all.mp hs
    refine ok_all.mpr fun x hx => ?_
    rw [joinN, List.mem_append, List.mem_append] at hx
    rcases hx with hx | hx | hx
    · exact h1 x hx
    · exact h3 x hx
    · exact h2 x hx
theorem no_str {lc : Option Addr} {F H : Hp} {c : Cell} {Q : VK} {m : C D} {d : D} (hd : ∀ s, d ≠ .str s) (h : OutE P lc F H (C.bnd m (fun b => C.opt (builtin .joinS [d, b])) c) Q) : False := by
  unfold C.bnd at h
  cases e : m c with
  | ok r =>
    obtain ⟨b, c1⟩ := r
    rw [e] at h
    have h : OutE P lc F H (C.opt (builtin .joinS [d, b]) c1) Q := h
    obtain ⟨w, ew, _⟩ := h.opt
    cases d with
    | str s => exact hd s rfl
    | _ => cases b <;> cases ew
  | err _ _ => rw [e] at h; exact h
  | stuck => rw [e] at h; exact h
theorem k_join {o e : Expr} {x y : Ex} {apos pos : Pos} (ok : Ok P X) (ho : PE X o (tE P x)) (he : PE X e (tE P y)) (hs : starEach [e] X.env = [(false, eval e X.env)] := by rfl) (hbase : attributeBase o "join" X.env (eval o X.env) = eval o X.env := by rfl) (hline : (apos.endLine == pos.line) = true := by rfl) :
    PE X (.Call (.Attribute o "join" apos) [e] [] pos) (tE P (.blt .joinS [x, y])) := by
  refine (pe_join ho he hs hbase hline).imp fun σ H Q ⟨lc, F, ρ, c, a, h⟩ => ?_
  unfold ev evs evs evs at h
  simp only [C.bnd_bnd, C.ret_bnd] at h
  refine ⟨lc, F, ρ, c, a, oe h fun d c1 v F1 H1 e1 r1 k1 h1 => ?_⟩
  cases d with
  | str s =>
    obtain ⟨rfl, hsok⟩ := r1
    refine ⟨⟨_, rfl⟩, lc, F1, ρ, c1, a.step e1 k1, oe h1 fun d2 c2 v2 F2 H2 e2 r2 k2 h2 => ?_⟩
    obtain ⟨w, ew, h4⟩ := h2.opt
    cases d2 with
    | lst l =>
      obtain ⟨ys, ey, ew⟩ := Option.bind_eq_some_iff.mp (show ((dStrs l).bind fun ys => if (ys.map (·.length)).sum + ys.length * s.length ≤ LIM then some (D.str (joinN s ys)) else none) = some w from ew)
      obtain ⟨hsz, rfl⟩ := ite_some ew
      obtain ⟨p, xs, rfl, q1, q2, _⟩ := r2
      obtain ⟨rfl, hok⟩ := dstrs_reps ey q2
      have a2 := (a.step e1 k1).step e2 k2
      refine ⟨mkS s, p, ys.map mkS, rfl, rfl, .inl (by rw [← ok.K]; exact same_l a2.inn q1), ?_, ?_⟩
      · have e3 : ((ys.map mkS).map (·.length)) = ys.map (·.length) := by
          rw [List.map_map]
          refine List.map_congr_left fun y _ => ?_
          simp [Str.length]
        rw [e3, List.length_map]
        have : (mkS s).length = s.length := by simp [Str.length]
        rw [this]
        exact hsz
      · exact h4.out a2.inn ⟨by rw [join_mk], ok_join hsok hok⟩ k2
    | _ => cases ew
  | _ => exact False.elim (no_str (fun s e => by cases e) h1)
end
end G
/-! HQ: raise of a class with a field, any expression handed in. -/
namespace G
open PySem L2
variable [TQ]
section
variable {X : Cx}
/-- what a raise asks: its argument, then what is wished of the error that leaves -/
def tRI (C : Addr) (fld : Str) (E : Value → Option Addr → Hp → Prop) (te : TE) : TS := fun _ σ H => te σ H fun v H1 => ∀ d, H1 d = none → E (.ref C) (some d) (upd H1 d (.xd [(fld, v)]))
theorem ps_ri {k : Nat} {C : Addr} {fld x : Str} {E : Value → Option Addr → Hp → Prop} {e : Expr} {te : TE} {px pos' pos : Pos} (rc : RaC X.prog X.w X.K X.mg X.base k x C fld) (hc : X.calm = true) (tk : Takes X (fun cls d _ H => E cls d H)) (hr : Room (k + 1) X.A) (he : PE X e te)
    (mono : ∀ σ H Q Q', (∀ v H1, Q v H1 → Q' v H1) → te σ H Q → te σ H Q') (hg : Gl X x := by rfl)
    (hdb : (x == ("__debug__" : Str)) = false := by decide +kernel) (hst : starEach [e] X.env = (false, eval e X.env) :: starEach [] X.env := by rfl) (hpl : (backTo pos (starEach [] X.env)).any (·.1) = false := by rfl) :
    PS X (.Raise (some (.Call (.Name x px) [e] [] pos)) none pos') (tRI C fld E te) := by
  obtain ⟨fI, fd, ps, iC, tI, F1, hb⟩ := rc.ex
  refine (ps_raise hc tk (pmk_oex rc.o iC tI F1 hr hb .nil passE0 hg rc.glo (pa_cons he pa_nil hst) hdb hst hpl)).imp fun D σ H h => ?_
  refine mono σ H _ _ (fun v H1 q => ?_) h
  refine ⟨by simp, fun a ha => ⟨a, v, rfl, upd_same, fun d hd hne => ⟨rfl, d, [(fld, v)], upd_same, ?_, ?_, ?_⟩⟩⟩
  · rw [upd_ne hne]; exact upd_same
  · rw [upd_ne hne] at hd; exact hd
  · have hd : H1 d = none := by rw [upd_ne hne] at hd; exact hd
    rw [del_upd3 ha hne]
    exact q d hd
/-- a def called, what it raises being taken -/
theorem run_fnX {W : WX} {k : Nat} {f : Addr} {fd : FuncData} {ps : List Str} {sp : Sp} {pins : List (Addr × Obj)} {σ : L2.St} {H1 : Hp} {s1 : Shared} {Q : VK} {us : List Value} {vs : List V} (tk : Takes X W) (F : FnOk X.prog X.w X.K X.mg X.base (L2.CX X.prog X.w) k f fd ps sp) (hr : Room k X.A) (hb : Binds X.K fd ps [])
    (I1 : Inv X pins σ H1 s1) (r : Vals vs us) (q : sp vs H1 Q fun cls d H2 => W cls d σ H2) : wpAny (model X.prog X.w) X.A (call (.ref f) us) (EP X pins σ Q) X.xe s1 := by
  have hl : us.length = ps.length := by rw [← r.length]; exact F.len _ _ _ _ q
  refine wpAny_call (codeAny_mono (F.run X.A X.stack s1 H1 ⟨us, []⟩ us vs Q _ hr I1.env0 (by have := hb s1 us I1.kIn (by rw [List.append_nil]; exact hl); rw [List.append_nil] at this; exact this) r q) fun r s' hq => ?_)
  cases r with
  | error e => exact tk _ _ (XE.of_call I1 (fun cls d H' h => h) hq)
  | ok fl =>
    cases fl with
    | ret u => exact I1.after hq
    | next => exact False.elim hq
    | brk => exact False.elim hq
    | cont => exact False.elim hq
/-- o.m(e, ..), what it raises being taken -/
def tMX (C : Addr) (m : Str) (sp : Sp) (W : WX) (ta : TE) (t : TA) : TE := fun σ H Q => ta σ H fun x H1 => ∃ a dx fs, x = .ref a ∧ H1 a = some (.ins C dx fs) ∧ fs.lookup m = none ∧ t σ H1 fun vs H2 => sp (x :: vs) H2 Q fun cls d H3 => W cls d σ H3
theorem pe_methX {W : WX} {k : Nat} {C f : Addr} {fd : FuncData} {ps : List Str} {sp : Sp} {m : Str} {o e : Expr} {es : List Expr} {ta : TE} {t : TA} {pos apos : Pos} {pl : Sem Bool} (tk : Takes X W) (he : PE X o ta) (c : Cls X.K C) (hm : Meth X.K C m f) (F : FnOk X.prog X.w X.K X.mg X.base (L2.CX X.prog X.w) k f fd ps sp) (hr : Room k X.A) (hb : Binds X.K fd ps []) (ha : PA X (e :: es) t)
    (hst : starEach (e :: es) X.env = (false, eval e X.env) :: starEach es X.env := by rfl) (hpl : (backTo pos (starEach es X.env)).any (·.1) = false := by rfl)
    (ht : eval (.Call (.Attribute o m apos) (e :: es) [] pos) X.env = (do
      let ov ← eval o X.env
      standAt apos.atName
      let (f, first) ← holding [ov] (getMethod ov m pl)
      callWith pos f first (backTo pos (starEach (e :: es) X.env)) (backToKw pos (keywordEach [] X.env))) := by rfl) :
    PE X (.Call (.Attribute o m apos) (e :: es) [] pos) (tMX C m sp W ta t) := by
  refine ⟨fun pins s σ H Q I h => ?_⟩
  refine PySem.W.methodCall_KW (pl := pl) (thn (he.run pins s σ H _ I h) fun u s1 ⟨x, H1, I1, rx, a, dx, fs, ex, ea, l, q⟩ => ?_) ht
  subst ex
  obtain rfl : u = Value.ref a := rx
  refine getmeth_ok I1 ea c hm l ?_
  refine PySem.W.callWith_K (first := [.ref a]) (h₀ := X.base) I.ok.mod.kin hm.kp (thn (ha.run pos pins s1 σ H1 _ I1 q) fun us s2 ⟨vs, H2, I2, r, q2⟩ => ⟨I2.kIn, ?_⟩) hst hpl
  exact run_fnX (us := .ref a :: us) (vs := .ref a :: vs) tk F hr hb I2 (.cons rfl r) q2
theorem pe_methX0 {W : WX} {k : Nat} {C f : Addr} {fd : FuncData} {ps : List Str} {sp : Sp} {m : Str} {o : Expr} {ta : TE} {pos apos : Pos} {pl : Sem Bool} (tk : Takes X W) (he : PE X o ta) (c : Cls X.K C) (hm : Meth X.K C m f) (F : FnOk X.prog X.w X.K X.mg X.base (L2.CX X.prog X.w) k f fd ps sp) (hr : Room k X.A) (hb : Binds X.K fd ps [])
    (ht : eval (.Call (.Attribute o m apos) [] [] pos) X.env = (do
      let ov ← eval o X.env
      standAt apos.atName
      let (f, first) ← holding [ov] (getMethod ov m pl)
      callWith pos f first (backTo pos (starEach [] X.env)) (backToKw pos (keywordEach [] X.env))) := by rfl) :
    PE X (.Call (.Attribute o m apos) [] [] pos) (tMX C m sp W ta tNil) := by
  refine ⟨fun pins s σ H Q I h => ?_⟩
  refine PySem.W.methodCall_KW (pl := pl) (thn (he.run pins s σ H _ I h) fun u s1 ⟨x, H1, I1, rx, a, dx, fs, ex, ea, l, q⟩ => ?_) ht
  subst ex
  obtain rfl : u = Value.ref a := rx
  refine getmeth_ok I1 ea c hm l ?_
  exact PySem.W.callWith_K0 (first := [.ref a]) I1.kIn hm.kp (run_fnX (us := [.ref a]) (vs := [.ref a]) tk F hr hb I1 (.cons rfl .nil) q)
end
end G
/-! HQ2: raise of a class of one's own without __init__, without an argument. -/
namespace G
open PySem L2
variable [TQ]
section
variable {X : Cx} {p : Cfg} {pos : Pos}
theorem pmk_own0 {C : Addr} {bmB : List Value} {B newId initId : String} {x : Str} {px : Pos} (F : ExcBaseFacts B newId initId bmB) (q : PySem.W.excIn X.K C bmB newId = true) (gC : X.mg x = some (.ref C)) (kC : PySem.W.keepIn X.K (.ref C) = true) (r : Raises X (.ref C)) (hg : Gl X x) (hdb : (x == ("__debug__" : Str)) = false := by decide +kernel) :
    PMk X (.Call (.Name x px) [] [] pos) (fun _ H Q => Q (.ref C) none H) := by
  intro pins s σ H Q I h
  refine wpAny_Call_Name_kw (ld_glob I hg gC ?_ hdb)
  refine PySem.W.callWith_K0 (first := []) I.kIn kC ?_
  show wpAny _ _ (call (.ref C) []) _ _ _
  obtain ⟨bm, N, nm, qn, bs, hdct, sn, sub, ab, col, dd, k0, k1, k2, k3, k5, mN, hC, hN, hni, T⟩ := exc_obj I.kIn q
  refine wpAny_call_exc_subT F T hC hN hni (fun h' e hm => ?_) (Nat.zero_le _)
  exact mk_of I hm r h (I.hok.gone hm.new)
/-- a class of one's own over ValueError, without __init__ -/
structure Ra0 (K : PySem.W.Frag) (mg : Str → Option Value) (x : Str) (C : Addr) : Prop where
  q : PySem.W.excIn K C He.veBase "ValueError.__new__" = true
  kp : PySem.W.keepIn K (.ref C) = true
  sb : PySem.W.subIn K (.ref C) (.type "BaseException") = some true
  ty : PySem.W.typeIn K (.ref C) = some (.type "type")
  glo : mg x = some (.ref C)
theorem s_raise0 {C : Addr} {x : Str} {ek : EK} {px pos' : Pos} (rc : Ra0 X.K X.mg x C) (hc : X.calm = true) (tk : Takes X (fun cls d _ H => p.E cls d H)) (hxc : p.xc ek = some (C, none) := by rfl) (hg : Gl X x := by rfl) (hdb : (x == ("__debug__" : Str)) = false := by decide +kernel) :
    PS X (.Raise (some (.Call (.Name x px) [] [] pos)) none pos') (tS p (.raise ek none)) := by
  refine (ps_raise hc tk (pmk_own0 PySem.F.excBase_ValueError rc.q rc.glo rc.kp (raises_own rc.sb rc.ty) hg hdb)).imp fun D σ H ⟨en, lc, F, ρ, c, s, h⟩ => ?_
  unfold ex at h
  have h1 : ErrW p en ek none := h
  refine h1 _ _ F H s.ext ?_
  unfold ExR
  rw [hxc]
  exact ⟨rfl, rfl⟩
end
end G
/-! G21: errors in short. -/
namespace G
open PySem PySem.W L2 He
variable [TQ]
section
variable {X : Cx} {p : Cfg} {pos : Pos}
theorem x_callW {W : WX} {k k' n : Nat} {xc : XC} {φ : List G.D → R G.D} {ps : List Str} {x : Str} {q : Pos} {e : Expr} {es : List Expr} {xs : List Ex} (tk : Takes X W) (C : Cal X.prog X.w X.K X.mg X.base k x ps (spX X.K n xc φ)) (hr : Room k' X.A) (ha : PA X (e :: es) (tA p.non xs)) (hk : k ≤ k' := by decide) (hK : p.K = X.K := by rfl) (hxc : p.xc = xc := by rfl) (hg : Gl X x := by rfl)
    (hdb : (x == ("__debug__" : Str)) = false := by decide +kernel) (he : starEach (e :: es) X.env = (false, eval e X.env) :: starEach es X.env := by rfl) (hpl : (backTo pos (starEach es X.env)).any (·.1) = false := by rfl) :
    PE X (.Call (.Name x q) (e :: es) [] pos) (tXW p n φ xs W) := by
  obtain ⟨f, fd, hm, hkp, hb, F⟩ := C.ex
  subst hxc
  have := pe_callX (px := q) (pos := pos) tk F (hr.mono hk) hg hm hkp hb ha hdb he hpl
  rw [← hK] at this
  exact this
theorem x_call {k k' n : Nat} {xc : XC} {φ : List G.D → R G.D} {ps : List Str} {x : Str} {q : Pos} {e : Expr} {es : List Expr} {xs : List Ex} (tk : Takes X (fun cls d _ H => p.E cls d H)) (C : Cal X.prog X.w X.K X.mg X.base k x ps (spX X.K n xc φ)) (hr : Room k' X.A) (ha : PA X (e :: es) (tA p.non xs)) (hk : k ≤ k' := by decide) (hK : p.K = X.K := by rfl) (hxc : p.xc = xc := by rfl) (hg : Gl X x := by rfl)
    (hdb : (x == ("__debug__" : Str)) = false := by decide +kernel) (he : starEach (e :: es) X.env = (false, eval e X.env) :: starEach es X.env := by rfl) (hpl : (backTo pos (starEach es X.env)).any (·.1) = false := by rfl) :
    PE X (.Call (.Name x q) (e :: es) [] pos) (tX p n φ xs) := x_callW tk C hr ha hk hK hxc hg hdb he hpl
theorem s_xset (i : Nat) {n id : Nat} {φ : List G.D → R G.D} {xs : List Ex} {x : Str} {e : Expr} {pos' : Pos} (hN : X.N.Nodup) (he : PE X e (tX p n φ xs)) (hΦ : p.Φ.fn id = some φ := by rfl) (hn : xs.length = n := by rfl) (ok : okTg p (.nm i) = true := by rfl) (hi : X.N[i]? = some x := by rfl) (hx : Loc X.env.scope x := by first | exact Or.inl rfl | exact Or.inr rfl) (hs : swapsWith e (some (.Name x pos')) pos.line X.env = pure false := by rfl) (hf : X.fn x = true ∨ X.env.scope.names.lookup x = some .local := by first | exact .inl rfl | exact .inr rfl) :
    PS X (.Assign [.Name x pos'] e pos) (tS p (.xcall (.set (.nm i)) id xs)) := gs_xset hΦ hn ok hN hi hx he hs hf
theorem s_xasg {n id : Nat} {φ : List G.D → R G.D} {xs : List Ex} {tg e : Expr} {t : Tg} (he : PE X e (tX p n φ xs)) (hg : PG X tg (gT p.K t)) (hΦ : p.Φ.fn id = some φ := by rfl) (hn : xs.length = n := by rfl) (ok : okTg p t = true := by rfl) (hs : swapsWithSole [tg] e pos.line X.env = pure false := by rfl) (hw : swappedStores [tg] e X.env = pure none := by rfl) (h1 : (assignEach [tg] X.env).map (·.2) = [PySem.assign tg X.env] := by rfl) :
    PS X (.Assign [tg] e pos) (tS p (.xcall (.set t) id xs)) := gs_xasg hΦ hn ok he hg hs hw h1
theorem s_xexpr {n id : Nat} {φ : List G.D → R G.D} {xs : List Ex} {e : Expr} (he : PE X e (tX p n φ xs)) (hΦ : p.Φ.fn id = some φ := by rfl) (hn : xs.length = n := by rfl) (hs : swapsWith e none pos.line X.env = pure false := by rfl) : PS X (.Expr e pos) (tS p (.xcall .drop id xs)) := gs_xexpr hΦ hn he hs
theorem s_xret {n id : Nat} {φ : List G.D → R G.D} {xs : List Ex} {e : Expr} (he : PE X e (tX p n φ xs)) (hΦ : p.Φ.fn id = some φ := by rfl) (hn : xs.length = n := by rfl) : PS X (.Return (some e) pos) (tS p (.xcall .ret id xs)) := gs_xret hΦ hn he
theorem s_raise {k k' : Nat} {C : Addr} {fld x : Str} {ek : EK} {e : Expr} {y : Ex} {px pos' : Pos} (rc : RaC X.prog X.w X.K X.mg X.base k x C fld) (hc : X.calm = true) (tk : Takes X (fun cls d _ H => p.E cls d H)) (hr : Room k' X.A) (he : PE X e (tE p.non y)) (hxc : p.xc ek = some (C, some fld) := by rfl) (hk : k + 1 ≤ k' := by decide) (hg : Gl X x := by rfl)
    (hdb : (x == ("__debug__" : Str)) = false := by decide +kernel) (hst : starEach [e] X.env = (false, eval e X.env) :: starEach [] X.env := by rfl) (hpl : (backTo pos (starEach [] X.env)).any (·.1) = false := by rfl) :
    PS X (.Raise (some (.Call (.Name x px) [e] [] pos)) none pos') (tS p (.raise ek (some y))) := gs_raise rc hxc hc tk (hr.mono hk) hg he hdb hst hpl
/-- try: y = f(..) / except x as n: suite -/
theorem s_trySet (i j : Nat) {k k' n id : Nat} {xc : XC} {φ : List G.D → R G.D} {ps : List Str} {xs : List Ex} {hs : List Stm} {f x y xn : Str} {cv : Value} {e : Expr} {es : List Expr} {b₀ : Stmt} {suite : List Stmt} {q qc py np pos1 pos' : Pos} (okn : Ok p.non X) (hN : X.N.Nodup)
    (hcl : ∀ k C fo, p.xc k = some (C, fo) → PySem.W.exmOne X.K (.ref C) cv = some true) (hm : X.mg x = some cv) (C : Cal X.prog X.w X.K X.mg X.base k f ps (spX X.K n xc φ)) (hr : Room k' X.A)
    (ha : ∀ (pn : List (Addr × Obj)) (xe : Value → Shared → Prop), Ok p.non (X.tr pn xe) → Room k' (X.tr pn xe).A → PA (X.tr pn xe) (e :: es) (tA p.non xs))
    (hh : ∀ (a : Addr) (oe : Obj) (cls : Value) (d : Option Addr) (pn : List (Addr × Obj)) (k : EK) (x : Option G.D), Zc cls d oe → (∃ vs, oe.data = .fields vs) → PSs (X.suite a ((a, oe) :: pn)) (b₀ :: suite) (tSs (p.hnd ⟨i, a, cls, d⟩ k x) hs))
    (hk : k ≤ k' := by decide) (hΦ : p.Φ.fn id = some φ := by rfl) (hn : xs.length = n := by rfl) (hxc : p.xc = xc := by rfl) (hc : (p.cell != some i) = true := by rfl) (ok : okTg p (.nm j) = true := by rfl)
    (hst : X.stack = X.env :: X.outer := by rfl) (hfr : X.env.frame = some X.env.locals := by rfl) (hi : X.N[i]? = some xn := by rfl) (hln : X.env.kindOf xn = some .local := by rfl) (hgx : Gl X x := by rfl) (hdx : (x == ("__debug__" : Str)) = false := by decide +kernel)
    (hj : X.N[j]? = some y := by rfl) (hy : Loc X.env.scope y := by first | exact Or.inl rfl | exact Or.inr rfl) (hsw : swapsWith (.Call (.Name f q) (e :: es) [] qc) (some (.Name y py)) pos1.line X.env = pure false := by rfl) (hf : X.fn y = true ∨ X.env.scope.names.lookup y = some .local := by first | exact .inl rfl | exact .inr rfl)
    (hg : Gl X f := by rfl) (hdb : (f == ("__debug__" : Str)) = false := by decide +kernel) (he : starEach (e :: es) X.env = (false, eval e X.env) :: starEach es X.env := by rfl) (hpl : (backTo qc (starEach es X.env)).any (·.1) = false := by rfl) :
    PS X (.Try [.Assign [.Name y py] (.Call (.Name f q) (e :: es) [] qc) pos1] [.ExceptHandler (some (.Name x np)) (some xn) (b₀ :: suite) pos'] [] [] pos) (tS p (.tryS (.set (.nm j)) id xs i hs)) :=
  gs_trySet hΦ hn okn.K okn.xn (by simpa using hc) ok hcl hst hfr hN hi hln ⟨hgx, hdx, .inl hm⟩ hj hy hsw hf
    (fun W pn xe tk => x_callW (X := X.tr pn xe) tk C hr (ha pn xe ⟨okn.K, okn.calm, okn.hu, okn.xn⟩ hr) hk okn.K hxc hg hdb he hpl) hh
/-- error.field, isinstance(error, Class) -/
theorem x_fld {P : Pl} (i : Nat) {k : EK} {C a : Addr} {cls : Value} {d : Option Addr} {oe : Obj} {pn : List (Addr × Obj)} {f n : Str} {pn' : Pos} (T : XfC X.K C ∧ findIn X.K (.ref C) f = some none) (hz : Zc cls d oe) (hf : ∃ vs, oe.data = .fields vs) (hP : P.xn = some ⟨i, a, cls, d⟩ := by rfl) (hxc : P.xc k = some (C, some f) := by rfl)
    (hN : X.N[i]? = some n := by rfl) (hv : Vis X.env.scope n := by first | exact Or.inl rfl | exact Or.inr (Or.inl rfl) | exact Or.inr (Or.inr rfl)) (hd : (n == ("__debug__" : Str)) = false := by decide +kernel) (hcd : (n == ("__classdict__" : Str)) = false := by decide +kernel) (hb : attributeBase (.Name n pn') f X.env (eval (.Name n pn') X.env) = eval (.Name n pn') X.env := by rfl) :
    PE (X.suite a ((a, oe) :: pn)) (.Attribute (.Name n pn') f pos) (tE P (.errFld k)) := ge_errFld hP hxc T.1 T.2 hz hf hN hv hd hcd hb
theorem x_is {P : Pl} (i : Nat) {ks : List EK} {a C2 : Addr} {cls : Value} {d : Option Addr} {oe : Obj} {pn : List (Addr × Obj)} {n x2 : Str} {pn' pf p2 : Pos} (hki : ∀ k C fo, P.xc k = some (C, fo) → ExcC X.K C ∧ PySem.W.kitOne X.K (.ref C) (.ref C2) = some (ks.contains k)) (hm2 : X.mg x2 = some (.ref C2)) (hm : X.mg "isinstance" = none) (hz : Zc cls d oe) (hf : ∃ vs, oe.data = .fields vs)
    (hP : P.xn = some ⟨i, a, cls, d⟩ := by rfl) (hN : X.N[i]? = some n := by rfl) (hv : Vis X.env.scope n := by first | exact Or.inl rfl | exact Or.inr (Or.inl rfl) | exact Or.inr (Or.inr rfl)) (hd : (n == ("__debug__" : Str)) = false := by decide +kernel) (hcd : (n == ("__classdict__" : Str)) = false := by decide +kernel) (hg : Gl X "isinstance" := by rfl) (hg2 : Gl X x2 := by rfl) (hd2 : (x2 == ("__debug__" : Str)) = false := by decide +kernel)
    (he : starEach [.Name n pn', .Name x2 p2] X.env = (false, eval (.Name n pn') X.env) :: starEach [.Name x2 p2] X.env := by rfl) (he2 : starEach [.Name x2 p2] X.env = (false, eval (.Name x2 p2) X.env) :: starEach [] X.env := by rfl) :
    PE (X.suite a ((a, oe) :: pn)) (.Call (.Name "isinstance" pf) [.Name n pn', .Name x2 p2] [] pos) (tE P (.errIs ks)) :=
  ge_errIs (cV := .ref C2) (cu := .ref C2) hP rfl (fun _ h => h) hki hz hf hN hv hd hcd hg hm (pe_glob (X := X.suite a ((a, oe) :: pn)) hg2 hm2 rfl hd2) he he2
end
end G
/-! GB3: the head with tables of code objects and own errors. -/
namespace G
open PySem PySem.W L2 He
/-- what the module's names reach, without empty tables -/
def frTE (g : Addr → Option Obj) (n : Nat) : PySem.W.Frag := He.frG g ((cStatics :: He.asD g n).filter fun a => match g a with
  | some o => !tabO o
  | none => false)
theorem frTE_not {h : Heap} {n : Nat} {a : Addr} {o : Obj} (e : (frTE h.get? n).lookup a = some o) : tabO o = false := by
  have h1 := frG_mem _ e
  have h2 : h.get? a = some o := He.frG_in a o e
  have h3 := (List.mem_filter.mp h1).2
  rw [h2] at h3
  simpa using h3
section
variable [TQ]
abbrev AlX : Type := AlE × Bool
def obsX (fa : List Fa) (fn : List DefD) (ini : List IniD) (ex : PySem.W.Frag → Bool) (xs : List Str) (K : PySem.W.Frag) : AlX := (obsE fa fn ini ex K, decide (xs.map (tabAt K)).Nodup)
def valX (fn : List DefD) (ini : List IniD) : AlX := (valE fn ini, true)
structure SaysX (fa : List Fa) (fn : List DefD) (ini : List IniD) (ex : PySem.W.Frag → Bool) (xs : List Str) (K : PySem.W.Frag) : Prop where
  d : SaysE fa fn ini ex K
  nd : (xs.map (tabAt K)).Nodup
  nt : ∀ P o, K.lookup P = some o → tabO o = false
def obsXG (n : Nat) (fa : List Fa) (fn : List DefD) (ini : List IniD) (ex : PySem.W.Frag → Bool) (xs : List Str) (g : Addr → Option Obj) : AlX := obsX fa fn ini ex xs (frTE g n)
def hookX (n : Nat) (fa : List Fa) (fn : List DefD) (ini : List IniD) (ex : PySem.W.Frag → Bool) (xs : List Str) : PySem.W.Hook where
  α := AlX
  obs := fun s => obsXG n fa fn ini ex xs s.heap.get?
  val := fun _ => valX fn ini
  says := fun _ h => ∃ K : PySem.W.Frag, K.In h ∧ SaysX fa fn ini ex xs K
  of := fun _ _ e => ⟨_, He.frG_in, congrArg (fun z : AlX => z.1) e, of_decide_eq_true (congrArg (fun z : AlX => z.2) e), fun _ _ e => frTE_not e⟩
  keeps := fun _ _ _ ⟨K, hK, c⟩ k => ⟨K, PySem.W.Frag.In.keeps hK k, c⟩
theorem obsXG_eq {n : Nat} {fa : List Fa} {fn : List DefD} {ini : List IniD} {ex : PySem.W.Frag → Bool} {xs : List Str} {g : Addr → Option Obj} {s : Shared} (h : ∀ a, g a = s.heap.get? a) : obsXG n fa fn ini ex xs g = (hookX n fa fn ini ex xs).obs s := by
  have e : g = s.heap.get? := funext h
  rw [e] <;> rfl
theorem TabOf.ninX {mg : Str → Option Value} {h : Heap} {x : Str} {c T : Addr} {K : PySem.W.Frag} (t : TabOf mg h x c T) (nt : ∀ P o, K.lookup P = some o → tabO o = false) (hK : K.In h) : K.lookup T = none := by
  cases e : K.lookup T with
  | none => rfl
  | some o =>
    have h1 := hK T o e
    rw [t.emp] at h1
    cases h1
    have h2 := nt T _ e
    cases h2
end
end G
/-! P0: evaluation. -/
namespace G
theorem noCell_ret {α : Type} (a : α) : noCell (C.ret a) = C.ret a := rfl
theorem noCell_bnd {α β : Type} (a : α) (f : α → C β) : noCell (C.bnd (C.ret a) f) = noCell (f a) := rfl
theorem hide_f {α : Type} (m : C α) : hide false m = m := rfl
theorem hide_t {α : Type} (m : C α) : hide true m = noCell m := rfl
theorem guard_t : guard true = C.ret () := rfl
theorem bnd_app {α β : Type} {m : C α} {f : α → C β} {c c' : Cell} {a : α} (h : m c = .ok (a, c')) : C.bnd m f c = f a c' := by
  unfold C.bnd
  rw [h]
theorem ret_apply {α : Type} (a : α) (c : Cell) : C.ret a c = .ok (a, c) := rfl
theorem bnd_hasCell {β : Type} (f : Unit → C β) (cs : List D) : C.bnd hasCell f (some cs) = f () (some cs) := rfl
theorem bnd_cellAt {β : Type} {f : D → C β} {cs : List D} {d x : D} (h : index (.lst cs) d = some x) : C.bnd (cellAt d) f (some cs) = f x (some cs) := bnd_app (by
  show (match index (.lst cs) d with | some x => R.ok (x, some cs) | none => .stuck) = _
  rw [h])
theorem bnd_setCell {β : Type} {f : Unit → C β} {cs : List D} {i : Int} {j : Nat} {d : D} (h : ixNat cs.length i = some j) : C.bnd (setCell (.int i) d) f (some cs) = f () (some (cs.set j d)) := bnd_app (by
  show (match ixNat cs.length i with | some j => R.ok ((), some (cs.set j d)) | none => .stuck) = _
  rw [h])
theorem bnd_callMR {β : Type} {f : D → C β} {g : List D → List D → R (D × List D)} {vs cs cs' : List D} {d : D} (h : g vs cs = .ok (d, cs')) : C.bnd (callMR g vs) f (some cs) = f d (some cs') := bnd_app (by
  show (match g vs cs with | .ok (d, cs') => R.ok (d, some cs') | .err _ _ => .stuck | .stuck => .stuck) = _
  rw [h])
theorem b_len_t (l : List D) : builtin .len [.tup l] = some (.int l.length) := rfl
theorem b_len_l (l : List D) : builtin .len [.lst l] = some (.int l.length) := rfl
theorem b_int_i (i : Int) : builtin .int [.int i] = some (.int i) := rfl
theorem b_int_b (b : Bool) : builtin .int [.bl b] = some (.int (if b then 1 else 0)) := rfl
theorem b_tup_t (l : List D) : builtin .tuple [.tup l] = some (.tup l) := rfl
theorem b_tup_l (l : List D) : builtin .tuple [.lst l] = some (.tup l) := rfl
theorem b_isInt (d : D) : builtin .isInt [d] = some (.bl (isIntD d)) := rfl
theorem b_isBool (d : D) : builtin .isBool [d] = some (.bl (isBlD d)) := rfl
theorem b_isTuple (d : D) : builtin .isTuple [d] = some (.bl (isTupD d)) := rfl
theorem b_isStr (d : D) : builtin .isStr [d] = some (.bl (isStrD d)) := rfl
theorem b_isList (d : D) : builtin .isList [d] = some (.bl (isLstD d)) := rfl
theorem b_isSeq (d : D) : builtin .isSeq [d] = some (.bl (isTupD d || isLstD d)) := rfl
theorem b_sorted (l : List D) : builtin .sorted [.lst l] = (sortD l).map .lst := rfl
theorem b_sum (l : List D) : builtin .sum [.lst l] = (dInts l).map fun ns => .int ns.sum := rfl
theorem b_max2 (a b : Int) : builtin .max [.int a, .int b] = some (.int (if b > a then b else a)) := rfl
theorem b_min2 (a b : Int) : builtin .min [.int a, .int b] = some (.int (if b < a then b else a)) := rfl
theorem b_sset (l : List D) : builtin .sortedSet [.lst l] = if l.all intPair && decide (l.length < 64) then some (.lst (sortBy ltD (dedup l))) else none := rfl
theorem isInt_i (i : Int) : isIntD (.int i) = true := rfl
theorem isInt_n : isIntD .non = false := rfl
theorem isBl_i (i : Int) : isBlD (.int i) = false := rfl
theorem isBl_b (i : Bool) : isBlD (.bl i) = true := rfl
theorem isTup_t (l : List D) : isTupD (.tup l) = true := rfl
theorem isTup_i (l : Int) : isTupD (.int l) = false := rfl
theorem isTup_l (l : List D) : isTupD (.lst l) = false := rfl
theorem isLst_l (l : List D) : isLstD (.lst l) = true := rfl
theorem isLst_t (l : List D) : isLstD (.tup l) = false := rfl
theorem a_add (a b : Int) : arith .add (.int a) (.int b) = some (.int (a + b)) := rfl
theorem a_sub (a b : Int) : arith .sub (.int a) (.int b) = some (.int (a - b)) := rfl
theorem a_mul (a b : Int) : arith .mul (.int a) (.int b) = if (-M64 < a ∧ a < M64) ∨ (-M64 < b ∧ b < M64) then some (.int (a * b)) else none := rfl
theorem a_fdiv (a b : Int) : arith .fdiv (.int a) (.int b) = if 0 < b ∧ b < 1073741824 then some (.int (a / b)) else none := rfl
theorem a_mod (a b : Int) : arith .mod (.int a) (.int b) = if 0 < b then some (.int (a % b)) else none := rfl
theorem a_tt (a b : List D) : arith .add (.tup a) (.tup b) = if a.length + b.length ≤ LIM then some (.tup (a ++ b)) else none := rfl
theorem a_ll (a b : List D) : arith .add (.lst a) (.lst b) = if a.length + b.length ≤ LIM then some (.lst (a ++ b)) else none := rfl
theorem cm_lt (a b : Int) : cmp .lt (.int a) (.int b) = some (decide (a < b)) := rfl
theorem cm_le (a b : Int) : cmp .le (.int a) (.int b) = some (decide (a ≤ b)) := rfl
theorem cm_gt (a b : Int) : cmp .gt (.int a) (.int b) = some (decide (b < a)) := rfl
theorem cm_ge (a b : Int) : cmp .ge (.int a) (.int b) = some (decide (b ≤ a)) := rfl
theorem cm_eq (a b : D) : cmp .eq a b = if shp DEEP a && shp DEEP b then some (eqv a b) else none := rfl
theorem cm_ne (a b : D) : cmp .ne a b = if shp DEEP a && shp DEEP b then some (!eqv a b) else none := rfl
theorem cm_is (a : D) : cmp .is a .non = some (isNon a) := by cases a <;> rfl
theorem cm_isn (a : D) : cmp .isn a .non = some (!isNon a) := by cases a <;> rfl
theorem sh_i (n : Nat) (i : Int) : shp n (.int i) = true := by cases n <;> rfl
theorem sh_n (n : Nat) : shp n .non = true := by cases n <;> rfl
theorem sh_b (n : Nat) (i : Bool) : shp n (.bl i) = true := by cases n <;> rfl
theorem sh_s (n : Nat) (i : List Nat) : shp n (.str i) = true := by cases n <;> rfl
theorem eqv_ii (a b : Int) : eqv (.int a) (.int b) = (a == b) := rfl
theorem isNon_n : isNon .non = true := rfl
theorem isNon_i (i : Int) : isNon (.int i) = false := rfl
theorem tab_fn (fs : List (List D → R D)) (ms : List (List D → List D → R (D × List D))) (i : Nat) : (tabL fs ms).fn i = fs[i]? := rfl
theorem tab_mt (fs : List (List D → R D)) (ms : List (List D → List D → R (D × List D))) (i : Nat) : (tabL fs ms).mt i = ms[i]? := rfl
theorem asBl (b : Bool) : asBool (.bl b) = C.ret b := rfl
end G
/-! P1: evaluation, one construct at a time (no unfolding for the kernel). -/
namespace G
section
variable {Φ : Tab} {ρ : Env} {c c1 c2 c3 : Cell} {x y z w : D} {a b e : Ex} {r : R (D × Cell)}
theorem var_b {i : Nat} (h : get ρ i = some x) : ev Φ (.var i) ρ c = .ok (x, c) := by
  rw [ev, h]; rfl
theorem cst_b : ev Φ (.cst x) ρ c = .ok (x, c) := by rw [ev]; rfl
theorem ix_b (h1 : ev Φ a ρ c = .ok (x, c1)) (h2 : ev Φ b ρ c1 = .ok (y, c2)) (h : index x y = some z) : ev Φ (.ix a b) ρ c = .ok (z, c2) := by
  rw [ev, bnd_app h1, bnd_app h2, h]; rfl
theorem op_b {o : Op2} (h1 : ev Φ a ρ c = .ok (x, c1)) (h2 : ev Φ b ρ c1 = .ok (y, c2)) (h : arith o x y = some z) : ev Φ (.op o a b) ρ c = .ok (z, c2) := by
  rw [ev, bnd_app h1, bnd_app h2, h]; rfl
theorem cmp_b {o : Cmp} {k : Bool} (h1 : ev Φ a ρ c = .ok (x, c1)) (h2 : ev Φ b ρ c1 = .ok (y, c2)) (h : cmp o x y = some k) : ev Φ (.cmp o a b) ρ c = .ok (.bl k, c2) := by
  rw [ev, bnd_app h1, bnd_app h2, h]; rfl
theorem and_t (h : ev Φ a ρ c = .ok (.bl true, c1)) (h2 : ev Φ b ρ c1 = r) : ev Φ (.and a b) ρ c = r := by
  rw [ev, bnd_app h]; exact h2
theorem and_f (h : ev Φ a ρ c = .ok (.bl false, c1)) : ev Φ (.and a b) ρ c = .ok (.bl false, c1) := by
  rw [ev, bnd_app h]; rfl
theorem or_t (h : ev Φ a ρ c = .ok (.bl true, c1)) : ev Φ (.or a b) ρ c = .ok (.bl true, c1) := by
  rw [ev, bnd_app h]; rfl
theorem or_f (h : ev Φ a ρ c = .ok (.bl false, c1)) (h2 : ev Φ b ρ c1 = r) : ev Φ (.or a b) ρ c = r := by
  rw [ev, bnd_app h]; exact h2
theorem not_b {k : Bool} (h : ev Φ a ρ c = .ok (.bl k, c1)) : ev Φ (.not a) ρ c = .ok (.bl (!k), c1) := by
  rw [ev, bnd_app h]; rfl
theorem itx_t (h : ev Φ a ρ c = .ok (.bl true, c1)) (h2 : ev Φ b ρ c1 = r) : ev Φ (.ite a b e) ρ c = r := by
  rw [ev, bnd_app h]; exact h2
theorem itx_f (h : ev Φ a ρ c = .ok (.bl false, c1)) (h2 : ev Φ e ρ c1 = r) : ev Φ (.ite a b e) ρ c = r := by
  rw [ev, bnd_app h]; exact h2
theorem neg_b {i : Int} (h : ev Φ a ρ c = .ok (.int i, c1)) : ev Φ (.neg a) ρ c = .ok (.int (-i), c1) := by
  rw [ev, bnd_app h]; rfl
theorem slc_b {lo hi : Option Int} (h1 : ev Φ a ρ c = .ok (x, c1)) (h2 : ev Φ b ρ c1 = .ok (y, c2)) (h3 : ev Φ e ρ c2 = .ok (z, c3)) (hl : partD b y = some lo) (hh : partD e z = some hi) (h : slice x lo hi = some w) : ev Φ (.slc a b e) ρ c = .ok (w, c3) := by
  rw [ev, bnd_app h1, bnd_app h2, bnd_app h3, hl, hh]
  show C.opt (slice x lo hi) c3 = _
  rw [h]; rfl
/-! ### argument lists -/
theorem as_0 : evs Φ [] ρ c = .ok ([], c) := by rw [evs]; rfl
theorem as_c {es : List Ex} {xs : List D} (h1 : ev Φ a ρ c = .ok (x, c1)) (h2 : evs Φ es ρ c1 = .ok (xs, c2)) : evs Φ (a :: es) ρ c = .ok (x :: xs, c2) := by
  rw [evs, bnd_app h1, bnd_app h2]; rfl
theorem blt_b {f : Bf} {es : List Ex} {xs : List D} (h1 : evs Φ es ρ c = .ok (xs, c1)) (h : builtin f xs = some z) : ev Φ (.blt f es) ρ c = .ok (z, c1) := by
  rw [ev, bnd_app h1, h]; rfl
theorem tup_b {es : List Ex} {xs : List D} (h1 : evs Φ es ρ c = .ok (xs, c1)) (h : xs.length ≤ 16777216) : ev Φ (.tup es) ρ c = .ok (.tup xs, c1) := by
  rw [ev, bnd_app h1, if_pos (show xs.length ≤ LIM from h)]; rfl
theorem lst_b {es : List Ex} {xs : List D} (h1 : evs Φ es ρ c = .ok (xs, c1)) (h : xs.length ≤ 16777216) : ev Φ (.lst es) ρ c = .ok (.lst xs, c1) := by
  rw [ev, bnd_app h1, if_pos (show xs.length ≤ LIM from h)]; rfl
theorem call_b {f : Nat} {es : List Ex} {g : List D → R D} {vs : List D} (hf : Φ.fn f = some g) (hv : evs Φ es ρ c = .ok (vs, c1)) (hg : g vs = .ok x) : ev Φ (.call f es) ρ c = .ok (x, c1) := by
  rw [ev, bnd_app hv, hf]
  show C.lift (g vs) c1 = _
  rw [hg]
  rfl
theorem callM_b {f : Nat} {es : List Ex} {g : List D → List D → R (D × List D)} {vs cs cs1 cs2 : List D} (hf : Φ.mt f = some g) (hv : evs Φ es ρ (some cs) = .ok (vs, some cs1)) (hg : g vs cs1 = .ok (x, cs2)) : ev Φ (.callM f es) ρ (some cs) = .ok (x, some cs2) := by
  rw [ev, bnd_hasCell, bnd_app hv, hf]
  show callMR g vs (some cs1) = _
  show (match g vs cs1 with | .ok (d, cs') => R.ok (d, some cs') | .err _ _ => .stuck | .stuck => .stuck) = _
  rw [hg]
theorem cell_b {k : Ex} {cs cs1 : List D} (hk : ev Φ k ρ (some cs) = .ok (x, some cs1)) (h : index (.lst cs1) x = some y) : ev Φ (.cellIx k) ρ (some cs) = .ok (y, some cs1) := by
  rw [ev, bnd_hasCell, bnd_app hk]
  show (match index (.lst cs1) x with | some x => R.ok (x, some cs1) | none => .stuck) = _
  rw [h]
/-! ### statements -/
section
variable {s : Stm} {ss A B : List Stm} {ρ' : Env} {rf : R (Fl × Cell)}
theorem ss_c (h : ex Φ s ρ c = .ok (.nx ρ', c1)) (h2 : exs Φ ss ρ' c1 = rf) : exs Φ (s :: ss) ρ c = rf := by
  rw [exs, bnd_app h]; exact h2
theorem ss_r (h : ex Φ s ρ c = .ok (.rt x, c1)) : exs Φ (s :: ss) ρ c = .ok (.rt x, c1) := by
  rw [exs, bnd_app h]; rfl
theorem ss_e {k : EK} {d : Option D} (h : ex Φ s ρ c = .err k d) : exs Φ (s :: ss) ρ c = .err k d := by
  rw [exs]
  unfold C.bnd
  rw [h]
theorem ss_0 : exs Φ [] ρ c = .ok (.nx ρ, c) := by rw [exs]; rfl
theorem ss_1 (h : ex Φ s ρ c = .ok (.nx ρ', c1)) : exs Φ [s] ρ c = .ok (.nx ρ', c1) := ss_c h ss_0
theorem exs_app : ∀ {l m : List Stm} {ρ ρ' : Env} {c c1 : Cell}, exs Φ l ρ c = .ok (.nx ρ', c1) → exs Φ (l ++ m) ρ c = exs Φ m ρ' c1
  | [], m, ρ, ρ', c, c1, h => by
    rw [exs] at h
    cases h
    rfl
  | s :: l, m, ρ, ρ', c, c1, h => by
    rw [List.cons_append]
    rw [exs] at h ⊢
    unfold C.bnd at h ⊢
    cases e : ex Φ s ρ c with
    | ok z =>
      obtain ⟨f, c2⟩ := z
      rw [e] at h
      cases f with
      | nx ρ2 => exact exs_app (l := l) h
      | rt d => cases h
    | err k x => rw [e] at h; cases h
    | stuck => rw [e] at h; cases h
theorem ite_n {k : Bool} (h : ev Φ a ρ c = .ok (.bl k, c1)) : ex Φ (.ite false a A B) ρ c = exs Φ (if k = true then A else B) ρ c1 := by
  rw [ex, hide_f, bnd_app h]
  cases k <;> rfl
theorem ite_a {k : Bool} (h : ev Φ a ρ none = .ok (.bl k, c1)) : ex Φ (.ite true a A B) ρ c = exs Φ (if k = true then A else B) ρ c := by
  rw [ex, hide_t, bnd_app (show noCell (ev Φ a ρ) c = .ok (.bl k, c) from by unfold noCell; rw [h])]
  cases k <;> rfl
theorem ret_n (h : ev Φ a ρ c = .ok (x, c1)) : ex Φ (.ret false a) ρ c = .ok (.rt x, c1) := by
  rw [ex, hide_f, bnd_app h]; rfl
theorem ret_a (h : ev Φ a ρ none = .ok (x, c1)) : ex Φ (.ret true a) ρ c = .ok (.rt x, c) := by
  rw [ex, hide_t, bnd_app (show noCell (ev Φ a ρ) c = .ok (x, c) from by unfold noCell; rw [h])]; rfl
theorem asg_n {t : Tg} (h : ev Φ a ρ c = .ok (x, c1)) (ht : assign t x ρ = some ρ') : ex Φ (.asg t a) ρ c = .ok (.nx ρ', c1) := by
  rw [ex, bnd_app h, ht]; rfl
theorem asg_f {t : Tg} (h : ev Φ a ρ none = .ok (x, c1)) (hf : flatD DEEP x = true) (ht : assign t x ρ = some ρ') : ex Φ (.asgF t a) ρ c = .ok (.nx ρ', c) := by
  rw [ex, bnd_app (show noCell (ev Φ a ρ) c = .ok (x, c) from by unfold noCell; rw [h]), hf, ht]; rfl
theorem app_n {i : Nat} {l : List D} (he : ev Φ e ρ c = .ok (x, c1)) (hi : get ρ i = some (.lst l)) (hl : l.length < 16777216) : ex Φ (.app false i e) ρ c = .ok (.nx (put ρ i (some (.lst (l ++ [x])))), c1) := by
  rw [ex, hide_f, bnd_app he, hi, show appD (some (.lst l)) x = some (.lst (l ++ [x])) from (by show (if l.length < LIM then some (D.lst (l ++ [x])) else none) = _; rw [if_pos (show l.length < LIM from hl)])]
  rfl
theorem app_a {i : Nat} {l : List D} (he : ev Φ e ρ none = .ok (x, c1)) (hf : flatD DEEP x = true) (hi : get ρ i = some (.lst l)) (hl : l.length < 16777216) : ex Φ (.app true i e) ρ c = .ok (.nx (put ρ i (some (.lst (l ++ [x])))), c) := by
  rw [ex, hide_t, bnd_app (show noCell (ev Φ e ρ) c = .ok (x, c) from by unfold noCell; rw [he]), hi, hf, show appD (some (.lst l)) x = some (.lst (l ++ [x])) from (by show (if l.length < LIM then some (D.lst (l ++ [x])) else none) = _; rw [if_pos (show l.length < LIM from hl)])]
  rfl
theorem setD_n {i : Nat} (he : ev Φ e ρ c = .ok (x, c1)) (hk : ev Φ a ρ c1 = .ok (y, c2)) (hs : setDct (get ρ i) y x = some z) : ex Φ (.setD false i a e) ρ c = .ok (.nx (put ρ i (some z)), c2) := by
  rw [ex, hide_f, hide_f, bnd_app he, bnd_app hk, hs]; rfl
theorem setD_a {i : Nat} (he : ev Φ e ρ none = .ok (x, c1)) (hk : ev Φ a ρ none = .ok (y, c2)) (hx : flatD DEEP x = true) (hy : flatD DEEP y = true) (hs : setDct (get ρ i) y x = some z) : ex Φ (.setD true i a e) ρ c = .ok (.nx (put ρ i (some z)), c) := by
  rw [ex, hide_t, hide_t, bnd_app (show noCell (ev Φ e ρ) c = .ok (x, c) from by unfold noCell; rw [he]), bnd_app (show noCell (ev Φ a ρ) c = .ok (y, c) from by unfold noCell; rw [hk]), hx, hy, hs]; rfl
theorem pop_b {t : Tg} {i : Nat} {l : List D} (h : popD (get ρ i) = some (x, l)) (ht : assign t x (put ρ i (some (.lst l))) = some ρ') : ex Φ (.pop t i) ρ c = .ok (.nx ρ', c) := by
  rw [ex, h]
  show C.bnd (C.opt (assign t x (put ρ i (some (.lst l))))) _ c = _
  rw [ht]; rfl
theorem own_a {i : Nat} {l : List D} (h : ev Φ a ρ none = .ok (.lst l, c1)) (hf : l.all (flatD DEEP) = true) : ex Φ (.own true i a) ρ c = .ok (.nx (put ρ i (some (.lst l))), c) := by
  rw [ex, hide_t, bnd_app (show noCell (ev Φ a ρ) c = .ok (.lst l, c) from by unfold noCell; rw [h])]
  show C.bnd (guard (!true || l.all (flatD DEEP))) _ c = _
  rw [hf]; rfl
theorem own_n {i : Nat} {l : List D} (h : ev Φ a ρ c = .ok (.lst l, c1)) : ex Φ (.own false i a) ρ c = .ok (.nx (put ρ i (some (.lst l))), c1) := by
  rw [ex, hide_f, bnd_app h]; rfl
theorem aug_b {o : Op2} {i : Nat} {n : Int} (hi : get ρ i = some (.int n)) (h : ev Φ a ρ c = .ok (x, c1)) (hz : arith o (.int n) x = some z) : ex Φ (.aug o i a) ρ c = .ok (.nx (put ρ i (some z)), c1) := by
  rw [ex, hi]
  show C.bnd (ev Φ a ρ) _ c = _
  rw [bnd_app h, hz]; rfl
theorem expr_n (h : ev Φ a ρ c = .ok (x, c1)) : ex Φ (.expr false a) ρ c = .ok (.nx ρ, c1) := by
  rw [ex, hide_f, bnd_app h]; rfl
theorem par_b {ts : List (Bool × Nat)} {es : List Ex} {vs : List D} (h : evs Φ es ρ c = .ok (vs, c1)) (hp : parPut ts vs ρ = some ρ') : ex Φ (.par ts es) ρ c = .ok (.nx ρ', c1) := by
  rw [ex, bnd_app h, hp]; rfl
theorem whl_s {t : Env → C Bool} {b : Env → C Fl} {m : Nat} {ρ2 : Env} (h1 : t ρ c = .ok (true, c1)) (h2 : b ρ c1 = .ok (.nx ρ2, c2)) : whileL t b (m + 1) ρ c = whileL t b m ρ2 c2 := by
  rw [whileL, bnd_app h1, if_pos rfl, bnd_app h2]
theorem whl_e {t : Env → C Bool} {b : Env → C Fl} {m : Nat} (h1 : t ρ c = .ok (false, c1)) : whileL t b (m + 1) ρ c = .ok (.nx ρ, c1) := by
  rw [whileL, bnd_app h1, if_neg (by decide)]; rfl
end
end
/-! ### comprehensions -/
theorem ret_of {α : Type} {m : C α} {a : α} (h : ∀ c, m c = .ok (a, c)) : m = C.ret a := funext h
theorem lc_pure {set : D → Option Env} {test : Env → C Bool} {elt : Env → C D} (t : D → Bool) (y : D → D) : ∀ (xs : List D), (∀ x ∈ xs, ∃ ρ, set x = some ρ ∧ test ρ = C.ret (t x) ∧ (t x = true → elt ρ = C.ret (y x))) → lcL set test elt xs = C.ret ((xs.filter t).map y)
  | [], _ => rfl
  | x :: xs, h => by
    obtain ⟨ρ, e1, e2, e3⟩ := h x List.mem_cons_self
    have ih := lc_pure t y xs fun z hz => h z (List.mem_cons_of_mem _ hz)
    rw [lcL, e1, C.opt_some, C.ret_bnd, e2, C.ret_bnd, List.filter_cons]
    cases ht : t x with
    | true => rw [if_pos rfl, if_pos rfl, e3 ht, C.ret_bnd, ih, C.ret_bnd, List.map_cons]
    | false => rw [if_neg (by decide), if_neg (by decide), ih]
section
variable {Φ : Tab} {ρ : Env}
theorem evC_0 (c : Cell) : evC Φ [] ρ c = .ok (true, c) := by rw [evC]; rfl
theorem evC_1 {e : Ex} {k : Bool} {c c1 : Cell} (h : ev Φ e ρ c = .ok (.bl k, c1)) : evC Φ [e] ρ c = .ok (k, c1) := by
  rw [evC, bnd_app h]; rfl
theorem evI_seq {e : Ex} {v : D} {xs : List D} {c c1 : Cell} (h : ev Φ e ρ c = .ok (v, c1)) (hs : seqD v = some xs) : evI Φ (.seq e) ρ c = .ok (xs, c1) := by
  rw [evI, bnd_app h, hs]; rfl
theorem evI_rng {es : List Ex} {vs xs : List D} {c c1 : Cell} (h : evs Φ es ρ c = .ok (vs, c1)) (hs : rngD vs = some xs) : evI Φ (.rng es) ρ c = .ok (xs, c1) := by
  rw [evI, bnd_app h, hs]; rfl
theorem comp_b {own : List Nat} {elt : Ex} {t : Tg} {it : Wlk} {ifs : List Ex} {xs : List D} (tst : D → Bool) (y : D → D) (hi : ∀ c, evI Φ it ρ c = .ok (xs, c))
    (h : ∀ x ∈ xs, ∃ ρ1, assign t x (wip ρ own) = some ρ1 ∧ (∀ c, evC Φ ifs ρ1 c = .ok (tst x, c)) ∧ (tst x = true → ∀ c, ev Φ elt ρ1 c = .ok (y x, c))) (c : Cell) : ev Φ (.comp own elt t it ifs) ρ c = .ok (.lst ((xs.filter tst).map y), c) := by
  have e : ev Φ (.comp own elt t it ifs) ρ = C.ret (.lst ((xs.filter tst).map y)) := by
    rw [ev, ret_of hi, C.ret_bnd, lc_pure tst y xs fun x hx => ?_, C.ret_bnd]
    obtain ⟨ρ1, e1, e2, e3⟩ := h x hx
    exact ⟨ρ1, e1, ret_of e2, fun z => ret_of (e3 z)⟩
  rw [e]; rfl
theorem forn_b {t : Tg} {it : Wlk} {b : List Stm} {xs : List D} {c c1 : Cell} {r : R (Fl × Cell)} (hi : evI Φ it ρ c = .ok (xs, c1)) (h : forL (assign t) (exs Φ b) xs ρ c1 = r) : ex Φ (.forS false t it b) ρ c = r := by
  rw [ex, hide_f, bnd_app hi]
  exact h
theorem whl_b {chk : Bool} {x : Ex} {b : List Stm} {c : Cell} {r : R (Fl × Cell)} (h : whileL (fun ρ => C.bnd (hide chk (ev Φ x ρ)) asBool) (exs Φ b) WH ρ c = r) : ex Φ (.whl chk x b) ρ c = r := by
  rw [ex]
  exact h
theorem raise_b {k : EK} {e : Ex} {c c1 : Cell} {d : D} (h : ev Φ e ρ c = .ok (d, c1)) : ex Φ (.raise k (some e)) ρ c = .err k (some d) := by
  rw [ex, bnd_app h]; rfl
theorem xcall_set {f : Nat} {es : List Ex} {t : Tg} {g : List D → R D} {vs : List D} {c c1 : Cell} {d : D} {ρ' : Env} (hf : Φ.fn f = some g) (hv : evs Φ es ρ c = .ok (vs, c1)) (hg : g vs = .ok d) (ht : assign t d ρ = some ρ') : ex Φ (.xcall (.set t) f es) ρ c = .ok (.nx ρ', c1) := by
  rw [ex, bnd_app hv, hf]
  show (match g vs with | .ok d => xdone ρ (.set t) d | .err k x => C.fail k x | .stuck => C.stk) c1 = _
  rw [hg]
  show C.bnd (C.opt (assign t d ρ)) _ c1 = _
  rw [ht]; rfl
theorem try_ok {f i : Nat} {es : List Ex} {t : Tg} {h : List Stm} {g : List D → R D} {vs : List D} {c c1 : Cell} {d : D} {ρ' : Env} (hf : Φ.fn f = some g) (hv : evs Φ es ρ c = .ok (vs, c1)) (hfr : freeAt ρ i = true) (hg : g vs = .ok d) (ht : assign t d ρ = some ρ') : ex Φ (.tryS (.set t) f es i h) ρ c = .ok (.nx ρ', c1) := by
  rw [ex, bnd_app hv, hfr, guard_t, C.ret_bnd, hf]
  show (match g vs with | .ok d => xdone ρ (.set t) d | .err k x => exs (Φ.inn k x) h ρ | .stuck => C.stk) c1 = _
  rw [hg]
  show C.bnd (C.opt (assign t d ρ)) _ c1 = _
  rw [ht]; rfl
theorem try_err {f i : Nat} {es : List Ex} {t : XT} {h : List Stm} {g : List D → R D} {vs : List D} {c c1 : Cell} {k : EK} {x : Option D} {r : R (Fl × Cell)} (hf : Φ.fn f = some g) (hv : evs Φ es ρ c = .ok (vs, c1)) (hfr : freeAt ρ i = true) (hg : g vs = .err k x) (hh : exs (Φ.inn k x) h ρ c1 = r) : ex Φ (.tryS t f es i h) ρ c = r := by
  rw [ex, bnd_app hv, hfr, guard_t, C.ret_bnd, hf]
  show (match g vs with | .ok d => xdone ρ t d | .err k x => exs (Φ.inn k x) h ρ | .stuck => C.stk) c1 = _
  rw [hg]
  exact hh
theorem isx_b {ks : List EK} {c : Cell} {k : EK} {x : Option D} (h : Φ.exn = some (k, x)) : ev Φ (.errIs ks) ρ c = .ok (.bl (ks.contains k), c) := by
  rw [ev, h]; rfl
theorem fld_b {c : Cell} {k : EK} {x : D} (h : Φ.exn = some (k, some x)) : ev Φ (.errFld k) ρ c = .ok (x, c) := by
  rw [ev, h]
  show C.opt (if k = k then some x else none) c = _
  rw [if_pos rfl]; rfl
theorem evI_enm {e : Ex} {v : D} {xs : List D} {c c1 : Cell} (h : ev Φ e ρ c = .ok (v, c1)) (hs : seqD v = some xs) : evI Φ (.enm e) ρ c = .ok (enumD 0 xs, c1) := by
  rw [evI, bnd_app h, hs]; rfl
theorem cmp2_t {o o' : Cmp} {a b e : Ex} {x y z : D} {k : Bool} {c c1 c2 c3 : Cell} (h1 : ev Φ a ρ c = .ok (x, c1)) (h2 : ev Φ b ρ c1 = .ok (y, c2)) (h : cmp o x y = some true) (h3 : ev Φ e ρ c2 = .ok (z, c3)) (h' : cmp o' y z = some k) : ev Φ (.cmp2 o o' a b e) ρ c = .ok (.bl k, c3) := by
  rw [ev, bnd_app h1, bnd_app h2, h]
  show (C.bnd (ev Φ e ρ) fun z => C.bnd (C.opt (cmp o' y z)) fun k => C.ret (D.bl k)) c2 = _
  rw [bnd_app h3, h']; rfl
theorem cmp2_f {o o' : Cmp} {a b e : Ex} {x y : D} {c c1 c2 : Cell} (h1 : ev Φ a ρ c = .ok (x, c1)) (h2 : ev Φ b ρ c1 = .ok (y, c2)) (h : cmp o x y = some false) : ev Φ (.cmp2 o o' a b e) ρ c = .ok (.bl false, c2) := by
  rw [ev, bnd_app h1, bnd_app h2, h]; rfl
/-! ### a comprehension over mapped things -/
theorem lc_map {α : Type} {set : D → Option Env} {test : Env → C Bool} {elt : Env → C D} (f : α → D) (t : α → Bool) (y : α → D) : ∀ (xs : List α), (∀ x ∈ xs, ∃ ρ, set (f x) = some ρ ∧ test ρ = C.ret (t x) ∧ (t x = true → elt ρ = C.ret (y x))) → lcL set test elt (xs.map f) = C.ret ((xs.filter t).map y)
  | [], _ => rfl
  | x :: xs, h => by
    obtain ⟨ρ, e1, e2, e3⟩ := h x List.mem_cons_self
    have ih := lc_map f t y xs fun z hz => h z (List.mem_cons_of_mem _ hz)
    rw [List.map_cons, lcL, e1, C.opt_some, C.ret_bnd, e2, C.ret_bnd, List.filter_cons]
    cases ht : t x with
    | true => rw [if_pos rfl, if_pos rfl, e3 ht, C.ret_bnd, ih, C.ret_bnd, List.map_cons]
    | false => rw [if_neg (by decide), if_neg (by decide), ih]
theorem compM_b {α : Type} {own : List Nat} {elt : Ex} {t : Tg} {it : Wlk} {ifs : List Ex} {L : List α} (f : α → D) (tst : α → Bool) (y : α → D) (hi : ∀ c, evI Φ it ρ c = .ok (L.map f, c))
    (h : ∀ x ∈ L, ∃ ρ1, assign t (f x) (wip ρ own) = some ρ1 ∧ (∀ c, evC Φ ifs ρ1 c = .ok (tst x, c)) ∧ (tst x = true → ∀ c, ev Φ elt ρ1 c = .ok (y x, c))) (c : Cell) : ev Φ (.comp own elt t it ifs) ρ c = .ok (.lst ((L.filter tst).map y), c) := by
  have e : ev Φ (.comp own elt t it ifs) ρ = C.ret (.lst ((L.filter tst).map y)) := by
    rw [ev, ret_of hi, C.ret_bnd, lc_map f tst y L fun x hx => ?_, C.ret_bnd]
    obtain ⟨ρ1, e1, e2, e3⟩ := h x hx
    exact ⟨ρ1, e1, ret_of e2, fun z => ret_of (e3 z)⟩
  rw [e]; rfl
theorem forL_each {set : D → Env → Option Env} {body : Env → C Fl} (I : Env → Cell → Prop) : ∀ (xs : List D) (ρ : Env) (c : Cell), I ρ c → (∀ x ∈ xs, ∀ ρ c, I ρ c → ∃ ρ1 ρ2 c2, set x ρ = some ρ1 ∧ body ρ1 c = .ok (.nx ρ2, c2) ∧ I ρ2 c2) → ∃ ρ' c', forL set body xs ρ c = .ok (.nx ρ', c') ∧ I ρ' c'
  | [], ρ, c, h, _ => ⟨ρ, c, rfl, h⟩
  | x :: xs, ρ, c, h, st => by
    obtain ⟨ρ1, ρ2, c2, e1, e2, h2⟩ := st x List.mem_cons_self ρ c h
    obtain ⟨ρ', c', e3, h3⟩ := forL_each I xs ρ2 c2 h2 fun z hz => st z (List.mem_cons_of_mem _ hz)
    refine ⟨ρ', c', ?_, h3⟩
    rw [forL, e1, C.opt_some, C.ret_bnd, bnd_app e2]
    exact e3
/-- if ..: return .. -/
theorem ss_if {a e : Ex} {ss : List Stm} {k : Bool} {x : D} {rf : R (Fl × Cell)} {c c1 c2 : Cell} (h : ev Φ a ρ c = .ok (.bl k, c1)) (ht : k = true → ev Φ e ρ c1 = .ok (x, c2) ∧ rf = .ok (.rt x, c2)) (hn : k = false → exs Φ ss ρ c1 = rf) : exs Φ (.ite false a [.ret false e] [] :: ss) ρ c = rf := by
  cases k with
  | true =>
    obtain ⟨h1, h2⟩ := ht rfl
    rw [h2]
    exact ss_r ((ite_n h).trans (ss_r (ret_n h1)))
  | false => exact ss_c ((ite_n h).trans ss_0) (hn rfl)
end
end G
namespace L
open PySem L2 G
variable [TQ]
def top (i : Nat) : Stmt := PySem.Challenge.pw_roundguards_k03_known_programs.main.body.getD i (.Pass ⟨0, 0, 0, 0⟩)
def errs : List ErrD := [⟨.notText, "NotText", none⟩, ⟨.text, "InvalidText", some "place"⟩]
def tRd : Nat := 47
/-! ### is_in -/
abbrev s_is_in : Stmt := top 12
abbrev N_is_in : List Str := ["value", "least", "most"]
def b_is_in : List Stm := [(.ret false (.and (.blt .isInt [(.var 0)]) (.and (.not (.blt .isBool [(.var 0)])) (.cmp2 .le .le (.var 1) (.var 0) (.var 2)))))]
def φ_is_in : List D → R D := runF (tabL [] []) 3 b_is_in
theorem sc_is_in : FnScope N_is_in ["value", "least", "most"] (defScope s_is_in) := ⟨rfl, rfl, rfl, by decide +kernel, rfl, by decide +kernel, by decide +kernel⟩
theorem ok_is_in {P : Program} {w : World} {K : PySem.W.Frag} {mg : Str → Option Value} {base : Heap} {f : Addr} {fd : FuncData} (F : FnP K "is_in" s_is_in f fd) (z_isinstance : mg "isinstance" = none) (z_int : mg "int" = none) (z_bool : mg "bool" = none) : FnOk P w K mg base CX0 1 f fd ["value", "least", "most"] (spF K 3 φ_is_in) := by
  refine def_Fn (k := 0) (tabL [] []) [] none (xcOf K errs) b_is_in 3 3 rfl rfl F sc_is_in (by decide) (by decide) fun cdv A outer s H E hr => ?_
  have okn : Ok (Cfg.mk K (tabL [] []) [] none (xcOf K errs) (fun _ _ _ => False) none []).non (cxF P w K mg base N_is_in "is_in" s_is_in f cdv A outer s H E) := okX (k := 0) rfl rfl hr
  have oka : Ok (Cfg.mk K (tabL [] []) [] none (xcOf K errs) (fun _ _ _ => False) none []).all (cxF P w K mg base N_is_in "is_in" s_is_in f cdv A outer s H E) := okX (k := 0) rfl rfl hr
  have hr : Room (0) (cxF P w K mg base N_is_in "is_in" s_is_in f cdv A outer s H E).A := hr
  exact (s_cons (s_retN (ge_and (k_isInt okn z_isinstance z_int (kv 0)) (ge_and (ge_not (k_isBool okn z_isinstance z_bool (kv 0))) (pe_one (k_cmp2 (c_le okn) (c_le okn) (kv 1) (kv 0) (kv 2)))))) s_nil)
/-! ### is_ask -/
abbrev s_is_ask : Stmt := top 19
abbrev N_is_ask : List Str := ["value", "hand", "rows"]
def b_is_ask : List Stm := [(.ite false (.or (.not (.blt .isTuple [(.var 0)])) (.or (.cmp .ne (.blt .len [(.var 0)]) (.cst (.int 4))) (.or (.not (.call 0 [(.ix (.var 0) (.cst (.int 0))), (.cst (.int 0)), (.op .sub (.blt .len [(.var 2)]) (.cst (.int 1)))])) (.cmp .eq (.ix (.var 0) (.cst (.int 0))) (.var 1))))) [(.ret false (.cst (.bl false)))] []), (.ite false (.or (.not (.call 0 [(.ix (.var 0) (.cst (.int 1))), (.cst (.int 0)), (.op .sub (.blt .len [(.ix (.var 2) (.ix (.var 0) (.cst (.int 0))))]) (.cst (.int 1)))])) (.and (.cmp .is (.ix (.var 0) (.cst (.int 2))) (.cst .non)) (.cmp .is (.ix (.var 0) (.cst (.int 3))) (.cst .non)))) [(.ret false (.cst (.bl false)))] []), (.ite false (.and (.cmp .isn (.ix (.var 0) (.cst (.int 2))) (.cst .non)) (.not (.call 0 [(.ix (.var 0) (.cst (.int 2))), (.cst (.int (-6))), (.cst (.int (3)))]))) [(.ret false (.cst (.bl false)))] []), (.ite false (.and (.cmp .isn (.ix (.var 0) (.cst (.int 3))) (.cst .non)) (.not (.call 0 [(.ix (.var 0) (.cst (.int 3))), (.cst (.int 0)), (.cst (.int (6)))]))) [(.ret false (.cst (.bl false)))] []), (.ret false (.or (.cmp .is (.ix (.var 0) (.cst (.int 2))) (.cst .non)) (.or (.cmp .is (.ix (.var 0) (.cst (.int 3))) (.cst .non)) (.cmp .le (.ix (.var 0) (.cst (.int 2))) (.ix (.var 0) (.cst (.int 3)))))))]
def φ_is_ask : List D → R D := runF (tabL [φ_is_in] []) 3 b_is_ask
theorem sc_is_ask : FnScope N_is_ask ["value", "hand", "rows"] (defScope s_is_ask) := ⟨rfl, rfl, rfl, by decide +kernel, rfl, by decide +kernel, by decide +kernel⟩
theorem ok_is_ask {P : Program} {w : World} {K : PySem.W.Frag} {mg : Str → Option Value} {base : Heap} {f : Addr} {fd : FuncData} (F : FnP K "is_ask" s_is_ask f fd) (C_is_in : Cal P w K mg base 1 "is_in" ["value", "least", "most"] (spF K 3 φ_is_in)) (z_isinstance : mg "isinstance" = none) (z_tuple : mg "tuple" = none) (z_len : mg "len" = none) (c_LEAST_LOW : ∃ t, mg "LEAST_LOW" = some (.int (-6) t)) (c_MOST_LOW : ∃ t, mg "MOST_LOW" = some (.int (3) t)) (c_MOST_HIGH : ∃ t, mg "MOST_HIGH" = some (.int (6) t)) : FnOk P w K mg base CX0 2 f fd ["value", "hand", "rows"] (spF K 3 φ_is_ask) := by
  refine def_Fn (k := 1) (tabL [φ_is_in] []) [] none (xcOf K errs) b_is_ask 3 3 rfl rfl F sc_is_ask (by decide) (by decide) fun cdv A outer s H E hr => ?_
  have okn : Ok (Cfg.mk K (tabL [φ_is_in] []) [] none (xcOf K errs) (fun _ _ _ => False) none []).non (cxF P w K mg base N_is_ask "is_ask" s_is_ask f cdv A outer s H E) := okX (k := 1) rfl rfl hr
  have oka : Ok (Cfg.mk K (tabL [φ_is_in] []) [] none (xcOf K errs) (fun _ _ _ => False) none []).all (cxF P w K mg base N_is_ask "is_ask" s_is_ask f cdv A outer s H E) := okX (k := 1) rfl rfl hr
  have hr : Room (1) (cxF P w K mg base N_is_ask "is_ask" s_is_ask f cdv A outer s H E).A := hr
  exact (s_cons (s_iteN (PW.pt (gw_or (gt_not (t_val (k_isTuple okn z_isinstance z_tuple (kv 0)))) (gw_or (t_cmp (c_ne okn) (k_len okn z_len (kv 0)) k_int) (gw_or (gt_not (t_val (k_call okn C_is_in hr (a_cons (k_ix okn (kv 0) k_int) (a_cons k_int (a_cons (ge_sub (k_len okn z_len (kv 2)) k_int) a_nil)))))) (pw_or1 (t_cmp (c_eq okn) (k_ix okn (kv 0) k_int) (kv 1))))))) (s_cons (s_retN k_bl) s_nil) s_nil) (s_cons (s_iteN (PW.pt (gw_or (gt_not (t_val (k_call okn C_is_in hr (a_cons (k_ix okn (kv 0) k_int) (a_cons k_int (a_cons (ge_sub (k_len okn z_len (k_ix okn (kv 2) (k_ix okn (kv 0) k_int))) k_int) a_nil)))))) (pw_or1 (PW.pt (gw_and (t_cmp (c_is okn) (k_ix okn (kv 0) k_int) k_non) (pw_and1 (t_cmp (c_is okn) (k_ix okn (kv 0) k_int) k_non))))))) (s_cons (s_retN k_bl) s_nil) s_nil) (s_cons (s_iteN (PW.pt (gw_and (t_cmp (c_isn okn) (k_ix okn (kv 0) k_int) k_non) (pw_and1 (gt_not (t_val (k_call okn C_is_in hr (a_cons (k_ix okn (kv 0) k_int) (a_cons (k_gi c_LEAST_LOW) (a_cons (k_gi c_MOST_LOW) a_nil))))))))) (s_cons (s_retN k_bl) s_nil) s_nil) (s_cons (s_iteN (PW.pt (gw_and (t_cmp (c_isn okn) (k_ix okn (kv 0) k_int) k_non) (pw_and1 (gt_not (t_val (k_call okn C_is_in hr (a_cons (k_ix okn (kv 0) k_int) (a_cons k_int (a_cons (k_gi c_MOST_HIGH) a_nil))))))))) (s_cons (s_retN k_bl) s_nil) s_nil) (s_cons (s_retN (ge_or (k_cmp (c_is okn) (k_ix okn (kv 0) k_int) k_non) (ge_or (k_cmp (c_is okn) (k_ix okn (kv 0) k_int) k_non) (pe_one (k_cmp (c_le okn) (k_ix okn (kv 0) k_int) (k_ix okn (kv 0) k_int)))))) s_nil)))))
/-! ### is_item -/
abbrev s_is_item : Stmt := top 20
abbrev N_is_item : List Str := ["value", "hand", "rows", "marks", "one"]
def b_is_item : List Stm := [(.ite false (.or (.not (.blt .isTuple [(.var 0)])) (.cmp .ne (.comp [4] (.var 4) (.nm 4) (.seq (.var 0)) [(.not (.call 0 [(.var 4), (.var 1), (.var 2)]))]) (.lst []))) [(.ret false (.cst (.bl false)))] []), (.asg (.nm 3) (.comp [4] (.slc (.var 4) (.cst .non) (.cst (.int 2))) (.nm 4) (.seq (.var 0)) [])), (.ret false (.cmp .eq (.var 3) (.blt .sortedSet [(.var 3)])))]
def φ_is_item : List D → R D := runF (tabL [φ_is_ask] []) 5 b_is_item
theorem sc_is_item : FnScope N_is_item ["value", "hand", "rows"] (defScope s_is_item) := ⟨rfl, rfl, rfl, by decide +kernel, rfl, by decide +kernel, by decide +kernel⟩
theorem ok_is_item {P : Program} {w : World} {K : PySem.W.Frag} {mg : Str → Option Value} {base : Heap} {f : Addr} {fd : FuncData} (F : FnP K "is_item" s_is_item f fd) (C_is_ask : Cal P w K mg base 2 "is_ask" ["value", "hand", "rows"] (spF K 3 φ_is_ask)) (z_isinstance : mg "isinstance" = none) (z_tuple : mg "tuple" = none) (z_sorted : mg "sorted" = none) (z_set : mg "set" = none) : FnOk P w K mg base CX0 3 f fd ["value", "hand", "rows"] (spF K 3 φ_is_item) := by
  refine def_Fn (k := 2) (tabL [φ_is_ask] []) [] none (xcOf K errs) b_is_item 5 3 rfl rfl F sc_is_item (by decide) (by decide) fun cdv A outer s H E hr => ?_
  have okn : Ok (Cfg.mk K (tabL [φ_is_ask] []) [] none (xcOf K errs) (fun _ _ _ => False) none []).non (cxF P w K mg base N_is_item "is_item" s_is_item f cdv A outer s H E) := okX (k := 2) rfl rfl hr
  have oka : Ok (Cfg.mk K (tabL [φ_is_ask] []) [] none (xcOf K errs) (fun _ _ _ => False) none []).all (cxF P w K mg base N_is_item "is_item" s_is_item f cdv A outer s H E) := okX (k := 2) rfl rfl hr
  have hr : Room (2) (cxF P w K mg base N_is_item "is_item" s_is_item f cdv A outer s H E).A := hr
  exact (s_cons (s_iteN (PW.pt (gw_or (gt_not (t_val (k_isTuple okn z_isinstance z_tuple (kv 0)))) (pw_or1 (t_cmp (c_ne okn) (k_f (f_lc (own := [("one", 4)]) okn sc_is_item.nd (w_seq okn (kv 0)) (show BlkOk N_is_item (defScope s_is_item) _ [("one", 4)] from ⟨rfl, by decide +kernel, by decide +kernel, by decide +kernel, by decide +kernel⟩) (fun _ _ _ _ _ => (g_nm 4 sc_is_item.nd)) (fun _ _ _ _ _ o1 => (c_one (gt_not (t_val (k_call o1 C_is_ask hr (a_cons (kv 4) (a_cons (kv 1) (a_cons (kv 2) a_nil)))))))) (fun _ _ _ _ _ o1 => (kv 4)))) (k_f (gf_lst a_nil)))))) (s_cons (s_retN k_bl) s_nil) s_nil) (s_cons (s_setLc 3 (own := [("one", 4)]) okn sc_is_item.nd (w_seq okn (kv 0)) (show BlkOk N_is_item (defScope s_is_item) _ [("one", 4)] from ⟨rfl, by decide +kernel, by decide +kernel, by decide +kernel, by decide +kernel⟩) (fun _ _ _ _ _ => (g_nm 4 sc_is_item.nd)) (fun _ _ _ _ _ o1 => c_nil) (fun _ _ _ _ _ o1 => (k_slc o1 (kv 4) s_none (s_some k_int)))) (s_cons (s_retN (k_cmp (c_eq okn) (kv 3) (k_f (f_sortedSet okn z_sorted z_set (kv 3))))) s_nil)))
/-! ### need_program -/
abbrev s_need_program : Stmt := top 21
abbrev N_need_program : List Str := ["program", "hand", "row", "index", "item"]
def b_need_program : List Stm := [(.ite false (.or (.not (.blt .isTuple [(.var 0)])) (.not (.cmp2 .le .le (.cst (.int 1)) (.blt .len [(.var 0)]) (.cst (.int (4)))))) [.never] []), (.ite false (.cmp .ne (.comp [2] (.var 2) (.nm 2) (.seq (.var 0)) [(.or (.not (.blt .isTuple [(.var 2)])) (.cmp .eq (.var 2) (.tup [])))]) (.lst [])) [.never] []), (.ite false (.cmp .gt (.blt .sum [(.comp [2] (.blt .len [(.var 2)]) (.nm 2) (.seq (.var 0)) [])]) (.cst (.int (10)))) [.never] []), (.forS false (.tp [(.nm 1), (.nm 2)]) (.enm (.var 0)) [(.forS false (.tp [(.nm 3), (.nm 4)]) (.enm (.var 2)) [(.ite false (.not (.call 0 [(.var 4), (.var 1), (.var 0)])) [.never] [])])])]
def φ_need_program : List D → R D := runF (tabL [φ_is_item] []) 5 b_need_program
theorem sc_need_program : FnScope N_need_program ["program"] (defScope s_need_program) := ⟨rfl, rfl, rfl, by decide +kernel, rfl, by decide +kernel, by decide +kernel⟩
theorem ok_need_program {P : Program} {w : World} {K : PySem.W.Frag} {mg : Str → Option Value} {base : Heap} {f : Addr} {fd : FuncData} (F : FnP K "need_program" s_need_program f fd) (C_is_item : Cal P w K mg base 3 "is_item" ["value", "hand", "rows"] (spF K 3 φ_is_item)) (z_isinstance : mg "isinstance" = none) (z_tuple : mg "tuple" = none) (z_len : mg "len" = none) (c_MOST_HANDS : ∃ t, mg "MOST_HANDS" = some (.int (4) t)) (z_sum : mg "sum" = none) (c_MOST_ITEMS : ∃ t, mg "MOST_ITEMS" = some (.int (10) t)) (z_enumerate : mg "enumerate" = none) : FnOk P w K mg base CX0 4 f fd ["program"] (spF K 1 φ_need_program) := by
  refine def_Fn (k := 3) (tabL [φ_is_item] []) [] none (xcOf K errs) b_need_program 5 1 rfl rfl F sc_need_program (by decide) (by decide) fun cdv A outer s H E hr => ?_
  have okn : Ok (Cfg.mk K (tabL [φ_is_item] []) [] none (xcOf K errs) (fun _ _ _ => False) none []).non (cxF P w K mg base N_need_program "need_program" s_need_program f cdv A outer s H E) := okX (k := 3) rfl rfl hr
  have oka : Ok (Cfg.mk K (tabL [φ_is_item] []) [] none (xcOf K errs) (fun _ _ _ => False) none []).all (cxF P w K mg base N_need_program "need_program" s_need_program f cdv A outer s H E) := okX (k := 3) rfl rfl hr
  have hr : Room (3) (cxF P w K mg base N_need_program "need_program" s_need_program f cdv A outer s H E).A := hr
  exact (s_cons (s_iteN (PW.pt (gw_or (gt_not (t_val (k_isTuple okn z_isinstance z_tuple (kv 0)))) (pw_or1 (gt_not (t_cmp2 (c_le okn) (c_le okn) k_int (k_len okn z_len (kv 0)) (k_gi c_MOST_HANDS)))))) (s_cons s_never s_nil) s_nil) (s_cons (s_iteN (t_cmp (c_ne okn) (k_f (f_lc (own := [("row", 2)]) okn sc_need_program.nd (w_seq okn (kv 0)) (show BlkOk N_need_program (defScope s_need_program) _ [("row", 2)] from ⟨rfl, by decide +kernel, by decide +kernel, by decide +kernel, by decide +kernel⟩) (fun _ _ _ _ _ => (g_nm 2 sc_need_program.nd)) (fun _ _ _ _ _ o1 => (c_one (PW.pt (gw_or (gt_not (t_val (k_isTuple o1 z_isinstance z_tuple (kv 2)))) (pw_or1 (t_cmp (c_eq o1) (kv 2) (ge_tup a_nil))))))) (fun _ _ _ _ _ o1 => (kv 2)))) (k_f (gf_lst a_nil))) (s_cons s_never s_nil) s_nil) (s_cons (s_iteN (t_cmp (c_gt okn) (k_sum okn z_sum (k_f (f_lc (own := [("row", 2)]) okn sc_need_program.nd (w_seq okn (kv 0)) (show BlkOk N_need_program (defScope s_need_program) _ [("row", 2)] from ⟨rfl, by decide +kernel, by decide +kernel, by decide +kernel, by decide +kernel⟩) (fun _ _ _ _ _ => (g_nm 2 sc_need_program.nd)) (fun _ _ _ _ _ o1 => c_nil) (fun _ _ _ _ _ o1 => (k_len o1 z_len (kv 2)))))) (k_gi c_MOST_ITEMS)) (s_cons s_never s_nil) s_nil) (s_cons (s_for rfl (w_enm okn z_enumerate (kv 0)) (g_tup rfl rfl (g_cons (g_nm 1 sc_need_program.nd) (g_cons (g_nm 2 sc_need_program.nd) g_nil))) (s_cons (s_for rfl (w_enm okn z_enumerate (kv 2)) (g_tup rfl rfl (g_cons (g_nm 3 sc_need_program.nd) (g_cons (g_nm 4 sc_need_program.nd) g_nil))) (s_cons (s_iteN (gt_not (t_val (k_call okn C_is_item hr (a_cons (kv 4) (a_cons (kv 1) (a_cons (kv 0) a_nil)))))) (s_cons s_never s_nil) s_nil) s_nil)) s_nil)) s_nil))))
/-! ### need_item -/
abbrev s_need_item : Stmt := top 22
abbrev N_need_item : List Str := ["program", "name"]
def b_need_item : List Stm := [(.ite false (.or (.not (.blt .isTuple [(.var 1)])) (.or (.cmp .ne (.blt .len [(.var 1)]) (.cst (.int 2))) (.not (.call 0 [(.ix (.var 1) (.cst (.int 0))), (.cst (.int 0)), (.op .sub (.blt .len [(.var 0)]) (.cst (.int 1)))])))) [.never] []), (.ite false (.not (.call 0 [(.ix (.var 1) (.cst (.int 1))), (.cst (.int 0)), (.op .sub (.blt .len [(.ix (.var 0) (.ix (.var 1) (.cst (.int 0))))]) (.cst (.int 1)))])) [.never] [])]
def φ_need_item : List D → R D := runF (tabL [φ_is_in] []) 2 b_need_item
theorem sc_need_item : FnScope N_need_item ["program", "name"] (defScope s_need_item) := ⟨rfl, rfl, rfl, by decide +kernel, rfl, by decide +kernel, by decide +kernel⟩
theorem ok_need_item {P : Program} {w : World} {K : PySem.W.Frag} {mg : Str → Option Value} {base : Heap} {f : Addr} {fd : FuncData} (F : FnP K "need_item" s_need_item f fd) (C_is_in : Cal P w K mg base 1 "is_in" ["value", "least", "most"] (spF K 3 φ_is_in)) (z_isinstance : mg "isinstance" = none) (z_tuple : mg "tuple" = none) (z_len : mg "len" = none) : FnOk P w K mg base CX0 2 f fd ["program", "name"] (spF K 2 φ_need_item) := by
  refine def_Fn (k := 1) (tabL [φ_is_in] []) [] none (xcOf K errs) b_need_item 2 2 rfl rfl F sc_need_item (by decide) (by decide) fun cdv A outer s H E hr => ?_
  have okn : Ok (Cfg.mk K (tabL [φ_is_in] []) [] none (xcOf K errs) (fun _ _ _ => False) none []).non (cxF P w K mg base N_need_item "need_item" s_need_item f cdv A outer s H E) := okX (k := 1) rfl rfl hr
  have oka : Ok (Cfg.mk K (tabL [φ_is_in] []) [] none (xcOf K errs) (fun _ _ _ => False) none []).all (cxF P w K mg base N_need_item "need_item" s_need_item f cdv A outer s H E) := okX (k := 1) rfl rfl hr
  have hr : Room (1) (cxF P w K mg base N_need_item "need_item" s_need_item f cdv A outer s H E).A := hr
  exact (s_cons (s_iteN (PW.pt (gw_or (gt_not (t_val (k_isTuple okn z_isinstance z_tuple (kv 1)))) (gw_or (t_cmp (c_ne okn) (k_len okn z_len (kv 1)) k_int) (pw_or1 (gt_not (t_val (k_call okn C_is_in hr (a_cons (k_ix okn (kv 1) k_int) (a_cons k_int (a_cons (ge_sub (k_len okn z_len (kv 0)) k_int) a_nil)))))))))) (s_cons s_never s_nil) s_nil) (s_cons (s_iteN (gt_not (t_val (k_call okn C_is_in hr (a_cons (k_ix okn (kv 1) k_int) (a_cons k_int (a_cons (ge_sub (k_len okn z_len (k_ix okn (kv 0) (k_ix okn (kv 1) k_int))) k_int) a_nil)))))) (s_cons s_never s_nil) s_nil) s_nil))
/-! ### need_hand -/
abbrev s_need_hand : Stmt := top 23
abbrev N_need_hand : List Str := ["program", "hand"]
def b_need_hand : List Stm := [(.ite false (.not (.call 0 [(.var 1), (.cst (.int 0)), (.op .sub (.blt .len [(.var 0)]) (.cst (.int 1)))])) [.never] [])]
def φ_need_hand : List D → R D := runF (tabL [φ_is_in] []) 2 b_need_hand
theorem sc_need_hand : FnScope N_need_hand ["program", "hand"] (defScope s_need_hand) := ⟨rfl, rfl, rfl, by decide +kernel, rfl, by decide +kernel, by decide +kernel⟩
theorem ok_need_hand {P : Program} {w : World} {K : PySem.W.Frag} {mg : Str → Option Value} {base : Heap} {f : Addr} {fd : FuncData} (F : FnP K "need_hand" s_need_hand f fd) (C_is_in : Cal P w K mg base 1 "is_in" ["value", "least", "most"] (spF K 3 φ_is_in)) (z_len : mg "len" = none) : FnOk P w K mg base CX0 2 f fd ["program", "hand"] (spF K 2 φ_need_hand) := by
  refine def_Fn (k := 1) (tabL [φ_is_in] []) [] none (xcOf K errs) b_need_hand 2 2 rfl rfl F sc_need_hand (by decide) (by decide) fun cdv A outer s H E hr => ?_
  have okn : Ok (Cfg.mk K (tabL [φ_is_in] []) [] none (xcOf K errs) (fun _ _ _ => False) none []).non (cxF P w K mg base N_need_hand "need_hand" s_need_hand f cdv A outer s H E) := okX (k := 1) rfl rfl hr
  have oka : Ok (Cfg.mk K (tabL [φ_is_in] []) [] none (xcOf K errs) (fun _ _ _ => False) none []).all (cxF P w K mg base N_need_hand "need_hand" s_need_hand f cdv A outer s H E) := okX (k := 1) rfl rfl hr
  have hr : Room (1) (cxF P w K mg base N_need_hand "need_hand" s_need_hand f cdv A outer s H E).A := hr
  exact (s_cons (s_iteN (gt_not (t_val (k_call okn C_is_in hr (a_cons (kv 1) (a_cons k_int (a_cons (ge_sub (k_len okn z_len (kv 0)) k_int) a_nil)))))) (s_cons s_never s_nil) s_nil) s_nil)
/-! ### with_item -/
abbrev s_with_item : Stmt := top 24
abbrev N_with_item : List Str := ["program", "name", "item", "rows", "hand", "row", "index", "one"]
def b_with_item : List Stm := [(.own false 3 (.lst [])), (.forS false (.tp [(.nm 4), (.nm 5)]) (.enm (.var 0)) [(.app false 3 (.blt .tuple [(.comp [6, 7] (.ite (.cmp .eq (.tup [(.var 4), (.var 6)]) (.var 1)) (.var 2) (.var 7)) (.tp [(.nm 6), (.nm 7)]) (.enm (.var 5)) [])]))]), (.ret true (.blt .tuple [(.var 3)]))]
def φ_with_item : List D → R D := runF (tabL [] []) 8 b_with_item
theorem sc_with_item : FnScope N_with_item ["program", "name", "item"] (defScope s_with_item) := ⟨rfl, rfl, rfl, by decide +kernel, rfl, by decide +kernel, by decide +kernel⟩
theorem ok_with_item {P : Program} {w : World} {K : PySem.W.Frag} {mg : Str → Option Value} {base : Heap} {f : Addr} {fd : FuncData} (F : FnP K "with_item" s_with_item f fd) (z_enumerate : mg "enumerate" = none) (z_tuple : mg "tuple" = none) : FnOk P w K mg base CX0 1 f fd ["program", "name", "item"] (spF K 3 φ_with_item) := by
  refine def_Fn (k := 0) (tabL [] []) [3] none (xcOf K errs) b_with_item 8 3 rfl rfl F sc_with_item (by decide) (by decide) fun cdv A outer s H E hr => ?_
  have okn : Ok (Cfg.mk K (tabL [] []) [3] none (xcOf K errs) (fun _ _ _ => False) none []).non (cxF P w K mg base N_with_item "with_item" s_with_item f cdv A outer s H E) := okX (k := 0) rfl rfl hr
  have oka : Ok (Cfg.mk K (tabL [] []) [3] none (xcOf K errs) (fun _ _ _ => False) none []).all (cxF P w K mg base N_with_item "with_item" s_with_item f cdv A outer s H E) := okX (k := 0) rfl rfl hr
  have hr : Room (0) (cxF P w K mg base N_with_item "with_item" s_with_item f cdv A outer s H E).A := hr
  exact (s_cons (s_ownN 3 sc_with_item.nd (gf_lst a_nil)) (s_cons (s_for rfl (w_enm okn z_enumerate (kv 0)) (g_tup rfl rfl (g_cons (g_nm 4 sc_with_item.nd) (g_cons (g_nm 5 sc_with_item.nd) g_nil))) (s_cons (s_appN 3 (k_toTup okn z_tuple (k_f (f_lc (own := [("index", 6), ("one", 7)]) okn sc_with_item.nd (w_enm okn z_enumerate (kv 5)) (show BlkOk N_with_item (defScope s_with_item) _ [("index", 6), ("one", 7)] from ⟨rfl, by decide +kernel, by decide +kernel, by decide +kernel, by decide +kernel⟩) (fun _ _ _ _ _ => (g_tup rfl rfl (g_cons (g_nm 6 sc_with_item.nd) (g_cons (g_nm 7 sc_with_item.nd) g_nil)))) (fun _ _ _ _ _ o1 => c_nil) (fun _ _ _ _ _ o1 => (ge_ite (t_cmp (c_eq o1) (ge_tup (a_cons (kv 4) (a_cons (kv 6) a_nil))) (kv 1)) (kv 2) (kv 7))))))) s_nil)) (s_cons (s_retA (k_toTup oka z_tuple (kv 3))) s_nil)))
/-! ### without_low -/
abbrev s_without_low : Stmt := top 25
abbrev N_without_low : List Str := ["program", "name", "mark", "item", "known", "kept", "asks", "one"]
def b_without_low : List Stm := [(.expr false (.call 0 [(.var 0)])), (.expr false (.call 1 [(.var 0), (.var 1)])), (.asg (.nm 3) (.ix (.ix (.var 0) (.ix (.var 1) (.cst (.int 0)))) (.ix (.var 1) (.cst (.int 1))))), (.asg (.nm 4) (.comp [7] (.var 7) (.nm 7) (.seq (.var 3)) [(.and (.cmp .eq (.slc (.var 7) (.cst .non) (.cst (.int 2))) (.var 2)) (.cmp .isn (.ix (.var 7) (.cst (.int 2))) (.cst .non)))])), (.ite false (.cmp .eq (.var 4) (.lst [])) [.never] []), (.asg (.nm 5) (.ite (.cmp .isn (.ix (.ix (.var 4) (.cst (.int 0))) (.cst (.int 3))) (.cst .non)) (.lst [(.op .add (.slc (.ix (.var 4) (.cst (.int 0))) (.cst .non) (.cst (.int 2))) (.tup [(.cst .non), (.ix (.ix (.var 4) (.cst (.int 0))) (.cst (.int 3)))]))]) (.lst []))), (.asg (.nm 6) (.op .add (.comp [7] (.var 7) (.nm 7) (.seq (.var 3)) [(.cmp .ne (.slc (.var 7) (.cst .non) (.cst (.int 2))) (.var 2))]) (.var 5))), (.ret false (.call 2 [(.var 0), (.var 1), (.blt .tuple [(.blt .sortedM [(.var 6)])])]))]
def φ_without_low : List D → R D := runF (tabL [φ_need_program, φ_need_item, φ_with_item] []) 8 b_without_low
theorem sc_without_low : FnScope N_without_low ["program", "name", "mark"] (defScope s_without_low) := ⟨rfl, rfl, rfl, by decide +kernel, rfl, by decide +kernel, by decide +kernel⟩
theorem ok_without_low {P : Program} {w : World} {K : PySem.W.Frag} {mg : Str → Option Value} {base : Heap} {f : Addr} {fd : FuncData} (F : FnP K "without_low" s_without_low f fd) (C_need_program : Cal P w K mg base 4 "need_program" ["program"] (spF K 1 φ_need_program)) (C_need_item : Cal P w K mg base 2 "need_item" ["program", "name"] (spF K 2 φ_need_item)) (C_with_item : Cal P w K mg base 1 "with_item" ["program", "name", "item"] (spF K 3 φ_with_item)) (z_sorted : mg "sorted" = none) (z_tuple : mg "tuple" = none) {cc TT : Addr} (hc : fd.code = .ref cc) (TBk : LamX.TabB base mg cc TT) (hB : TQ.is TT) (hnm : TQ.nm TT = ("without_low" ++ ".<locals>.") ++ "<lambda>") : FnOk P w K mg base CX0 5 f fd ["program", "name", "mark"] (spF K 3 φ_without_low) := by
  refine def_Fnc (k := 4) (tabL [φ_need_program, φ_need_item, φ_with_item] []) [] none (xcOf K errs) b_without_low 8 3 rfl rfl F hc sc_without_low (by decide) (by decide) fun A outer s H E hr => ?_
  have okn : Ok (Cfg.mk K (tabL [φ_need_program, φ_need_item, φ_with_item] []) [] none (xcOf K errs) (fun _ _ _ => False) none []).non (cxF P w K mg base N_without_low "without_low" s_without_low f (.ref cc) A outer s H E) := okX (k := 4) rfl rfl hr
  have oka : Ok (Cfg.mk K (tabL [φ_need_program, φ_need_item, φ_with_item] []) [] none (xcOf K errs) (fun _ _ _ => False) none []).all (cxF P w K mg base N_without_low "without_low" s_without_low f (.ref cc) A outer s H E) := okX (k := 4) rfl rfl hr
  have hr : Room (4) (cxF P w K mg base N_without_low "without_low" s_without_low f (.ref cc) A outer s H E).A := hr
  exact (s_cons (s_exprN (k_call okn C_need_program hr (a_cons (kv 0) a_nil))) (s_cons (s_exprN (k_call okn C_need_item hr (a_cons (kv 0) (a_cons (kv 1) a_nil)))) (s_cons (s_set 3 sc_without_low.nd (k_ix okn (k_ix okn (kv 0) (k_ix okn (kv 1) k_int)) (k_ix okn (kv 1) k_int))) (s_cons (s_setLc 4 (own := [("one", 7)]) okn sc_without_low.nd (w_seq okn (kv 3)) (show BlkOk N_without_low (defScope s_without_low) _ [("one", 7)] from ⟨rfl, by decide +kernel, by decide +kernel, by decide +kernel, by decide +kernel⟩) (fun _ _ _ _ _ => (g_nm 7 sc_without_low.nd)) (fun _ _ _ _ _ o1 => (c_one (PW.pt (gw_and (t_cmp (c_eq o1) (k_slc o1 (kv 7) s_none (s_some k_int)) (kv 2)) (pw_and1 (t_cmp (c_isn o1) (k_ix o1 (kv 7) k_int) k_non)))))) (fun _ _ _ _ _ o1 => (kv 7))) (s_cons (s_iteN (t_cmp (c_eq okn) (kv 4) (k_f (gf_lst a_nil))) (s_cons s_never s_nil) s_nil) (s_cons (s_set 5 sc_without_low.nd (ge_ite (t_cmp (c_isn okn) (k_ix okn (k_ix okn (kv 4) k_int) k_int) k_non) (k_f (gf_lst (a_cons (ge_add okn (k_slc okn (k_ix okn (kv 4) k_int) s_none (s_some k_int)) (ge_tup (a_cons k_non (a_cons (k_ix okn (k_ix okn (kv 4) k_int) k_int) a_nil)))) a_nil))) (k_f (gf_lst a_nil)))) (s_cons (s_set 6 sc_without_low.nd (ge_add okn (k_f (f_lc (own := [("one", 7)]) okn sc_without_low.nd (w_seq okn (kv 3)) (show BlkOk N_without_low (defScope s_without_low) _ [("one", 7)] from ⟨rfl, by decide +kernel, by decide +kernel, by decide +kernel, by decide +kernel⟩) (fun _ _ _ _ _ => (g_nm 7 sc_without_low.nd)) (fun _ _ _ _ _ o1 => (c_one (t_cmp (c_ne o1) (k_slc o1 (kv 7) s_none (s_some k_int)) (kv 2)))) (fun _ _ _ _ _ o1 => (kv 7)))) (kv 5))) (s_cons (s_retN (k_call okn C_with_item hr (a_cons (kv 0) (a_cons (kv 1) (a_cons (k_toTup okn z_tuple (k_f (f_sortedM okn z_sorted hr TBk hB rfl hnm (kv 6)))) a_nil))))) s_nil))))))))
/-! ### times_done -/
abbrev s_times_done : Stmt := top 30
abbrev N_times_done : List Str := ["program", "done", "mark", "many", "hand", "index"]
def b_times_done : List Stm := [(.asg (.tp [(.nm 4), (.nm 5)]) (.var 2)), (.asg (.nm 3) (.blt .len [(.ix (.var 0) (.var 4))])), (.ret false (.op .add (.op .fdiv (.ix (.var 1) (.var 4)) (.var 3)) (.ite (.cmp .gt (.op .mod (.ix (.var 1) (.var 4)) (.var 3)) (.var 5)) (.cst (.int 1)) (.cst (.int 0)))))]
def φ_times_done : List D → R D := runF (tabL [] []) 6 b_times_done
theorem sc_times_done : FnScope N_times_done ["program", "done", "mark"] (defScope s_times_done) := ⟨rfl, rfl, rfl, by decide +kernel, rfl, by decide +kernel, by decide +kernel⟩
theorem ok_times_done {P : Program} {w : World} {K : PySem.W.Frag} {mg : Str → Option Value} {base : Heap} {f : Addr} {fd : FuncData} (F : FnP K "times_done" s_times_done f fd) (z_len : mg "len" = none) : FnOk P w K mg base CX0 1 f fd ["program", "done", "mark"] (spF K 3 φ_times_done) := by
  refine def_Fn (k := 0) (tabL [] []) [] none (xcOf K errs) b_times_done 6 3 rfl rfl F sc_times_done (by decide) (by decide) fun cdv A outer s H E hr => ?_
  have okn : Ok (Cfg.mk K (tabL [] []) [] none (xcOf K errs) (fun _ _ _ => False) none []).non (cxF P w K mg base N_times_done "times_done" s_times_done f cdv A outer s H E) := okX (k := 0) rfl rfl hr
  have oka : Ok (Cfg.mk K (tabL [] []) [] none (xcOf K errs) (fun _ _ _ => False) none []).all (cxF P w K mg base N_times_done "times_done" s_times_done f cdv A outer s H E) := okX (k := 0) rfl rfl hr
  have hr : Room (0) (cxF P w K mg base N_times_done "times_done" s_times_done f cdv A outer s H E).A := hr
  exact (s_cons (s_asg (kv 2) (g_tup rfl rfl (g_cons (g_nm 4 sc_times_done.nd) (g_cons (g_nm 5 sc_times_done.nd) g_nil)))) (s_cons (s_set 3 sc_times_done.nd (k_len okn z_len (k_ix okn (kv 0) (kv 4)))) (s_cons (s_retN (ge_add okn (ge_fdiv (k_ix okn (kv 1) (kv 4)) (kv 3)) (ge_ite (t_cmp (c_gt okn) (ge_mod (k_ix okn (kv 1) (kv 4)) (kv 3)) (kv 5)) k_int k_int))) s_nil)))
/-! ### asks_now -/
abbrev s_asks_now : Stmt := top 31
abbrev N_asks_now : List Str := ["program", "done", "hand", "many", "found", "ask"]
def b_asks_now : List Stm := [(.asg (.nm 3) (.blt .len [(.ix (.var 0) (.var 2))])), (.own false 4 (.lst [])), (.forS false (.nm 5) (.seq (.ix (.ix (.var 0) (.var 2)) (.op .mod (.ix (.var 1) (.var 2)) (.var 3)))) [(.app false 4 (.tup [(.var 5), (.op .sub (.call 0 [(.var 0), (.var 1), (.slc (.var 5) (.cst .non) (.cst (.int 2)))]) (.op .fdiv (.ix (.var 1) (.var 2)) (.var 3)))]))]), (.ret true (.var 4))]
def φ_asks_now : List D → R D := runF (tabL [φ_times_done] []) 6 b_asks_now
theorem sc_asks_now : FnScope N_asks_now ["program", "done", "hand"] (defScope s_asks_now) := ⟨rfl, rfl, rfl, by decide +kernel, rfl, by decide +kernel, by decide +kernel⟩
theorem ok_asks_now {P : Program} {w : World} {K : PySem.W.Frag} {mg : Str → Option Value} {base : Heap} {f : Addr} {fd : FuncData} (F : FnP K "asks_now" s_asks_now f fd) (C_times_done : Cal P w K mg base 1 "times_done" ["program", "done", "mark"] (spF K 3 φ_times_done)) (z_len : mg "len" = none) : FnOk P w K mg base CX0 2 f fd ["program", "done", "hand"] (spF K 3 φ_asks_now) := by
  refine def_Fn (k := 1) (tabL [φ_times_done] []) [4] none (xcOf K errs) b_asks_now 6 3 rfl rfl F sc_asks_now (by decide) (by decide) fun cdv A outer s H E hr => ?_
  have okn : Ok (Cfg.mk K (tabL [φ_times_done] []) [4] none (xcOf K errs) (fun _ _ _ => False) none []).non (cxF P w K mg base N_asks_now "asks_now" s_asks_now f cdv A outer s H E) := okX (k := 1) rfl rfl hr
  have oka : Ok (Cfg.mk K (tabL [φ_times_done] []) [4] none (xcOf K errs) (fun _ _ _ => False) none []).all (cxF P w K mg base N_asks_now "asks_now" s_asks_now f cdv A outer s H E) := okX (k := 1) rfl rfl hr
  have hr : Room (1) (cxF P w K mg base N_asks_now "asks_now" s_asks_now f cdv A outer s H E).A := hr
  exact (s_cons (s_set 3 sc_asks_now.nd (k_len okn z_len (k_ix okn (kv 0) (kv 2)))) (s_cons (s_ownN 4 sc_asks_now.nd (gf_lst a_nil)) (s_cons (s_for rfl (w_seq okn (k_ix okn (k_ix okn (kv 0) (kv 2)) (ge_mod (k_ix okn (kv 1) (kv 2)) (kv 3)))) (g_nm 5 sc_asks_now.nd) (s_cons (s_appN 4 (ge_tup (a_cons (kv 5) (a_cons (ge_sub (k_call okn C_times_done hr (a_cons (kv 0) (a_cons (kv 1) (a_cons (k_slc okn (kv 5) s_none (s_some k_int)) a_nil)))) (ge_fdiv (k_ix okn (kv 1) (kv 2)) (kv 3))) a_nil)))) s_nil)) (s_cons (s_retA (kv 4)) s_nil))))
/-! ### can_go -/
abbrev s_can_go : Stmt := top 32
abbrev N_can_go : List Str := ["program", "done", "hand", "ask", "times"]
def b_can_go : List Stm := [(.forS false (.tp [(.nm 3), (.nm 4)]) (.seq (.call 0 [(.var 0), (.var 1), (.var 2)])) [(.ite false (.or (.and (.cmp .isn (.ix (.var 3) (.cst (.int 2))) (.cst .non)) (.cmp .lt (.var 4) (.ix (.var 3) (.cst (.int 2))))) (.and (.cmp .isn (.ix (.var 3) (.cst (.int 3))) (.cst .non)) (.cmp .gt (.var 4) (.ix (.var 3) (.cst (.int 3)))))) [(.ret false (.cst (.bl false)))] [])]), (.ret false (.cst (.bl true)))]
def φ_can_go : List D → R D := runF (tabL [φ_asks_now] []) 5 b_can_go
theorem sc_can_go : FnScope N_can_go ["program", "done", "hand"] (defScope s_can_go) := ⟨rfl, rfl, rfl, by decide +kernel, rfl, by decide +kernel, by decide +kernel⟩
theorem ok_can_go {P : Program} {w : World} {K : PySem.W.Frag} {mg : Str → Option Value} {base : Heap} {f : Addr} {fd : FuncData} (F : FnP K "can_go" s_can_go f fd) (C_asks_now : Cal P w K mg base 2 "asks_now" ["program", "done", "hand"] (spF K 3 φ_asks_now)) : FnOk P w K mg base CX0 3 f fd ["program", "done", "hand"] (spF K 3 φ_can_go) := by
  refine def_Fn (k := 2) (tabL [φ_asks_now] []) [] none (xcOf K errs) b_can_go 5 3 rfl rfl F sc_can_go (by decide) (by decide) fun cdv A outer s H E hr => ?_
  have okn : Ok (Cfg.mk K (tabL [φ_asks_now] []) [] none (xcOf K errs) (fun _ _ _ => False) none []).non (cxF P w K mg base N_can_go "can_go" s_can_go f cdv A outer s H E) := okX (k := 2) rfl rfl hr
  have oka : Ok (Cfg.mk K (tabL [φ_asks_now] []) [] none (xcOf K errs) (fun _ _ _ => False) none []).all (cxF P w K mg base N_can_go "can_go" s_can_go f cdv A outer s H E) := okX (k := 2) rfl rfl hr
  have hr : Room (2) (cxF P w K mg base N_can_go "can_go" s_can_go f cdv A outer s H E).A := hr
  exact (s_cons (s_for rfl (w_seq okn (k_call okn C_asks_now hr (a_cons (kv 0) (a_cons (kv 1) (a_cons (kv 2) a_nil))))) (g_tup rfl rfl (g_cons (g_nm 3 sc_can_go.nd) (g_cons (g_nm 4 sc_can_go.nd) g_nil))) (s_cons (s_iteN (PW.pt (gw_or (PW.pt (gw_and (t_cmp (c_isn okn) (k_ix okn (kv 3) k_int) k_non) (pw_and1 (t_cmp (c_lt okn) (kv 4) (k_ix okn (kv 3) k_int))))) (pw_or1 (PW.pt (gw_and (t_cmp (c_isn okn) (k_ix okn (kv 3) k_int) k_non) (pw_and1 (t_cmp (c_gt okn) (kv 4) (k_ix okn (kv 3) k_int)))))))) (s_cons (s_retN k_bl) s_nil) s_nil) s_nil)) (s_cons (s_retN k_bl) s_nil))
/-! ### is_shut_in -/
abbrev s_is_shut_in : Stmt := top 33
abbrev N_is_shut_in : List Str := ["program", "done", "hand", "ask", "times"]
def b_is_shut_in : List Stm := [(.ret false (.cmp .ne (.comp [3, 4] (.var 3) (.tp [(.nm 3), (.nm 4)]) (.seq (.call 0 [(.var 0), (.var 1), (.var 2)])) [(.and (.cmp .isn (.ix (.var 3) (.cst (.int 3))) (.cst .non)) (.cmp .gt (.var 4) (.ix (.var 3) (.cst (.int 3)))))]) (.lst [])))]
def φ_is_shut_in : List D → R D := runF (tabL [φ_asks_now] []) 5 b_is_shut_in
theorem sc_is_shut_in : FnScope N_is_shut_in ["program", "done", "hand"] (defScope s_is_shut_in) := ⟨rfl, rfl, rfl, by decide +kernel, rfl, by decide +kernel, by decide +kernel⟩
theorem ok_is_shut_in {P : Program} {w : World} {K : PySem.W.Frag} {mg : Str → Option Value} {base : Heap} {f : Addr} {fd : FuncData} (F : FnP K "is_shut_in" s_is_shut_in f fd) (C_asks_now : Cal P w K mg base 2 "asks_now" ["program", "done", "hand"] (spF K 3 φ_asks_now)) : FnOk P w K mg base CX0 3 f fd ["program", "done", "hand"] (spF K 3 φ_is_shut_in) := by
  refine def_Fn (k := 2) (tabL [φ_asks_now] []) [] none (xcOf K errs) b_is_shut_in 5 3 rfl rfl F sc_is_shut_in (by decide) (by decide) fun cdv A outer s H E hr => ?_
  have okn : Ok (Cfg.mk K (tabL [φ_asks_now] []) [] none (xcOf K errs) (fun _ _ _ => False) none []).non (cxF P w K mg base N_is_shut_in "is_shut_in" s_is_shut_in f cdv A outer s H E) := okX (k := 2) rfl rfl hr
  have oka : Ok (Cfg.mk K (tabL [φ_asks_now] []) [] none (xcOf K errs) (fun _ _ _ => False) none []).all (cxF P w K mg base N_is_shut_in "is_shut_in" s_is_shut_in f cdv A outer s H E) := okX (k := 2) rfl rfl hr
  have hr : Room (2) (cxF P w K mg base N_is_shut_in "is_shut_in" s_is_shut_in f cdv A outer s H E).A := hr
  exact (s_cons (s_retN (k_cmp (c_ne okn) (k_f (f_lc (own := [("ask", 3), ("times", 4)]) okn sc_is_shut_in.nd (w_seq okn (k_call okn C_asks_now hr (a_cons (kv 0) (a_cons (kv 1) (a_cons (kv 2) a_nil))))) (show BlkOk N_is_shut_in (defScope s_is_shut_in) _ [("ask", 3), ("times", 4)] from ⟨rfl, by decide +kernel, by decide +kernel, by decide +kernel, by decide +kernel⟩) (fun _ _ _ _ _ => (g_tup rfl rfl (g_cons (g_nm 3 sc_is_shut_in.nd) (g_cons (g_nm 4 sc_is_shut_in.nd) g_nil)))) (fun _ _ _ _ _ o1 => (c_one (PW.pt (gw_and (t_cmp (c_isn o1) (k_ix o1 (kv 3) k_int) k_non) (pw_and1 (t_cmp (c_gt o1) (kv 4) (k_ix o1 (kv 3) k_int))))))) (fun _ _ _ _ _ o1 => (kv 3)))) (k_f (gf_lst a_nil)))) s_nil)
/-! ### gone -/
abbrev s_gone : Stmt := top 34
abbrev N_gone : List Str := ["done", "hand"]
def b_gone : List Stm := [(.ret false (.op .add (.op .add (.slc (.var 0) (.cst .non) (.var 1)) (.tup [(.op .add (.ix (.var 0) (.var 1)) (.cst (.int 1)))])) (.slc (.var 0) (.op .add (.var 1) (.cst (.int 1))) (.cst .non))))]
def φ_gone : List D → R D := runF (tabL [] []) 2 b_gone
theorem sc_gone : FnScope N_gone ["done", "hand"] (defScope s_gone) := ⟨rfl, rfl, rfl, by decide +kernel, rfl, by decide +kernel, by decide +kernel⟩
theorem ok_gone {P : Program} {w : World} {K : PySem.W.Frag} {mg : Str → Option Value} {base : Heap} {f : Addr} {fd : FuncData} (F : FnP K "gone" s_gone f fd)  : FnOk P w K mg base CX0 1 f fd ["done", "hand"] (spF K 2 φ_gone) := by
  refine def_Fn (k := 0) (tabL [] []) [] none (xcOf K errs) b_gone 2 2 rfl rfl F sc_gone (by decide) (by decide) fun cdv A outer s H E hr => ?_
  have okn : Ok (Cfg.mk K (tabL [] []) [] none (xcOf K errs) (fun _ _ _ => False) none []).non (cxF P w K mg base N_gone "gone" s_gone f cdv A outer s H E) := okX (k := 0) rfl rfl hr
  have oka : Ok (Cfg.mk K (tabL [] []) [] none (xcOf K errs) (fun _ _ _ => False) none []).all (cxF P w K mg base N_gone "gone" s_gone f cdv A outer s H E) := okX (k := 0) rfl rfl hr
  have hr : Room (0) (cxF P w K mg base N_gone "gone" s_gone f cdv A outer s H E).A := hr
  exact (s_cons (s_retN (ge_add okn (ge_add okn (k_slc okn (kv 0) s_none (s_some (kv 1))) (ge_tup (a_cons (ge_add okn (k_ix okn (kv 0) (kv 1)) k_int) a_nil))) (k_slc okn (kv 0) (s_some (ge_add okn (kv 1) k_int)) s_none))) s_nil)
/-! ### is_hands -/
abbrev s_is_hands : Stmt := top 35
abbrev N_is_hands : List Str := ["program", "value", "one"]
def b_is_hands : List Stm := [(.ite false (.or (.not (.blt .isTuple [(.var 1)])) (.cmp .gt (.blt .len [(.var 1)]) (.cst (.int (400))))) [(.ret false (.cst (.bl false)))] []), (.ret false (.cmp .eq (.comp [2] (.var 2) (.nm 2) (.seq (.var 1)) [(.not (.call 0 [(.var 2), (.cst (.int 0)), (.op .sub (.blt .len [(.var 0)]) (.cst (.int 1)))]))]) (.lst [])))]
def φ_is_hands : List D → R D := runF (tabL [φ_is_in] []) 3 b_is_hands
theorem sc_is_hands : FnScope N_is_hands ["program", "value"] (defScope s_is_hands) := ⟨rfl, rfl, rfl, by decide +kernel, rfl, by decide +kernel, by decide +kernel⟩
theorem ok_is_hands {P : Program} {w : World} {K : PySem.W.Frag} {mg : Str → Option Value} {base : Heap} {f : Addr} {fd : FuncData} (F : FnP K "is_hands" s_is_hands f fd) (C_is_in : Cal P w K mg base 1 "is_in" ["value", "least", "most"] (spF K 3 φ_is_in)) (z_isinstance : mg "isinstance" = none) (z_tuple : mg "tuple" = none) (z_len : mg "len" = none) (c_MOST_WEAVING : ∃ t, mg "MOST_WEAVING" = some (.int (400) t)) : FnOk P w K mg base CX0 2 f fd ["program", "value"] (spF K 2 φ_is_hands) := by
  refine def_Fn (k := 1) (tabL [φ_is_in] []) [] none (xcOf K errs) b_is_hands 3 2 rfl rfl F sc_is_hands (by decide) (by decide) fun cdv A outer s H E hr => ?_
  have okn : Ok (Cfg.mk K (tabL [φ_is_in] []) [] none (xcOf K errs) (fun _ _ _ => False) none []).non (cxF P w K mg base N_is_hands "is_hands" s_is_hands f cdv A outer s H E) := okX (k := 1) rfl rfl hr
  have oka : Ok (Cfg.mk K (tabL [φ_is_in] []) [] none (xcOf K errs) (fun _ _ _ => False) none []).all (cxF P w K mg base N_is_hands "is_hands" s_is_hands f cdv A outer s H E) := okX (k := 1) rfl rfl hr
  have hr : Room (1) (cxF P w K mg base N_is_hands "is_hands" s_is_hands f cdv A outer s H E).A := hr
  exact (s_cons (s_iteN (PW.pt (gw_or (gt_not (t_val (k_isTuple okn z_isinstance z_tuple (kv 1)))) (pw_or1 (t_cmp (c_gt okn) (k_len okn z_len (kv 1)) (k_gi c_MOST_WEAVING))))) (s_cons (s_retN k_bl) s_nil) s_nil) (s_cons (s_retN (k_cmp (c_eq okn) (k_f (f_lc (own := [("one", 2)]) okn sc_is_hands.nd (w_seq okn (kv 1)) (show BlkOk N_is_hands (defScope s_is_hands) _ [("one", 2)] from ⟨rfl, by decide +kernel, by decide +kernel, by decide +kernel, by decide +kernel⟩) (fun _ _ _ _ _ => (g_nm 2 sc_is_hands.nd)) (fun _ _ _ _ _ o1 => (c_one (gt_not (t_val (k_call o1 C_is_in hr (a_cons (kv 2) (a_cons k_int (a_cons (ge_sub (k_len o1 z_len (kv 0)) k_int) a_nil)))))))) (fun _ _ _ _ _ o1 => (kv 2)))) (k_f (gf_lst a_nil)))) s_nil))
/-! ### line_in -/
abbrev s_line_in : Stmt := top 36
abbrev N_line_in : List Str := ["program", "weaving", "found", "hand"]
def b_line_in : List Stm := [(.own false 2 (.lst [(.op .mul (.tup [(.cst (.int 0))]) (.blt .len [(.var 0)]))])), (.forS false (.nm 3) (.seq (.var 1)) [(.ite true (.not (.call 0 [(.var 0), (.ix (.var 2) (.neg (.cst (.int 1)))), (.var 3)])) [(.ret true (.var 2))] []), (.app true 2 (.call 1 [(.ix (.var 2) (.neg (.cst (.int 1)))), (.var 3)]))]), (.ret true (.var 2))]
def φ_line_in : List D → R D := runF (tabL [φ_can_go, φ_gone] []) 4 b_line_in
theorem sc_line_in : FnScope N_line_in ["program", "weaving"] (defScope s_line_in) := ⟨rfl, rfl, rfl, by decide +kernel, rfl, by decide +kernel, by decide +kernel⟩
theorem ok_line_in {P : Program} {w : World} {K : PySem.W.Frag} {mg : Str → Option Value} {base : Heap} {f : Addr} {fd : FuncData} (F : FnP K "line_in" s_line_in f fd) (C_can_go : Cal P w K mg base 3 "can_go" ["program", "done", "hand"] (spF K 3 φ_can_go)) (C_gone : Cal P w K mg base 1 "gone" ["done", "hand"] (spF K 2 φ_gone)) (z_len : mg "len" = none) : FnOk P w K mg base CX0 4 f fd ["program", "weaving"] (spF K 2 φ_line_in) := by
  refine def_Fn (k := 3) (tabL [φ_can_go, φ_gone] []) [2] none (xcOf K errs) b_line_in 4 2 rfl rfl F sc_line_in (by decide) (by decide) fun cdv A outer s H E hr => ?_
  have okn : Ok (Cfg.mk K (tabL [φ_can_go, φ_gone] []) [2] none (xcOf K errs) (fun _ _ _ => False) none []).non (cxF P w K mg base N_line_in "line_in" s_line_in f cdv A outer s H E) := okX (k := 3) rfl rfl hr
  have oka : Ok (Cfg.mk K (tabL [φ_can_go, φ_gone] []) [2] none (xcOf K errs) (fun _ _ _ => False) none []).all (cxF P w K mg base N_line_in "line_in" s_line_in f cdv A outer s H E) := okX (k := 3) rfl rfl hr
  have hr : Room (3) (cxF P w K mg base N_line_in "line_in" s_line_in f cdv A outer s H E).A := hr
  exact (s_cons (s_ownN 2 sc_line_in.nd (gf_lst (a_cons (ge_mul okn (ge_tup (a_cons k_int a_nil)) (k_len okn z_len (kv 0))) a_nil))) (s_cons (s_for rfl (w_seq okn (kv 1)) (g_nm 3 sc_line_in.nd) (s_cons (s_iteA (gt_not (t_val (k_call oka C_can_go hr (a_cons (kv 0) (a_cons (k_ix oka (kv 2) (k_neg k_int)) (a_cons (kv 3) a_nil)))))) (s_cons (s_retA (kv 2)) s_nil) s_nil) (s_cons (s_appA 2 (k_call oka C_gone hr (a_cons (k_ix oka (kv 2) (k_neg k_int)) (a_cons (kv 3) a_nil)))) s_nil))) (s_cons (s_retA (kv 2)) s_nil)))
/-! ### state_after -/
abbrev s_state_after : Stmt := top 37
abbrev N_state_after : List Str := ["program", "weaving", "found"]
def b_state_after : List Stm := [(.expr false (.call 0 [(.var 0)])), (.ite false (.not (.call 1 [(.var 0), (.var 1)])) [.never] []), (.asg (.nm 2) (.call 2 [(.var 0), (.var 1)])), (.ite false (.cmp .le (.blt .len [(.var 2)]) (.blt .len [(.var 1)])) [.never] []), (.ret false (.ix (.var 2) (.neg (.cst (.int 1)))))]
def φ_state_after : List D → R D := runF (tabL [φ_need_program, φ_is_hands, φ_line_in] []) 3 b_state_after
theorem sc_state_after : FnScope N_state_after ["program", "weaving"] (defScope s_state_after) := ⟨rfl, rfl, rfl, by decide +kernel, rfl, by decide +kernel, by decide +kernel⟩
theorem ok_state_after {P : Program} {w : World} {K : PySem.W.Frag} {mg : Str → Option Value} {base : Heap} {f : Addr} {fd : FuncData} (F : FnP K "state_after" s_state_after f fd) (C_need_program : Cal P w K mg base 4 "need_program" ["program"] (spF K 1 φ_need_program)) (C_is_hands : Cal P w K mg base 2 "is_hands" ["program", "value"] (spF K 2 φ_is_hands)) (C_line_in : Cal P w K mg base 4 "line_in" ["program", "weaving"] (spF K 2 φ_line_in)) (z_len : mg "len" = none) : FnOk P w K mg base CX0 5 f fd ["program", "weaving"] (spF K 2 φ_state_after) := by
  refine def_Fn (k := 4) (tabL [φ_need_program, φ_is_hands, φ_line_in] []) [] none (xcOf K errs) b_state_after 3 2 rfl rfl F sc_state_after (by decide) (by decide) fun cdv A outer s H E hr => ?_
  have okn : Ok (Cfg.mk K (tabL [φ_need_program, φ_is_hands, φ_line_in] []) [] none (xcOf K errs) (fun _ _ _ => False) none []).non (cxF P w K mg base N_state_after "state_after" s_state_after f cdv A outer s H E) := okX (k := 4) rfl rfl hr
  have oka : Ok (Cfg.mk K (tabL [φ_need_program, φ_is_hands, φ_line_in] []) [] none (xcOf K errs) (fun _ _ _ => False) none []).all (cxF P w K mg base N_state_after "state_after" s_state_after f cdv A outer s H E) := okX (k := 4) rfl rfl hr
  have hr : Room (4) (cxF P w K mg base N_state_after "state_after" s_state_after f cdv A outer s H E).A := hr
  exact (s_cons (s_exprN (k_call okn C_need_program hr (a_cons (kv 0) a_nil))) (s_cons (s_iteN (gt_not (t_val (k_call okn C_is_hands hr (a_cons (kv 0) (a_cons (kv 1) a_nil))))) (s_cons s_never s_nil) s_nil) (s_cons (s_set 2 sc_state_after.nd (k_call okn C_line_in hr (a_cons (kv 0) (a_cons (kv 1) a_nil)))) (s_cons (s_iteN (t_cmp (c_le okn) (k_len okn z_len (kv 2)) (k_len okn z_len (kv 1))) (s_cons s_never s_nil) s_nil) (s_cons (s_retN (k_ix okn (kv 2) (k_neg k_int))) s_nil)))))
/-! ### done_after -/
abbrev s_done_after : Stmt := top 38
abbrev N_done_after : List Str := ["program", "weaving"]
def b_done_after : List Stm := [(.ret false (.call 0 [(.var 0), (.var 1)]))]
def φ_done_after : List D → R D := runF (tabL [φ_state_after] []) 2 b_done_after
theorem sc_done_after : FnScope N_done_after ["program", "weaving"] (defScope s_done_after) := ⟨rfl, rfl, rfl, by decide +kernel, rfl, by decide +kernel, by decide +kernel⟩
theorem ok_done_after {P : Program} {w : World} {K : PySem.W.Frag} {mg : Str → Option Value} {base : Heap} {f : Addr} {fd : FuncData} (F : FnP K "done_after" s_done_after f fd) (C_state_after : Cal P w K mg base 5 "state_after" ["program", "weaving"] (spF K 2 φ_state_after)) : FnOk P w K mg base CX0 6 f fd ["program", "weaving"] (spF K 2 φ_done_after) := by
  refine def_Fn (k := 5) (tabL [φ_state_after] []) [] none (xcOf K errs) b_done_after 2 2 rfl rfl F sc_done_after (by decide) (by decide) fun cdv A outer s H E hr => ?_
  have okn : Ok (Cfg.mk K (tabL [φ_state_after] []) [] none (xcOf K errs) (fun _ _ _ => False) none []).non (cxF P w K mg base N_done_after "done_after" s_done_after f cdv A outer s H E) := okX (k := 5) rfl rfl hr
  have oka : Ok (Cfg.mk K (tabL [φ_state_after] []) [] none (xcOf K errs) (fun _ _ _ => False) none []).all (cxF P w K mg base N_done_after "done_after" s_done_after f cdv A outer s H E) := okX (k := 5) rfl rfl hr
  have hr : Room (5) (cxF P w K mg base N_done_after "done_after" s_done_after f cdv A outer s H E).A := hr
  exact (s_cons (s_retN (k_call okn C_state_after hr (a_cons (kv 0) (a_cons (kv 1) a_nil)))) s_nil)
/-! ### going -/
abbrev s_going : Stmt := top 39
abbrev N_going : List Str := ["program", "weaving", "done", "hand"]
def b_going : List Stm := [(.asg (.nm 2) (.call 0 [(.var 0), (.var 1)])), (.ret false (.blt .tuple [(.comp [3] (.var 3) (.nm 3) (.rng [(.blt .len [(.var 0)])]) [(.call 1 [(.var 0), (.var 2), (.var 3)])])]))]
def φ_going : List D → R D := runF (tabL [φ_state_after, φ_can_go] []) 4 b_going
theorem sc_going : FnScope N_going ["program", "weaving"] (defScope s_going) := ⟨rfl, rfl, rfl, by decide +kernel, rfl, by decide +kernel, by decide +kernel⟩
theorem ok_going {P : Program} {w : World} {K : PySem.W.Frag} {mg : Str → Option Value} {base : Heap} {f : Addr} {fd : FuncData} (F : FnP K "going" s_going f fd) (C_state_after : Cal P w K mg base 5 "state_after" ["program", "weaving"] (spF K 2 φ_state_after)) (C_can_go : Cal P w K mg base 3 "can_go" ["program", "done", "hand"] (spF K 3 φ_can_go)) (z_len : mg "len" = none) (z_range : mg "range" = none) (z_tuple : mg "tuple" = none) : FnOk P w K mg base CX0 6 f fd ["program", "weaving"] (spF K 2 φ_going) := by
  refine def_Fn (k := 5) (tabL [φ_state_after, φ_can_go] []) [] none (xcOf K errs) b_going 4 2 rfl rfl F sc_going (by decide) (by decide) fun cdv A outer s H E hr => ?_
  have okn : Ok (Cfg.mk K (tabL [φ_state_after, φ_can_go] []) [] none (xcOf K errs) (fun _ _ _ => False) none []).non (cxF P w K mg base N_going "going" s_going f cdv A outer s H E) := okX (k := 5) rfl rfl hr
  have oka : Ok (Cfg.mk K (tabL [φ_state_after, φ_can_go] []) [] none (xcOf K errs) (fun _ _ _ => False) none []).all (cxF P w K mg base N_going "going" s_going f cdv A outer s H E) := okX (k := 5) rfl rfl hr
  have hr : Room (5) (cxF P w K mg base N_going "going" s_going f cdv A outer s H E).A := hr
  exact (s_cons (s_set 2 sc_going.nd (k_call okn C_state_after hr (a_cons (kv 0) (a_cons (kv 1) a_nil)))) (s_cons (s_retN (k_toTup okn z_tuple (k_f (f_lc (own := [("hand", 3)]) okn sc_going.nd (w_rng1 z_range (k_len okn z_len (kv 0))) (show BlkOk N_going (defScope s_going) _ [("hand", 3)] from ⟨rfl, by decide +kernel, by decide +kernel, by decide +kernel, by decide +kernel⟩) (fun _ _ _ _ _ => (g_nm 3 sc_going.nd)) (fun _ _ _ _ _ o1 => (c_one (t_val (k_call o1 C_can_go hr (a_cons (kv 0) (a_cons (kv 2) (a_cons (kv 3) a_nil))))))) (fun _ _ _ _ _ o1 => (kv 3)))))) s_nil))
/-! ### is_shut -/
abbrev s_is_shut : Stmt := top 40
abbrev N_is_shut : List Str := ["program", "weaving", "hand", "done"]
def b_is_shut : List Stm := [(.asg (.nm 3) (.call 0 [(.var 0), (.var 1)])), (.expr false (.call 1 [(.var 0), (.var 2)])), (.ret false (.call 2 [(.var 0), (.var 3), (.var 2)]))]
def φ_is_shut : List D → R D := runF (tabL [φ_state_after, φ_need_hand, φ_is_shut_in] []) 4 b_is_shut
theorem sc_is_shut : FnScope N_is_shut ["program", "weaving", "hand"] (defScope s_is_shut) := ⟨rfl, rfl, rfl, by decide +kernel, rfl, by decide +kernel, by decide +kernel⟩
theorem ok_is_shut {P : Program} {w : World} {K : PySem.W.Frag} {mg : Str → Option Value} {base : Heap} {f : Addr} {fd : FuncData} (F : FnP K "is_shut" s_is_shut f fd) (C_state_after : Cal P w K mg base 5 "state_after" ["program", "weaving"] (spF K 2 φ_state_after)) (C_need_hand : Cal P w K mg base 2 "need_hand" ["program", "hand"] (spF K 2 φ_need_hand)) (C_is_shut_in : Cal P w K mg base 3 "is_shut_in" ["program", "done", "hand"] (spF K 3 φ_is_shut_in)) : FnOk P w K mg base CX0 6 f fd ["program", "weaving", "hand"] (spF K 3 φ_is_shut) := by
  refine def_Fn (k := 5) (tabL [φ_state_after, φ_need_hand, φ_is_shut_in] []) [] none (xcOf K errs) b_is_shut 4 3 rfl rfl F sc_is_shut (by decide) (by decide) fun cdv A outer s H E hr => ?_
  have okn : Ok (Cfg.mk K (tabL [φ_state_after, φ_need_hand, φ_is_shut_in] []) [] none (xcOf K errs) (fun _ _ _ => False) none []).non (cxF P w K mg base N_is_shut "is_shut" s_is_shut f cdv A outer s H E) := okX (k := 5) rfl rfl hr
  have oka : Ok (Cfg.mk K (tabL [φ_state_after, φ_need_hand, φ_is_shut_in] []) [] none (xcOf K errs) (fun _ _ _ => False) none []).all (cxF P w K mg base N_is_shut "is_shut" s_is_shut f cdv A outer s H E) := okX (k := 5) rfl rfl hr
  have hr : Room (5) (cxF P w K mg base N_is_shut "is_shut" s_is_shut f cdv A outer s H E).A := hr
  exact (s_cons (s_set 3 sc_is_shut.nd (k_call okn C_state_after hr (a_cons (kv 0) (a_cons (kv 1) a_nil)))) (s_cons (s_exprN (k_call okn C_need_hand hr (a_cons (kv 0) (a_cons (kv 2) a_nil)))) (s_cons (s_retN (k_call okn C_is_shut_in hr (a_cons (kv 0) (a_cons (kv 3) (a_cons (kv 2) a_nil))))) s_nil)))
/-! ### walk -/
abbrev s_walk : Stmt := top 41
abbrev N_walk : List Str := ["program", "rounds", "size", "row", "found", "rows", "here", "hand"]
def b_walk : List Stm := [(.expr false (.call 0 [(.var 0)])), (.ite false (.not (.call 1 [(.var 1), (.cst (.int 1)), (.cst (.int (6)))])) [.never] []), (.asg (.nm 2) (.cst (.int 1))), (.forS false (.nm 3) (.seq (.var 0)) [(.aug .mul 2 (.op .add (.op .mul (.var 1) (.blt .len [(.var 3)])) (.cst (.int 1))))]), (.ite false (.cmp .gt (.var 2) (.cst (.int (4000)))) [.never] []), (.par [(true, 4), (true, 5)] [.dnew, (.lst [(.op .mul (.tup [(.cst (.int 0))]) (.blt .len [(.var 0)]))])]), (.whl true (.cmp .ne (.var 5) (.lst [])) [(.pop (.nm 6) 5), (.ite true (.cmp .nin (.var 6) (.var 4)) [(.setD false 4 (.var 6) (.cst (.bl true))), (.forS false (.nm 7) (.rng [(.blt .len [(.var 0)])]) [(.ite false (.and (.cmp .lt (.ix (.var 6) (.var 7)) (.op .mul (.var 1) (.blt .len [(.ix (.var 0) (.var 7))]))) (.call 2 [(.var 0), (.var 6), (.var 7)])) [(.app false 5 (.call 3 [(.var 6), (.var 7)]))] [])])] [])]), (.ret true (.blt .dsorted [(.var 4)]))]
def φ_walk : List D → R D := runF (tabL [φ_need_program, φ_is_in, φ_can_go, φ_gone] []) 8 b_walk
theorem sc_walk : FnScope N_walk ["program", "rounds"] (defScope s_walk) := ⟨rfl, rfl, rfl, by decide +kernel, rfl, by decide +kernel, by decide +kernel⟩
theorem ok_walk {P : Program} {w : World} {K : PySem.W.Frag} {mg : Str → Option Value} {base : Heap} {f : Addr} {fd : FuncData} (F : FnP K "walk" s_walk f fd) (C_need_program : Cal P w K mg base 4 "need_program" ["program"] (spF K 1 φ_need_program)) (C_is_in : Cal P w K mg base 1 "is_in" ["value", "least", "most"] (spF K 3 φ_is_in)) (C_can_go : Cal P w K mg base 3 "can_go" ["program", "done", "hand"] (spF K 3 φ_can_go)) (C_gone : Cal P w K mg base 1 "gone" ["done", "hand"] (spF K 2 φ_gone)) (c_MOST_ROUNDS : ∃ t, mg "MOST_ROUNDS" = some (.int (6) t)) (z_len : mg "len" = none) (c_MOST_WALKED : ∃ t, mg "MOST_WALKED" = some (.int (4000) t)) (z_range : mg "range" = none) (z_sorted : mg "sorted" = none) : FnOk P w K mg base CX0 5 f fd ["program", "rounds"] (spF K 2 φ_walk) := by
  refine def_Fn (k := 4) (tabL [φ_need_program, φ_is_in, φ_can_go, φ_gone] []) [4, 5] none (xcOf K errs) b_walk 8 2 rfl rfl F sc_walk (by decide) (by decide) fun cdv A outer s H E hr => ?_
  have okn : Ok (Cfg.mk K (tabL [φ_need_program, φ_is_in, φ_can_go, φ_gone] []) [4, 5] none (xcOf K errs) (fun _ _ _ => False) none []).non (cxF P w K mg base N_walk "walk" s_walk f cdv A outer s H E) := okX (k := 4) rfl rfl hr
  have oka : Ok (Cfg.mk K (tabL [φ_need_program, φ_is_in, φ_can_go, φ_gone] []) [4, 5] none (xcOf K errs) (fun _ _ _ => False) none []).all (cxF P w K mg base N_walk "walk" s_walk f cdv A outer s H E) := okX (k := 4) rfl rfl hr
  have hr : Room (4) (cxF P w K mg base N_walk "walk" s_walk f cdv A outer s H E).A := hr
  exact (s_cons (s_exprN (k_call okn C_need_program hr (a_cons (kv 0) a_nil))) (s_cons (s_iteN (gt_not (t_val (k_call okn C_is_in hr (a_cons (kv 1) (a_cons k_int (a_cons (k_gi c_MOST_ROUNDS) a_nil)))))) (s_cons s_never s_nil) s_nil) (s_cons (s_set 2 sc_walk.nd k_int) (s_cons (s_for rfl (w_seq okn (kv 0)) (g_nm 3 sc_walk.nd) (s_cons (s_aug 2 sc_walk.nd (ge_add okn (ge_mul okn (kv 1) (k_len okn z_len (kv 3))) k_int)) s_nil)) (s_cons (s_iteN (t_cmp (c_gt okn) (kv 2) (k_gi c_MOST_WALKED)) (s_cons s_never s_nil) s_nil) (s_cons (s_par2 4 5 rfl sc_walk.nd f_dnew (gf_lst (a_cons (ge_mul okn (ge_tup (a_cons k_int a_nil)) (k_len okn z_len (kv 0))) a_nil))) (s_cons (s_whileA (t_cmp (c_ne oka) (kv 5) (k_f (gf_lst a_nil))) (s_cons (s_pop 5 6 sc_walk.nd) (s_cons (s_iteA (t_cmp (c_nin oka) (kv 6) (kv 4)) (s_cons (s_setDN 4 okn (kv 6) k_bl) (s_cons (s_for rfl (w_rng1 z_range (k_len okn z_len (kv 0))) (g_nm 7 sc_walk.nd) (s_cons (s_iteN (PW.pt (gw_and (t_cmp (c_lt okn) (k_ix okn (kv 6) (kv 7)) (ge_mul okn (kv 1) (k_len okn z_len (k_ix okn (kv 0) (kv 7))))) (pw_and1 (t_val (k_call okn C_can_go hr (a_cons (kv 0) (a_cons (kv 6) (a_cons (kv 7) a_nil)))))))) (s_cons (s_appN 5 (k_call okn C_gone hr (a_cons (kv 6) (a_cons (kv 7) a_nil)))) s_nil) s_nil) s_nil)) s_nil)) s_nil) s_nil))) (s_cons (s_retA (k_f (f_dsorted oka z_sorted (kv 4)))) s_nil))))))))
/-! ### walk_full -/
abbrev s_walk_full : Stmt := top 42
abbrev N_walk_full : List Str := ["program", "rounds", "row"]
def b_walk_full : List Stm := [(.ret false (.cmp .eq (.ix (.call 0 [(.var 0), (.var 1)]) (.neg (.cst (.int 1)))) (.blt .tuple [(.comp [2] (.op .mul (.var 1) (.blt .len [(.var 2)])) (.nm 2) (.seq (.var 0)) [])])))]
def φ_walk_full : List D → R D := runF (tabL [φ_walk] []) 3 b_walk_full
theorem sc_walk_full : FnScope N_walk_full ["program", "rounds"] (defScope s_walk_full) := ⟨rfl, rfl, rfl, by decide +kernel, rfl, by decide +kernel, by decide +kernel⟩
theorem ok_walk_full {P : Program} {w : World} {K : PySem.W.Frag} {mg : Str → Option Value} {base : Heap} {f : Addr} {fd : FuncData} (F : FnP K "walk_full" s_walk_full f fd) (C_walk : Cal P w K mg base 5 "walk" ["program", "rounds"] (spF K 2 φ_walk)) (z_len : mg "len" = none) (z_tuple : mg "tuple" = none) : FnOk P w K mg base CX0 6 f fd ["program", "rounds"] (spF K 2 φ_walk_full) := by
  refine def_Fn (k := 5) (tabL [φ_walk] []) [] none (xcOf K errs) b_walk_full 3 2 rfl rfl F sc_walk_full (by decide) (by decide) fun cdv A outer s H E hr => ?_
  have okn : Ok (Cfg.mk K (tabL [φ_walk] []) [] none (xcOf K errs) (fun _ _ _ => False) none []).non (cxF P w K mg base N_walk_full "walk_full" s_walk_full f cdv A outer s H E) := okX (k := 5) rfl rfl hr
  have oka : Ok (Cfg.mk K (tabL [φ_walk] []) [] none (xcOf K errs) (fun _ _ _ => False) none []).all (cxF P w K mg base N_walk_full "walk_full" s_walk_full f cdv A outer s H E) := okX (k := 5) rfl rfl hr
  have hr : Room (5) (cxF P w K mg base N_walk_full "walk_full" s_walk_full f cdv A outer s H E).A := hr
  exact (s_cons (s_retN (k_cmp (c_eq okn) (k_ix okn (k_call okn C_walk hr (a_cons (kv 0) (a_cons (kv 1) a_nil))) (k_neg k_int)) (k_toTup okn z_tuple (k_f (f_lc (own := [("row", 2)]) okn sc_walk_full.nd (w_seq okn (kv 0)) (show BlkOk N_walk_full (defScope s_walk_full) _ [("row", 2)] from ⟨rfl, by decide +kernel, by decide +kernel, by decide +kernel, by decide +kernel⟩) (fun _ _ _ _ _ => (g_nm 2 sc_walk_full.nd)) (fun _ _ _ _ _ o1 => c_nil) (fun _ _ _ _ _ o1 => (ge_mul o1 (kv 1) (k_len o1 z_len (kv 2))))))))) s_nil)
/-! ### walk_shut -/
abbrev s_walk_shut : Stmt := top 43
abbrev N_walk_shut : List Str := ["program", "rounds", "found", "some", "hand", "done"]
def b_walk_shut : List Stm := [(.own false 2 (.lst [])), (.asg (.nm 3) (.call 0 [(.var 0), (.var 1)])), (.forS false (.nm 4) (.rng [(.blt .len [(.var 0)])]) [(.ite false (.cmp .ne (.comp [5] (.var 5) (.nm 5) (.seq (.var 3)) [(.call 1 [(.var 0), (.var 5), (.var 4)])]) (.lst [])) [(.app false 2 (.var 4))] [])]), (.ret true (.blt .tuple [(.var 2)]))]
def φ_walk_shut : List D → R D := runF (tabL [φ_walk, φ_is_shut_in] []) 6 b_walk_shut
theorem sc_walk_shut : FnScope N_walk_shut ["program", "rounds"] (defScope s_walk_shut) := ⟨rfl, rfl, rfl, by decide +kernel, rfl, by decide +kernel, by decide +kernel⟩
theorem ok_walk_shut {P : Program} {w : World} {K : PySem.W.Frag} {mg : Str → Option Value} {base : Heap} {f : Addr} {fd : FuncData} (F : FnP K "walk_shut" s_walk_shut f fd) (C_walk : Cal P w K mg base 5 "walk" ["program", "rounds"] (spF K 2 φ_walk)) (C_is_shut_in : Cal P w K mg base 3 "is_shut_in" ["program", "done", "hand"] (spF K 3 φ_is_shut_in)) (z_len : mg "len" = none) (z_range : mg "range" = none) (z_tuple : mg "tuple" = none) : FnOk P w K mg base CX0 6 f fd ["program", "rounds"] (spF K 2 φ_walk_shut) := by
  refine def_Fn (k := 5) (tabL [φ_walk, φ_is_shut_in] []) [2] none (xcOf K errs) b_walk_shut 6 2 rfl rfl F sc_walk_shut (by decide) (by decide) fun cdv A outer s H E hr => ?_
  have okn : Ok (Cfg.mk K (tabL [φ_walk, φ_is_shut_in] []) [2] none (xcOf K errs) (fun _ _ _ => False) none []).non (cxF P w K mg base N_walk_shut "walk_shut" s_walk_shut f cdv A outer s H E) := okX (k := 5) rfl rfl hr
  have oka : Ok (Cfg.mk K (tabL [φ_walk, φ_is_shut_in] []) [2] none (xcOf K errs) (fun _ _ _ => False) none []).all (cxF P w K mg base N_walk_shut "walk_shut" s_walk_shut f cdv A outer s H E) := okX (k := 5) rfl rfl hr
  have hr : Room (5) (cxF P w K mg base N_walk_shut "walk_shut" s_walk_shut f cdv A outer s H E).A := hr
  exact (s_cons (s_ownN 2 sc_walk_shut.nd (gf_lst a_nil)) (s_cons (s_set 3 sc_walk_shut.nd (k_call okn C_walk hr (a_cons (kv 0) (a_cons (kv 1) a_nil)))) (s_cons (s_for rfl (w_rng1 z_range (k_len okn z_len (kv 0))) (g_nm 4 sc_walk_shut.nd) (s_cons (s_iteN (t_cmp (c_ne okn) (k_f (f_lc (own := [("done", 5)]) okn sc_walk_shut.nd (w_seq okn (kv 3)) (show BlkOk N_walk_shut (defScope s_walk_shut) _ [("done", 5)] from ⟨rfl, by decide +kernel, by decide +kernel, by decide +kernel, by decide +kernel⟩) (fun _ _ _ _ _ => (g_nm 5 sc_walk_shut.nd)) (fun _ _ _ _ _ o1 => (c_one (t_val (k_call o1 C_is_shut_in hr (a_cons (kv 0) (a_cons (kv 5) (a_cons (kv 4) a_nil))))))) (fun _ _ _ _ _ o1 => (kv 5)))) (k_f (gf_lst a_nil))) (s_cons (s_appN 2 (kv 4)) s_nil) s_nil) s_nil)) (s_cons (s_retA (k_toTup oka z_tuple (kv 2))) s_nil))))
/-! ### ask_text -/
abbrev s_ask_text : Stmt := top 45
abbrev N_ask_text : List Str := ["ask", "found", "hand", "mark", "low", "high"]
def b_ask_text : List Stm := [(.asg (.tp [(.nm 2), (.nm 3), (.nm 4), (.nm 5)]) (.var 0)), (.asg (.nm 1) (.op .add (.op .add (.blt .strI [(.var 2)]) (.cst (.str [46]))) (.blt .strI [(.var 3)]))), (.ret false (.op .add (.op .add (.var 1) (.ite (.cmp .isn (.var 4) (.cst .non)) (.op .add (.cst (.str [62])) (.blt .strI [(.var 4)])) (.cst (.str [])))) (.ite (.cmp .isn (.var 5) (.cst .non)) (.op .add (.cst (.str [60])) (.blt .strI [(.var 5)])) (.cst (.str [])))))]
def φ_ask_text : List D → R D := runF (tabL [] []) 6 b_ask_text
theorem sc_ask_text : FnScope N_ask_text ["ask"] (defScope s_ask_text) := ⟨rfl, rfl, rfl, by decide +kernel, rfl, by decide +kernel, by decide +kernel⟩
theorem ok_ask_text {P : Program} {w : World} {K : PySem.W.Frag} {mg : Str → Option Value} {base : Heap} {f : Addr} {fd : FuncData} (F : FnP K "ask_text" s_ask_text f fd) (z_str : mg "str" = none) : FnOk P w K mg base CX0 1 f fd ["ask"] (spF K 1 φ_ask_text) := by
  refine def_Fn (k := 0) (tabL [] []) [] none (xcOf K errs) b_ask_text 6 1 rfl rfl F sc_ask_text (by decide) (by decide) fun cdv A outer s H E hr => ?_
  have okn : Ok (Cfg.mk K (tabL [] []) [] none (xcOf K errs) (fun _ _ _ => False) none []).non (cxF P w K mg base N_ask_text "ask_text" s_ask_text f cdv A outer s H E) := okX (k := 0) rfl rfl hr
  have oka : Ok (Cfg.mk K (tabL [] []) [] none (xcOf K errs) (fun _ _ _ => False) none []).all (cxF P w K mg base N_ask_text "ask_text" s_ask_text f cdv A outer s H E) := okX (k := 0) rfl rfl hr
  have hr : Room (0) (cxF P w K mg base N_ask_text "ask_text" s_ask_text f cdv A outer s H E).A := hr
  exact (s_cons (s_asg (kv 0) (g_tup rfl rfl (g_cons (g_nm 2 sc_ask_text.nd) (g_cons (g_nm 3 sc_ask_text.nd) (g_cons (g_nm 4 sc_ask_text.nd) (g_cons (g_nm 5 sc_ask_text.nd) g_nil)))))) (s_cons (s_set 1 sc_ask_text.nd (ge_add okn (ge_add okn (k_strI okn z_str (kv 2)) k_str) (k_strI okn z_str (kv 3)))) (s_cons (s_retN (ge_add okn (ge_add okn (kv 1) (ge_ite (t_cmp (c_isn okn) (kv 4) k_non) (ge_add okn k_str (k_strI okn z_str (kv 4))) k_str)) (ge_ite (t_cmp (c_isn okn) (kv 5) k_non) (ge_add okn k_str (k_strI okn z_str (kv 5))) k_str))) s_nil)))
/-! ### write_program -/
abbrev s_write_program : Stmt := top 46
abbrev N_write_program : List Str := ["program", "rows", "row", "item", "ask"]
def b_write_program : List Stm := [(.expr false (.call 0 [(.var 0)])), (.asg (.nm 1) (.comp [2] (.blt .joinS [(.cst (.str [32])), (.comp [3] (.op .add (.op .add (.cst (.str [91])) (.blt .joinS [(.cst (.str [32])), (.comp [4] (.call 1 [(.var 4)]) (.nm 4) (.seq (.var 3)) [])])) (.cst (.str [93]))) (.nm 3) (.seq (.var 2)) [])]) (.nm 2) (.seq (.var 0)) [])), (.ret false (.blt .joinS [(.cst (.str [32, 124, 32])), (.var 1)]))]
def φ_write_program : List D → R D := runF (tabL [φ_need_program, φ_ask_text] []) 5 b_write_program
theorem sc_write_program : FnScope N_write_program ["program"] (defScope s_write_program) := ⟨rfl, rfl, rfl, by decide +kernel, rfl, by decide +kernel, by decide +kernel⟩
theorem ok_write_program {P : Program} {w : World} {K : PySem.W.Frag} {mg : Str → Option Value} {base : Heap} {f : Addr} {fd : FuncData} (F : FnP K "write_program" s_write_program f fd) (C_need_program : Cal P w K mg base 4 "need_program" ["program"] (spF K 1 φ_need_program)) (C_ask_text : Cal P w K mg base 1 "ask_text" ["ask"] (spF K 1 φ_ask_text)) : FnOk P w K mg base CX0 5 f fd ["program"] (spF K 1 φ_write_program) := by
  refine def_Fn (k := 4) (tabL [φ_need_program, φ_ask_text] []) [] none (xcOf K errs) b_write_program 5 1 rfl rfl F sc_write_program (by decide) (by decide) fun cdv A outer s H E hr => ?_
  have okn : Ok (Cfg.mk K (tabL [φ_need_program, φ_ask_text] []) [] none (xcOf K errs) (fun _ _ _ => False) none []).non (cxF P w K mg base N_write_program "write_program" s_write_program f cdv A outer s H E) := okX (k := 4) rfl rfl hr
  have oka : Ok (Cfg.mk K (tabL [φ_need_program, φ_ask_text] []) [] none (xcOf K errs) (fun _ _ _ => False) none []).all (cxF P w K mg base N_write_program "write_program" s_write_program f cdv A outer s H E) := okX (k := 4) rfl rfl hr
  have hr : Room (4) (cxF P w K mg base N_write_program "write_program" s_write_program f cdv A outer s H E).A := hr
  exact (s_cons (s_exprN (k_call okn C_need_program hr (a_cons (kv 0) a_nil))) (s_cons (s_setLc 1 (own := [("row", 2)]) okn sc_write_program.nd (w_seq okn (kv 0)) (show BlkOk N_write_program (defScope s_write_program) _ [("row", 2)] from ⟨rfl, by decide +kernel, by decide +kernel, by decide +kernel, by decide +kernel⟩) (fun _ _ _ _ _ => (g_nm 2 sc_write_program.nd)) (fun _ _ _ _ _ o1 => c_nil) (fun _ _ _ _ _ o1 => (k_join o1 k_str (k_f (f_lc (own := [("item", 3)]) o1 sc_write_program.nd (w_seq o1 (kv 2)) (show BlkOk N_write_program (relS _ (defScope s_write_program)) _ [("item", 3)] from ⟨rfl, by decide +kernel, by decide +kernel, by decide +kernel, by decide +kernel⟩) (fun _ _ _ _ _ => (g_nm 3 sc_write_program.nd)) (fun _ _ _ _ _ o2 => c_nil) (fun _ _ _ _ _ o2 => (ge_add o2 (ge_add o2 k_str (k_join o2 k_str (k_f (f_lc (own := [("ask", 4)]) o2 sc_write_program.nd (w_seq o2 (kv 3)) (show BlkOk N_write_program (relS _ (relS _ (defScope s_write_program))) _ [("ask", 4)] from ⟨rfl, by decide +kernel, by decide +kernel, by decide +kernel, by decide +kernel⟩) (fun _ _ _ _ _ => (g_nm 4 sc_write_program.nd)) (fun _ _ _ _ _ o3 => c_nil) (fun _ _ _ _ _ o3 => (k_call o3 C_ask_text hr (a_cons (kv 4) a_nil))))))) k_str))))))) (s_cons (s_retN (k_join okn k_str (kv 1))) s_nil)))
/-! ### check -/
abbrev s_check : Stmt := top 48
abbrev N_check : List Str := ["rows", "places", "hand", "row", "index", "item", "at", "place", "other", "mark", "low", "high"]
def b_check : List Stm := [(.forS false (.tp [(.nm 2), (.nm 3)]) (.enm (.var 0)) [(.forS false (.tp [(.nm 4), (.nm 5)]) (.enm (.var 3)) [(.forS false (.tp [(.nm 6), (.tp [(.nm 8), (.nm 9), (.nm 10), (.nm 11)])]) (.enm (.var 5)) [(.asg (.nm 7) (.ix (.ix (.ix (.var 1) (.var 2)) (.var 4)) (.var 6))), (.ite false (.or (.cmp .eq (.var 8) (.var 2)) (.or (.cmp .ge (.var 8) (.blt .len [(.var 0)])) (.cmp .ge (.var 9) (.blt .len [(.ix (.var 0) (.var 8))])))) [(.raise .text (some (.var 7)))] []), (.ite false (.or (.and (.cmp .gt (.var 6) (.cst (.int 0))) (.cmp .le (.tup [(.var 8), (.var 9)]) (.slc (.ix (.var 5) (.op .sub (.var 6) (.cst (.int 1)))) (.cst .non) (.cst (.int 2))))) (.and (.cmp .isn (.var 10) (.cst .non)) (.and (.cmp .isn (.var 11) (.cst .non)) (.cmp .gt (.var 10) (.var 11))))) [(.raise .text (some (.var 7)))] [])])])])]
def φ_check : List D → R D := runF (tabL [] []) 12 b_check
theorem sc_check : FnScope N_check ["rows", "places"] (defScope s_check) := ⟨rfl, rfl, rfl, by decide +kernel, rfl, by decide +kernel, by decide +kernel⟩
theorem ok_check {P : Program} {w : World} {K : PySem.W.Frag} {mg : Str → Option Value} {base : Heap} {f : Addr} {fd : FuncData} (F : FnP K "check" s_check f fd) (z_enumerate : mg "enumerate" = none) (z_len : mg "len" = none) (R_InvalidText : RaC P w K mg base 1 "InvalidText" (He.ga K "InvalidText") "place") : FnOk P w K mg base (L2.CX P w) 3 f fd ["rows", "places"] (spX K 2 (xcOf K errs) φ_check) := by
  refine def_X (k := 2) (tabL [] []) [] (xcOf K errs) b_check 12 2 rfl rfl F sc_check (by decide) (by decide) fun cdv A outer s H E hr => ?_
  have tk : Takes (cxX P w K mg base N_check "check" s_check f cdv A outer s H E) (fun cls d _ H => E cls d H) := takes_of rfl rfl rfl rfl
  have okn : Ok (Cfg.mk K (tabL [] []) [] none (xcOf K errs) E none []).non (cxX P w K mg base N_check "check" s_check f cdv A outer s H E) := okX (k := 2) rfl rfl hr
  have oka : Ok (Cfg.mk K (tabL [] []) [] none (xcOf K errs) E none []).all (cxX P w K mg base N_check "check" s_check f cdv A outer s H E) := okX (k := 2) rfl rfl hr
  have hr : Room (2) (cxX P w K mg base N_check "check" s_check f cdv A outer s H E).A := hr
  exact (s_cons (s_for rfl (w_enm okn z_enumerate (kv 0)) (g_tup rfl rfl (g_cons (g_nm 2 sc_check.nd) (g_cons (g_nm 3 sc_check.nd) g_nil))) (s_cons (s_for rfl (w_enm okn z_enumerate (kv 3)) (g_tup rfl rfl (g_cons (g_nm 4 sc_check.nd) (g_cons (g_nm 5 sc_check.nd) g_nil))) (s_cons (s_for rfl (w_enm okn z_enumerate (kv 5)) (g_tup rfl rfl (g_cons (g_nm 6 sc_check.nd) (g_cons (g_tup rfl rfl (g_cons (g_nm 8 sc_check.nd) (g_cons (g_nm 9 sc_check.nd) (g_cons (g_nm 10 sc_check.nd) (g_cons (g_nm 11 sc_check.nd) g_nil))))) g_nil))) (s_cons (s_set 7 sc_check.nd (k_ix okn (k_ix okn (k_ix okn (kv 1) (kv 2)) (kv 4)) (kv 6))) (s_cons (s_iteN (PW.pt (gw_or (t_cmp (c_eq okn) (kv 8) (kv 2)) (gw_or (t_cmp (c_ge okn) (kv 8) (k_len okn z_len (kv 0))) (pw_or1 (t_cmp (c_ge okn) (kv 9) (k_len okn z_len (k_ix okn (kv 0) (kv 8)))))))) (s_cons (s_raise R_InvalidText rfl tk hr (kv 7)) s_nil) s_nil) (s_cons (s_iteN (PW.pt (gw_or (PW.pt (gw_and (t_cmp (c_gt okn) (kv 6) k_int) (pw_and1 (t_cmp (c_le okn) (ge_tup (a_cons (kv 8) (a_cons (kv 9) a_nil))) (k_slc okn (k_ix okn (kv 5) (ge_sub (kv 6) k_int)) s_none (s_some k_int)))))) (pw_or1 (PW.pt (gw_and (t_cmp (c_isn okn) (kv 10) k_non) (gw_and (t_cmp (c_isn okn) (kv 11) k_non) (pw_and1 (t_cmp (c_gt okn) (kv 10) (kv 11))))))))) (s_cons (s_raise R_InvalidText rfl tk hr (kv 7)) s_nil) s_nil) s_nil)))) s_nil)) s_nil)) s_nil)
/-! ### read_program -/
abbrev s_read_program : Stmt := top 49
/-! ### _law_alike -/
abbrev s__law_alike : Stmt := top 51
abbrev N__law_alike : List Str := ["_law_found", "_law_due", "_law_k"]
def b__law_alike : List Stm := [(.ite false (.blt .isSeq [(.var 1)]) [(.ite false (.or (.not (.blt .isSeq [(.var 0)])) (.cmp .ne (.blt .isList [(.var 0)]) (.blt .isList [(.var 1)]))) [(.ret false (.cst (.bl false)))] []), (.ite false (.cmp .ne (.blt .len [(.var 0)]) (.blt .len [(.var 1)])) [(.ret false (.cst (.bl false)))] []), (.ret false (.cmp .eq (.comp [2] (.var 2) (.nm 2) (.rng [(.blt .len [(.var 1)])]) [(.not (.call 0 [(.ix (.var 0) (.var 2)), (.ix (.var 1) (.var 2))]))]) (.lst [])))] []), (.ite false (.or (.cmp .is (.var 1) (.cst .non)) (.blt .isStr [(.var 1)])) [(.ret false (.and (.cmp .eq (.var 0) (.var 1)) (.cmp .eq (.blt .isStr [(.var 0)]) (.blt .isStr [(.var 1)]))))] []), (.ret false (.and (.blt .isInt [(.var 0)]) (.and (.cmp .eq (.blt .isBool [(.var 0)]) (.blt .isBool [(.var 1)])) (.cmp .eq (.var 0) (.var 1)))))]
def φ__law_alike : Nat → List D → R D
  | 0 => fun _ => .stuck
  | n + 1 => runF (tabL [φ__law_alike n] []) 3 b__law_alike
theorem sc__law_alike : FnScope N__law_alike ["_law_found", "_law_due"] (defScope s__law_alike) := ⟨rfl, rfl, rfl, by decide +kernel, rfl, by decide +kernel, by decide +kernel⟩
theorem ok__law_alike {P : Program} {w : World} {K : PySem.W.Frag} {mg : Str → Option Value} {base : Heap} {f : Addr} {fd : FuncData} (F : FnP K "_law_alike" s__law_alike f fd) (mF : mg "_law_alike" = some (.ref f)) (bF : Binds K fd ["_law_found", "_law_due"] []) (z_isinstance : mg "isinstance" = none) (z_tuple : mg "tuple" = none) (z_list : mg "list" = none) (z_len : mg "len" = none) (z_range : mg "range" = none) (z_str : mg "str" = none) (z_int : mg "int" = none) (z_bool : mg "bool" = none) : ∀ n : Nat, FnOk P w K mg base CX0 (n + 0) f fd ["_law_found", "_law_due"] (spF K 2 (φ__law_alike n))
  | 0 => ⟨fun vs H Q E h => h.1, fun A outer s H args us vs Q E _ _ _ _ h => by
    obtain ⟨_, _, _, _, _, _, _, _, e, _⟩ := h
    cases e⟩
  | n + 1 => by
    have C__law_alike : Cal P w K mg base (n + 0) "_law_alike" ["_law_found", "_law_due"] (spF K 2 (φ__law_alike n)) := ⟨_, _, mF, F.kp, bF, (ok__law_alike F mF bF z_isinstance z_tuple z_list z_len z_range z_str z_int z_bool n).up⟩
    have h : FnOk P w K mg base CX0 (n + 0 + 1) f fd ["_law_found", "_law_due"] (spF K 2 (runF (tabL [φ__law_alike n] []) 3 b__law_alike)) := by
      refine def_Fn (k := n + 0) (tabL [φ__law_alike n] []) [] none (xcOf K errs) b__law_alike 3 2 rfl rfl F sc__law_alike (by decide) (by decide) fun cdv A outer s H E hr => ?_
      have okn : Ok (Cfg.mk K (tabL [φ__law_alike n] []) [] none (xcOf K errs) (fun _ _ _ => False) none []).non (cxF P w K mg base N__law_alike "_law_alike" s__law_alike f cdv A outer s H E) := okX (k := n + 0) rfl rfl hr
      have oka : Ok (Cfg.mk K (tabL [φ__law_alike n] []) [] none (xcOf K errs) (fun _ _ _ => False) none []).all (cxF P w K mg base N__law_alike "_law_alike" s__law_alike f cdv A outer s H E) := okX (k := n + 0) rfl rfl hr
      have hr : Room (n + 0) (cxF P w K mg base N__law_alike "_law_alike" s__law_alike f cdv A outer s H E).A := hr
      exact (s_cons (s_iteN (t_val (k_isSeq okn z_isinstance z_tuple z_list (kv 1))) (s_cons (s_iteN (PW.pt (gw_or (gt_not (t_val (k_isSeq okn z_isinstance z_tuple z_list (kv 0)))) (pw_or1 (t_cmp (c_ne okn) (k_isList okn z_isinstance z_list (kv 0)) (k_isList okn z_isinstance z_list (kv 1)))))) (s_cons (s_retN k_bl) s_nil) s_nil) (s_cons (s_iteN (t_cmp (c_ne okn) (k_len okn z_len (kv 0)) (k_len okn z_len (kv 1))) (s_cons (s_retN k_bl) s_nil) s_nil) (s_cons (s_retN (k_cmp (c_eq okn) (k_f (f_lc (own := [("_law_k", 2)]) okn sc__law_alike.nd (w_rng1 z_range (k_len okn z_len (kv 1))) (show BlkOk N__law_alike (defScope s__law_alike) _ [("_law_k", 2)] from ⟨rfl, by decide +kernel, by decide +kernel, by decide +kernel, by decide +kernel⟩) (fun _ _ _ _ _ => (g_nm 2 sc__law_alike.nd)) (fun _ _ _ _ _ o1 => (c_one (gt_not (t_val (k_call o1 C__law_alike hr (a_cons (k_ix o1 (kv 0) (kv 2)) (a_cons (k_ix o1 (kv 1) (kv 2)) a_nil)) (hk := Nat.le_refl _)))))) (fun _ _ _ _ _ o1 => (kv 2)))) (k_f (gf_lst a_nil)))) s_nil))) s_nil) (s_cons (s_iteN (PW.pt (gw_or (t_cmp (c_is okn) (kv 1) k_non) (pw_or1 (t_val (k_isStr okn z_isinstance z_str (kv 1)))))) (s_cons (s_retN (ge_and (k_cmp (c_eq okn) (kv 0) (kv 1)) (pe_one (k_cmp (c_eq okn) (k_isStr okn z_isinstance z_str (kv 0)) (k_isStr okn z_isinstance z_str (kv 1)))))) s_nil) s_nil) (s_cons (s_retN (ge_and (k_isInt okn z_isinstance z_int (kv 0)) (ge_and (k_cmp (c_eq okn) (k_isBool okn z_isinstance z_bool (kv 0)) (k_isBool okn z_isinstance z_bool (kv 1))) (pe_one (k_cmp (c_eq okn) (kv 0) (kv 1)))))) s_nil)))
    have e : n + 1 + 0 = n + 0 + 1 := by omega
    rw [e]
    exact h
end L
namespace L
open PySem L2 G
variable [TQ]
/-! ### class Reader, by hand -/
abbrev m_init : Stmt := inClass (top tRd) 0
abbrev m_sign : Stmt := inClass (top tRd) 1
abbrev m_skip : Stmt := inClass (top tRd) 2
abbrev m_take : Stmt := inClass (top tRd) 3
abbrev m_number : Stmt := inClass (top tRd) 4
abbrev m_ask : Stmt := inClass (top tRd) 5
abbrev m_item : Stmt := inClass (top tRd) 6
theorem f_at_text : ¬ (("at" : Str) = "text") := by decide +kernel
theorem f_read_text : ¬ (("read" : Str) = "text") := by decide +kernel
theorem f_read_at : ¬ (("read" : Str) = "at") := by decide +kernel
theorem f_text_at : ¬ (("text" : Str) = "at") := by decide +kernel
theorem f_text_read : ¬ (("text" : Str) = "read") := by decide +kernel
theorem f_at_read : ¬ (("at" : Str) = "read") := by decide +kernel
/-- the fields, in the order in which __init__ stores them -/
def fl3 (t : Str) (i r : Int) : List (Str × V) := putF "read" (.int r) (putF "at" (.int i) (putF "text" (.str t) []))
theorem fl3_eq (t : Str) (i r : Int) : fl3 t i r = [(("text" : Str), V.str t), (("at" : Str), V.int i), (("read" : Str), V.int r)] := by
  unfold fl3
  simp only [putF, if_neg f_text_at, if_neg f_text_read, if_neg f_at_read]
theorem fl3_text (t : Str) (i r : Int) : (fl3 t i r).lookup ("text" : Str) = some (.str t) := by
  unfold fl3
  rw [lookup_putF, if_neg f_text_read, lookup_putF, if_neg f_text_at, lookup_putF, if_pos rfl]
theorem fl3_at (t : Str) (i r : Int) : (fl3 t i r).lookup ("at" : Str) = some (.int i) := by
  unfold fl3
  rw [lookup_putF, if_neg f_at_read, lookup_putF, if_pos rfl]
theorem fl3_read (t : Str) (i r : Int) : (fl3 t i r).lookup ("read" : Str) = some (.int r) := by
  unfold fl3
  rw [lookup_putF, if_pos rfl]
theorem fl3_no (t : Str) (i r : Int) {m : Str} (h1 : ¬ m = "text") (h2 : ¬ m = "at") (h3 : ¬ m = "read") : (fl3 t i r).lookup m = none := by
  unfold fl3
  rw [lookup_putF, if_neg h3, lookup_putF, if_neg h2, lookup_putF, if_neg h1]
  rfl
theorem put_at (t : Str) (i r j : Int) : putF "at" (.int j) (fl3 t i r) = fl3 t j r := by
  rw [fl3_eq, fl3_eq]
  simp only [putF, if_neg f_text_at, if_pos]
theorem put_read (t : Str) (i r j : Int) : putF "read" (.int j) (fl3 t i r) = fl3 t i j := by
  rw [fl3_eq, fl3_eq]
  simp only [putF, if_neg f_text_read, if_neg f_at_read, if_pos]
/-- a Reader stands at p -/
def RdAt (C : Addr) (H : Hp) (p : Addr) (t : Str) (i r : Int) : Prop := ∃ dx, H p = some (.ins C dx (fl3 t i r))
/-- all stands as it stood but what lies at p -/
def But (p : Addr) (H H' : Hp) : Prop := ∀ b o, H b = some o → b ≠ p → H' b = some o
theorem But.refl (p : Addr) (H : Hp) : But p H H := fun _ _ e _ => e
theorem But.trans {p : Addr} {H H1 H2 : Hp} (a : But p H H1) (b : But p H1 H2) : But p H H2 := fun x o e n => b x o (a x o e n) n
theorem But.upd {p : Addr} {H : Hp} {o : HO} : But p H (L2.upd H p o) := fun b o' e n => by rw [upd_ne n]; exact e
/-- what the class is -/
structure RdC (K : PySem.W.Frag) (C : Addr) : Prop where
  cl : Cls K C
  nT : NoAttr K C "text"
  nA : NoAttr K C "at"
  nR : NoAttr K C "read"
def spInitR (C : Addr) : Sp := fun vs H Q _ => ∃ (p dx : Addr) (t : Str), vs = [.ref p, .str t] ∧ H p = some (.ins C dx []) ∧ ∀ H', RdAt C H' p t 0 0 → But p H H' → Q .non H'
/-- the sign at a place -/
def sgT (t : Str) (i : Nat) : Str := mkS ((t.cps.toList.drop i).take 1)
def spSign (C : Addr) : Sp := fun vs H Q _ => ∃ (p : Addr) (t : Str) (i : Nat) (r : Int), vs = [.ref p] ∧ RdAt C H p t i r ∧ t.length ≤ 16777216 ∧ Q (.str (sgT t i)) H
theorem scRI : FnScope ["self", "text"] ["self", "text"] (defScope m_init) := ⟨rfl, rfl, rfl, by decide +kernel, rfl, by decide +kernel, by decide +kernel⟩
theorem scRs : FnScope ["self"] ["self"] (defScope m_sign) := ⟨rfl, rfl, rfl, by decide +kernel, rfl, by decide +kernel, by decide +kernel⟩
theorem scRk : FnScope ["self"] ["self"] (defScope m_skip) := ⟨rfl, rfl, rfl, by decide +kernel, rfl, by decide +kernel, by decide +kernel⟩
theorem cut_sg (t : Str) (i : Nat) : cutS t (some (i : Int)) (some ((i : Int) + 1)) = sgT t i := by
  unfold cutS sgT
  have hl : t.length = t.cps.toList.length := by simp [Str.length]
  rw [show ((i : Int) + 1) = ((i + 1 : Nat) : Int) from rfl, HT.sIx_nat, HT.sIx_nat, hl]
  congr 2
  rcases Nat.lt_or_ge i t.cps.toList.length with h | h
  · rw [Nat.min_eq_left (by omega), Nat.min_eq_left (by omega), Nat.add_sub_cancel_left]
  · rw [Nat.min_eq_right h, Nat.min_eq_right (by omega), List.drop_eq_nil_of_le (Nat.le_refl _), List.drop_eq_nil_of_le h, List.take_nil, List.take_nil]
theorem scRt : FnScope ["self", "sign"] ["self", "sign"] (defScope m_take) := ⟨rfl, rfl, rfl, by decide +kernel, rfl, by decide +kernel, by decide +kernel⟩
/-- the error that leaves, at a place -/
def badAt (Ci : Addr) (E : XK) (H : Hp) (i : Int) : Prop := ∀ d, H d = none → E (.ref Ci) (some d) (upd H d (.xd [(("place" : Str), V.int i)]))
def spTake (C Ci : Addr) : Sp := fun vs H Q E => ∃ (p : Addr) (t g : Str) (i : Nat) (r : Int), vs = [.ref p, .str g] ∧ RdAt C H p t i r ∧ t.length ≤ 16777216 ∧ if sgT t i = g then ∀ H', RdAt C H' p t (i + 1 : Nat) r → But p H H' → Q .non H' else badAt Ci E H i
def muR (t : Str) (p : Addr) (H : Hp) : Nat := match H p with
  | some (.ins _ _ fs) => match fs.lookup ("at" : Str) with
    | some (.int j) => (t.cps.toList.length + 1 - j).toNat
    | _ => 0
  | _ => 0
/-- past the spaces -/
def skT (t : List Nat) : Nat → Nat → Nat
  | 0, i => i
  | n + 1, i => if (t.drop i).take 1 = [32] then skT t n (i + 1) else i
def spSkip (C : Addr) : Sp := fun vs H Q _ => ∃ (p : Addr) (t : Str) (i : Nat) (r : Int), vs = [.ref p] ∧ RdAt C H p t i r ∧ t.length ≤ 16777216 ∧ ∀ H', RdAt C H' p t (skT t.cps.toList (t.cps.toList.length - i) i : Nat) r → But p H H' → Q .non H'
section
variable {P : Program} {w : World} {K : PySem.W.Frag} {mg : Str → Option Value} {base : Heap} {C : Addr} (T : RdC K C)
include T
theorem okRI {f : Addr} {fd : FuncData} (F : FunD K "__init__" "Reader.__init__" (defArgs m_init) (defBody m_init) (defScope m_init) [] [] f fd) : FnOk P w K mg base CX0 1 f fd ["self", "text"] (spInitR C) := by
  refine F.ok scRI (fun vs H Q E h => ?_) (fun cdv A outer s H vs Q E hr h => ?_)
  · obtain ⟨p, dx, t, rfl, _⟩ := h
    rfl
  · obtain ⟨p, dx, t, rfl, hp, k⟩ := h
    refine ⟨_, pss_cons (ps_fld (pv 0) (pv 1) rfl) (pss_cons (ps_fld (pv 0) pe_int rfl) (pss_one (ps_fld (pv 0) pe_int rfl))), ?_⟩
    refine ⟨_, rfl, _, rfl, p, C, dx, [], rfl, hp, T.cl, T.nT, (by show 0 < 1000; decide), _, rfl, p, C, dx, _, rfl, upd_same, T.cl, T.nA, (by show 1 < 1000; decide), _, rfl, p, C, dx, _, rfl, upd_same, T.cl, T.nR, ?_, ?_⟩
    · simp only [putF, if_neg f_text_at]
      show 2 < 1000
      decide
    · refine k _ ⟨dx, upd_same⟩ fun b o e n => ?_
      rw [upd_ne n, upd_ne n, upd_ne n]
      exact e
theorem okRs {f : Addr} {fd : FuncData} (F : FunD K "sign" "Reader.sign" (defArgs m_sign) (defBody m_sign) (defScope m_sign) [] [] f fd) : FnOk P w K mg base CX0 1 f fd ["self"] (spSign C) := by
  refine F.ok scRs (fun vs H Q E h => ?_) (fun cdv A outer s H vs Q E hr h => ?_)
  · obtain ⟨p, t, i, r, rfl, _⟩ := h
    rfl
  · obtain ⟨p, t, i, r, rfl, ⟨dx, hp⟩, ht, k⟩ := h
    refine ⟨_, pss_one (ps_ret (pe_slice sl_str (pe_fld (pv 0) rfl) (po_some (pe_fld (pv 0) rfl)) (po_some (pe_op op_add (pe_fld (pv 0) rfl) pe_int)))), ?_⟩
    refine ⟨_, rfl, p, C, dx, _, _, rfl, hp, T.cl, T.nT, fl3_text _ _ _, _, rfl, p, C, dx, _, _, rfl, hp, T.cl, T.nA, fl3_at _ _ _, _, rfl, _, rfl, p, C, dx, _, _, rfl, hp, T.cl, T.nA, fl3_at _ _ _, _, _, rfl, rfl, _, rfl, t, rfl, ht, ?_⟩
    rw [cut_sg]
    exact k
theorem okRk {f fS : Addr} {fd fdS : FuncData} (F : FunD K "skip" "Reader.skip" (defArgs m_skip) (defBody m_skip) (defScope m_skip) [] [] f fd) (GS : FnOk P w K mg base CX0 1 fS fdS ["self"] (spSign C)) (bS : Binds K fdS ["self"] []) (mS : Meth K C "sign" fS) : FnOk P w K mg base CX0 2 f fd ["self"] (spSkip C) := by
  refine F.ok scRk (fun vs H Q E h => ?_) (fun cdv A outer s H vs Q E hr h => ?_)
  · obtain ⟨p, t, i, r, rfl, _⟩ := h
    rfl
  · obtain ⟨p, t, i, r, rfl, hp, ht, k⟩ := h
    have hr1 : Room 1 _ := hr.mono (by decide)
    refine ⟨_, pss_one (ps_while (passes_of rfl) (pt_cmpR op_eq (pe_meth0 (pv 0) T.cl mS GS hr1 bS .nil pass0) pe_str (nomark _)) (pss_one (ps_fldaug (pv 0) pe_int iop_add))), ?_⟩
    refine while_by (fun σ H' => ∃ j : Nat, σ = [some (.ref p)] ∧ RdAt C H' p t j r ∧ But p H H' ∧ skT t.cps.toList (t.cps.toList.length - j) j = skT t.cps.toList (t.cps.toList.length - i) i) (fun σ H' => muR t p H') ⟨i, rfl, hp, But.refl _ _, rfl⟩ ?_ ?_
    · rintro σ H1 ⟨j, rfl, ⟨dx, hj⟩, hb, he⟩
      refine ⟨_, rfl, p, dx, _, rfl, hj, fl3_no _ _ _ (by decide +kernel) (by decide +kernel) (by decide +kernel), p, t, j, r, rfl, ⟨dx, hj⟩, ht, ?_⟩
      refine ⟨rfl, _, rfl, ?_⟩
      by_cases hsp : (t.cps.toList.drop j).take 1 = [32]
      · have hd : decide (V.str (sgT t j) = V.str (" " : Str)) = true := decide_eq_true (by
          unfold sgT
          rw [hsp]
          rfl)
        rw [hd]
        refine iteT ?_
        have hlt : j < t.cps.toList.length := by
          rcases Nat.lt_or_ge j t.cps.toList.length with h | h
          · exact h
          · rw [List.drop_eq_nil_of_le h] at hsp
            cases hsp
        refine ⟨_, rfl, p, C, dx, _, _, rfl, hj, T.cl, T.nA, fl3_at _ _ _, _, _, rfl, rfl, dx, _, hj, (by rw [fl3_eq]; show 3 < 1000; decide), ?_⟩
        rw [put_at, show ((j : Int) + 1) = ((j + 1 : Nat) : Int) from rfl]
        have hk : skT t.cps.toList (t.cps.toList.length - j) j = skT t.cps.toList (t.cps.toList.length - (j + 1)) (j + 1) := by
          rw [show t.cps.toList.length - j = (t.cps.toList.length - (j + 1)) + 1 by omega, skT, if_pos hsp]
        have m1 : muR t p H1 = (t.cps.toList.length + 1 - (j : Int)).toNat := by
          unfold muR
          rw [hj]
          dsimp only
          rw [fl3_at]
        have m2 : muR t p (upd H1 p (.ins C dx (fl3 t ((j + 1 : Nat) : Int) r))) = (t.cps.toList.length + 1 - ((j + 1 : Nat) : Int)).toNat := by
          unfold muR
          rw [upd_same]
          dsimp only
          rw [fl3_at]
        refine ⟨⟨j + 1, rfl, ⟨dx, upd_same⟩, hb.trans But.upd, by rw [← hk]; exact he⟩, ?_⟩
        rw [m1, m2]
        omega
      · have hd : decide (V.str (sgT t j) = V.str (" " : Str)) = false := decide_eq_false (fun e => hsp (by
          have e1 : sgT t j = (" " : Str) := V.str.inj e
          have e2 := congrArg (fun x : Str => x.cps.toList) e1
          have e3 : (sgT t j).cps.toList = (t.cps.toList.drop j).take 1 := rfl
          rw [← e3]
          exact e2))
        rw [hd]
        refine iteF ?_
        have hk : skT t.cps.toList (t.cps.toList.length - j) j = j := by
          cases t.cps.toList.length - j with
          | zero => rfl
          | succ n => rw [skT, if_neg hsp]
        rw [hk] at he
        exact k H1 (by rw [← he]; exact ⟨dx, hj⟩) hb
    · intro σ H Q Q' hq h
      obtain ⟨x, hx, a, dx, fs, e1, e2, e3, p', t', i', r', e4, e5, e6, e7, k', e8, e9⟩ := h
      exact ⟨x, hx, a, dx, fs, e1, e2, e3, p', t', i', r', e4, e5, e6, e7, k', e8, hq _ _ e9⟩
theorem okRt {kx : Nat} {Ci f fS : Addr} {fd fdS : FuncData} (F : FunD K "take" "Reader.take" (defArgs m_take) (defBody m_take) (defScope m_take) [] [] f fd) (rc : RaC P w K mg base 1 "InvalidText" Ci "place") (GS : FnOk P w K mg base CX0 1 fS fdS ["self"] (spSign C)) (bS : Binds K fdS ["self"] []) (mS : Meth K C "sign" fS) : FnOk P w K mg base (L2.CX P w) 3 f fd ["self", "sign"] (spTake C Ci) := by
  refine F.ok scRt (fun vs H Q E h => ?_) (fun cdv A outer s H vs Q E hr h => ?_)
  · obtain ⟨p, t, g, i, r, rfl, _⟩ := h
    rfl
  · obtain ⟨p, t, g, i, r, rfl, ⟨dx, hp⟩, ht, k⟩ := h
    have hr1 : Room 1 _ := hr.mono (by decide)
    have hr2 : Room 2 _ := hr.mono (by decide)
    have tk : Takes (cxX P w K mg base ["self", "sign"] "Reader.take" m_take f cdv A outer s H E) (fun cls d _ H => E cls d H) := takes_of rfl rfl rfl rfl
    refine ⟨_, pss_cons (ps_if (pt_cmpR op_ne (pe_meth0 (pv 0) T.cl mS GS.up hr1 bS .nil passE0) (pv 1) (nomark _)) (pss_one (ps_ri rc rfl tk hr2 (pe_fld (pv 0) rfl) (fun σ H Q Q' hq h => ?_))) pss_nil) (pss_one (ps_fldaug (pv 0) pe_int iop_add)), ?_⟩
    · obtain ⟨x, hx, a, C', dx', fs, v, e1, e2, e3, e4, e5, e6⟩ := h
      exact ⟨x, hx, a, C', dx', fs, v, e1, e2, e3, e4, e5, hq _ _ e6⟩
    · refine ⟨_, rfl, p, dx, _, rfl, hp, fl3_no _ _ _ (by decide +kernel) (by decide +kernel) (by decide +kernel), p, t, i, r, rfl, ⟨dx, hp⟩, ht, ?_⟩
      refine ⟨_, rfl, rfl, _, rfl, ?_⟩
      by_cases hg : sgT t i = g
      · rw [if_pos hg] at k
        rw [decide_eq_true (by rw [hg])]
        refine iteF ?_
        refine ⟨_, rfl, p, C, dx, _, _, rfl, hp, T.cl, T.nA, fl3_at _ _ _, _, _, rfl, rfl, dx, _, hp, (by rw [fl3_eq]; show 3 < 1000; decide), ?_⟩
        rw [put_at, show ((i : Int) + 1) = ((i + 1 : Nat) : Int) from rfl]
        exact k _ ⟨dx, upd_same⟩ But.upd
      · rw [if_neg hg] at k
        rw [decide_eq_false (fun e => hg (V.str.inj e))]
        refine iteT ?_
        exact ⟨_, rfl, p, C, dx, _, _, rfl, hp, T.cl, T.nA, fl3_at _ _ _, k⟩
end
end L
namespace L
open PySem L2 G
variable [TQ]
/-! ### number -/
def digB (c : Nat) : Bool := decide (48 ≤ c) && decide (c ≤ 57)
/-- a number of one digit, or a digit behind a sign below 0: where it can't be read, or the number and the place behind it -/
def numT (t : List Nat) (i : Nat) (least most : Int) : Except Nat (Int × Nat) :=
  let low : Bool := decide (least < 0) && decide (t[i]? = some 45)
  let j := if low = true then i + 1 else i
  match t[j]? with
  | none => .error j
  | some c => if digB c = true then
      let v : Int := if low = true then -((c : Int) - 48) else (c : Int) - 48
      if (decide (least ≤ v) && decide (v ≤ most) && !(low && decide (v = 0))) = true then .ok (v, j + 1) else .error j
    else .error j
theorem sg_some {t : Str} {j c : Nat} (h : t.cps.toList[j]? = some c) : sgT t j = (⟨#[c]⟩ : Str) := by
  unfold sgT
  have : (t.cps.toList.drop j).take 1 = [c] := by
    have hl := (List.getElem?_eq_some_iff.mp h).1
    rw [List.drop_eq_getElem_cons hl, List.take_succ_cons, List.take_zero, (List.getElem?_eq_some_iff.mp h).2]
  rw [this]
theorem sg_none {t : Str} {j : Nat} (h : t.cps.toList[j]? = none) : sgT t j = (⟨#[]⟩ : Str) := by
  unfold sgT
  rw [List.drop_eq_nil_of_le (List.getElem?_eq_none_iff.mp h), List.take_nil]
theorem scRn : FnScope ["self", "least", "most", "low", "found"] ["self", "least", "most"] (defScope m_number) := ⟨rfl, rfl, rfl, by decide +kernel, rfl, by decide +kernel, by decide +kernel⟩
def spNum (C Ci : Addr) : Sp := fun vs H Q E => ∃ (p : Addr) (t : Str) (i : Nat) (r least most : Int), vs = [.ref p, .int least, .int most] ∧ RdAt C H p t i r ∧ t.length ≤ 16777216 ∧ match numT t.cps.toList i least most with
  | .ok (v, j) => ∀ H', RdAt C H' p t j r → But p H H' → Q (.int v) H'
  | .error j => ∀ H', But p H H' → badAt Ci E H' j
theorem intText_dig : ∀ c : Nat, digB c = true → PySem.intText? (⟨#[c]⟩ : Str) = some ((c : Int) - 48) := fun c h => by
  unfold digB at h
  rw [Bool.and_eq_true, decide_eq_true_eq, decide_eq_true_eq] at h
  have : c = 48 ∨ c = 49 ∨ c = 50 ∨ c = 51 ∨ c = 52 ∨ c = 53 ∨ c = 54 ∨ c = 55 ∨ c = 56 ∨ c = 57 := by omega
  rcases this with rfl | rfl | rfl | rfl | rfl | rfl | rfl | rfl | rfl | rfl <;> decide +kernel
theorem dig_in (c : Nat) : decide (c ∈ (("0123456789" : Str)).cps.toList) = digB c := by
  have e : (("0123456789" : Str)).cps.toList = [48, 49, 50, 51, 52, 53, 54, 55, 56, 57] := by decide +kernel
  rw [e]
  unfold digB
  rw [Bool.eq_iff_iff]
  simp
  omega
section
variable {P : Program} {w : World} {K : PySem.W.Frag} {mg : Str → Option Value} {base : Heap} {C : Addr} (T : RdC K C)
include T
theorem mono_at {X : Cx} {N : TE} {f : Str} (hN : ∀ σ H Q Q', (∀ v H1, Q v H1 → Q' v H1) → N σ H Q → N σ H Q') : ∀ σ H Q Q', (∀ v H1, Q v H1 → Q' v H1) → tFld X.K N f σ H Q → tFld X.K N f σ H Q' := fun σ H Q Q' hq h => by
  refine hN σ H _ _ (fun x H1 h => ?_) h
  obtain ⟨a, C', dx', fs, v, e1, e2, e3, e4, e5, e6⟩ := h
  exact ⟨a, C', dx', fs, v, e1, e2, e3, e4, e5, hq _ _ e6⟩
theorem okRn {Ci f fS : Addr} {fd fdS : FuncData} (F : FunD K "number" "Reader.number" (defArgs m_number) (defBody m_number) (defScope m_number) [] [] f fd) (rc : RaC P w K mg base 1 "InvalidText" Ci "place") (zi : mg "int" = none) (GS : FnOk P w K mg base CX0 1 fS fdS ["self"] (spSign C)) (bS : Binds K fdS ["self"] []) (mS : Meth K C "sign" fS) : FnOk P w K mg base (L2.CX P w) 3 f fd ["self", "least", "most"] (spNum C Ci) := by
  refine F.ok scRn (fun vs H Q E h => ?_) (fun cdv A outer s H vs Q E hr h => ?_)
  · obtain ⟨p, t, i, r, least, most, rfl, _⟩ := h
    rfl
  · obtain ⟨p, t, i, r, least, most, rfl, ⟨dx, hp⟩, ht, k⟩ := h
    have hr1 : Room 1 _ := hr.mono (by decide)
    have hr2 : Room 2 _ := hr.mono (by decide)
    have tk : Takes (cxX P w K mg base ["self", "least", "most", "low", "found"] "Reader.number" m_number f cdv A outer s H E) (fun cls d _ H => E cls d H) := takes_of rfl rfl rfl rfl
    have tail : ∃ tr : TS, PSs (cxX P w K mg base ["self", "least", "most", "low", "found"] "Reader.number" m_number f cdv A outer s H E) ((defBody m_number).drop 2) tr ∧ ∀ (low : Bool) (j : Nat) (H1 : Hp), RdAt C H1 p t j r → But p H H1 → (match (match t.cps.toList[j]? with
          | none => Except.error j
          | some c => if digB c = true then
              (if (decide (least ≤ (if low = true then -((c : Int) - 48) else (c : Int) - 48)) && decide ((if low = true then -((c : Int) - 48) else (c : Int) - 48) ≤ most) && !(low && decide ((if low = true then -((c : Int) - 48) else (c : Int) - 48) = 0))) = true then Except.ok ((if low = true then -((c : Int) - 48) else (c : Int) - 48), j + 1) else .error j)
            else .error j : Except Nat (Int × Nat)) with
          | .ok (v, j) => ∀ H', RdAt C H' p t j r → But p H H' → Q (.int v) H'
          | .error j => ∀ H', But p H H' → badAt Ci E H' j) → tr { nx := fun _ H' => Q .non H', rt := Q } [some (.ref p), some (.int least), some (.int most), some (.bl low), none] H1 := by
      refine ⟨_, pss_cons (ps_if (pw_or (pt_cmpR op_eq (pe_meth0 (pv 0) T.cl mS GS.up hr1 bS .nil passE0) pe_str (nomark _)) (pw_or1 (pt_cmpR op_notIn_sign (pe_meth0 (pv 0) T.cl mS GS.up hr1 bS .nil passE0) pe_str rfl))).pt (pss_one (ps_ri rc rfl tk hr2 (pe_fld (pv 0) rfl) (mono_at T fun σ H Q Q' hq h => by
          obtain ⟨x, hx, h⟩ := h
          exact ⟨x, hx, hq _ _ h⟩))) pss_nil)
        (pss_cons (ps_set (i := 4) scRn.nd rfl (.inl rfl) (pe_ifExp (pt_val (pv 3)) (pe_un un_neg (pe_callTy call_int_str (by rfl) zi PyProof.Rows.boot_int (pa_cons (pe_meth0 (pv 0) T.cl mS GS.up hr1 bS .nil passE0) pa_nil) (by decide +kernel) (by decide +kernel) rfl rfl)) (pe_callTy call_int_str (by rfl) zi PyProof.Rows.boot_int (pa_cons (pe_meth0 (pv 0) T.cl mS GS.up hr1 bS .nil passE0) pa_nil) (by decide +kernel) (by decide +kernel) rfl rfl)))
        (pss_cons (ps_if (pw_or (pt_not (pt_chain op_le op_le (pv 1) (pv 4) (pv 2))) (pw_or1 (pw_and (pt_val (pv 3)) (pw_and1 (pt_cmpR op_eq (pv 4) pe_int (nomark _)))).pt)).pt (pss_one (ps_ri rc rfl tk hr2 (pe_fld (pv 0) rfl) (mono_at T fun σ H Q Q' hq h => by
          obtain ⟨x, hx, h⟩ := h
          exact ⟨x, hx, hq _ _ h⟩))) pss_nil)
        (pss_cons (ps_fldaug (pv 0) pe_int iop_add)
        (pss_one (ps_ret (pv 4)))))), fun low j H1 hR hB hk => ?_⟩
      obtain ⟨dx1, h1⟩ := hR
      have hno : (fl3 t (j : Nat) r).lookup ("sign" : Str) = none := fl3_no _ _ _ (by decide +kernel) (by decide +kernel) (by decide +kernel)
      refine ⟨_, rfl, p, dx1, _, rfl, h1, hno, p, t, j, r, rfl, ⟨dx1, h1⟩, ht, rfl, _, rfl, ?_⟩
      cases ec : t.cps.toList[j]? with
      | none =>
        rw [ec] at hk
        rw [sg_none ec, decide_eq_true (show V.str (⟨#[]⟩ : Str) = V.str ("" : Str) from rfl)]
        refine iteT (iteT ?_)
        exact ⟨_, rfl, p, C, dx1, _, _, rfl, h1, T.cl, T.nA, fl3_at _ _ _, hk H1 hB⟩
      | some c =>
        rw [ec] at hk
        dsimp only at hk
        rw [sg_some ec, decide_eq_false (show ¬ V.str (⟨#[c]⟩ : Str) = V.str ("" : Str) from fun z => by
          have := congrArg (fun x : Str => x.cps.size) (V.str.inj z)
          cases this)]
        refine iteF ?_
        refine ⟨_, rfl, p, dx1, _, rfl, h1, hno, p, t, j, r, rfl, ⟨dx1, h1⟩, ht, c, _, by rw [sg_some ec], rfl, _, rfl, ?_⟩
        rw [dig_in]
        cases ed : digB c with
        | false =>
          rw [ed] at hk
          refine iteT ?_
          exact ⟨_, rfl, p, C, dx1, _, _, rfl, h1, T.cl, T.nA, fl3_at _ _ _, hk H1 hB⟩
        | true =>
          rw [ed, if_pos rfl] at hk
          refine iteF ?_
          have fin : ∀ v : Int, v = (if low = true then -((c : Int) - 48) else (c : Int) - 48) → True := fun _ _ => trivial
          have hit := intText_dig c ed
          have hl1 : (⟨#[c]⟩ : Str).length ≤ 640 := by show 1 ≤ 640; decide
          refine ⟨_, rfl, low, rfl, ?_⟩
          cases low with
          | true =>
            refine iteT ?_
            refine ⟨_, rfl, p, dx1, _, rfl, h1, hno, p, t, j, r, rfl, ⟨dx1, h1⟩, ht, _, _, rfl, by rw [sg_some ec]; exact hit, by rw [sg_some ec]; exact hl1, _, rfl, ?_⟩
            refine ⟨_, rfl, _, rfl, _, _, rfl, rfl, ?_⟩
            try dsimp only
            replace hk : (match (if (decide (least ≤ -((c : Int) - 48)) && decide (-((c : Int) - 48) ≤ most) && !(true && decide (-((c : Int) - 48) = 0))) = true then Except.ok (-((c : Int) - 48), j + 1) else .error j : Except Nat (Int × Nat)) with
              | .ok (v, j) => ∀ H', RdAt C H' p t j r → But p H H' → Q (.int v) H'
              | .error j => ∀ H', But p H H' → badAt Ci E H' j) := hk
            generalize -((c : Int) - 48) = v at hk ⊢
            refine ⟨_, rfl, ?_⟩
            by_cases e1 : ¬ (least ≤ v)
            · rw [decide_eq_false e1]
              refine iteF ⟨_, rfl, iteT (iteT ?_)⟩
              rw [decide_eq_false e1, Bool.false_and, Bool.false_and, if_neg (by decide)] at hk
              exact ⟨_, rfl, p, C, dx1, _, _, rfl, h1, T.cl, T.nA, fl3_at _ _ _, hk H1 hB⟩
            replace e1 := Decidable.not_not.mp e1
            rw [decide_eq_true e1]
            refine iteT ⟨_, rfl, _, _, rfl, rfl, _, rfl, ?_⟩
            by_cases e2 : ¬ (v ≤ most)
            · rw [decide_eq_false e2]
              refine iteT (iteT ?_)
              rw [decide_eq_false e2, Bool.and_false, Bool.false_and, if_neg (by decide)] at hk
              exact ⟨_, rfl, p, C, dx1, _, _, rfl, h1, T.cl, T.nA, fl3_at _ _ _, hk H1 hB⟩
            replace e2 := Decidable.not_not.mp e2
            rw [decide_eq_true e2]
            refine iteF ?_
            · -- low and found == 0
              refine ⟨_, rfl, _, rfl, iteT ?_⟩
              refine ⟨_, rfl, rfl, _, rfl, ?_⟩
              by_cases e3 : v = 0
              · rw [decide_eq_true (show V.int v = V.int 0 by rw [e3])]
                refine iteT ?_
                rw [decide_eq_true e3] at hk
                rw [Bool.and_true, Bool.not_true, Bool.and_false, if_neg (by decide)] at hk
                exact ⟨_, rfl, p, C, dx1, _, _, rfl, h1, T.cl, T.nA, fl3_at _ _ _, hk H1 hB⟩
              · rw [decide_eq_false (show ¬ V.int v = V.int 0 from fun z => e3 (V.int.inj z))]
                refine iteF ?_
                rw [decide_eq_false e3, decide_eq_true e1, decide_eq_true e2] at hk
                rw [if_pos (by decide)] at hk
                refine ⟨_, rfl, p, C, dx1, _, _, rfl, h1, T.cl, T.nA, fl3_at _ _ _, _, _, rfl, rfl, dx1, _, h1, (by rw [fl3_eq]; show 3 < 1000; decide), ?_⟩
                rw [put_at, show ((j : Int) + 1) = ((j + 1 : Nat) : Int) from rfl]
                exact ⟨_, rfl, hk _ ⟨dx1, upd_same⟩ (hB.trans But.upd)⟩
          | false =>
            refine iteF ?_
            refine ⟨_, rfl, p, dx1, _, rfl, h1, hno, p, t, j, r, rfl, ⟨dx1, h1⟩, ht, _, _, rfl, by rw [sg_some ec]; exact hit, by rw [sg_some ec]; exact hl1, ?_⟩
            refine ⟨_, rfl, _, rfl, _, _, rfl, rfl, ?_⟩
            try dsimp only
            replace hk : (match (if (decide (least ≤ ((c : Int) - 48)) && decide (((c : Int) - 48) ≤ most) && !(false && decide (((c : Int) - 48) = 0))) = true then Except.ok (((c : Int) - 48), j + 1) else .error j : Except Nat (Int × Nat)) with
              | .ok (v, j) => ∀ H', RdAt C H' p t j r → But p H H' → Q (.int v) H'
              | .error j => ∀ H', But p H H' → badAt Ci E H' j) := hk
            generalize ((c : Int) - 48) = v at hk ⊢
            refine ⟨_, rfl, ?_⟩
            by_cases e1 : ¬ (least ≤ v)
            · rw [decide_eq_false e1]
              refine iteF ⟨_, rfl, iteT (iteT ?_)⟩
              rw [decide_eq_false e1, Bool.false_and, Bool.false_and, if_neg (by decide)] at hk
              exact ⟨_, rfl, p, C, dx1, _, _, rfl, h1, T.cl, T.nA, fl3_at _ _ _, hk H1 hB⟩
            replace e1 := Decidable.not_not.mp e1
            rw [decide_eq_true e1]
            refine iteT ⟨_, rfl, _, _, rfl, rfl, _, rfl, ?_⟩
            by_cases e2 : ¬ (v ≤ most)
            · rw [decide_eq_false e2]
              refine iteT (iteT ?_)
              rw [decide_eq_false e2, Bool.and_false, Bool.false_and, if_neg (by decide)] at hk
              exact ⟨_, rfl, p, C, dx1, _, _, rfl, h1, T.cl, T.nA, fl3_at _ _ _, hk H1 hB⟩
            replace e2 := Decidable.not_not.mp e2
            rw [decide_eq_true e2]
            refine iteF ?_
            · refine ⟨_, rfl, _, rfl, iteF (iteF ?_)⟩
              rw [decide_eq_true e1, decide_eq_true e2] at hk
              rw [if_pos (by simp)] at hk
              refine ⟨_, rfl, p, C, dx1, _, _, rfl, h1, T.cl, T.nA, fl3_at _ _ _, _, _, rfl, rfl, dx1, _, h1, (by rw [fl3_eq]; show 3 < 1000; decide), ?_⟩
              rw [put_at, show ((j : Int) + 1) = ((j + 1 : Nat) : Int) from rfl]
              exact ⟨_, rfl, hk _ ⟨dx1, upd_same⟩ (hB.trans But.upd)⟩
    obtain ⟨tr, hrest, hq⟩ := tail
    have hno : (fl3 t (i : Nat) r).lookup ("sign" : Str) = none := fl3_no _ _ _ (by decide +kernel) (by decide +kernel) (by decide +kernel)
    refine ⟨_, pss_cons (ps_set (i := 3) scRn.nd rfl (.inl rfl) (pe_and (pe_cmpR op_lt (pv 1) pe_int (nomark _)) (pe_one (pe_cmpR op_eq (pe_meth0 (pv 0) T.cl mS GS.up hr1 bS .nil passE0) pe_str (nomark _)))))
      (pss_cons (ps_if (pt_val (pv 3)) (pss_one (ps_fldaug (pv 0) pe_int iop_add)) pss_nil) hrest), ?_⟩
    refine ⟨_, rfl, _, _, rfl, rfl, _, rfl, ?_⟩
    by_cases e1 : least < 0
    · rw [decide_eq_true e1]
      refine iteT ?_
      refine ⟨_, rfl, p, dx, _, rfl, hp, hno, p, t, i, r, rfl, ⟨dx, hp⟩, ht, rfl, ?_⟩
      by_cases e2 : t.cps.toList[i]? = some 45
      · rw [sg_some e2, decide_eq_true (show V.str (⟨#[45]⟩ : Str) = V.str ("-" : Str) from by decide +kernel)]
        refine ⟨_, rfl, _, rfl, iteT ?_⟩
        refine ⟨_, rfl, p, C, dx, _, _, rfl, hp, T.cl, T.nA, fl3_at _ _ _, _, _, rfl, rfl, dx, _, hp, (by rw [fl3_eq]; show 3 < 1000; decide), ?_⟩
        rw [put_at, show ((i : Int) + 1) = ((i + 1 : Nat) : Int) from rfl]
        refine hq true (i + 1) _ ⟨dx, upd_same⟩ But.upd ?_
        unfold numT at k
        rw [decide_eq_true e1, decide_eq_true e2] at k
        exact k
      · rw [decide_eq_false (show ¬ V.str (sgT t i) = V.str ("-" : Str) from fun z => e2 (by
          have z := V.str.inj z
          cases ec : t.cps.toList[i]? with
          | none =>
            rw [sg_none ec] at z
            have := congrArg (fun x : Str => x.cps.size) z
            cases this
          | some c =>
            rw [sg_some ec] at z
            have := congrArg (fun x : Str => x.cps.toList) z
            have this : [c] = [45] := this
            injection this with h1
            rw [h1]))]
        refine ⟨_, rfl, _, rfl, iteF ?_⟩
        refine hq false i _ ⟨dx, hp⟩ (But.refl _ _) ?_
        unfold numT at k
        rw [decide_eq_true e1, decide_eq_false e2] at k
        exact k
    · rw [decide_eq_false e1]
      refine iteF ?_
      refine ⟨_, rfl, _, rfl, iteF ?_⟩
      refine hq false i _ ⟨dx, hp⟩ (But.refl _ _) ?_
      unfold numT at k
      rw [decide_eq_false e1] at k
      exact k
end
end L
namespace L
open PySem L2 G
/-! ### what ask, item and read_program tell: a place where it can't be read, or what is read and the place behind it -/
abbrev AskT := Int × Int × Option Int × Option Int
/-- a sign and a number behind it, or nothing -/
def optT (t : List Nat) (sg : Nat) (least most : Int) (i : Nat) : Except Nat (Option Int × Nat) :=
  if t[i]? = some sg then match numT t (i + 1) least most with
    | .error e => .error e
    | .ok (v, j) => .ok (some v, j)
  else .ok (none, i)
def askT (t : List Nat) (i : Nat) : Except Nat (AskT × Nat) := match numT t i 0 3 with
  | .error e => .error e
  | .ok (h, j) => if t[j]? = some 46 then match numT t (j + 1) 0 9 with
      | .error e => .error e
      | .ok (m, j) => if t[j]? = some 62 ∨ t[j]? = some 60 then match optT t 62 (-6) 3 j with
          | .error e => .error e
          | .ok (l, j) => match optT t 60 0 6 j with
            | .error e => .error e
            | .ok (hi, j) => .ok ((h, m, l, hi), j)
        else .error j
    else .error j
/-- past the spaces from a place on -/
def skipT (t : List Nat) (i : Nat) : Nat := skT t (t.length - i) i
/-- the asks up to ']', with their places -/
def asksT (t : List Nat) : Nat → Nat → List AskT → List Nat → Except Nat ((List AskT × List Nat) × Nat)
  | 0, i, _, _ => .error i
  | n + 1, i, as, ps => if t[i]? = some 93 then .ok ((as, ps), i + 1) else match askT t i with
    | .error e => .error e
    | .ok (a, j) => if t[j]? = some 32 ∨ t[j]? = some 93 then asksT t n (skipT t j) (as ++ [a]) (ps ++ [i]) else .error j
def itemT (t : List Nat) (read : Nat) (i : Nat) : Except Nat ((List AskT × List Nat) × Nat) :=
  if read = 10 then .error i else if t[i]? = some 91 then asksT t (t.length + 1) (skipT t (i + 1)) [] [] else .error i
end L
namespace L
open PySem L2 G
variable [TQ]
/-! ### ask -/
def optV : Option Int → V
  | none => .non
  | some i => .int i
def askV (a : AskT) : List V := [.int a.1, .int a.2.1, optV a.2.2.1, optV a.2.2.2]
theorem scRa : FnScope ["self", "hand", "mark", "low", "high"] ["self"] (defScope m_ask) := ⟨rfl, rfl, rfl, by decide +kernel, rfl, by decide +kernel, by decide +kernel⟩
def spAsk (C Ci : Addr) : Sp := fun vs H Q E => ∃ (p : Addr) (t : Str) (i : Nat) (r : Int), vs = [.ref p] ∧ RdAt C H p t i r ∧ t.length ≤ 16777216 ∧ match askT t.cps.toList i with
  | .ok (a, j) => ∀ q H', RdAt C H' p t j r → But p H H' → H q = none → H' q = some (.tup (askV a)) → Q (.ref q) H'
  | .error j => ∀ H', But p H H' → badAt Ci E H' j
theorem But.new {p q : Addr} {H : Hp} {o : HO} (h : H q = none) : But p H (L2.upd H q o) := fun b o' e n => by rw [upd_ne (ne_of_none e h)]; exact e
theorem RdAt.new {C p q : Addr} {H : Hp} {o : HO} {t : Str} {i r : Int} (h : RdAt C H p t i r) (hq : H q = none) : RdAt C (L2.upd H q o) p t i r := by
  obtain ⟨dx, hp⟩ := h
  exact ⟨dx, by rw [upd_ne (ne_of_none hp hq)]; exact hp⟩
theorem RdAt.ne {C p q : Addr} {H : Hp} {t : Str} {i r : Int} (h : RdAt C H p t i r) (hq : H q = none) : q ≠ p := fun z => by
  obtain ⟨dx, hp⟩ := h
  rw [z, hp] at hq
  cases hq
/-- one sign told -/
theorem sg_is {t : Str} {j c : Nat} : (sgT t j = (⟨#[c]⟩ : Str)) ↔ t.cps.toList[j]? = some c := by
  constructor
  · intro z
    cases ec : t.cps.toList[j]? with
    | none =>
      rw [sg_none ec] at z
      have := congrArg (fun x : Str => x.cps.size) z
      cases this
    | some d =>
      rw [sg_some ec] at z
      have := congrArg (fun x : Str => x.cps.toList) z
      have this : [d] = [c] := this
      injection this with h1
      rw [h1]
  · exact sg_some
theorem eqV_str {a b : Str} : eqV (.str a) (.str b) = decide (a = b) := by
  unfold eqV
  rw [Bool.eq_iff_iff]
  simp
theorem inV_sg {t : Str} {j a b : Nat} : inV (.str (sgT t j)) [.str (⟨#[a]⟩ : Str), .str (⟨#[b]⟩ : Str)] = decide (t.cps.toList[j]? = some a ∨ t.cps.toList[j]? = some b) := by
  unfold inV
  rw [List.any_cons, List.any_cons, List.any_nil, eqV_str, eqV_str, Bool.or_false, Bool.eq_iff_iff, Bool.or_eq_true, decide_eq_true_eq, decide_eq_true_eq, decide_eq_true_eq]
  rw [eq_comm, sg_is, @eq_comm _ _ (sgT t j), sg_is]
theorem num_sp {C Ci p : Addr} {t : Str} {i : Nat} {r least most : Int} {H : Hp} {Q : VK} {E : XK} (hR : RdAt C H p t i r) (ht : t.length ≤ 16777216) (ho : ∀ v j, numT t.cps.toList i least most = .ok (v, j) → ∀ H', RdAt C H' p t j r → But p H H' → Q (.int v) H') (he : ∀ j, numT t.cps.toList i least most = .error j → ∀ H', But p H H' → badAt Ci E H' j) : spNum C Ci [.ref p, .int least, .int most] H Q E := by
  refine ⟨p, t, i, r, least, most, rfl, hR, ht, ?_⟩
  cases e : numT t.cps.toList i least most with
  | ok x => exact ho x.1 x.2 e
  | error j => exact he j e
section
variable {P : Program} {w : World} {K : PySem.W.Frag} {mg : Str → Option Value} {base : Heap} {C : Addr} (T : RdC K C)
include T
theorem no_sign {t : Str} {j r : Int} : (fl3 t j r).lookup ("sign" : Str) = none := fl3_no _ _ _ (by decide +kernel) (by decide +kernel) (by decide +kernel)
theorem no_number {t : Str} {j r : Int} : (fl3 t j r).lookup ("number" : Str) = none := fl3_no _ _ _ (by decide +kernel) (by decide +kernel) (by decide +kernel)
theorem no_take {t : Str} {j r : Int} : (fl3 t j r).lookup ("take" : Str) = none := fl3_no _ _ _ (by decide +kernel) (by decide +kernel) (by decide +kernel)
theorem okRa {Ci f fS fN fT : Addr} {fd fdS fdN fdT : FuncData} (F : FunD K "ask" "Reader.ask" (defArgs m_ask) (defBody m_ask) (defScope m_ask) [] [] f fd) (rc : RaC P w K mg base 1 "InvalidText" Ci "place")
    (GS : FnOk P w K mg base CX0 1 fS fdS ["self"] (spSign C)) (bS : Binds K fdS ["self"] []) (mS : Meth K C "sign" fS)
    (GN : FnOk P w K mg base (L2.CX P w) 3 fN fdN ["self", "least", "most"] (spNum C Ci)) (bN : Binds K fdN ["self", "least", "most"] []) (mN : Meth K C "number" fN)
    (GT : FnOk P w K mg base (L2.CX P w) 3 fT fdT ["self", "sign"] (spTake C Ci)) (bT : Binds K fdT ["self", "sign"] []) (mT : Meth K C "take" fT)
    (c1 : ∃ t, mg "MOST_HANDS" = some (.int 4 t)) (c2 : ∃ t, mg "LEAST_LOW" = some (.int (-6) t)) (c3 : ∃ t, mg "MOST_LOW" = some (.int 3 t)) (c4 : ∃ t, mg "MOST_HIGH" = some (.int 6 t)) : FnOk P w K mg base (L2.CX P w) 4 f fd ["self"] (spAsk C Ci) := by
  obtain ⟨t1, c1⟩ := c1
  obtain ⟨t2, c2⟩ := c2
  obtain ⟨t3, c3⟩ := c3
  obtain ⟨t4, c4⟩ := c4
  refine F.ok scRa (fun vs H Q E h => ?_) (fun cdv A outer s H vs Q E hr h => ?_)
  · obtain ⟨p, t, i, r, rfl, _⟩ := h
    rfl
  · obtain ⟨p, t, i, r, rfl, hp, ht, k⟩ := h
    have hr1 : Room 1 _ := hr.mono (by decide)
    have hr2 : Room 2 _ := hr.mono (by decide)
    have hr3 : Room 3 _ := hr
    have tk : Takes (cxX P w K mg base ["self", "hand", "mark", "low", "high"] "Reader.ask" m_ask f cdv A outer s H E) (fun cls d _ H => E cls d H) := takes_of rfl rfl rfl rfl
    have tail : ∃ tr : TS, PSs (cxX P w K mg base ["self", "hand", "mark", "low", "high"] "Reader.ask" m_ask f cdv A outer s H E) ((defBody m_ask).drop 5) tr ∧ ∀ (h m : Int) (l : Option Int) (j : Nat) (H1 : Hp), RdAt C H1 p t j r → But p H H1 → (match optT t.cps.toList 60 0 6 j with
          | .ok (hi, j) => ∀ q H', RdAt C H' p t j r → But p H H' → H q = none → H' q = some (.tup (askV (h, m, l, hi))) → Q (.ref q) H'
          | .error j => ∀ H', But p H H' → badAt Ci E H' j) → tr { nx := fun _ H' => Q .non H', rt := Q } [some (.ref p), some (.int h), some (.int m), some (optV l), some .non] H1 := by
      refine ⟨_, pss_cons (ps_if (pt_cmpR op_eq (pe_meth0 (pv 0) T.cl mS GS.up hr1 bS .nil passE0) pe_str (nomark _)) (pss_cons (ps_fldaug (pv 0) pe_int iop_add) (pss_one (ps_set (i := 4) scRa.nd rfl (.inl rfl) (pe_methX tk (pv 0) T.cl mN GN hr3 bN (pa_cons pe_int (pa_cons (pe_glob (v := .int 6) (by rfl) c4 ⟨_, rfl⟩) pa_nil)))))) pss_nil)
        (pss_one (ps_ret (pe_tup (pa_cons (pv 1) (pa_cons (pv 2) (pa_cons (pv 3) (pa_cons (pv 4) pa_nil))))))), fun h m l j H1 hR hB hk => ?_⟩
      have fin : ∀ (hi : Option Int) (j2 : Nat) (H2 : Hp), RdAt C H2 p t j2 r → But p H H2 → (∀ q H', RdAt C H' p t j2 r → But p H H' → H q = none → H' q = some (.tup (askV (h, m, l, hi))) → Q (.ref q) H') → ∀ q, H2 q = none → Q (.ref q) (upd H2 q (.tup [.int h, .int m, optV l, optV hi])) := fun hi j2 H2 hR2 hB2 k2 q hq => by
        refine k2 q _ (hR2.new hq) (hB2.trans (But.new hq)) ?_ upd_same
        cases e : H q with
        | none => rfl
        | some o =>
          by_cases z : q = p
          · exact absurd z (hR2.ne hq)
          · have := hB2 q o e z
            rw [hq] at this
            cases this
      obtain ⟨dx1, h1⟩ := hR
      refine ⟨_, rfl, p, dx1, _, rfl, h1, no_sign T, p, t, j, r, rfl, ⟨dx1, h1⟩, ht, rfl, _, rfl, ?_⟩
      unfold optT at hk
      by_cases ec : t.cps.toList[j]? = some 60
      · rw [if_pos ec] at hk
        rw [sg_some ec, decide_eq_true (show V.str (⟨#[60]⟩ : Str) = V.str ("<" : Str) from by decide +kernel)]
        refine iteT ?_
        refine ⟨_, rfl, p, C, dx1, _, _, rfl, h1, T.cl, T.nA, fl3_at _ _ _, _, _, rfl, rfl, dx1, _, h1, (by rw [fl3_eq]; show 3 < 1000; decide), ?_⟩
        rw [put_at, show ((j : Int) + 1) = ((j + 1 : Nat) : Int) from rfl]
        refine ⟨_, rfl, p, dx1, _, rfl, upd_same, no_number T, ?_⟩
        refine ⟨p, t, j + 1, r, 0, 6, rfl, ⟨dx1, upd_same⟩, ht, ?_⟩
        cases e2 : numT t.cps.toList (j + 1) 0 6 with
        | ok x =>
          obtain ⟨v, j2⟩ := x
          intro H2 hR2 hB2
          rw [e2] at hk
          refine ⟨_, rfl, _, rfl, _, rfl, _, rfl, (by show 4 ≤ sizeLine; decide), ?_⟩
          exact fin (some v) j2 H2 hR2 (hB.trans (But.upd.trans hB2)) hk
        | error j2 =>
          rw [e2] at hk
          exact fun H2 hB2 => hk H2 (hB.trans (But.upd.trans hB2))
      · rw [if_neg ec] at hk
        rw [decide_eq_false (show ¬ V.str (sgT t j) = V.str ("<" : Str) from fun z => ec (sg_is.mp (V.str.inj z)))]
        refine iteF ?_
        refine ⟨_, rfl, _, rfl, _, rfl, _, rfl, (by show 4 ≤ sizeLine; decide), ?_⟩
        exact fin none j H1 ⟨dx1, h1⟩ hB hk
    obtain ⟨tr, hrest, htl⟩ := tail
    refine ⟨_, pss_cons (ps_set (i := 1) scRa.nd rfl (.inl rfl) (pe_methX tk (pv 0) T.cl mN GN hr3 bN (pa_cons pe_int (pa_cons (pe_op op_sub (pe_glob (v := .int 4) (by rfl) c1 ⟨_, rfl⟩) pe_int) pa_nil))))
      (pss_cons (ps_expr (pe_methX tk (pv 0) T.cl mT GT hr3 bT (pa_cons pe_str pa_nil)))
      (pss_cons (ps_par3 (i := 2) (j := 3) (l := 4) (by rfl) scRa.nd rfl rfl rfl (by decide) (by decide) (by decide) rfl rfl rfl (pa_cons (pe_methX tk (pv 0) T.cl mN GN hr3 bN (pa_cons pe_int (pa_cons pe_int pa_nil))) (pa_cons pe_non (pa_cons pe_non pa_nil))) (by rfl))
      (pss_cons (ps_if (pt_cmpR op_notIn_seq (pe_meth0 (pv 0) T.cl mS GS.up hr1 bS .nil passE0) (pe_tup (pa_cons pe_str (pa_cons pe_str pa_nil))) rfl) (pss_one (ps_ri rc rfl tk hr2 (pe_fld (pv 0) rfl) (mono_at T fun σ H Q Q' hq h => by
          obtain ⟨x, hx, h⟩ := h
          exact ⟨x, hx, hq _ _ h⟩))) pss_nil)
      (pss_cons (ps_if (pt_cmpR op_eq (pe_meth0 (pv 0) T.cl mS GS.up hr1 bS .nil passE0) pe_str (nomark _)) (pss_cons (ps_fldaug (pv 0) pe_int iop_add) (pss_one (ps_set (i := 3) scRa.nd rfl (.inl rfl) (pe_methX tk (pv 0) T.cl mN GN hr3 bN (pa_cons (pe_glob (v := .int (-6)) (by rfl) c2 ⟨_, rfl⟩) (pa_cons (pe_glob (v := .int 3) (by rfl) c3 ⟨_, rfl⟩) pa_nil)))))) pss_nil) hrest)))), ?_⟩
    obtain ⟨dx, hp⟩ := hp
    unfold askT at k
    refine ⟨_, rfl, p, dx, _, rfl, hp, no_number T, _, _, rfl, rfl, ?_⟩
    refine ⟨p, t, i, r, 0, 3, rfl, ⟨dx, hp⟩, ht, ?_⟩
    cases e : numT t.cps.toList i 0 3 with
    | error j =>
      rw [e] at k
      exact k
    | ok x =>
      obtain ⟨hv, j⟩ := x
      intro H1 hR1 hB1
      rw [e] at k
      dsimp only at k
      obtain ⟨dx1, h1⟩ := hR1
      refine ⟨_, rfl, p, dx1, _, rfl, h1, no_take T, p, t, ".", j, r, rfl, ⟨dx1, h1⟩, ht, ?_⟩
      by_cases h46 : t.cps.toList[j]? = some 46
      · rw [if_pos h46] at k
        rw [if_pos (show sgT t j = ("." : Str) from sg_some h46)]
        intro H2 hR2 hB2
        have hB2 := hB1.trans hB2
        obtain ⟨dx2, h2⟩ := hR2
        refine ⟨_, rfl, p, dx2, _, rfl, h2, no_number T, ?_⟩
        refine ⟨p, t, j + 1, r, 0, 9, rfl, ⟨dx2, h2⟩, ht, ?_⟩
        cases e3 : numT t.cps.toList (j + 1) 0 9 with
        | error j3 =>
          rw [e3] at k
          exact fun H3 hB3 => k H3 (hB2.trans hB3)
        | ok x =>
          obtain ⟨mv, j3⟩ := x
          intro H3 hR3 hB3
          rw [e3] at k
          dsimp only at k
          have hB3 := hB2.trans hB3
          obtain ⟨dx3, h3⟩ := hR3
          refine ⟨_, _, _, rfl, ?_⟩
          refine ⟨_, rfl, p, dx3, _, rfl, h3, no_sign T, p, t, j3, r, rfl, ⟨dx3, h3⟩, ht, (by show 2 ≤ sizeLine; decide), fun q hq => ?_⟩
          have hqp : q ≠ p := (show RdAt C H3 p t j3 r from ⟨dx3, h3⟩).ne hq
          have h3' : upd H3 q (.tup [.str ">", .str "<"]) p = some (.ins C dx3 (fl3 t j3 r)) := by rw [upd_ne (Ne.symm hqp)]; exact h3
          have hB4 : But p H (upd H3 q (.tup [.str ">", .str "<"])) := hB3.trans (But.new hq)
          refine ⟨q, _, rfl, .inr (.of upd_same), rfl, rfl, _, rfl, ?_⟩
          rw [show ([V.str ">", V.str "<"] : List V) = [.str (⟨#[62]⟩ : Str), .str (⟨#[60]⟩ : Str)] from by decide +kernel, inV_sg]
          by_cases hs : t.cps.toList[j3]? = some 62 ∨ t.cps.toList[j3]? = some 60
          · rw [if_pos hs] at k
            rw [decide_eq_true hs]
            refine iteF ?_
            refine ⟨_, rfl, p, dx3, _, rfl, h3', no_sign T, p, t, j3, r, rfl, ⟨dx3, h3'⟩, ht, rfl, _, rfl, ?_⟩
            by_cases e62 : t.cps.toList[j3]? = some 62
            · rw [sg_some e62, decide_eq_true (show V.str (⟨#[62]⟩ : Str) = V.str (">" : Str) from by decide +kernel)]
              refine iteT ?_
              refine ⟨_, rfl, p, C, dx3, _, _, rfl, h3', T.cl, T.nA, fl3_at _ _ _, _, _, rfl, rfl, dx3, _, h3', (by rw [fl3_eq]; show 3 < 1000; decide), ?_⟩
              rw [put_at, show ((j3 : Int) + 1) = ((j3 + 1 : Nat) : Int) from rfl]
              refine ⟨_, rfl, p, dx3, _, rfl, upd_same, no_number T, ?_⟩
              refine ⟨p, t, j3 + 1, r, -6, 3, rfl, ⟨dx3, upd_same⟩, ht, ?_⟩
              cases e4 : numT t.cps.toList (j3 + 1) (-6) 3 with
              | error j4 =>
                have : optT t.cps.toList 62 (-6) 3 j3 = .error j4 := by unfold optT; rw [if_pos e62, e4]
                rw [this] at k
                exact fun H5 hB5 => k H5 (hB4.trans (But.upd.trans hB5))
              | ok x =>
                obtain ⟨v, j4⟩ := x
                have : optT t.cps.toList 62 (-6) 3 j3 = .ok (some v, j4) := by unfold optT; rw [if_pos e62, e4]
                rw [this] at k
                intro H5 hR5 hB5
                exact htl hv mv (some v) j4 H5 hR5 (hB4.trans (But.upd.trans hB5)) (by
                  dsimp only at k
                  cases e5 : optT t.cps.toList 60 0 6 j4 with
                  | error j5 => rw [e5] at k; exact k
                  | ok x => rw [e5] at k; exact k)
            · rw [decide_eq_false (show ¬ V.str (sgT t j3) = V.str (">" : Str) from fun z => e62 (sg_is.mp (V.str.inj z)))]
              refine iteF ?_
              have : optT t.cps.toList 62 (-6) 3 j3 = .ok (none, j3) := by unfold optT; rw [if_neg e62]
              rw [this] at k
              exact htl hv mv none j3 _ ⟨dx3, h3'⟩ hB4 (by
                dsimp only at k
                cases e5 : optT t.cps.toList 60 0 6 j3 with
                | error j5 => rw [e5] at k; exact k
                | ok x => rw [e5] at k; exact k)
          · rw [if_neg hs] at k
            rw [decide_eq_false hs]
            refine iteT ?_
            exact ⟨_, rfl, p, C, dx3, _, _, rfl, h3', T.cl, T.nA, fl3_at _ _ _, k _ hB4⟩
      · rw [if_neg h46] at k
        rw [if_neg (show ¬ sgT t j = ("." : Str) from fun z => h46 (sg_is.mp z))]
        exact k H1 hB1
end
end L
namespace L
open PySem L2 G
variable [TQ]
/-! ### item -/
def optD : Option Int → D
  | none => .non
  | some i => .int i
def askD (a : AskT) : D := .tup [.int a.1, .int a.2.1, optD a.2.2.1, optD a.2.2.2]
def itemD (as : List AskT) (ps : List Nat) : D := .tup [.tup (as.map askD), .lst (ps.map fun n : Nat => D.int (n : Int))]
theorem numT_lt {t : List Nat} {i j : Nat} {a b v : Int} (h : numT t i a b = .ok (v, j)) : i < j ∧ j ≤ t.length := by
  unfold numT at h
  dsimp only at h
  generalize hj : (if (decide (a < 0) && decide (t[i]? = some 45)) = true then i + 1 else i) = k at h
  have hk : i ≤ k := by
    rw [← hj]
    split <;> omega
  cases e : t[k]? with
  | none => rw [e] at h; cases h
  | some c =>
    rw [e] at h
    dsimp only at h
    have hl := (List.getElem?_eq_some_iff.mp e).1
    by_cases h1 : digB c = true
    · rw [if_pos h1] at h
      generalize (if (decide (a < 0) && decide (t[i]? = some 45)) = true then -((c : Int) - 48) else (c : Int) - 48) = w at h
      generalize (decide (a ≤ w) && decide (w ≤ b) && !(decide (a < 0) && decide (t[i]? = some 45) && decide (w = 0))) = z at h
      cases z with
      | true =>
        rw [if_pos rfl] at h
        cases h
        omega
      | false =>
        rw [if_neg (by decide)] at h
        cases h
    · rw [if_neg h1] at h
      cases h
theorem optT_le {t : List Nat} {sg i j : Nat} {a b : Int} {o : Option Int} (hi : i ≤ t.length) (h : optT t sg a b i = .ok (o, j)) : i ≤ j ∧ j ≤ t.length := by
  unfold optT at h
  split at h
  · cases e : numT t (i + 1) a b with
    | error x => rw [e] at h; cases h
    | ok x =>
      obtain ⟨v, k⟩ := x
      rw [e] at h
      cases h
      have := numT_lt e
      omega
  · cases h
    omega
theorem askT_lt {t : List Nat} {i j : Nat} {a : AskT} (h : askT t i = .ok (a, j)) : i < j ∧ j ≤ t.length := by
  unfold askT at h
  cases e1 : numT t i 0 3 with
  | error x => rw [e1] at h; cases h
  | ok x =>
    obtain ⟨v1, j1⟩ := x
    rw [e1] at h
    dsimp only at h
    have l1 := numT_lt e1
    split at h
    · cases e2 : numT t (j1 + 1) 0 9 with
      | error x => rw [e2] at h; cases h
      | ok x =>
        obtain ⟨v2, j2⟩ := x
        rw [e2] at h
        dsimp only at h
        have l2 := numT_lt e2
        split at h
        · cases e3 : optT t 62 (-6) 3 j2 with
          | error x => rw [e3] at h; cases h
          | ok x =>
            obtain ⟨v3, j3⟩ := x
            rw [e3] at h
            dsimp only at h
            have l3 := optT_le l2.2 e3
            cases e4 : optT t 60 0 6 j3 with
            | error x => rw [e4] at h; cases h
            | ok x =>
              obtain ⟨v4, j4⟩ := x
              rw [e4] at h
              cases h
              have l4 := optT_le l3.2 e4
              omega
        · cases h
    · cases h
theorem skT_le {t : List Nat} : ∀ (n i : Nat), i ≤ t.length → i ≤ skT t n i ∧ skT t n i ≤ t.length
  | 0, i, h => ⟨Nat.le_refl _, h⟩
  | n + 1, i, h => by
    unfold skT
    split
    · rename_i e
      have hl : i < t.length := by
        rcases Nat.lt_or_ge i t.length with h | h
        · exact h
        · rw [List.drop_eq_nil_of_le h] at e
          cases e
      have := skT_le n (i + 1) hl
      omega
    · exact ⟨Nat.le_refl _, h⟩
theorem skipT_le {t : List Nat} {i : Nat} (h : i ≤ t.length) : i ≤ skipT t i ∧ skipT t i ≤ t.length := skT_le _ _ h
theorem at_lt {t : List Nat} {i c : Nat} (h : t[i]? = some c) : i < t.length := (List.getElem?_eq_some_iff.mp h).1
/-- what is new in H1, laid down for good -/
structure New (H H1 G : Hp) : Prop where
  sub : Same G H1
  fr : ∀ x o, G x = some o → H x = none
  nt : NoT G
theorem New.nil (H H1 : Hp) : New H H1 (fun _ => none) := ⟨fun _ _ h => (by cases h), fun _ _ h => (by cases h), fun _ _ h => (by cases h)⟩
theorem New.step {p : Addr} {H H1 H2 G : Hp} (n : New H H1 G) (hp : ∃ o, H p = some o) (b : But p H1 H2) : New H H2 G := ⟨fun x o h => b x o (n.sub x o h) fun z => (by
  obtain ⟨u, hu⟩ := hp
  have := n.fr x o h
  rw [z, hu] at this
  cases this), n.fr, n.nt⟩
theorem New.put {a : Addr} {o : HO} {H H1 G : Hp} (n : New H H1 G) (ha : G a = none) : New H (upd H1 a o) G := ⟨fun x u h => (by
  rw [upd_ne (fun z => by rw [z, ha] at h; cases h)]
  exact n.sub x u h), n.fr, n.nt⟩
theorem New.add {q : Addr} {o : HO} {H H1 G : Hp} [no : NTb o] (n : New H H1 G) (hq : H q = none) (h1 : H1 q = some o) : New H H1 (upd G q o) := by
  refine ⟨fun x u h => ?_, fun x u h => ?_, n.nt.upd no.ne⟩
  · by_cases z : x = q
    · subst z
      rw [upd_same] at h
      cases h
      exact h1
    · rw [upd_ne z] at h
      exact n.sub x u h
  · by_cases z : x = q
    · subst z
      exact hq
    · rw [upd_ne z] at h
      exact n.fr x u h
theorem same_add {q : Addr} {o : HO} {G : Hp} (h : G q = none) : Same G (upd G q o) := fun x u e => by
  rw [upd_ne (fun z => by rw [z, h] at e; cases e)]
  exact e
theorem New.no {q : Addr} {H H1 G : Hp} (n : New H H1 G) (h : H1 q = none) : G q = none := by
  cases e : G q with
  | none => rfl
  | some o =>
    have := n.sub q o e
    rw [h] at this
    cases this
theorem But.no {p q : Addr} {H H1 : Hp} (b : But p H H1) (h : H1 q = none) (hp : q ≠ p) : H q = none := by
  cases e : H q with
  | none => rfl
  | some o =>
    have := b q o e hp
    rw [h] at this
    cases this
theorem But.put {p a : Addr} {o : HO} {H H1 : Hp} (b : But p H H1) (ha : H a = none) : But p H (L2.upd H1 a o) := fun x u e n => by
  rw [upd_ne (ne_of_none e ha)]
  exact b x u e n
theorem rep_opt {K : PySem.W.Frag} {G : Hp} (o : Option Int) : Rep K G (optD o) (optV o) := by
  cases o <;> exact rfl
theorem rep_ask {K : PySem.W.Frag} {G : Hp} {q : Addr} {a : AskT} (h : G q = some (.tup (askV a))) : Rep K G (askD a) (.ref q) :=
  ⟨q, askV a, rfl, .of h, ⟨_, _, rfl, rfl, _, _, rfl, rfl, _, _, rfl, rep_opt _, _, _, rfl, rep_opt _, rfl⟩, by show 4 ≤ LIM; decide⟩
theorem reps_nat {K : PySem.W.Frag} {G : Hp} : ∀ l : List Nat, Reps K G (l.map fun n : Nat => D.int (n : Int)) (l.map fun n : Nat => V.int (n : Int))
  | [] => rfl
  | n :: l => ⟨_, _, rfl, rfl, reps_nat l⟩
theorem scRi : FnScope ["self", "asks", "places"] ["self"] (defScope m_item) := ⟨rfl, rfl, rfl, by decide +kernel, rfl, by decide +kernel, by decide +kernel⟩
def spItem (K : PySem.W.Frag) (C Ci : Addr) : Sp := fun vs H Q E => ∃ (p : Addr) (t : Str) (i r : Nat), vs = [.ref p] ∧ RdAt C H p t i r ∧ i ≤ t.cps.toList.length ∧ t.length ≤ 16777216 ∧ match itemT t.cps.toList r i with
  | .ok ((as, ps), j) => ∀ q G H', RdAt C H' p t j (r + 1 : Nat) → But p H H' → New H H' G → Rep K G (itemD as ps) (.ref q) → Q (.ref q) H'
  | .error j => ∀ H', But p H H' → badAt Ci E H' j
section
variable {P : Program} {w : World} {K : PySem.W.Frag} {mg : Str → Option Value} {base : Heap} {C : Addr} (T : RdC K C)
include T
theorem no_skip {t : Str} {j r : Int} : (fl3 t j r).lookup ("skip" : Str) = none := fl3_no _ _ _ (by decide +kernel) (by decide +kernel) (by decide +kernel)
theorem no_ask {t : Str} {j r : Int} : (fl3 t j r).lookup ("ask" : Str) = none := fl3_no _ _ _ (by decide +kernel) (by decide +kernel) (by decide +kernel)
theorem okRi {Ci f fS fK fA fT : Addr} {fd fdS fdK fdA fdT : FuncData} (F : FunD K "item" "Reader.item" (defArgs m_item) (defBody m_item) (defScope m_item) [] [] f fd) (rc : RaC P w K mg base 1 "InvalidText" Ci "place") (zt : mg "tuple" = none)
    (GS : FnOk P w K mg base CX0 1 fS fdS ["self"] (spSign C)) (bS : Binds K fdS ["self"] []) (mS : Meth K C "sign" fS)
    (GK : FnOk P w K mg base CX0 2 fK fdK ["self"] (spSkip C)) (bK : Binds K fdK ["self"] []) (mK : Meth K C "skip" fK)
    (GA : FnOk P w K mg base (L2.CX P w) 4 fA fdA ["self"] (spAsk C Ci)) (bA : Binds K fdA ["self"] []) (mA : Meth K C "ask" fA)
    (GT : FnOk P w K mg base (L2.CX P w) 3 fT fdT ["self", "sign"] (spTake C Ci)) (bT : Binds K fdT ["self", "sign"] []) (mT : Meth K C "take" fT)
    (c1 : ∃ t, mg "MOST_ITEMS" = some (.int 10 t)) : FnOk P w K mg base (L2.CX P w) 5 f fd ["self"] (spItem K C Ci) := by
  obtain ⟨t1, c1⟩ := c1
  refine F.ok scRi (fun vs H Q E h => ?_) (fun cdv A outer s H vs Q E hr h => ?_)
  · obtain ⟨p, t, i, r, rfl, _⟩ := h
    rfl
  · obtain ⟨p, t, i, r, rfl, hp, hil, ht, k⟩ := h
    have hr1 : Room 1 _ := hr.mono (by decide)
    have hr2 : Room 2 _ := hr.mono (by decide)
    have hr3 : Room 3 _ := hr.mono (by decide)
    have hr4 : Room 4 _ := hr
    have tk : Takes (cxX P w K mg base ["self", "asks", "places"] "Reader.item" m_item f cdv A outer s H E) (fun cls d _ H => E cls d H) := takes_of rfl rfl rfl rfl
    have mono1 : ∀ (σ : L2.St) (H : Hp) (Q Q' : VK), (∀ v H1, Q v H1 → Q' v H1) → tFld K (tVar 0) "at" σ H Q → tFld K (tVar 0) "at" σ H Q' := fun σ H Q Q' hq h => by
      obtain ⟨x, hx, a, C', dx', fs, v, e1, e2, e3, e4, e5, e6⟩ := h
      exact ⟨x, hx, a, C', dx', fs, v, e1, e2, e3, e4, e5, hq _ _ e6⟩
    refine ⟨_, pss_cons (ps_if (pt_cmpR op_eq (pe_fld (pv 0) rfl) (pe_glob (v := .int 10) (by rfl) c1 ⟨_, rfl⟩) (nomark _)) (pss_one (ps_ri rc rfl tk hr2 (pe_fld (pv 0) rfl) mono1)) pss_nil)
      (pss_cons (ps_fldaug (pv 0) pe_int iop_add)
      (pss_cons (ps_expr (pe_methX tk (pv 0) T.cl mT GT hr3 bT (pa_cons pe_str pa_nil)))
      (pss_cons (ps_expr (pe_meth0 (pv 0) T.cl mK GK.up hr2 bK .nil passE0))
      (pss_cons (ps_par (i := 1) (j := 2) (by rfl) scRi.nd rfl rfl (by decide) rfl rfl (pa_cons (pe_lst pa_nil) (pa_cons (pe_lst pa_nil) pa_nil)) (by rfl))
      (pss_cons (ps_while (passes_of rfl) (pt_cmpR op_ne (pe_meth0 (pv 0) T.cl mS GS.up hr1 bS .nil passE0) pe_str (nomark _))
        (pss_cons (ps_expr (pe_bm PySem.F.plainAttrs_list PySem.F.slot_list_append PySem.F.type_list_append mt_append (pv 2) (pa_cons (pe_fld (pv 0) rfl) pa_nil)))
        (pss_cons (ps_expr (pe_bm PySem.F.plainAttrs_list PySem.F.slot_list_append PySem.F.type_list_append mt_append (pv 1) (pa_cons (pe_methX0 tk (pv 0) T.cl mA GA hr4 bA) pa_nil)))
        (pss_cons (ps_if (pt_cmpR op_notIn_seq (pe_meth0 (pv 0) T.cl mS GS.up hr1 bS .nil passE0) (pe_tup (pa_cons pe_str (pa_cons pe_str pa_nil))) rfl) (pss_one (ps_ri rc rfl tk hr2 (pe_fld (pv 0) rfl) mono1)) pss_nil)
        (pss_one (ps_expr (pe_meth0 (pv 0) T.cl mK GK.up hr2 bK .nil passE0)))))))
      (pss_cons (ps_fldaug (pv 0) pe_int iop_add)
      (pss_one (ps_ret (pe_tup (pa_cons (pe_callTy call_tuple_of (by rfl) zt PyProof.Rows.boot_tuple (pa_cons (pv 1) pa_nil) (by decide +kernel) (by decide +kernel) rfl rfl) (pa_cons (pv 2) pa_nil)))))))))))
, ?_⟩
    obtain ⟨dx, hp⟩ := hp
    unfold itemT at k
    have hpo : ∃ o, H p = some o := ⟨_, hp⟩
    refine ⟨_, rfl, p, C, dx, _, _, rfl, hp, T.cl, T.nR, fl3_read _ _ _, rfl, _, rfl, ?_⟩
    by_cases hr10 : r = 10
    · rw [if_pos hr10] at k
      rw [decide_eq_true (show V.int (r : Int) = V.int 10 by rw [hr10]; rfl)]
      exact iteT ⟨_, rfl, p, C, dx, _, _, rfl, hp, T.cl, T.nA, fl3_at _ _ _, k H (But.refl _ _)⟩
    rw [if_neg hr10] at k
    rw [decide_eq_false (show ¬ V.int (r : Int) = V.int 10 from fun z => hr10 (by have := V.int.inj z; omega))]
    refine iteF ?_
    refine ⟨_, rfl, p, C, dx, _, _, rfl, hp, T.cl, T.nR, fl3_read _ _ _, _, _, rfl, rfl, dx, _, hp, (by rw [fl3_eq]; show 3 < 1000; decide), ?_⟩
    rw [put_read, show ((r : Int) + 1) = ((r + 1 : Nat) : Int) from rfl]
    refine ⟨_, rfl, p, dx, _, rfl, upd_same, no_take T, p, t, "[", i, ((r + 1 : Nat) : Int), rfl, ⟨dx, upd_same⟩, ht, ?_⟩
    by_cases e91 : t.cps.toList[i]? = some 91
    · rw [if_pos e91] at k
      rw [if_pos (show sgT t i = ("[" : Str) from sg_some e91)]
      intro H1 hR1 hB1
      have hB1 := (But.upd (o := .ins C dx (fl3 t i (r + 1 : Nat))) (p := p) (H := H)).trans hB1
      obtain ⟨dx1, h1⟩ := hR1
      refine ⟨_, rfl, p, dx1, _, rfl, h1, no_skip T, p, t, i + 1, _, rfl, ⟨dx1, h1⟩, ht, fun H2 hR2 hB2 => ?_⟩
      have hB2 := hB1.trans hB2
      refine ⟨(by show 0 ≤ sizeLine; decide), fun a ha => ⟨(by show 0 ≤ sizeLine; decide), fun b hb => ⟨_, _, rfl, ?_⟩⟩⟩
      have hap : a ≠ p := hR2.ne ha
      have hHa : H a = none := hB2.no ha hap
      have hba : b ≠ a := fun z => by rw [z, upd_same] at hb; cases hb
      have hb2 : H2 b = none := by rw [upd_ne hba] at hb; exact hb
      have hbp : b ≠ p := hR2.ne hb2
      have hHb : H b = none := hB2.no hb2 hbp
      have hi1 : i + 1 ≤ t.cps.toList.length := at_lt e91
      have hsk := skipT_le hi1
      have hB3 : But p H (upd (upd H2 a (.lst [])) b (.lst [])) := (hB2.put hHa).put hHb
      have hR3 : RdAt C (upd (upd H2 a (.lst [])) b (.lst [])) p t (skipT t.cps.toList (i + 1)) (r + 1 : Nat) := (RdAt.new hR2 ha).new hb
      refine while_by (fun σ H' => ∃ (j : Nat) (as : List AskT) (ps : List Nat) (n : Nat) (G : Hp) (xs : List V), σ = [some (.ref p), some (.ref a), some (.ref b)] ∧ RdAt C H' p t j (r + 1 : Nat) ∧ j ≤ t.cps.toList.length ∧ t.cps.toList.length < j + n ∧ But p H H' ∧ New H H' G ∧ G a = none ∧ G b = none ∧ H' a = some (.lst xs) ∧ Reps K G (as.map askD) xs ∧ H' b = some (.lst (ps.map fun n : Nat => V.int (n : Int))) ∧ asksT t.cps.toList n j as ps = asksT t.cps.toList (t.cps.toList.length + 1) (skipT t.cps.toList (i + 1)) [] [] ∧ as.length < j ∧ ps.length = as.length) (fun σ H' => muR t p H') ?_ ?_ ?_
      · exact ⟨_, [], [], t.cps.toList.length + 1, fun _ => none, [], rfl, hR3, hsk.2, by omega, hB3, New.nil _ _, rfl, rfl, by rw [upd_ne (Ne.symm hba), upd_same], rfl, upd_same, rfl, by show 0 < _; omega, rfl⟩
      · rintro σ H4 ⟨j, as, ps, n, G, xs, rfl, ⟨dx4, h4⟩, hj, hn, hB4, nw, ga, gb, ea, ra, eb, he, hl1, hl2⟩
        obtain ⟨n, rfl⟩ : ∃ m, n = m + 1 := ⟨n - 1, by omega⟩
        refine ⟨_, rfl, p, dx4, _, rfl, h4, no_sign T, p, t, j, _, rfl, ⟨dx4, h4⟩, ht, ?_⟩
        refine ⟨rfl, _, rfl, ?_⟩
        have hu : asksT t.cps.toList (n + 1) j as ps = (if t.cps.toList[j]? = some 93 then .ok ((as, ps), j + 1) else match askT t.cps.toList j with
            | .error e => .error e
            | .ok (a, k) => if t.cps.toList[k]? = some 32 ∨ t.cps.toList[k]? = some 93 then asksT t.cps.toList n (skipT t.cps.toList k) (as ++ [a]) (ps ++ [j]) else .error k) := by rw [asksT] <;> rfl
        rw [hu] at he
        by_cases e93 : t.cps.toList[j]? = some 93
        · rw [if_pos e93] at he
          rw [← he] at k
          rw [decide_eq_true (show V.str (sgT t j) = V.str ("]" : Str) from by rw [sg_some e93]; decide +kernel)]
          refine iteF ?_
          refine ⟨_, rfl, p, C, dx4, _, _, rfl, h4, T.cl, T.nA, fl3_at _ _ _, _, _, rfl, rfl, dx4, _, h4, (by rw [fl3_eq]; show 3 < 1000; decide), ?_⟩
          rw [put_at, show ((j : Int) + 1) = ((j + 1 : Nat) : Int) from rfl]
          have ea5 : upd H4 p (.ins C dx4 (fl3 t ((j + 1 : Nat) : Int) (r + 1 : Nat))) a = some (.lst xs) := by rw [upd_ne hap]; exact ea
          refine ⟨_, rfl, a, xs, rfl, .inl ⟨SqL.of ea5, fun l hl => ⟨_, rfl, (by show 2 ≤ sizeLine; decide), fun q hq => ?_⟩⟩⟩
          generalize hH5 : upd H4 p (.ins C dx4 (fl3 t ((j + 1 : Nat) : Int) (r + 1 : Nat))) = H5 at ea5 hl hq ⊢
          have hB5 : But p H H5 := by rw [← hH5]; exact hB4.trans But.upd
          have hR5 : RdAt C H5 p t (j + 1 : Nat) (r + 1 : Nat) := ⟨dx4, by rw [← hH5]; exact upd_same⟩
          have eb5 : H5 b = some (.lst (ps.map fun n : Nat => V.int (n : Int))) := by rw [← hH5, upd_ne hbp]; exact eb
          have nw5 : New H H5 G := by rw [← hH5]; exact nw.step hpo But.upd
          have nw6 : New H (upd H5 l (.tup xs)) G := nw5.step hpo (But.new hl)
          have nw7 : New H (upd (upd H5 l (.tup xs)) q (.tup [.ref l, .ref b])) G := nw6.step hpo (But.new hq)
          have hql : q ≠ l := fun z => by rw [z, upd_same] at hq; cases hq
          have hq5 : H5 q = none := by rw [upd_ne hql] at hq; exact hq
          have hqb : q ≠ b := fun z => by rw [z, eb5] at hq5; cases hq5
          have hlb : l ≠ b := fun z => by rw [z, eb5] at hl; cases hl
          have gl : G l = none := nw5.no hl
          have gq : G q = none := nw5.no hq5
          have n8 := nw7.add (o := .lst (ps.map fun n : Nat => V.int (n : Int))) hHb (by rw [upd_ne (Ne.symm hqb), upd_ne (Ne.symm hlb)]; exact eb5)
          have n9 := n8.add (q := l) (o := .tup xs) (hB5.no hl (hR5.ne hl)) (by rw [upd_ne (Ne.symm hql), upd_same])
          have n10 := n9.add (q := q) (o := .tup [.ref l, .ref b]) (hB5.no hq5 (hR5.ne hq5)) upd_same
          have s8 := same_add (o := .lst (ps.map fun n : Nat => V.int (n : Int))) gb
          have s9 := same_add (G := upd G b (.lst (ps.map fun n : Nat => V.int (n : Int)))) (q := l) (o := .tup xs) (by rw [upd_ne hlb]; exact gl)
          have s10 := same_add (G := upd (upd G b (.lst (ps.map fun n : Nat => V.int (n : Int)))) l (.tup xs)) (q := q) (o := .tup [.ref l, .ref b]) (by rw [upd_ne hql, upd_ne hqb]; exact gq)
          have hsz : t.cps.toList.length ≤ 16777216 := by simpa [Str.length] using ht
          refine k q _ _ ((hR5.new hl).new hq) ((hB5.trans (But.new hl)).trans (But.new hq)) n10 ⟨q, _, rfl, .of upd_same, ⟨_, _, rfl, ⟨l, xs, rfl, .of (s10 _ _ upd_same), ra.mono (s8.trans (s9.trans s10)), ?_⟩, _, _, rfl, ⟨b, _, rfl, .of (s10 _ _ (s9 _ _ upd_same)), reps_nat ps, ?_⟩, rfl⟩, by show 2 ≤ LIM; decide⟩
          · rw [List.length_map]
            show _ ≤ 16777216
            omega
          · rw [List.length_map]
            show _ ≤ 16777216
            omega
        · rw [if_neg e93] at he
          rw [decide_eq_false (show ¬ V.str (sgT t j) = V.str ("]" : Str) from fun z => e93 (sg_is.mp (V.str.inj z)))]
          refine iteT ?_
          have hsz : t.cps.toList.length ≤ 16777216 := by simpa [Str.length] using ht
          refine ⟨_, rfl, .inl ⟨rfl, _, SqL.of eb⟩, _, rfl, p, C, dx4, _, _, rfl, h4, T.cl, T.nA, fl3_at _ _ _, b, _, _, rfl, rfl, eb, (by rw [List.length_map]; show _ < 16777216; omega), ?_⟩
          generalize hH5 : upd H4 b (.lst ((ps.map fun n : Nat => V.int (n : Int)) ++ [.int (j : Int)])) = H5
          have hB5 : But p H H5 := by rw [← hH5]; exact hB4.put hHb
          have h5 : H5 p = some (.ins C dx4 (fl3 t j (r + 1 : Nat))) := by rw [← hH5, upd_ne (Ne.symm hbp)]; exact h4
          have ea5 : H5 a = some (.lst xs) := by rw [← hH5, upd_ne (Ne.symm hba)]; exact ea
          have eb5 : H5 b = some (.lst ((ps ++ [j]).map fun n : Nat => V.int (n : Int))) := by rw [← hH5, upd_same, List.map_append]; rfl
          have nw5 : New H H5 G := by rw [← hH5]; exact nw.put gb
          refine ⟨_, rfl, .inl ⟨rfl, _, SqL.of ea5⟩, _, rfl, p, dx4, _, rfl, h5, no_ask T, p, t, j, ((r + 1 : Nat) : Int), rfl, ⟨dx4, h5⟩, ht, ?_⟩
          cases e4 : askT t.cps.toList j with
          | error x =>
            rw [e4] at he
            rw [← he] at k
            exact fun H6 hB6 => k H6 (hB5.trans hB6)
          | ok x =>
            obtain ⟨aa, j6⟩ := x
            rw [e4] at he
            dsimp only at he
            have hlt := askT_lt e4
            intro q H6 hR6 hB6 hq5 hqv
            have hB6' := hB5.trans hB6
            have hqp : q ≠ p := fun z => by rw [z, h5] at hq5; cases hq5
            have hqa : q ≠ a := fun z => by rw [z, ea5] at hq5; cases hq5
            have hqb : q ≠ b := fun z => by rw [z, eb5] at hq5; cases hq5
            have ea6 : H6 a = some (.lst xs) := hB6 _ _ ea5 hap
            have eb6 := hB6 _ _ eb5 hbp
            have nw6 := nw5.step hpo hB6
            have gq : G q = none := nw5.no hq5
            have nw7 := nw6.add (hB5.no hq5 hqp) hqv
            have lx : xs.length = as.length := by rw [← ra.length, List.length_map]
            refine ⟨a, xs, _, rfl, rfl, ea6, (by show _ < 16777216; omega), ?_⟩
            generalize hH7 : upd H6 a (.lst (xs ++ [.ref q])) = H7
            have nw8 : New H H7 (upd G q (.tup (askV aa))) := by rw [← hH7]; exact nw7.put (by rw [upd_ne (Ne.symm hqa)]; exact ga)
            have hB7 : But p H H7 := by rw [← hH7]; exact hB6'.put hHa
            have hR7 : RdAt C H7 p t j6 (r + 1 : Nat) := by
              obtain ⟨dx6, h6⟩ := hR6
              exact ⟨dx6, by rw [← hH7, upd_ne (Ne.symm hap)]; exact h6⟩
            have ea7 : H7 a = some (.lst (xs ++ [.ref q])) := by rw [← hH7]; exact upd_same
            have eb7 : H7 b = some (.lst ((ps ++ [j]).map fun n : Nat => V.int (n : Int))) := by rw [← hH7, upd_ne hba]; exact eb6
            obtain ⟨dx7, h7⟩ := hR7
            refine ⟨_, rfl, p, dx7, _, rfl, h7, no_sign T, p, t, j6, _, rfl, ⟨dx7, h7⟩, ht, (by show 2 ≤ sizeLine; decide), fun u hu => ?_⟩
            have hup : u ≠ p := (show RdAt C H7 p t j6 (r + 1 : Nat) from ⟨dx7, h7⟩).ne hu
            have h8 : upd H7 u (.tup [.str " ", .str "]"]) p = some (.ins C dx7 (fl3 t j6 (r + 1 : Nat))) := by rw [upd_ne (Ne.symm hup)]; exact h7
            have hB8 : But p H (upd H7 u (.tup [.str " ", .str "]"])) := hB7.trans (But.new hu)
            have nw9 := nw8.step hpo (But.new (o := .tup [.str " ", .str "]"]) hu)
            refine ⟨u, _, rfl, .inr (.of upd_same), rfl, rfl, _, rfl, ?_⟩
            rw [show ([V.str " ", V.str "]"] : List V) = [.str (⟨#[32]⟩ : Str), .str (⟨#[93]⟩ : Str)] from by decide +kernel, inV_sg]
            rw [show ([V.str " ", V.str "]"] : List V) = [.str (⟨#[32]⟩ : Str), .str (⟨#[93]⟩ : Str)] from by decide +kernel] at h8 hB8 nw9
            have hne : ∀ {x : Addr} {o : HO}, H7 x = some o → x ≠ u := fun e z => by rw [z, hu] at e; cases e
            by_cases hs : t.cps.toList[j6]? = some 32 ∨ t.cps.toList[j6]? = some 93
            · rw [if_pos hs] at he
              rw [decide_eq_true hs]
              refine iteF ?_
              refine ⟨_, rfl, p, dx7, _, rfl, h8, no_skip T, p, t, j6, _, rfl, ⟨dx7, h8⟩, ht, fun H9 hR9 hB9 => ?_⟩
              have hk := skipT_le hlt.2
              refine ⟨⟨skipT t.cps.toList j6, as ++ [aa], ps ++ [j], n, upd G q (.tup (askV aa)), xs ++ [.ref q], rfl, hR9, hk.2, by omega, hB8.trans hB9, nw9.step hpo hB9, by rw [upd_ne (Ne.symm hqa)]; exact ga, by rw [upd_ne (Ne.symm hqb)]; exact gb, ?_, ?_, ?_, he, ?_, ?_⟩, ?_⟩
              · exact hB9 _ _ (by rw [upd_ne (hne ea7)]; exact ea7) hap
              · rw [List.map_append]
                exact (ra.mono (same_add gq)).append (Reps.one (rep_ask upd_same))
              · exact hB9 _ _ (by rw [upd_ne (hne eb7)]; exact eb7) hbp
              · rw [List.length_append]
                show as.length + 1 < _
                omega
              · rw [List.length_append, List.length_append, hl2]
                rfl
              · have m1 : muR t p H4 = (t.cps.toList.length + 1 - (j : Int)).toNat := by
                  unfold muR
                  rw [h4]
                  dsimp only
                  rw [fl3_at]
                have m2 : muR t p H9 = (t.cps.toList.length + 1 - ((skipT t.cps.toList j6 : Nat) : Int)).toNat := by
                  obtain ⟨dx9, h9⟩ := hR9
                  unfold muR
                  rw [h9]
                  dsimp only
                  rw [fl3_at]
                  rfl
                rw [m1, m2]
                omega
            · rw [if_neg hs] at he
              rw [← he] at k
              rw [decide_eq_false hs]
              refine iteT ?_
              exact ⟨_, rfl, p, C, dx7, _, _, rfl, h8, T.cl, T.nA, fl3_at _ _ _, k _ hB8⟩
      · intro σ H Q Q' hq h
        obtain ⟨x, hx, a, dx, fs, e1, e2, e3, p', t', i', r', e4, e5, e6, e7, k', e8, e9⟩ := h
        exact ⟨x, hx, a, dx, fs, e1, e2, e3, p', t', i', r', e4, e5, e6, e7, k', e8, hq _ _ e9⟩
    · rw [if_neg e91] at k
      rw [if_neg (show ¬ sgT t i = ("[" : Str) from fun z => e91 (sg_is.mp z))]
      exact k _ But.upd
end
end L
namespace L
open PySem L2 G
/-! ### read_program, plain -/
abbrev ItT := List AskT × List Nat
/-- the items of a row -/
def itemsT (t : List Nat) : Nat → Nat → Nat → List ItT → Except Nat ((List ItT × Nat) × Nat)
  | 0, _, i, _ => .error i
  | n + 1, read, i, its => if its = [] ∨ ¬ (t[i]? = none ∨ t[i]? = some 124) then (match itemT t read i with
    | .error e => .error e
    | .ok (it, j) => itemsT t n (read + 1) (skipT t j) (its ++ [it])) else .ok ((its, read), i)
/-- the rows -/
def rowsT (t : List Nat) : Nat → List (List ItT) → Nat → Nat → Except Nat (List (List ItT))
  | 0, _, _, i => .error (i - 1)
  | n + 1, rows, read, i => if rows.length = 4 then .error (i - 1) else match itemsT t (t.length + 1) read (skipT t i) [] with
    | .error e => .error e
    | .ok ((its, read'), j) => if t[j]? = some 124 then rowsT t n (rows ++ [its]) read' (j + 1) else .ok (rows ++ [its])
def itD (it : ItT) : D := .tup (it.1.map askD)
def plD (it : ItT) : D := .lst (it.2.map fun n : Nat => D.int (n : Int))
def rowD (row : List ItT) : D := .lst (row.map itD)
def plrD (row : List ItT) : D := .lst (row.map plD)
def rowsD (rows : List (List ItT)) : D := .lst (rows.map rowD)
def plsD (rows : List (List ItT)) : D := .lst (rows.map plrD)
def b_tail : List Stm := [(.xcall .drop 0 [(.var 2), (.var 3)]), (.ret false (.blt .tuple [(.comp [7] (.blt .tuple [(.var 7)]) (.nm 7) (.seq (.var 2)) [])]))]
def runTail (φc : List D → R D) (rows : List (List ItT)) : R D := match exs (tabL [φc] []) b_tail [none, none, some (rowsD rows), some (plsD rows), none, none, none, none] none with
  | .ok (f, _) => .ok (flD f)
  | .err k x => .err k x
  | .stuck => .stuck
def φ_readP (φc : List D → R D) : List D → R D
  | [.str s] => if s.length ≤ LIM then (match rowsT s 5 [] 0 0 with
    | .error j => .err .text (some (.int (j : Int)))
    | .ok rows => runTail φc rows) else .stuck
  | [_] => .err .notText none
  | _ => .stuck
variable [TQ]
theorem itemsT_lt {t : List Nat} {read i j : Nat} {it : ItT} (h : itemT t read i = .ok (it, j)) : i < j ∧ j ≤ t.length := by
  have key : ∀ (n i j : Nat) (as : List AskT) (ps : List Nat) (r : ItT), i ≤ t.length → asksT t n i as ps = .ok (r, j) → i < j ∧ j ≤ t.length := by
    intro n
    induction n with
    | zero => intro i j as ps r _ h; cases h
    | succ n ih =>
      intro i j as ps r hi h
      unfold asksT at h
      split at h
      · rename_i e
        cases h
        have := at_lt e
        omega
      · cases e : askT t i with
        | error x => rw [e] at h; cases h
        | ok x =>
          obtain ⟨a, k⟩ := x
          rw [e] at h
          dsimp only at h
          have l1 := askT_lt e
          split at h
          · have l2 := skipT_le l1.2
            have := ih _ _ _ _ _ l2.2 h
            omega
          · cases h
  unfold itemT at h
  split at h
  · cases h
  · split at h
    · rename_i e
      have h0 := at_lt e
      have l2 := skipT_le (t := t) (i := i + 1) h0
      have := key _ _ _ _ _ _ l2.2 h
      omega
    · cases h
/-! ### monotone readings -/
def MTE (t : TE) : Prop := ∀ σ H Q Q', (∀ v H1, Q v H1 → Q' v H1) → t σ H Q → t σ H Q'
def MTT (t : TT) : Prop := ∀ σ H Q Q', (∀ v H1, Q v H1 → Q' v H1) → t σ H Q → t σ H Q'
def MTA (t : TA) : Prop := ∀ σ H Q Q', (∀ v H1, Q v H1 → Q' v H1) → t σ H Q → t σ H Q'
def MR2 (r : R2) : Prop := ∀ x y H Q Q', (∀ v H1, Q v H1 → Q' v H1) → r x y H Q → r x y H Q'
theorem m_var (i : Nat) : MTE (tVar i) := fun σ H Q Q' hq h => by
  obtain ⟨x, hx, h⟩ := h
  exact ⟨x, hx, hq _ _ h⟩
theorem m_c (v : V) : MTE (tC v) := fun σ H Q Q' hq h => hq _ _ h
theorem m_nil : MTA tNil := fun σ H Q Q' hq h => hq _ _ h
theorem m_cons {t : TE} {u : TA} (a : MTE t) (b : MTA u) : MTA (tCons t u) := fun σ H Q Q' hq h => a σ H _ _ (fun v H1 h => b σ H1 _ _ (fun vs H2 h => hq _ _ h) h) h
theorem m_tup {t : TA} (a : MTA t) : MTE (tTup t) := fun σ H Q Q' hq h => a σ H _ _ (fun xs H1 ⟨h1, h2⟩ => ⟨h1, fun p hp => hq _ _ (h2 p hp)⟩) h
theorem m_lst {t : TA} (a : MTA t) : MTE (tLst t) := fun σ H Q Q' hq h => a σ H _ _ (fun xs H1 ⟨h1, h2⟩ => ⟨h1, fun p hp => hq _ _ (h2 p hp)⟩) h
theorem m_op {r : R2} {t u : TE} (m : MR2 r) (a : MTE t) (b : MTE u) : MTE (tOp r t u) := fun σ H Q Q' hq h => a σ H _ _ (fun x H1 h => b σ H1 _ _ (fun y H2 h => m x y H2 _ _ hq h) h) h
theorem m_test {t : TE} (a : MTE t) : MTT (tTest t) := fun σ H Q Q' hq h => a σ H _ _ (fun x H1 ⟨k, e, h⟩ => ⟨k, e, hq _ _ h⟩) h
theorem m_or {t u : TT} (a : MTT t) (b : MTT u) : MTT (tOr t u) := fun σ H Q Q' hq h => a σ H _ _ (fun x H1 h => by
  cases x with
  | true => exact iteT (hq _ _ (by simpa using h))
  | false => exact iteF (b σ H1 _ _ hq (by simpa using h))) h
theorem m_un {r : V → Hp → VK → Prop} {t : TE} (m : ∀ x H Q Q', (∀ v H1, Q v H1 → Q' v H1) → r x H Q → r x H Q') (a : MTE t) : MTE (tUn r t) := fun σ H Q Q' hq h => a σ H _ _ (fun x H1 h => m x H1 _ _ hq h) h
theorem m_meth {C : Addr} {m : Str} {sp : Sp} {dvs : List V} {E : XK} {ta : TE} {t : TA} (hs : ∀ vs H Q Q', (∀ v H1, Q v H1 → Q' v H1) → sp vs H Q E → sp vs H Q' E) (a : MTE ta) (b : MTA t) : MTE (tMeth C m sp dvs E ta t) := fun σ H Q Q' hq h => a σ H _ _ (fun x H1 ⟨a, dx, fs, e1, e2, e3, h⟩ => ⟨a, dx, fs, e1, e2, e3, b σ H1 _ _ (fun vs H2 h => hs _ _ _ _ hq h) h⟩) h
theorem mm_sign {C : Addr} {E : XK} : ∀ vs H Q Q', (∀ v H1, Q v H1 → Q' v H1) → spSign C vs H Q E → spSign C vs H Q' E := fun vs H Q Q' hq h => by
  obtain ⟨p', t', i', r', e4, e5, e6, e7⟩ := h
  exact ⟨p', t', i', r', e4, e5, e6, hq _ _ e7⟩
theorem m_ixl {K : PySem.W.Frag} : MR2 (rIxL K) := fun x y H Q Q' hq h => by
  obtain ⟨p, xs, i, v, e1, e2, e3, e4, h⟩ := h
  exact ⟨p, xs, i, v, e1, e2, e3, e4, hq _ _ h⟩
theorem m_eqd {K : PySem.W.Frag} : MR2 (rEqD K) := fun x y H Q Q' hq h => by
  obtain ⟨d, e, hd, he, sd, se, q⟩ := h
  exact ⟨d, e, hd, he, sd, se, hq _ _ q⟩
theorem m_in {K : PySem.W.Frag} {b : Bool} : MR2 (rIn K b) := fun x y H Q Q' hq h => by
  obtain ⟨p, xs, e1, e2, e3, e4, q⟩ := h
  exact ⟨p, xs, e1, e2, e3, e4, hq _ _ q⟩
theorem shp_items (l : List ItT) : (l.map itD).all (shp 5) = true := by
  rw [List.all_eq_true]
  intro d hd
  obtain ⟨it, _, rfl⟩ := List.mem_map.mp hd
  show (it.1.map askD).all (shp 4) = true
  rw [List.all_eq_true]
  intro d hd
  obtain ⟨a, _, rfl⟩ := List.mem_map.mp hd
  obtain ⟨a1, a2, a3, a4⟩ := a
  cases a3 <;> cases a4 <;> rfl
theorem eqv_nil (l : List D) : PyData.eqv (.list (toPys l)) (.list []) = l.isEmpty := by
  cases l with
  | nil => rfl
  | cons x l => rfl
theorem m_fld {K : PySem.W.Frag} {N : TE} {f : Str} (a : MTE N) : MTE (tFld K N f) := fun σ H Q Q' hq h => by
  refine a σ H _ _ (fun x H1 h => ?_) h
  obtain ⟨a, C', dx', fs, v, e1, e2, e3, e4, e5, e6⟩ := h
  exact ⟨a, C', dx', fs, v, e1, e2, e3, e4, e5, hq _ _ e6⟩
theorem m_i0 {g : Int → Int → V} : MR2 (rI0 g) := fun x y H Q Q' hq h => by
  obtain ⟨i, j, e1, e2, q⟩ := h
  exact ⟨i, j, e1, e2, hq _ _ q⟩
theorem inV_sg0 {t : Str} {j a : Nat} : inV (.str (sgT t j)) [.str (⟨#[]⟩ : Str), .str (⟨#[a]⟩ : Str)] = decide (t.cps.toList[j]? = none ∨ t.cps.toList[j]? = some a) := by
  unfold inV
  rw [List.any_cons, List.any_cons, List.any_nil, eqV_str, eqV_str, Bool.or_false, Bool.eq_iff_iff, Bool.or_eq_true, decide_eq_true_eq, decide_eq_true_eq, decide_eq_true_eq]
  rw [@eq_comm _ (⟨#[a]⟩ : Str) (sgT t j), sg_is]
  have : ((⟨#[]⟩ : Str) = sgT t j) ↔ t.cps.toList[j]? = none := by
    constructor
    · intro z
      cases ec : t.cps.toList[j]? with
      | none => rfl
      | some c =>
        rw [sg_some ec] at z
        have := congrArg (fun x : Str => x.cps.size) z
        cases this
    · exact fun z => (sg_none z).symm
  rw [this]
/-- one heap, and another where it is silent -/
def uni (A B : Hp) : Hp := fun x => match A x with
  | some o => some o
  | none => B x
theorem uni_l {A B : Hp} {x : Addr} {o : HO} (h : A x = some o) : uni A B x = some o := by
  unfold uni
  rw [h]
theorem uni_r {A B : Hp} {x : Addr} (h : A x = none) : uni A B x = B x := by
  unfold uni
  rw [h]
theorem uni_none {A B : Hp} {x : Addr} (h : A x = none) (h2 : B x = none) : uni A B x = none := by
  rw [uni_r h, h2]
theorem uni_cases {A B : Hp} {x : Addr} {o : HO} (h : uni A B x = some o) : A x = some o ∨ (A x = none ∧ B x = some o) := by
  cases e : A x with
  | none => rw [uni_r e] at h; exact .inr ⟨rfl, h⟩
  | some u => rw [uni_l e] at h; exact .inl h
theorem uni_nt {A B : Hp} (a : NoT A) (b : NoT B) : NoT (uni A B) := fun x ps h => by
  rcases uni_cases h with h | ⟨_, h⟩
  · exact a x ps h
  · exact b x ps h
theorem uni_ext {p : Addr} {G0 H0 H1 B : Hp} (hin : Same G0 H0) (hp : H0 p = none) (hb : But p H0 H1) (n : New H0 H1 B) : Ext none G0 H0 (uni G0 B) H1 := by
  have all : ∀ b o, H0 b = some o → H1 b = some o := fun b o e => hb b o e fun z => by rw [z, hp] at e; cases e
  refine ⟨fun b o _ _ e => all b o e, fun x o h => uni_l h, fun x o h => ?_, fun x o h1 h2 => ?_, fun _ _ z => (by cases z), fun P tb => LamX.TabS.ext tb all, fun P ps h => ⟨ps, all _ _ h⟩, fun h => uni_nt h n.nt⟩
  · rcases uni_cases h with h | ⟨_, h⟩
    · exact all _ _ (hin _ _ h)
    · exact n.sub _ _ h
  · rw [uni_r h1]
    cases e : B x with
    | none => rfl
    | some u =>
      have := n.fr _ _ e
      rw [h2] at this
      cases this
theorem New.uni {p : Addr} {H0 H1 H2 G G2 : Hp} (n : New H0 H1 G) (m : New H1 H2 G2) (hp : ∃ o, H1 p = some o) (hg : G p = none) (b1 : But p H0 H1) (b2 : But p H1 H2) : New H0 H2 (L.uni G G2) := by
  refine ⟨fun x o h => ?_, fun x o h => ?_, uni_nt n.nt m.nt⟩
  · rcases uni_cases h with h | ⟨_, h⟩
    · exact b2 _ _ (n.sub _ _ h) fun z => by rw [z, hg] at h; cases h
    · exact m.sub _ _ h
  · rcases uni_cases h with h | ⟨_, h⟩
    · exact n.fr _ _ h
    · refine b1.no (m.fr _ _ h) fun z => ?_
      obtain ⟨u, hu⟩ := hp
      have := m.fr _ _ h
      rw [z, hu] at this
      cases this
theorem New.uni_r {H0 H1 H2 G G2 : Hp} (n : New H0 H1 G) (m : New H1 H2 G2) : Same G2 (L.uni G G2) := fun x o h => by
  rw [L.uni_r (n.no (m.fr _ _ h))]
  exact h
theorem New.step0 {p : Addr} {H H1 H2 G : Hp} (n : New H H1 G) (hp : G p = none) (b : But p H1 H2) : New H H2 G := ⟨fun x o h => b x o (n.sub x o h) fun z => (by rw [z, hp] at h; cases h), n.fr, n.nt⟩
def whB : Stmt → List Stmt
  | .While _ b _ _ => b
  | _ => []
def muL (a : Addr) (H : Hp) : Nat := match H a with
  | some (.lst vs) => 5 - vs.length
  | _ => 0
abbrev N_rp : List Str := ["text", "reader", "rows", "places", "going", "item", "some", "row"]
theorem scRp : FnScope N_rp ["text"] (defScope s_read_program) := ⟨rfl, rfl, rfl, by decide +kernel, rfl, by decide +kernel, by decide +kernel⟩
section
variable {P : Program} {w : World} {K : PySem.W.Frag} {mg : Str → Option Value} {base : Heap} {C : Addr} (T : RdC K C)
include T
theorem no_item {t : Str} {j r : Int} : (fl3 t j r).lookup ("item" : Str) = none := fl3_no _ _ _ (by decide +kernel) (by decide +kernel) (by decide +kernel)
theorem okRp {f fI fS fK fT : Addr} {fd fdI fdS fdK fdT : FuncData} (F : FnP K "read_program" s_read_program f fd) (hC : mg "Reader" = some (.ref C)) (hM : Mk K C fI) (R_InvalidText : RaC P w K mg base 1 "InvalidText" (He.ga K "InvalidText") "place") (R0_NotText : Ra0 K mg "NotText" (He.ga K "NotText"))
    (GI : FnOk P w K mg base CX0 1 fI fdI ["self", "text"] (spInitR C)) (bI : Binds K fdI ["self", "text"] [])
    (GS : FnOk P w K mg base CX0 1 fS fdS ["self"] (spSign C)) (bS : Binds K fdS ["self"] []) (mS : Meth K C "sign" fS)
    (GK : FnOk P w K mg base CX0 2 fK fdK ["self"] (spSkip C)) (bK : Binds K fdK ["self"] []) (mK : Meth K C "skip" fK)
    (GT : FnOk P w K mg base (L2.CX P w) 5 fT fdT ["self"] (spItem K C (He.ga K "InvalidText"))) (bT : Binds K fdT ["self"] []) (mT : Meth K C "item" fT)
    (C_check : Cal P w K mg base 3 "check" ["rows", "places"] (spX K 2 (xcOf K errs) φ_check))
    (z_isinstance : mg "isinstance" = none) (z_str : mg "str" = none) (z_len : mg "len" = none) (z_tuple : mg "tuple" = none)
    (c1 : ∃ t, mg "MOST_HANDS" = some (.int 4 t)) : FnOk P w K mg base (L2.CX P w) 7 f fd ["text"] (spX K 1 (xcOf K errs) (φ_readP φ_check)) := by
  obtain ⟨t1, c1⟩ := c1
  refine F.ok scRp (fun vs H Q E h => h.1) (fun cdv A outer s H vs Q E hr hs => ?_)
  have hr1 : Room 1 _ := hr.mono (by decide)
  have hr2 : Room 2 _ := hr.mono (by decide)
  have hr5 : Room 5 _ := hr.mono (by decide)
  have tk : Takes (cxX P w K mg base N_rp "read_program" s_read_program f cdv A outer s H E) (fun cls d _ H => E cls d H) := takes_of rfl rfl rfl rfl
  have okn : Ok (Cfg.mk K (tabL [φ_check] []) [] none (xcOf K errs) E none []).non (cxX P w K mg base N_rp "read_program" s_read_program f cdv A outer s H E) := okX (k := 6) rfl rfl hr
  have hr : Room 6 (cxX P w K mg base N_rp "read_program" s_read_program f cdv A outer s H E).A := hr
  have S0 : PS (cxX P w K mg base N_rp "read_program" s_read_program f cdv A outer s H E) ((defBody s_read_program).getD 0 (.Pass ⟨0, 0, 0, 0⟩)) (tS (Cfg.mk K (tabL [φ_check] []) [] none (xcOf K errs) E none []) (.ite false (.not (.blt .isStr [(.var 0)])) [(.raise .notText none)] [])) := s_iteN (gt_not (t_val (k_isStr okn z_isinstance z_str (kv 0)))) (s_cons (s_raise0 R0_NotText rfl tk) s_nil) s_nil
  have TL : PSs (cxX P w K mg base N_rp "read_program" s_read_program f cdv A outer s H E) ((defBody s_read_program).drop 4) (tSs (Cfg.mk K (tabL [φ_check] []) [] none (xcOf K errs) E none []) b_tail) := s_cons (s_xexpr (x_call tk C_check hr (a_cons (kv 2) (a_cons (kv 3) a_nil)))) (s_cons (s_retN (k_toTup okn z_tuple (k_f (f_lc (own := [("row", 7)]) okn scRp.nd (w_seq okn (kv 2)) (show BlkOk N_rp (defScope s_read_program) _ [("row", 7)] from ⟨rfl, by decide +kernel, by decide +kernel, by decide +kernel, by decide +kernel⟩) (fun _ _ _ _ _ => (g_nm 7 scRp.nd)) (fun _ _ _ _ _ o1 => c_nil) (fun _ _ _ _ _ o1 => (k_toTup o1 z_tuple (kv 7))))))) s_nil)
  have BODY : ∃ tb : TS, PSs (cxX P w K mg base N_rp "read_program" s_read_program f cdv A outer s H E) (whB ((whB ((defBody s_read_program).getD 3 (.Pass ⟨0, 0, 0, 0⟩))).getD 4 (.Pass ⟨0, 0, 0, 0⟩))) tb ∧ ∀ (D : Ends) (t : Str) (p ar ap c d : Addr) (H0 Hb G2 : Hp) (vs ws xs ys : List V) (its : List ItT) (rd j : Nat) (o5 o6 o7 : Option V), t.length ≤ 16777216 → j ≤ t.cps.toList.length → its.length ≤ j → ar ≠ c → ar ≠ d → ap ≠ c → ap ≠ d → c ≠ d → H0 p = none → H0 c = none → H0 d = none →
      RdAt C Hb p t j rd → But p H0 Hb → New H0 Hb G2 → G2 p = none → G2 c = none → G2 d = none → Hb ar = some (.lst (vs ++ [.ref c])) → Hb ap = some (.lst (ws ++ [.ref d])) → Hb c = some (.lst xs) → Hb d = some (.lst ys) → Reps K G2 (its.map itD) xs → Reps K G2 (its.map plD) ys →
      (∀ jj : Nat, itemT t.cps.toList rd j = .error jj → ∀ H', But p H0 H' → badAt (He.ga K "InvalidText") E H' jj) →
      (∀ (it : ItT) (jj : Nat), itemT t.cps.toList rd j = .ok (it, jj) → ∀ (H' G' : Hp) (xs' ys' : List V) (x y : V), RdAt C H' p t (skipT t.cps.toList jj : Nat) (rd + 1 : Nat) → But p H0 H' → New H0 H' G' → Same G2 G' → (∀ z, Hb z ≠ none → G2 z = none → G' z = none) → H' ar = some (.lst (vs ++ [.ref c])) → H' ap = some (.lst (ws ++ [.ref d])) → H' c = some (.lst xs') → H' d = some (.lst ys') → Reps K G' ((its ++ [it]).map itD) xs' → Reps K G' ((its ++ [it]).map plD) ys' →
        D.nx [some (.str t), some (.ref p), some (.ref ar), some (.ref ap), some (.bl true), some x, some y, o7] H') →
      tb D [some (.str t), some (.ref p), some (.ref ar), some (.ref ap), some (.bl true), o5, o6, o7] Hb := by
    refine ⟨_, pss_cons (ps_asg (pe_methX0 tk (pv 1) T.cl mT GT hr5 bT) (pg_tup rfl (pgs_cons (pg_name (i := 5) scRp.nd rfl (.inl rfl)) (pgs_cons (pg_name (i := 6) scRp.nd rfl (.inl rfl)) pgs_nil))))
          (pss_cons (ps_expr (pe_bm PySem.F.plainAttrs_list PySem.F.slot_list_append PySem.F.type_list_append mt_append (pe_ix ix_list (pv 2) (pe_un un_neg pe_int) (fun _ _ => rfl)) (pa_cons (pv 5) pa_nil)))
          (pss_cons (ps_expr (pe_bm PySem.F.plainAttrs_list PySem.F.slot_list_append PySem.F.type_list_append mt_append (pe_ix ix_list (pv 3) (pe_un un_neg pe_int) (fun _ _ => rfl)) (pa_cons (pv 6) pa_nil)))
          (pss_one (ps_expr (pe_meth0 (pv 1) T.cl mK GK.up hr2 bK .nil passE0))))), fun D t p ar ap c d H0 Hb G2 vs ws xs ys its rd j o5 o6 o7 ht hj hil n1 n2 n3 n4 n5 p0 c0 d0 hR hB nw gp gc gd ear eap ec ed rx ry kerr kok => ?_⟩
    obtain ⟨dxb, hpb⟩ := hR
    have hsz : t.cps.toList.length ≤ 16777216 := by simpa [Str.length] using ht
    have npc : p ≠ c := fun z => by rw [z, ec] at hpb; cases hpb
    have npd : p ≠ d := fun z => by rw [z, ed] at hpb; cases hpb
    have npar : p ≠ ar := fun z => by rw [z, ear] at hpb; cases hpb
    have npap : p ≠ ap := fun z => by rw [z, eap] at hpb; cases hpb
    refine ⟨_, rfl, p, dxb, _, rfl, hpb, no_item T, p, t, j, rd, rfl, ⟨dxb, hpb⟩, hj, ht, ?_⟩
    cases ei : itemT t.cps.toList rd j with
    | error jj => exact fun H' hB' => kerr jj ei H' (hB.trans hB')
    | ok r =>
      obtain ⟨⟨as, ps⟩, jj⟩ := r
      intro q Gi H1 hR1 hB1 hn1 hrep
      have hlt := itemsT_lt ei
      obtain ⟨q', v2, eq, sq, rr, _⟩ := hrep
      cases eq
      obtain ⟨x, y, rfl, hx, hy⟩ := reps2 rr
      refine ⟨q, _, rfl, same_t hn1.sub sq, rfl, ?_⟩
      have hB1' := hB.trans hB1
      have nw1 : New H0 H1 (uni G2 Gi) := nw.uni hn1 ⟨_, hpb⟩ gp hB hB1
      have s1 : Same G2 (uni G2 Gi) := fun _ _ h => uni_l h
      have s2 : Same Gi (uni G2 Gi) := nw.uni_r hn1
      have gz : ∀ z, Hb z ≠ none → G2 z = none → uni G2 Gi z = none := fun z hz hg => uni_none hg (by
        cases e : Gi z with
        | none => rfl
        | some o => exact absurd (hn1.fr z o e) hz)
      have ear1 := hB1 _ _ ear (Ne.symm npar)
      have eap1 := hB1 _ _ eap (Ne.symm npap)
      have ec1 := hB1 _ _ ec (Ne.symm npc)
      have ed1 := hB1 _ _ ed (Ne.symm npd)
      have lx : xs.length = its.length := by rw [← rx.length, List.length_map]
      have ly : ys.length = its.length := by rw [← ry.length, List.length_map]
      refine ⟨_, _, rfl, _, _, rfl, rfl, ?_⟩
      refine ⟨_, rfl, _, rfl, ar, _, _, _, rfl, rfl, SqL.of ear1, atI_last _ _, .inl ⟨rfl, _, SqL.of ec1⟩, _, rfl, c, _, _, rfl, rfl, ec1, (by show _ < 16777216; omega), ?_⟩
      generalize hH2 : upd H1 c (.lst (xs ++ [x])) = H2
      have ec2 : H2 c = some (.lst (xs ++ [x])) := by rw [← hH2]; exact upd_same
      have ear2 : H2 ar = some (.lst (vs ++ [.ref c])) := by rw [← hH2, upd_ne n1]; exact ear1
      have eap2 : H2 ap = some (.lst (ws ++ [.ref d])) := by rw [← hH2, upd_ne n3]; exact eap1
      have ed2 : H2 d = some (.lst ys) := by rw [← hH2, upd_ne (Ne.symm n5)]; exact ed1
      have hB2 : But p H0 H2 := by rw [← hH2]; exact hB1'.put c0
      have nw2 : New H0 H2 (uni G2 Gi) := by rw [← hH2]; exact nw1.put (gz c (by rw [ec]; simp) gc)
      refine ⟨_, rfl, _, rfl, ap, _, _, _, rfl, rfl, SqL.of eap2, atI_last _ _, .inl ⟨rfl, _, SqL.of ed2⟩, _, rfl, d, _, _, rfl, rfl, ed2, (by show _ < 16777216; omega), ?_⟩
      generalize hH3 : upd H2 d (.lst (ys ++ [y])) = H3
      have ed3 : H3 d = some (.lst (ys ++ [y])) := by rw [← hH3]; exact upd_same
      have ec3 : H3 c = some (.lst (xs ++ [x])) := by rw [← hH3, upd_ne n5]; exact ec2
      have ear3 : H3 ar = some (.lst (vs ++ [.ref c])) := by rw [← hH3, upd_ne n2]; exact ear2
      have eap3 : H3 ap = some (.lst (ws ++ [.ref d])) := by rw [← hH3, upd_ne n4]; exact eap2
      have hB3 : But p H0 H3 := by rw [← hH3]; exact hB2.put d0
      have nw3 : New H0 H3 (uni G2 Gi) := by rw [← hH3]; exact nw2.put (gz d (by rw [ed]; simp) gd)
      have hR3 : RdAt C H3 p t jj (rd + 1 : Nat) := by
        obtain ⟨dx1, h1⟩ := hR1
        exact ⟨dx1, by rw [← hH3, upd_ne npd, ← hH2, upd_ne npc]; exact h1⟩
      obtain ⟨dx3, h3⟩ := hR3
      refine ⟨_, rfl, p, dx3, _, rfl, h3, no_skip T, p, t, jj, _, rfl, ⟨dx3, h3⟩, ht, fun H4 hR4 hB4 => ?_⟩
      refine kok (as, ps) jj ei H4 (uni G2 Gi) (xs ++ [x]) (ys ++ [y]) x y hR4 (hB3.trans hB4) (nw3.step0 (gz p (by rw [hpb]; simp) gp) hB4) s1 gz (hB4 _ _ ear3 (Ne.symm npar)) (hB4 _ _ eap3 (Ne.symm npap)) (hB4 _ _ ec3 (Ne.symm npc)) (hB4 _ _ ed3 (Ne.symm npd)) ?_ ?_
      · rw [List.map_append]
        exact (rx.mono s1).append (Reps.one (hx.mono s2))
      · rw [List.map_append]
        exact (ry.mono s1).append (Reps.one (hy.mono s2))
  obtain ⟨tb, hbody, hbk⟩ := BODY
  have MT : ∃ tm : TS, PSs (cxX P w K mg base N_rp "read_program" s_read_program f cdv A outer s H E) ((defBody s_read_program).drop 1) tm ∧ ∀ (G0 H0 : Hp) (t : Str) (Q0 : VK) (o1 o2 o3 o4 o5 o6 o7 : Option V), NoT G0 → TB H0 → Same G0 H0 → t.length ≤ 16777216 → (match rowsT t.cps.toList 5 [] 0 0 with
      | .error j => ∀ cls d G' H', Ext none G0 H0 G' H' → ExR K (xcOf K errs) .text (some (.int (j : Int))) cls d G' → E cls d H'
      | .ok rows => match runTail φ_check rows with
        | .ok d => ∀ v G' H', Ext none G0 H0 G' H' → Rep K G' d v → Q0 v H'
        | .err k x => ∀ cls d G' H', Ext none G0 H0 G' H' → ExR K (xcOf K errs) k x cls d G' → E cls d H'
        | .stuck => False) → tm { nx := fun _ H' => Q0 .non H', rt := Q0 } [some (.str t), o1, o2, o3, o4, o5, o6, o7] H0 := by
    have ms : MTE (tMeth C "sign" (spSign C) [] E0 (tVar 1) tNil) := m_meth mm_sign (m_var 1) m_nil
    refine ⟨_, pss_cons (ps_par3 (i := 1) (j := 2) (l := 3) (by rfl) scRp.nd rfl rfl rfl (by decide) (by decide) (by decide) rfl rfl rfl (pa_cons (pe_make hM GI.up hr2 (by rfl) hC bI .nil passE0 (pa_cons (pv 0) pa_nil)) (pa_cons (pe_lst pa_nil) (pa_cons (pe_lst pa_nil) pa_nil))) (by rfl))
      (pss_cons (ps_set (i := 4) scRp.nd rfl (.inl rfl) pe_bl)
      (pss_cons (ps_while (passes_of rfl) (pt_val (pv 4))
        (pss_cons (ps_if (pt_cmpR op_eq (pe_callB call_len_seq (by rfl) z_len boot_len (pa_cons (pv 2) pa_nil)) (pe_glob (v := .int 4) (by rfl) c1 ⟨_, rfl⟩) (nomark _)) (pss_one (ps_ri R_InvalidText rfl tk hr2 (pe_op op_sub (pe_fld (pv 1) rfl) pe_int) (m_op m_i0 (m_fld (m_var 1)) (m_c _)))) pss_nil)
        (pss_cons (ps_expr (pe_bm PySem.F.plainAttrs_list PySem.F.slot_list_append PySem.F.type_list_append mt_append (pv 2) (pa_cons (pe_lst pa_nil) pa_nil)))
        (pss_cons (ps_expr (pe_bm PySem.F.plainAttrs_list PySem.F.slot_list_append PySem.F.type_list_append mt_append (pv 3) (pa_cons (pe_lst pa_nil) pa_nil)))
        (pss_cons (ps_expr (pe_meth0 (pv 1) T.cl mK GK.up hr2 bK .nil passE0))
        (pss_cons (ps_while (passes_of rfl) (pw_or (pt_cmpR (op_eqD hr.units) (pe_ix ix_list (pv 2) (pe_un un_neg pe_int) (fun _ _ => rfl)) (pe_lst pa_nil) (nomark _)) (pw_or1 (pt_cmpR op_notIn_seq (pe_meth0 (pv 1) T.cl mS GS.up hr1 bS .nil passE0) (pe_tup (pa_cons pe_str (pa_cons pe_str pa_nil))) rfl))).pt
          hbody)
        (pss_cons (ps_set (i := 4) scRp.nd rfl (.inl rfl) (pe_cmpR op_eq (pe_meth0 (pv 1) T.cl mS GS.up hr1 bS .nil passE0) pe_str (nomark _)))
        (pss_one (ps_fldaug (pv 1) pe_int iop_add)))))))))
      TL)), fun G0 H0 t Q0 o1 o2 o3 o4 o5 o6 o7 hnt htb hin ht k => ?_⟩
    have hsz : t.cps.toList.length ≤ 16777216 := by simpa [Str.length] using ht
    refine ⟨_, rfl, fun p dx hp hdx hne => ⟨p, dx, t, rfl, upd_same, fun H1 hR1 hB1 => ⟨rfl, (by show 0 ≤ sizeLine; decide), fun ar har => ⟨(by show 0 ≤ sizeLine; decide), fun ap hap => ⟨_, _, _, rfl, ?_⟩⟩⟩⟩⟩
    have hB01 : But p H0 H1 := fun b o e n => hB1 b o (by rw [upd_ne n, upd_ne (ne_of_none e hdx)]; exact e) n
    have arp : ar ≠ p := hR1.ne har
    have ar0 : H0 ar = none := hB01.no har arp
    have apar : ap ≠ ar := fun z => by rw [z, upd_same] at hap; cases hap
    have hap1 : H1 ap = none := by rw [upd_ne apar] at hap; exact hap
    have app : ap ≠ p := hR1.ne hap1
    have ap0 : H0 ap = none := hB01.no hap1 app
    have kE : ∀ j : Nat, rowsT t.cps.toList 5 [] 0 0 = .error j → ∀ H', But p H0 H' → badAt (He.ga K "InvalidText") E H' (j : Int) := fun j ej H' hB' d hd => by
      rw [ej] at k
      have x1 := uni_ext hin hp hB' (New.nil H0 H')
      refine k _ _ (upd (uni G0 (fun _ => none)) d (.xd [(("place" : Str), V.int (j : Int))])) _ (x1.trans (Ext.new x1.inn hd)) ?_
      unfold ExR
      rw [show xcOf K errs .text = some (He.ga K "InvalidText", some ("place" : Str)) from rfl]
      exact ⟨rfl, d, _, rfl, upd_same, rfl⟩
    refine while_by (fun σ H' => ∃ (g : Bool) (rows : List (List ItT)) (read i : Nat) (G : Hp) (vs ws : List V) (o5 o6 : Option V) (n : Nat), σ = [some (.str t), some (.ref p), some (.ref ar), some (.ref ap), some (.bl g), o5, o6, o7] ∧ RdAt C H' p t i read ∧ But p H0 H' ∧ New H0 H' G ∧ G p = none ∧ G ar = none ∧ G ap = none ∧ H' ar = some (.lst vs) ∧ H' ap = some (.lst ws) ∧ Reps K G (rows.map rowD) vs ∧ Reps K G (rows.map plrD) ws ∧ rows.length ≤ 4 ∧ (rows ≠ [] → 1 ≤ i) ∧ (g = true → i ≤ t.cps.toList.length ∧ rowsT t.cps.toList n rows read i = rowsT t.cps.toList 5 [] 0 0 ∧ n + rows.length = 5) ∧ (g = false → rowsT t.cps.toList 5 [] 0 0 = .ok rows)) (fun σ H' => match σ[4]? with | some (some (V.bl true)) => muL ar H' + 1 | _ => 0) ?_ ?_ ((m_test (m_var 4)))
    · refine ⟨true, [], 0, 0, fun _ => none, [], [], o5, o6, 5, rfl, (hR1.new har).new hap, (hB01.put ar0).put ap0, New.nil _ _, rfl, rfl, rfl, by rw [upd_ne (Ne.symm apar), upd_same], upd_same, rfl, rfl, Nat.zero_le _, fun z => absurd rfl z, fun _ => ⟨Nat.zero_le _, rfl, rfl⟩, fun z => by cases z⟩
    · rintro σ H2 ⟨g, rows, read, i, G, vs, ws, o5, o6, n, rfl, ⟨dx2, h2⟩, hB2, nw, gp, gar, gap, ear, eap, rv, rw_, hl4, hi1, hgt, hgf⟩
      refine ⟨_, rfl, g, rfl, ?_⟩
      have lv : vs.length = rows.length := by rw [← rv.length, List.length_map]
      have lw : ws.length = rows.length := by rw [← rw_.length, List.length_map]
      cases g with
      | false =>
        refine iteF ?_
        have hres := hgf rfl
        rw [hres] at k
        have n3 : New H0 H2 (upd (upd G ar (.lst vs)) ap (.lst ws)) := (nw.add ar0 ear).add ap0 eap
        have sG : Same G (upd (upd G ar (.lst vs)) ap (.lst ws)) := (same_add gar).trans (same_add (by rw [upd_ne apar]; exact gap))
        have ear3 : upd (upd G ar (.lst vs)) ap (.lst ws) ar = some (.lst vs) := by rw [upd_ne (Ne.symm apar), upd_same]
        have eap3 : upd (upd G ar (.lst vs)) ap (.lst ws) ap = some (.lst ws) := upd_same
        generalize upd (upd G ar (.lst vs)) ap (.lst ws) = G3 at n3 sG ear3 eap3
        have x3 := uni_ext hin hp hB2 n3
        have sU : Same G3 (uni G0 G3) := fun x o h => by
          rw [uni_r]
          · exact h
          · cases e : G0 x with
            | none => rfl
            | some u =>
              have h1 := hin _ _ e
              rw [n3.fr _ _ h] at h1
              cases h1
        have r1 : Rep K (uni G0 G3) (rowsD rows) (.ref ar) := ⟨ar, vs, rfl, .of (sU _ _ ear3), rv.mono (sG.trans sU), by rw [List.length_map]; show _ ≤ 16777216; omega⟩
        have r2 : Rep K (uni G0 G3) (plsD rows) (.ref ap) := ⟨ap, ws, rfl, .of (sU _ _ eap3), rw_.mono (sG.trans sU), by rw [List.length_map]; show _ ≤ 16777216; omega⟩
        refine ⟨⟨none, G0, H0, G0, [], hnt, htb⟩, none, uni G0 G3, [none, none, some (rowsD rows), some (plsD rows), none, none, none, none], none, ⟨x3.inn, fun i d _ hd => ?_, fun i d hi => (by cases hi), fun i j d e l hi => (by cases hi), fun i l _ z => (by cases z), rfl, rfl, x3, x3.sub, .inl rfl, fun z hz => (by cases hz), fun z hz => (by cases hz), fun z hz => (by cases hz)⟩, ?_⟩
        · match i, hd with
          | 0, hd => cases hd
          | 1, hd => cases hd
          | 2, hd => cases hd; exact ⟨_, rfl, r1⟩
          | 3, hd => cases hd; exact ⟨_, rfl, r2⟩
          | 4, hd => cases hd
          | 5, hd => cases hd
          | 6, hd => cases hd
          | 7, hd => cases hd
          | n + 8, hd => cases hd
        · have k : (match (match exs (tabL [φ_check] []) b_tail [none, none, some (rowsD rows), some (plsD rows), none, none, none, none] none with
              | .ok (f, _) => .ok (flD f)
              | .err k x => .err k x
              | .stuck => .stuck : R D) with
            | .ok d => ∀ v G' H', Ext none G0 H0 G' H' → Rep K G' d v → Q0 v H'
            | .err k x => ∀ cls d G' H', Ext none G0 H0 G' H' → ExR K (xcOf K errs) k x cls d G' → E cls d H'
            | .stuck => False) := k
          show OutS _ _ (exs (tabL [φ_check] []) b_tail [none, none, some (rowsD rows), some (plsD rows), none, none, none, none] none) _
          cases e : exs (tabL [φ_check] []) b_tail [none, none, some (rowsD rows), some (plsD rows), none, none, none, none] none with
          | err kk x =>
            rw [e] at k
            exact fun cls d G' H' e' r' => k cls d G' H' e' r'
          | stuck => rw [e] at k; exact k.elim
          | ok r =>
            obtain ⟨fl, c'⟩ := r
            rw [e] at k
            cases fl with
            | nx ρ =>
              intro lc F' H' σ s'
              exact k .non F' H' s'.ext rfl
            | rt d =>
              intro v lc G' H' e' r' _ _ _
              exact k v G' H' e' r'
      | true =>
        refine iteT ?_
        obtain ⟨hil, hres, hn⟩ := hgt rfl
        refine ⟨_, rfl, ar, _, rfl, .inl (SqL.of ear), rfl, _, rfl, ?_⟩
        by_cases h4 : rows.length = 4
        · rw [decide_eq_true (show V.int (vs.length : Int) = V.int 4 by rw [lv, h4]; rfl)]
          refine iteT ?_
          have he : rowsT t.cps.toList 5 [] 0 0 = .error (i - 1) := by
            rw [← hres]
            obtain ⟨m, rfl⟩ : ∃ m, n = m + 1 := ⟨n - 1, by omega⟩
            rw [rowsT, if_pos h4]
          have hi := hi1 (fun z => by rw [z] at h4; cases h4)
          have := kE _ he H2 hB2
          rw [show ((i - 1 : Nat) : Int) = (i : Int) - 1 by omega] at this
          exact ⟨_, rfl, p, C, dx2, _, _, rfl, h2, T.cl, T.nA, fl3_at _ _ _, _, _, rfl, rfl, this⟩
        · rw [decide_eq_false (show ¬ V.int (vs.length : Int) = V.int 4 from fun z => h4 (by have := V.int.inj z; omega))]
          refine iteF ?_
          obtain ⟨m, rfl⟩ : ∃ m, n = m + 1 := ⟨n - 1, by omega⟩
          have hu : rowsT t.cps.toList (m + 1) rows read i = (match itemsT t.cps.toList (t.cps.toList.length + 1) read (skipT t.cps.toList i) [] with
              | .error e => .error e
              | .ok ((its, read'), j) => if t.cps.toList[j]? = some 124 then rowsT t.cps.toList m (rows ++ [its]) read' (j + 1) else .ok (rows ++ [its])) := by rw [rowsT, if_neg h4] <;> rfl
          rw [hu] at hres
          have hsk := skipT_le hil
          have nerc : ∀ {x y : Addr} {o : HO}, H2 x = some o → H2 y = none → x ≠ y := fun e e' z => by rw [z, e'] at e; cases e
          refine ⟨_, rfl, .inl ⟨rfl, _, SqL.of ear⟩, (by show 0 ≤ sizeLine; decide), fun c hc => ?_⟩
          have arc : ar ≠ c := nerc ear hc
          have apc : ap ≠ c := nerc eap hc
          have pc : p ≠ c := nerc h2 hc
          have c0 : H0 c = none := hB2.no hc (Ne.symm pc)
          have gc : G c = none := nw.no hc
          refine ⟨ar, _, _, rfl, rfl, (by rw [upd_ne arc]; exact ear), (by show _ < 16777216; omega), ?_⟩
          generalize hH3 : upd (upd H2 c (.lst [])) ar (.lst (vs ++ [.ref c])) = H3
          have ec3 : H3 c = some (.lst []) := by rw [← hH3, upd_ne (Ne.symm arc), upd_same]
          have ear3 : H3 ar = some (.lst (vs ++ [.ref c])) := by rw [← hH3, upd_same]
          have eap3 : H3 ap = some (.lst ws) := by rw [← hH3, upd_ne apar, upd_ne apc]; exact eap
          have h3 : H3 p = some (.ins C dx2 (fl3 t i read)) := by rw [← hH3, upd_ne (Ne.symm arp), upd_ne pc]; exact h2
          have hB3 : But p H0 H3 := by rw [← hH3]; exact (hB2.put c0).put ar0
          have nw3 : New H0 H3 G := by rw [← hH3]; exact (nw.put gc).put gar
          refine ⟨_, rfl, .inl ⟨rfl, _, SqL.of eap3⟩, (by show 0 ≤ sizeLine; decide), fun d hd => ?_⟩
          have nerd : ∀ {x y : Addr} {o : HO}, H3 x = some o → H3 y = none → x ≠ y := fun e e' z => by rw [z, e'] at e; cases e
          have ard : ar ≠ d := nerd ear3 hd
          have apd : ap ≠ d := nerd eap3 hd
          have pd : p ≠ d := nerd h3 hd
          have cd : c ≠ d := nerd ec3 hd
          have d0 : H0 d = none := hB3.no hd (Ne.symm pd)
          have gd : G d = none := nw3.no hd
          refine ⟨ap, _, _, rfl, rfl, (by rw [upd_ne apd]; exact eap3), (by show _ < 16777216; omega), ?_⟩
          generalize hH5 : upd (upd H3 d (.lst [])) ap (.lst (ws ++ [.ref d])) = H5
          have ed5 : H5 d = some (.lst []) := by rw [← hH5, upd_ne (Ne.symm apd), upd_same]
          have eap5 : H5 ap = some (.lst (ws ++ [.ref d])) := by rw [← hH5, upd_same]
          have ear5 : H5 ar = some (.lst (vs ++ [.ref c])) := by rw [← hH5, upd_ne (Ne.symm apar), upd_ne ard]; exact ear3
          have ec5 : H5 c = some (.lst []) := by rw [← hH5, upd_ne (Ne.symm apc), upd_ne cd]; exact ec3
          have h5 : H5 p = some (.ins C dx2 (fl3 t i read)) := by rw [← hH5, upd_ne (Ne.symm app), upd_ne pd]; exact h3
          have hB5 : But p H0 H5 := by rw [← hH5]; exact (hB3.put d0).put ap0
          have nw5 : New H0 H5 G := by rw [← hH5]; exact (nw3.put gd).put gap
          refine ⟨_, rfl, p, dx2, _, rfl, h5, no_skip T, p, t, i, _, rfl, ⟨dx2, h5⟩, ht, fun H6 hR6 hB6 => ?_⟩
          have hB6' := hB5.trans hB6
          obtain ⟨Pv, hPv⟩ : ∃ Pv : L2.St → Hp → Prop, Pv = fun σ H' => ∃ (its : List ItT) (rd j n2 : Nat) (G2 : Hp) (xs ys : List V) (o5 o6 : Option V), σ = [some (.str t), some (.ref p), some (.ref ar), some (.ref ap), some (.bl true), o5, o6, o7] ∧ RdAt C H' p t j rd ∧ j ≤ t.cps.toList.length ∧ t.cps.toList.length < j + n2 ∧ But p H0 H' ∧ New H0 H' G2 ∧ Same G G2 ∧ G2 p = none ∧ G2 ar = none ∧ G2 ap = none ∧ G2 c = none ∧ G2 d = none ∧ H' ar = some (.lst (vs ++ [.ref c])) ∧ H' ap = some (.lst (ws ++ [.ref d])) ∧ H' c = some (.lst xs) ∧ H' d = some (.lst ys) ∧ Reps K G2 (its.map itD) xs ∧ Reps K G2 (its.map plD) ys ∧ itemsT t.cps.toList n2 rd j its = itemsT t.cps.toList (t.cps.toList.length + 1) read (skipT t.cps.toList i) [] ∧ its.length ≤ j := ⟨_, rfl⟩
          refine while_by Pv (fun σ H' => muR t p H') ?_ ?_ (m_or (m_test (m_op m_eqd (m_op m_ixl (m_var 2) (m_un (fun x H Q Q' hq h => by
              obtain ⟨i, e, h⟩ := h
              exact ⟨i, e, hq _ _ h⟩) (m_c _))) (m_lst m_nil))) (m_test (m_op m_in (m_meth mm_sign (m_var 1) m_nil) (m_tup (m_cons (m_c _) (m_cons (m_c _) m_nil))))))
          · rw [hPv]
            exact ⟨[], read, _, t.cps.toList.length + 1, G, [], [], o5, o6, rfl, hR6, hsk.2, by omega, hB6', nw5.step0 gp hB6, Same.refl G, gp, gar, gap, gc, gd, hB6 _ _ ear5 arp, hB6 _ _ eap5 app, hB6 _ _ ec5 (Ne.symm pc), hB6 _ _ ed5 (Ne.symm pd), rfl, rfl, rfl, Nat.zero_le _⟩
          · intro σ H7 hpv
            rw [hPv] at hpv
            obtain ⟨its, rd, j, n2, G2, xs, ys, o5, o6, rfl, ⟨dx7, h7⟩, hj, hn2, hB7, nw7, sG2, g2p, g2ar, g2ap, g2c, g2d, ear7, eap7, ec7, ed7, rx, ry, hit, hil2⟩ := hpv
            obtain ⟨m2, rfl⟩ : ∃ m, n2 = m + 1 := ⟨n2 - 1, by omega⟩
            have lx : xs.length = its.length := by rw [← rx.length, List.length_map]
            have ly : ys.length = its.length := by rw [← ry.length, List.length_map]
            have m1 : muR t p H7 = (t.cps.toList.length + 1 - (j : Int)).toNat := by
              unfold muR
              rw [h7]
              dsimp only
              rw [fl3_at]
            have more : (its = [] ∨ ¬ (t.cps.toList[j]? = none ∨ t.cps.toList[j]? = some 124)) → ∀ (Hb : Hp), RdAt C Hb p t j rd → But p H0 Hb → New H0 Hb G2 → Hb ar = some (.lst (vs ++ [.ref c])) → Hb ap = some (.lst (ws ++ [.ref d])) → Hb c = some (.lst xs) → Hb d = some (.lst ys) → ∀ D : Ends, (D.nx = fun σ' H' => Pv σ' H' ∧ muR t p H' < muR t p H7) → tb D [some (.str t), some (.ref p), some (.ref ar), some (.ref ap), some (.bl true), o5, o6, o7] Hb := fun hc Hb b1 b2 b3 b4 b5 b6 b7 D hD => by
              rw [itemsT, if_pos hc] at hit
              refine hbk D t p ar ap c d H0 Hb G2 vs ws xs ys its rd j o5 o6 o7 ht hj hil2 arc ard apc apd cd hp c0 d0 b1 b2 b3 g2p g2c g2d b4 b5 b6 b7 rx ry (fun jj ej H' hB' => ?_) (fun it jj ej H' G' xs' ys' x y r1 r2 r3 r4 r5 r6 r7 r8 r9 r10 r11 => ?_)
              · rw [ej] at hit
                rw [← hit] at hres
                exact kE _ hres.symm H' hB'
              · rw [ej] at hit
                have hit : itemsT t.cps.toList m2 (rd + 1) (skipT t.cps.toList jj) (its ++ [it]) = itemsT t.cps.toList (t.cps.toList.length + 1) read (skipT t.cps.toList i) [] := hit
                have hlt := itemsT_lt ej
                have hk := skipT_le hlt.2
                have hbp : Hb p ≠ none := by
                  obtain ⟨_, z⟩ := b1
                  rw [z]
                  simp
                rw [hD, hPv]
                refine ⟨⟨its ++ [it], rd + 1, skipT t.cps.toList jj, m2, G', xs', ys', some x, some y, rfl, r1, hk.2, by omega, r2, r3, sG2.trans r4, r5 _ hbp g2p, r5 _ (by rw [b4]; simp) g2ar, r5 _ (by rw [b5]; simp) g2ap, r5 _ (by rw [b6]; simp) g2c, r5 _ (by rw [b7]; simp) g2d, r6, r7, r8, r9, r10, r11, hit, ?_⟩, ?_⟩
                · rw [List.length_append]
                  show its.length + 1 ≤ _
                  omega
                · obtain ⟨dx9, h9⟩ := r1
                  have m2 : muR t p H' = (t.cps.toList.length + 1 - ((skipT t.cps.toList jj : Nat) : Int)).toNat := by
                    unfold muR
                    rw [h9]
                    dsimp only
                    rw [fl3_at]
                  rw [m1, m2]
                  omega
            refine ⟨_, rfl, _, rfl, ar, _, _, _, rfl, rfl, SqL.of ear7, atI_last _ _, (by show 0 ≤ sizeLine; decide), fun e he => ?_⟩
            have ne7 : ∀ {x : Addr} {o : HO}, H7 x = some o → x ≠ e := fun q z => by rw [z, he] at q; cases q
            have hB8 : But p H0 (upd H7 e (.lst [])) := hB7.trans (But.new he)
            have nw8 : New H0 (upd H7 e (.lst [])) G2 := nw7.step0 g2p (But.new he)
            have h8 : upd H7 e (.lst []) p = some (.ins C dx7 (fl3 t j rd)) := by rw [upd_ne (ne7 h7)]; exact h7
            have ear8 : upd H7 e (.lst []) ar = some (.lst (vs ++ [.ref c])) := by rw [upd_ne (ne7 ear7)]; exact ear7
            have eap8 : upd H7 e (.lst []) ap = some (.lst (ws ++ [.ref d])) := by rw [upd_ne (ne7 eap7)]; exact eap7
            have ec8 : upd H7 e (.lst []) c = some (.lst xs) := by rw [upd_ne (ne7 ec7)]; exact ec7
            have ed8 : upd H7 e (.lst []) d = some (.lst ys) := by rw [upd_ne (ne7 ed7)]; exact ed7
            have ee8 : upd H7 e (.lst []) e = some (.lst []) := upd_same
            generalize upd H7 e (.lst []) = H8 at hB8 nw8 h8 ear8 eap8 ec8 ed8 ee8 ⊢
            obtain ⟨q1, q2⟩ := rep_l (K := K) (H := H8) (v := .ref c) (shp_items its) ⟨c, xs, rfl, .of ec8, rx.mono nw8.sub, by rw [List.length_map]; show _ ≤ 16777216; omega⟩ (by decide)
            refine ⟨_, _, q1, .lst (SqL.of ee8) .nil, q2, rfl, _, rfl, ?_⟩
            rw [eqv_nil]
            cases its with
            | nil =>
              refine iteT ?_
              exact iteT (more (.inl rfl) H8 ⟨dx7, h8⟩ hB8 nw8 ear8 eap8 ec8 ed8 _ rfl)
            | cons it0 its0 =>
              refine iteF ?_
              refine ⟨_, rfl, p, dx7, _, rfl, h8, no_sign T, p, t, j, rd, rfl, ⟨dx7, h8⟩, ht, (by show 2 ≤ sizeLine; decide), fun u hu => ?_⟩
              have ne8 : ∀ {x : Addr} {o : HO}, H8 x = some o → x ≠ u := fun q z => by rw [z, hu] at q; cases q
              refine ⟨u, _, rfl, .inr (.of upd_same), rfl, rfl, _, rfl, ?_⟩
              rw [show ([V.str "", V.str "|"] : List V) = [.str (⟨#[]⟩ : Str), .str (⟨#[124]⟩ : Str)] from by decide +kernel, inV_sg0]
              have hB9 : But p H0 (upd H8 u (.tup [.str (⟨#[]⟩ : Str), .str (⟨#[124]⟩ : Str)])) := hB8.trans (But.new hu)
              have nw9 : New H0 (upd H8 u (.tup [.str (⟨#[]⟩ : Str), .str (⟨#[124]⟩ : Str)])) G2 := nw8.step0 g2p (But.new hu)
              have h9 : upd H8 u (.tup [.str (⟨#[]⟩ : Str), .str (⟨#[124]⟩ : Str)]) p = some (.ins C dx7 (fl3 t j rd)) := by rw [upd_ne (ne8 h8)]; exact h8
              have ear9 : upd H8 u (.tup [.str (⟨#[]⟩ : Str), .str (⟨#[124]⟩ : Str)]) ar = some (.lst (vs ++ [.ref c])) := by rw [upd_ne (ne8 ear8)]; exact ear8
              have eap9 : upd H8 u (.tup [.str (⟨#[]⟩ : Str), .str (⟨#[124]⟩ : Str)]) ap = some (.lst (ws ++ [.ref d])) := by rw [upd_ne (ne8 eap8)]; exact eap8
              have ec9 : upd H8 u (.tup [.str (⟨#[]⟩ : Str), .str (⟨#[124]⟩ : Str)]) c = some (.lst xs) := by rw [upd_ne (ne8 ec8)]; exact ec8
              have ed9 : upd H8 u (.tup [.str (⟨#[]⟩ : Str), .str (⟨#[124]⟩ : Str)]) d = some (.lst ys) := by rw [upd_ne (ne8 ed8)]; exact ed8
              generalize upd H8 u (.tup [.str (⟨#[]⟩ : Str), .str (⟨#[124]⟩ : Str)]) = H9 at hB9 nw9 h9 ear9 eap9 ec9 ed9 ⊢
              by_cases hs : t.cps.toList[j]? = none ∨ t.cps.toList[j]? = some 124
              · rw [decide_eq_true hs]
                refine iteF ?_
                have hcn : ¬ ((it0 :: its0) = [] ∨ ¬ (t.cps.toList[j]? = none ∨ t.cps.toList[j]? = some 124)) := fun z => by
                  rcases z with z | z
                  · cases z
                  · exact z hs
                rw [itemsT, if_neg hcn] at hit
                rw [← hit] at hres
                have hres : (if t.cps.toList[j]? = some 124 then rowsT t.cps.toList m (rows ++ [it0 :: its0]) rd (j + 1) else .ok (rows ++ [it0 :: its0])) = rowsT t.cps.toList 5 [] 0 0 := hres
                refine ⟨_, rfl, p, dx7, _, rfl, h9, no_sign T, p, t, j, rd, rfl, ⟨dx7, h9⟩, ht, rfl, ?_⟩
                refine ⟨_, rfl, p, C, dx7, _, _, rfl, h9, T.cl, T.nA, fl3_at _ _ _, _, _, rfl, rfl, dx7, _, h9, (by rw [fl3_eq]; show 3 < 1000; decide), ?_⟩
                rw [put_at, show ((j : Int) + 1) = ((j + 1 : Nat) : Int) from rfl]
                have hB10 : But p H0 (upd H9 p (.ins C dx7 (fl3 t (j + 1 : Nat) rd))) := hB9.trans But.upd
                have nw10 : New H0 (upd H9 p (.ins C dx7 (fl3 t (j + 1 : Nat) rd))) G2 := nw9.step0 g2p But.upd
                have hR10 : RdAt C (upd H9 p (.ins C dx7 (fl3 t (j + 1 : Nat) rd))) p t (j + 1 : Nat) rd := ⟨dx7, upd_same⟩
                have ear10 : upd H9 p (.ins C dx7 (fl3 t (j + 1 : Nat) rd)) ar = some (.lst (vs ++ [.ref c])) := by rw [upd_ne arp]; exact ear9
                have eap10 : upd H9 p (.ins C dx7 (fl3 t (j + 1 : Nat) rd)) ap = some (.lst (ws ++ [.ref d])) := by rw [upd_ne app]; exact eap9
                have ec10 : upd H9 p (.ins C dx7 (fl3 t (j + 1 : Nat) rd)) c = some (.lst xs) := by rw [upd_ne (Ne.symm pc)]; exact ec9
                have ed10 : upd H9 p (.ins C dx7 (fl3 t (j + 1 : Nat) rd)) d = some (.lst ys) := by rw [upd_ne (Ne.symm pd)]; exact ed9
                generalize upd H9 p (.ins C dx7 (fl3 t (j + 1 : Nat) rd)) = H10 at hB10 nw10 hR10 ear10 eap10 ec10 ed10 ⊢
                have nw11 : New H0 H10 (upd (upd G2 c (.lst xs)) d (.lst ys)) := (nw10.add c0 ec10).add d0 ed10
                have s11 : Same G2 (upd (upd G2 c (.lst xs)) d (.lst ys)) := (same_add g2c).trans (same_add (by rw [upd_ne (Ne.symm cd)]; exact g2d))
                have c11 : upd (upd G2 c (.lst xs)) d (.lst ys) c = some (.lst xs) := by rw [upd_ne cd, upd_same]
                have d11 : upd (upd G2 c (.lst xs)) d (.lst ys) d = some (.lst ys) := upd_same
                have g11 : ∀ z, G2 z = none → z ≠ c → z ≠ d → upd (upd G2 c (.lst xs)) d (.lst ys) z = none := fun z h1 h2 h3 => by rw [upd_ne h3, upd_ne h2]; exact h1
                generalize upd (upd G2 c (.lst xs)) d (.lst ys) = G3 at nw11 s11 c11 d11 g11
                have hlr : (rows ++ [it0 :: its0]).length = rows.length + 1 := by rw [List.length_append]; rfl
                have mm : muL ar H2 = 5 - rows.length := by unfold muL; rw [ear]; dsimp only; rw [lv]
                have mm2 : muL ar H10 = 5 - (rows.length + 1) := by unfold muL; rw [ear10]; dsimp only; rw [List.length_append, lv]; rfl
                have hil3 : (it0 :: its0).length ≤ 16777216 := Nat.le_trans hil2 (Nat.le_trans hj hsz)
                refine ⟨⟨decide (V.str (sgT t j) = V.str "|"), rows ++ [it0 :: its0], rd, j + 1, G3, vs ++ [.ref c], ws ++ [.ref d], o5, o6, m, rfl, hR10, hB10, nw11, g11 _ g2p pc pd, g11 _ g2ar arc ard, g11 _ g2ap apc apd, ear10, eap10, ?_, ?_, ?_, fun _ => Nat.succ_le_succ (Nat.zero_le _), fun hg => ?_, fun hg => ?_⟩, ?_⟩
                · rw [List.map_append]
                  exact (rv.mono (sG2.trans s11)).append (Reps.one ⟨c, xs, rfl, .of c11, rx.mono s11, by rw [List.length_map]; exact hil3⟩)
                · rw [List.map_append]
                  exact (rw_.mono (sG2.trans s11)).append (Reps.one ⟨d, ys, rfl, .of d11, ry.mono s11, by rw [List.length_map]; exact hil3⟩)
                · rw [hlr]
                  omega
                · have e124 : t.cps.toList[j]? = some 124 := sg_is.mp (V.str.inj (of_decide_eq_true hg))
                  rw [if_pos e124] at hres
                  exact ⟨at_lt e124, hres, by rw [hlr]; omega⟩
                · have e124 : ¬ t.cps.toList[j]? = some 124 := fun z => of_decide_eq_false hg (by rw [sg_some z]; decide +kernel)
                  rw [if_neg e124] at hres
                  exact hres.symm
                · show (match (some (some (V.bl (decide (V.str (sgT t j) = V.str "|")))) : Option (Option V)) with | some (some (V.bl true)) => muL ar H10 + 1 | _ => 0) < muL ar H2 + 1
                  cases decide (V.str (sgT t j) = V.str "|") with
                  | false => exact Nat.succ_pos _
                  | true =>
                    show muL ar H10 + 1 < _
                    rw [mm, mm2]
                    omega
              · rw [decide_eq_false hs]
                refine iteT ?_
                exact more (.inr hs) H9 ⟨dx7, h9⟩ hB9 nw9 ear9 eap9 ec9 ed9 _ rfl
  obtain ⟨tm, hm, hk⟩ := MT
  refine ⟨_, pss_cons S0 hm, ?_⟩
  obtain ⟨hl, G, ds, hin, hnt, htb, r, hφ⟩ := hs
  have hdl : ds.length = 1 := by rw [r.length]; exact hl
  obtain ⟨d0, rfl⟩ : ∃ d, ds = [d] := by
    match ds, hdl with
    | [d], _ => exact ⟨d, rfl⟩
  obtain ⟨v0, rfl, r0⟩ := reps1 r
  refine ⟨⟨none, G, H, G, [], hnt, htb⟩, none, G, [some d0, none, none, none, none, none, none, none], none, ⟨hin, fun i d _ hd => ?_, fun i d hi => (by cases hi), fun i j d e l hi => (by cases hi), fun i l _ z => (by cases z), rfl, rfl, .refl hin, Same.refl G, .inl rfl, fun z hz => (by cases hz), fun z hz => (by cases hz), fun z hz => (by cases hz)⟩, ?_⟩
  · match i, hd with
    | 0, hd => cases hd; exact ⟨_, rfl, r0⟩
    | 1, hd => cases hd
    | 2, hd => cases hd
    | 3, hd => cases hd
    | 4, hd => cases hd
    | 5, hd => cases hd
    | 6, hd => cases hd
    | 7, hd => cases hd
    | n + 8, hd => cases hd
  · cases d0 with
    | str x =>
      intro lc F' H' σ s'
      obtain ⟨v, e1, e2, _⟩ := s'.non 0 (.str x) (by simp) rfl
      subst e2
      have hlen : σ.length = 8 := s'.len.symm
      match σ, hlen, e1, s' with
      | [_, o1, o2, o3, o4, o5, o6, o7], _, e1, s' =>
        cases e1
        have hφ : (match (if x.length ≤ LIM then (match rowsT x 5 [] 0 0 with
          | .error j => .err .text (some (.int (j : Int)))
          | .ok rows => runTail φ_check rows) else .stuck : R D) with
          | .ok d => ∀ v G' H', Ext none G H G' H' → Rep K G' d v → Q v H'
          | .err k x => ∀ cls d G' H', Ext none G H G' H' → ExR K (xcOf K errs) k x cls d G' → E cls d H'
          | .stuck => False) := hφ
        by_cases hx : x.length ≤ LIM
        · rw [if_pos hx] at hφ
          refine hk F' H' ⟨x.toArray⟩ Q o1 o2 o3 o4 o5 o6 o7 (s'.ext.nt hnt) (fun P z => s'.ext.tab P (htb P z)) s'.inn (by show x.toArray.size ≤ 16777216; exact hx) ?_
          show (match rowsT x 5 [] 0 0 with
            | .error j => ∀ cls d G' H'', Ext none F' H' G' H'' → ExR K (xcOf K errs) .text (some (.int (j : Int))) cls d G' → E cls d H''
            | .ok rows => match runTail φ_check rows with
              | .ok d => ∀ v G' H'', Ext none F' H' G' H'' → Rep K G' d v → Q v H''
              | .err k x => ∀ cls d G' H'', Ext none F' H' G' H'' → ExR K (xcOf K errs) k x cls d G' → E cls d H''
              | .stuck => False)
          cases er : rowsT x 5 [] 0 0 with
          | error j =>
            rw [er] at hφ
            exact fun cls d G' H'' e' q' => hφ cls d G' H'' (s'.ext.trans e') q'
          | ok rows =>
            rw [er] at hφ
            dsimp only at hφ ⊢
            cases et : runTail φ_check rows with
            | ok d => rw [et] at hφ; exact fun v G' H'' e' q' => hφ v G' H'' (s'.ext.trans e') q'
            | err k x => rw [et] at hφ; exact fun cls d G' H'' e' q' => hφ cls d G' H'' (s'.ext.trans e') q'
            | stuck => rw [et] at hφ; exact hφ.elim
        · rw [if_neg hx] at hφ
          exact hφ.elim
    | non => exact fun cls d G' H' e' r' => hφ cls d G' H' e' r'
    | bl b => exact fun cls d G' H' e' r' => hφ cls d G' H' e' r'
    | int b => exact fun cls d G' H' e' r' => hφ cls d G' H' e' r'
    | tup b => exact fun cls d G' H' e' r' => hφ cls d G' H' e' r'
    | lst b => exact fun cls d G' H' e' r' => hφ cls d G' H' e' r'
    | dct b c => exact fun cls d G' H' e' r' => hφ cls d G' H' e' r'
end
end L
namespace L
open PySem L2 G
variable [TQ]
def φ_read_program : List D → R D := φ_readP φ_check
/-! ### piece two -/
/-! ### law -/
abbrev s_law : Stmt := top 52
abbrev N_law : List Str := ["_law_script", "_law_row", "_law_program", "_law_found", "_law_due", "_law_steps"]
def b_law : List Stm := [(.newC 1 [(.var 0), (.cst (.int 0)), (.cst (.int 10203)), (.cst (.int 0))]), (.asg (.nm 2) (.tup [(.tup [(.tup [(.tup [(.cst (.int 1)), (.cst (.int 0)), (.cst (.int 0)), (.cst (.int 1))])])]), (.tup [(.tup [])])])), (.asg (.nm 3) (.lst [(.call 0 [(.var 2)]), (.call 1 [(.cst (.str [32, 91, 32, 49, 46, 48, 62, 48, 60, 49, 32, 93, 124, 91, 93]))]), (.call 2 [(.var 2), (.tup [])])])), (.asg (.nm 3) (.op .add (.var 3) (.lst [(.call 2 [(.var 2), (.tup [(.cst (.int 1)), (.cst (.int 1))])]), (.call 3 [(.var 2), (.tup [(.cst (.int 1)), (.cst (.int 1))]), (.cst (.int 0))]), (.call 3 [(.var 2), (.tup [(.cst (.int 1))]), (.cst (.int 0))])]))), (.asg (.nm 3) (.op .add (.var 3) (.lst [(.call 4 [(.var 2), (.tup [(.cst (.int 1)), (.cst (.int 0)), (.cst (.int 1))])])]))), (.asg (.nm 4) (.lst [(.cst (.str [91, 49, 46, 48, 62, 48, 60, 49, 93, 32, 124, 32, 91, 93])), (.var 2), (.tup [(.cst (.int 0)), (.cst (.int 1))]), (.tup [(.cst (.int 1))]), (.cst (.bl true)), (.cst (.bl false)), (.tup [(.cst (.int 1)), (.cst (.int 2))])])), (.ite false (.not (.call 5 [(.var 3), (.var 4)])) [(.ret false (.cst (.bl false)))] []), (.asg (.nm 3) (.lst [(.call 6 [(.var 2), (.cst (.int 1))]), (.call 7 [(.var 2), (.cst (.int 2))]), (.call 8 [(.var 2), (.cst (.int 1))]), (.call 8 [(.var 2), (.cst (.int 2))])])), (.asg (.nm 3) (.op .add (.var 3) (.lst [(.call 9 [(.var 2), (.tup [(.cst (.int 0)), (.cst (.int 0))]), (.tup [(.cst (.int 1)), (.cst (.int 0))])])]))), (.asg (.nm 4) (.lst [(.lst [(.tup [(.cst (.int 0)), (.cst (.int 0))]), (.tup [(.cst (.int 0)), (.cst (.int 1))]), (.tup [(.cst (.int 1)), (.cst (.int 0))]), (.tup [(.cst (.int 1)), (.cst (.int 1))])]), (.cst (.bl true)), (.tup []), (.tup [(.cst (.int 0))]), (.tup [(.tup [(.tup [(.tup [(.cst (.int 1)), (.cst (.int 0)), (.cst .non), (.cst (.int 1))])])]), (.tup [(.tup [])])])])), (.ite false (.not (.call 5 [(.var 3), (.var 4)])) [(.ret false (.cst (.bl false)))] []), (.asg (.nm 5) (.call 1 [(.cst (.str [91, 49, 46, 48, 62, 49, 93, 32, 91, 93, 32, 124, 32, 91, 48, 46, 49, 62, 48, 93]))])), (.asg (.nm 3) (.lst [(.call 2 [(.var 5), (.tup [])]), (.call 2 [(.var 5), (.tup [(.cst (.int 1))])]), (.call 2 [(.var 5), (.tup [(.cst (.int 1)), (.cst (.int 0)), (.cst (.int 0))])]), (.call 7 [(.var 5), (.cst (.int 3))])])), (.asg (.nm 3) (.op .add (.var 3) (.lst [(.call 8 [(.var 5), (.cst (.int 3))]), (.call 9 [(.var 5), (.tup [(.cst (.int 0)), (.cst (.int 0))]), (.tup [(.cst (.int 1)), (.cst (.int 0))])])]))), (.asg (.nm 3) (.op .add (.var 3) (.lst [(.call 4 [(.var 5), (.tup [(.cst (.int 1)), (.cst (.int 0)), (.cst (.int 0)), (.cst (.int 1)), (.cst (.int 0))])])]))), (.ret false (.call 5 [(.var 3), (.lst [(.tup [(.cst (.int 1))]), (.tup [(.cst (.int 0))]), (.tup [(.cst (.int 1))]), (.cst (.bl true)), (.tup []), (.call 1 [(.cst (.str [91, 93, 32, 91, 93, 32, 124, 32, 91, 48, 46, 49, 62, 48, 93]))]), (.tup [(.cst (.int 3)), (.cst (.int 2))])])]))]
def φ_law : List D → R D := runF (tabL [φ_write_program, φ_read_program, φ_going, φ_is_shut, φ_done_after, (φ__law_alike 12), φ_walk, φ_walk_full, φ_walk_shut, φ_without_low] []) 6 b_law
theorem sc_law : FnScope N_law ["_law_script"] (defScope s_law) := ⟨rfl, rfl, rfl, by decide +kernel, rfl, by decide +kernel, by decide +kernel⟩
theorem ok_law {P : Program} {w : World} {K : PySem.W.Frag} {mg : Str → Option Value} {base : Heap} {f : Addr} {fd : FuncData} (F : FnP K "law" s_law f fd) (C_write_program : Cal P w K mg base 5 "write_program" ["program"] (spF K 1 φ_write_program)) (C_read_program : Cal P w K mg base 7 "read_program" ["text"] (spX K 1 (xcOf K errs) φ_read_program)) (C_going : Cal P w K mg base 6 "going" ["program", "weaving"] (spF K 2 φ_going)) (C_is_shut : Cal P w K mg base 6 "is_shut" ["program", "weaving", "hand"] (spF K 3 φ_is_shut)) (C_done_after : Cal P w K mg base 6 "done_after" ["program", "weaving"] (spF K 2 φ_done_after)) (C__law_alike : Cal P w K mg base 12 "_law_alike" ["_law_found", "_law_due"] (spF K 2 (φ__law_alike 12))) (C_walk : Cal P w K mg base 5 "walk" ["program", "rounds"] (spF K 2 φ_walk)) (C_walk_full : Cal P w K mg base 6 "walk_full" ["program", "rounds"] (spF K 2 φ_walk_full)) (C_walk_shut : Cal P w K mg base 6 "walk_shut" ["program", "rounds"] (spF K 2 φ_walk_shut)) (C_without_low : Cal P w K mg base 5 "without_low" ["program", "name", "mark"] (spF K 3 φ_without_low)) : FnOk P w K mg base CX0 13 f fd ["_law_script"] (spF K 1 φ_law) := by
  refine def_Fn (k := 12) (tabL [φ_write_program, φ_read_program, φ_going, φ_is_shut, φ_done_after, (φ__law_alike 12), φ_walk, φ_walk_full, φ_walk_shut, φ_without_low] []) [] (some 1) (xcOf K errs) b_law 6 1 rfl rfl F sc_law (by decide) (by decide) fun cdv A outer s H E hr => ?_
  have okn : Ok (Cfg.mk K (tabL [φ_write_program, φ_read_program, φ_going, φ_is_shut, φ_done_after, (φ__law_alike 12), φ_walk, φ_walk_full, φ_walk_shut, φ_without_low] []) [] (some 1) (xcOf K errs) (fun _ _ _ => False) none []).non (cxF P w K mg base N_law "law" s_law f cdv A outer s H E) := okX (k := 12) rfl rfl hr
  have oka : Ok (Cfg.mk K (tabL [φ_write_program, φ_read_program, φ_going, φ_is_shut, φ_done_after, (φ__law_alike 12), φ_walk, φ_walk_full, φ_walk_shut, φ_without_low] []) [] (some 1) (xcOf K errs) (fun _ _ _ => False) none []).all (cxF P w K mg base N_law "law" s_law f cdv A outer s H E) := okX (k := 12) rfl rfl hr
  have hr : Room (12) (cxF P w K mg base N_law "law" s_law f cdv A outer s H E).A := hr
  exact (s_cons (s_newC 1 sc_law.nd (gf_lst (a_cons (kv 0) (a_cons k_int (a_cons k_int (a_cons k_int a_nil)))))) (s_cons (s_set 2 sc_law.nd (ge_tup (a_cons (ge_tup (a_cons (ge_tup (a_cons (ge_tup (a_cons k_int (a_cons k_int (a_cons k_int (a_cons k_int a_nil))))) a_nil)) a_nil)) (a_cons (ge_tup (a_cons (ge_tup a_nil) a_nil)) a_nil)))) (s_cons (s_set 3 sc_law.nd (k_f (gf_lst (a_cons (k_call okn C_write_program hr (a_cons (kv 2) a_nil)) (a_cons (k_call okn C_read_program.strict hr (a_cons k_str a_nil)) (a_cons (k_call okn C_going hr (a_cons (kv 2) (a_cons (ge_tup a_nil) a_nil))) a_nil)))))) (s_cons (s_set 3 sc_law.nd (ge_add okn (kv 3) (k_f (gf_lst (a_cons (k_call okn C_going hr (a_cons (kv 2) (a_cons (ge_tup (a_cons k_int (a_cons k_int a_nil))) a_nil))) (a_cons (k_call okn C_is_shut hr (a_cons (kv 2) (a_cons (ge_tup (a_cons k_int (a_cons k_int a_nil))) (a_cons k_int a_nil)))) (a_cons (k_call okn C_is_shut hr (a_cons (kv 2) (a_cons (ge_tup (a_cons k_int a_nil)) (a_cons k_int a_nil)))) a_nil))))))) (s_cons (s_set 3 sc_law.nd (ge_add okn (kv 3) (k_f (gf_lst (a_cons (k_call okn C_done_after hr (a_cons (kv 2) (a_cons (ge_tup (a_cons k_int (a_cons k_int (a_cons k_int a_nil)))) a_nil))) a_nil))))) (s_cons (s_set 4 sc_law.nd (k_f (gf_lst (a_cons k_str (a_cons (kv 2) (a_cons (ge_tup (a_cons k_int (a_cons k_int a_nil))) (a_cons (ge_tup (a_cons k_int a_nil)) (a_cons k_bl (a_cons k_bl (a_cons (ge_tup (a_cons k_int (a_cons k_int a_nil))) a_nil)))))))))) (s_cons (s_iteN (gt_not (t_val (k_call okn C__law_alike hr (a_cons (kv 3) (a_cons (kv 4) a_nil))))) (s_cons (s_retN k_bl) s_nil) s_nil) (s_cons (s_set 3 sc_law.nd (k_f (gf_lst (a_cons (k_call okn C_walk hr (a_cons (kv 2) (a_cons k_int a_nil))) (a_cons (k_call okn C_walk_full hr (a_cons (kv 2) (a_cons k_int a_nil))) (a_cons (k_call okn C_walk_shut hr (a_cons (kv 2) (a_cons k_int a_nil))) (a_cons (k_call okn C_walk_shut hr (a_cons (kv 2) (a_cons k_int a_nil))) a_nil))))))) (s_cons (s_set 3 sc_law.nd (ge_add okn (kv 3) (k_f (gf_lst (a_cons (k_call okn C_without_low hr (a_cons (kv 2) (a_cons (ge_tup (a_cons k_int (a_cons k_int a_nil))) (a_cons (ge_tup (a_cons k_int (a_cons k_int a_nil))) a_nil)))) a_nil))))) (s_cons (s_set 4 sc_law.nd (k_f (gf_lst (a_cons (k_f (gf_lst (a_cons (ge_tup (a_cons k_int (a_cons k_int a_nil))) (a_cons (ge_tup (a_cons k_int (a_cons k_int a_nil))) (a_cons (ge_tup (a_cons k_int (a_cons k_int a_nil))) (a_cons (ge_tup (a_cons k_int (a_cons k_int a_nil))) a_nil)))))) (a_cons k_bl (a_cons (ge_tup a_nil) (a_cons (ge_tup (a_cons k_int a_nil)) (a_cons (ge_tup (a_cons (ge_tup (a_cons (ge_tup (a_cons (ge_tup (a_cons k_int (a_cons k_int (a_cons k_non (a_cons k_int a_nil))))) a_nil)) a_nil)) (a_cons (ge_tup (a_cons (ge_tup a_nil) a_nil)) a_nil))) a_nil)))))))) (s_cons (s_iteN (gt_not (t_val (k_call okn C__law_alike hr (a_cons (kv 3) (a_cons (kv 4) a_nil))))) (s_cons (s_retN k_bl) s_nil) s_nil) (s_cons (s_set 5 sc_law.nd (k_call okn C_read_program.strict hr (a_cons k_str a_nil))) (s_cons (s_set 3 sc_law.nd (k_f (gf_lst (a_cons (k_call okn C_going hr (a_cons (kv 5) (a_cons (ge_tup a_nil) a_nil))) (a_cons (k_call okn C_going hr (a_cons (kv 5) (a_cons (ge_tup (a_cons k_int a_nil)) a_nil))) (a_cons (k_call okn C_going hr (a_cons (kv 5) (a_cons (ge_tup (a_cons k_int (a_cons k_int (a_cons k_int a_nil)))) a_nil))) (a_cons (k_call okn C_walk_full hr (a_cons (kv 5) (a_cons k_int a_nil))) a_nil))))))) (s_cons (s_set 3 sc_law.nd (ge_add okn (kv 3) (k_f (gf_lst (a_cons (k_call okn C_walk_shut hr (a_cons (kv 5) (a_cons k_int a_nil))) (a_cons (k_call okn C_without_low hr (a_cons (kv 5) (a_cons (ge_tup (a_cons k_int (a_cons k_int a_nil))) (a_cons (ge_tup (a_cons k_int (a_cons k_int a_nil))) a_nil)))) a_nil)))))) (s_cons (s_set 3 sc_law.nd (ge_add okn (kv 3) (k_f (gf_lst (a_cons (k_call okn C_done_after hr (a_cons (kv 5) (a_cons (ge_tup (a_cons k_int (a_cons k_int (a_cons k_int (a_cons k_int (a_cons k_int a_nil)))))) a_nil))) a_nil))))) (s_cons (s_retN (k_call okn C__law_alike hr (a_cons (kv 3) (a_cons (k_f (gf_lst (a_cons (ge_tup (a_cons k_int a_nil)) (a_cons (ge_tup (a_cons k_int a_nil)) (a_cons (ge_tup (a_cons k_int a_nil)) (a_cons k_bl (a_cons (ge_tup a_nil) (a_cons (k_call okn C_read_program.strict hr (a_cons k_str a_nil)) (a_cons (ge_tup (a_cons k_int (a_cons k_int a_nil))) a_nil))))))))) a_nil)))) s_nil))))))))))))))))
end L
namespace L
open PySem G
theorem law_true : ∀ ns : List Int, ns.length ≤ 63 → φ_law [.lst (ns.map .int)] = .ok (.bl true) := fun ns _ => by
  kernel_rfl
end L
namespace L
open PySem L2 G
/-! ### the head -/
def d_is_in : He.DefD := ⟨("is_in", none), "is_in", "is_in", defArgs s_is_in, defBody s_is_in, defScope s_is_in, [], []⟩
def d_is_ask : He.DefD := ⟨("is_ask", none), "is_ask", "is_ask", defArgs s_is_ask, defBody s_is_ask, defScope s_is_ask, [], []⟩
def d_is_item : He.DefD := ⟨("is_item", none), "is_item", "is_item", defArgs s_is_item, defBody s_is_item, defScope s_is_item, [], []⟩
def d_need_program : He.DefD := ⟨("need_program", none), "need_program", "need_program", defArgs s_need_program, defBody s_need_program, defScope s_need_program, [], []⟩
def d_need_item : He.DefD := ⟨("need_item", none), "need_item", "need_item", defArgs s_need_item, defBody s_need_item, defScope s_need_item, [], []⟩
def d_need_hand : He.DefD := ⟨("need_hand", none), "need_hand", "need_hand", defArgs s_need_hand, defBody s_need_hand, defScope s_need_hand, [], []⟩
def d_with_item : He.DefD := ⟨("with_item", none), "with_item", "with_item", defArgs s_with_item, defBody s_with_item, defScope s_with_item, [], []⟩
def d_without_low : He.DefD := ⟨("without_low", none), "without_low", "without_low", defArgs s_without_low, defBody s_without_low, defScope s_without_low, [], []⟩
def d_times_done : He.DefD := ⟨("times_done", none), "times_done", "times_done", defArgs s_times_done, defBody s_times_done, defScope s_times_done, [], []⟩
def d_asks_now : He.DefD := ⟨("asks_now", none), "asks_now", "asks_now", defArgs s_asks_now, defBody s_asks_now, defScope s_asks_now, [], []⟩
def d_can_go : He.DefD := ⟨("can_go", none), "can_go", "can_go", defArgs s_can_go, defBody s_can_go, defScope s_can_go, [], []⟩
def d_is_shut_in : He.DefD := ⟨("is_shut_in", none), "is_shut_in", "is_shut_in", defArgs s_is_shut_in, defBody s_is_shut_in, defScope s_is_shut_in, [], []⟩
def d_gone : He.DefD := ⟨("gone", none), "gone", "gone", defArgs s_gone, defBody s_gone, defScope s_gone, [], []⟩
def d_is_hands : He.DefD := ⟨("is_hands", none), "is_hands", "is_hands", defArgs s_is_hands, defBody s_is_hands, defScope s_is_hands, [], []⟩
def d_line_in : He.DefD := ⟨("line_in", none), "line_in", "line_in", defArgs s_line_in, defBody s_line_in, defScope s_line_in, [], []⟩
def d_state_after : He.DefD := ⟨("state_after", none), "state_after", "state_after", defArgs s_state_after, defBody s_state_after, defScope s_state_after, [], []⟩
def d_done_after : He.DefD := ⟨("done_after", none), "done_after", "done_after", defArgs s_done_after, defBody s_done_after, defScope s_done_after, [], []⟩
def d_going : He.DefD := ⟨("going", none), "going", "going", defArgs s_going, defBody s_going, defScope s_going, [], []⟩
def d_is_shut : He.DefD := ⟨("is_shut", none), "is_shut", "is_shut", defArgs s_is_shut, defBody s_is_shut, defScope s_is_shut, [], []⟩
def d_walk : He.DefD := ⟨("walk", none), "walk", "walk", defArgs s_walk, defBody s_walk, defScope s_walk, [], []⟩
def d_walk_full : He.DefD := ⟨("walk_full", none), "walk_full", "walk_full", defArgs s_walk_full, defBody s_walk_full, defScope s_walk_full, [], []⟩
def d_walk_shut : He.DefD := ⟨("walk_shut", none), "walk_shut", "walk_shut", defArgs s_walk_shut, defBody s_walk_shut, defScope s_walk_shut, [], []⟩
def d_ask_text : He.DefD := ⟨("ask_text", none), "ask_text", "ask_text", defArgs s_ask_text, defBody s_ask_text, defScope s_ask_text, [], []⟩
def d_write_program : He.DefD := ⟨("write_program", none), "write_program", "write_program", defArgs s_write_program, defBody s_write_program, defScope s_write_program, [], []⟩
def d_check : He.DefD := ⟨("check", none), "check", "check", defArgs s_check, defBody s_check, defScope s_check, [], []⟩
def d_read_program : He.DefD := ⟨("read_program", none), "read_program", "read_program", defArgs s_read_program, defBody s_read_program, defScope s_read_program, [], []⟩
def d__law_alike : He.DefD := ⟨("_law_alike", none), "_law_alike", "_law_alike", defArgs s__law_alike, defBody s__law_alike, defScope s__law_alike, [], []⟩
def d_law : He.DefD := ⟨("law", none), "law", "law", defArgs s_law, defBody s_law, defScope s_law, [], []⟩
def dR_init : He.DefD := ⟨("Reader", some "__init__"), "__init__", "Reader.__init__", defArgs m_init, defBody m_init, defScope m_init, [], []⟩
def dR_sign : He.DefD := ⟨("Reader", some "sign"), "sign", "Reader.sign", defArgs m_sign, defBody m_sign, defScope m_sign, [], []⟩
def dR_skip : He.DefD := ⟨("Reader", some "skip"), "skip", "Reader.skip", defArgs m_skip, defBody m_skip, defScope m_skip, [], []⟩
def dR_take : He.DefD := ⟨("Reader", some "take"), "take", "Reader.take", defArgs m_take, defBody m_take, defScope m_take, [], []⟩
def dR_number : He.DefD := ⟨("Reader", some "number"), "number", "Reader.number", defArgs m_number, defBody m_number, defScope m_number, [], []⟩
def dR_ask : He.DefD := ⟨("Reader", some "ask"), "ask", "Reader.ask", defArgs m_ask, defBody m_ask, defScope m_ask, [], []⟩
def dR_item : He.DefD := ⟨("Reader", some "item"), "item", "Reader.item", defArgs m_item, defBody m_item, defScope m_item, [], []⟩
def fn : List He.DefD := [d_is_in, d_is_ask, d_is_item, d_need_program, d_need_item, d_need_hand, d_with_item, d_without_low, d_times_done, d_asks_now, d_can_go, d_is_shut_in, d_gone, d_is_hands, d_line_in, d_state_after, d_done_after, d_going, d_is_shut, d_walk, d_walk_full, d_walk_shut, d_ask_text, d_write_program, d_check, d_read_program, d__law_alike, d_law, dR_init, dR_sign, dR_skip, dR_take, dR_number, dR_ask, dR_item]
def fa : List He.Fa := [.glo "is_in", .glo "is_ask", .glo "is_item", .glo "need_program", .glo "need_item", .glo "need_hand", .glo "with_item", .glo "without_low", .glo "times_done", .glo "asks_now", .glo "can_go", .glo "is_shut_in", .glo "gone", .glo "is_hands", .glo "line_in", .glo "state_after", .glo "done_after", .glo "going", .glo "is_shut", .glo "walk", .glo "walk_full", .glo "walk_shut", .glo "ask_text", .glo "write_program", .glo "check", .glo "read_program", .glo "_law_alike", .glo "law", .free "isinstance", .free "int", .free "bool", .free "tuple", .free "len", .int "LEAST_LOW" (-6), .int "MOST_LOW" (3), .int "MOST_HIGH" (6), .free "sorted", .free "set", .int "MOST_HANDS" (4), .free "sum", .int "MOST_ITEMS" (10), .free "enumerate", .int "MOST_WEAVING" (400), .free "range", .int "MOST_ROUNDS" (6), .int "MOST_WALKED" (4000), .free "str", .free "list", .cls "Reader", .noat "Reader" "text", .noat "Reader" "at", .noat "Reader" "read", .mkr "Reader", .glo "Reader", .meth "Reader" "sign", .meth "Reader" "skip", .meth "Reader" "take", .meth "Reader" "number", .meth "Reader" "ask", .meth "Reader" "item", .exc "NotText", .glo "NotText"]
abbrev Rw : PySem.W.OpenRow := PySem.W.OpenLaw.row PySem.Challenge.rw_roundguards_k03_known_programs
def clsB : Stmt → List Stmt
  | .ClassDef (body := b) .. => b
  | _ => []
abbrev si_InvalidText : Stmt := (clsB (top 9)).getD 0 (.Pass ⟨0, 0, 0, 0⟩)
def i_InvalidText : IniD := ⟨"InvalidText", "place", "place", "__init__", "InvalidText.__init__", defArgs si_InvalidText, defBody si_InvalidText, defScope si_InvalidText⟩
def il : List IniD := [i_InvalidText]
def ex (K : PySem.W.Frag) : Bool := [iniB K PySem.Challenge.pw_roundguards_k03_known_programs.main.file i_InvalidText].all id
def xs : List Str := ["without_low"]
abbrev hk : PySem.W.Hook := letI : TQ := dumTQ; hookX 6 fa fn il ex xs
def ob (s : PySem.W.SharedT) : AlX := letI : TQ := dumTQ; obsXG 6 fa fn il ex xs (HandSHeadRun.getT s)
theorem ob_eq (s : PySem.W.SharedT) : ob s = hk.obs s.abs := letI : TQ := dumTQ; obsXG_eq (HandSHeadRun.getT_eq s)
def loose : List PySem.Str := (["RoundError", "BadProgram", "BadWeaving", "BadItem", "BadHand", "BadCount", "BadAsk", "NotText", "InvalidText", "TooMany", "is_in", "MOST_HANDS"] : List PySem.Str) ++ (["MOST_ITEMS", "LEAST_LOW", "MOST_LOW", "MOST_HIGH", "is_ask", "is_item", "need_program", "need_item", "need_hand", "with_item", "MOST_WEAVING", "MOST_ROUNDS"] : List PySem.Str) ++ (["MOST_WALKED", "times_done", "asks_now", "can_go", "is_shut_in", "gone", "is_hands", "line_in", "state_after", "done_after", "going", "is_shut"] : List PySem.Str) ++ (["walk", "walk_full", "walk_shut", "ask_text", "write_program", "Reader", "check", "read_program", "_law_alike"] : List PySem.Str)
theorem run (w : World) : HandSHeadRun.RunEq Rw (PySem.W.view Rw.prog [25, 52]) hk ob 6000 loose w := by
  intro os
  kernel_rfl
theorem facts [TQ] {P : Program} {w : World} {K : PySem.W.Frag} {h : Heap} {mg : Str → Option Value} {f : Addr} (X : K.In h) (G : h.Ns mainGlobals mg) (hfa : mg ("law" : Str) = some (.ref f)) (c0 : SaysE fa fn il ex K) (hP : P = PySem.Challenge.pw_roundguards_k03_known_programs) {c_without_low T_without_low : Addr} (t_without_low : TabOf mg h "without_low" c_without_low T_without_low) (hB_without_low : TQ.is T_without_low) (hnm_without_low : TQ.nm T_without_low = ("without_low" ++ ".<locals>.") ++ "<lambda>") :
    ∃ fd : FuncData, (∀ (s : Shared) (v : Value), BindsTo s fd ⟨[v], []⟩ [("_law_script", v)]) ∧ ∀ base : Heap, K.In base → base.Ns mainGlobals mg → LamX.TabB base mg c_without_low T_without_low → FnOk P w K mg base CX0 13 f fd ["_law_script"] (spF K 1 φ_law) := by
  have c := c0.d
  have cm := List.all_eq_true.mp c0.more
  have z_isinstance : mg "isinstance" = none := He.free_ok X G (c.fact 28 (f := .free "isinstance") rfl)
  have z_int : mg "int" = none := He.free_ok X G (c.fact 29 (f := .free "int") rfl)
  have z_bool : mg "bool" = none := He.free_ok X G (c.fact 30 (f := .free "bool") rfl)
  have z_tuple : mg "tuple" = none := He.free_ok X G (c.fact 31 (f := .free "tuple") rfl)
  have z_len : mg "len" = none := He.free_ok X G (c.fact 32 (f := .free "len") rfl)
  have c_LEAST_LOW : ∃ t, mg "LEAST_LOW" = some (.int (-6) t) := He.int_ok X G (c.fact 33 (f := .int "LEAST_LOW" (-6)) rfl)
  have c_MOST_LOW : ∃ t, mg "MOST_LOW" = some (.int (3) t) := He.int_ok X G (c.fact 34 (f := .int "MOST_LOW" (3)) rfl)
  have c_MOST_HIGH : ∃ t, mg "MOST_HIGH" = some (.int (6) t) := He.int_ok X G (c.fact 35 (f := .int "MOST_HIGH" (6)) rfl)
  have z_sorted : mg "sorted" = none := He.free_ok X G (c.fact 36 (f := .free "sorted") rfl)
  have z_set : mg "set" = none := He.free_ok X G (c.fact 37 (f := .free "set") rfl)
  have c_MOST_HANDS : ∃ t, mg "MOST_HANDS" = some (.int (4) t) := He.int_ok X G (c.fact 38 (f := .int "MOST_HANDS" (4)) rfl)
  have z_sum : mg "sum" = none := He.free_ok X G (c.fact 39 (f := .free "sum") rfl)
  have c_MOST_ITEMS : ∃ t, mg "MOST_ITEMS" = some (.int (10) t) := He.int_ok X G (c.fact 40 (f := .int "MOST_ITEMS" (10)) rfl)
  have z_enumerate : mg "enumerate" = none := He.free_ok X G (c.fact 41 (f := .free "enumerate") rfl)
  have c_MOST_WEAVING : ∃ t, mg "MOST_WEAVING" = some (.int (400) t) := He.int_ok X G (c.fact 42 (f := .int "MOST_WEAVING" (400)) rfl)
  have z_range : mg "range" = none := He.free_ok X G (c.fact 43 (f := .free "range") rfl)
  have c_MOST_ROUNDS : ∃ t, mg "MOST_ROUNDS" = some (.int (6) t) := He.int_ok X G (c.fact 44 (f := .int "MOST_ROUNDS" (6)) rfl)
  have c_MOST_WALKED : ∃ t, mg "MOST_WALKED" = some (.int (4000) t) := He.int_ok X G (c.fact 45 (f := .int "MOST_WALKED" (4000)) rfl)
  have z_str : mg "str" = none := He.free_ok X G (c.fact 46 (f := .free "str") rfl)
  have z_list : mg "list" = none := He.free_ok X G (c.fact 47 (f := .free "list") rfl)
  obtain ⟨fd_is_in, F_is_in⟩ := c.def_ 0 (d := d_is_in) rfl
  have m_is_in : mg "is_in" = some (.ref _) := He.glo_ok X G (c.fact 0 (f := .glo "is_in") rfl)
  have B_is_in : Binds K fd_is_in ["value", "least", "most"] [] := F_is_in.bindsN fun _ _ _ _ _ _ us hl => match us, hl with | [_, _, _], _ => rfl
  obtain ⟨fd_is_ask, F_is_ask⟩ := c.def_ 1 (d := d_is_ask) rfl
  have m_is_ask : mg "is_ask" = some (.ref _) := He.glo_ok X G (c.fact 1 (f := .glo "is_ask") rfl)
  have B_is_ask : Binds K fd_is_ask ["value", "hand", "rows"] [] := F_is_ask.bindsN fun _ _ _ _ _ _ us hl => match us, hl with | [_, _, _], _ => rfl
  obtain ⟨fd_is_item, F_is_item⟩ := c.def_ 2 (d := d_is_item) rfl
  have m_is_item : mg "is_item" = some (.ref _) := He.glo_ok X G (c.fact 2 (f := .glo "is_item") rfl)
  have B_is_item : Binds K fd_is_item ["value", "hand", "rows"] [] := F_is_item.bindsN fun _ _ _ _ _ _ us hl => match us, hl with | [_, _, _], _ => rfl
  obtain ⟨fd_need_program, F_need_program⟩ := c.def_ 3 (d := d_need_program) rfl
  have m_need_program : mg "need_program" = some (.ref _) := He.glo_ok X G (c.fact 3 (f := .glo "need_program") rfl)
  have B_need_program : Binds K fd_need_program ["program"] [] := F_need_program.bindsN fun _ _ _ _ _ _ us hl => match us, hl with | [_], _ => rfl
  obtain ⟨fd_need_item, F_need_item⟩ := c.def_ 4 (d := d_need_item) rfl
  have m_need_item : mg "need_item" = some (.ref _) := He.glo_ok X G (c.fact 4 (f := .glo "need_item") rfl)
  have B_need_item : Binds K fd_need_item ["program", "name"] [] := F_need_item.bindsN fun _ _ _ _ _ _ us hl => match us, hl with | [_, _], _ => rfl
  obtain ⟨fd_need_hand, F_need_hand⟩ := c.def_ 5 (d := d_need_hand) rfl
  have m_need_hand : mg "need_hand" = some (.ref _) := He.glo_ok X G (c.fact 5 (f := .glo "need_hand") rfl)
  have B_need_hand : Binds K fd_need_hand ["program", "hand"] [] := F_need_hand.bindsN fun _ _ _ _ _ _ us hl => match us, hl with | [_, _], _ => rfl
  obtain ⟨fd_with_item, F_with_item⟩ := c.def_ 6 (d := d_with_item) rfl
  have m_with_item : mg "with_item" = some (.ref _) := He.glo_ok X G (c.fact 6 (f := .glo "with_item") rfl)
  have B_with_item : Binds K fd_with_item ["program", "name", "item"] [] := F_with_item.bindsN fun _ _ _ _ _ _ us hl => match us, hl with | [_, _, _], _ => rfl
  obtain ⟨fd_without_low, F_without_low⟩ := c.def_ 7 (d := d_without_low) rfl
  have m_without_low : mg "without_low" = some (.ref _) := He.glo_ok X G (c.fact 7 (f := .glo "without_low") rfl)
  have B_without_low : Binds K fd_without_low ["program", "name", "mark"] [] := F_without_low.bindsN fun _ _ _ _ _ _ us hl => match us, hl with | [_, _, _], _ => rfl
  obtain ⟨fd_times_done, F_times_done⟩ := c.def_ 8 (d := d_times_done) rfl
  have m_times_done : mg "times_done" = some (.ref _) := He.glo_ok X G (c.fact 8 (f := .glo "times_done") rfl)
  have B_times_done : Binds K fd_times_done ["program", "done", "mark"] [] := F_times_done.bindsN fun _ _ _ _ _ _ us hl => match us, hl with | [_, _, _], _ => rfl
  obtain ⟨fd_asks_now, F_asks_now⟩ := c.def_ 9 (d := d_asks_now) rfl
  have m_asks_now : mg "asks_now" = some (.ref _) := He.glo_ok X G (c.fact 9 (f := .glo "asks_now") rfl)
  have B_asks_now : Binds K fd_asks_now ["program", "done", "hand"] [] := F_asks_now.bindsN fun _ _ _ _ _ _ us hl => match us, hl with | [_, _, _], _ => rfl
  obtain ⟨fd_can_go, F_can_go⟩ := c.def_ 10 (d := d_can_go) rfl
  have m_can_go : mg "can_go" = some (.ref _) := He.glo_ok X G (c.fact 10 (f := .glo "can_go") rfl)
  have B_can_go : Binds K fd_can_go ["program", "done", "hand"] [] := F_can_go.bindsN fun _ _ _ _ _ _ us hl => match us, hl with | [_, _, _], _ => rfl
  obtain ⟨fd_is_shut_in, F_is_shut_in⟩ := c.def_ 11 (d := d_is_shut_in) rfl
  have m_is_shut_in : mg "is_shut_in" = some (.ref _) := He.glo_ok X G (c.fact 11 (f := .glo "is_shut_in") rfl)
  have B_is_shut_in : Binds K fd_is_shut_in ["program", "done", "hand"] [] := F_is_shut_in.bindsN fun _ _ _ _ _ _ us hl => match us, hl with | [_, _, _], _ => rfl
  obtain ⟨fd_gone, F_gone⟩ := c.def_ 12 (d := d_gone) rfl
  have m_gone : mg "gone" = some (.ref _) := He.glo_ok X G (c.fact 12 (f := .glo "gone") rfl)
  have B_gone : Binds K fd_gone ["done", "hand"] [] := F_gone.bindsN fun _ _ _ _ _ _ us hl => match us, hl with | [_, _], _ => rfl
  obtain ⟨fd_is_hands, F_is_hands⟩ := c.def_ 13 (d := d_is_hands) rfl
  have m_is_hands : mg "is_hands" = some (.ref _) := He.glo_ok X G (c.fact 13 (f := .glo "is_hands") rfl)
  have B_is_hands : Binds K fd_is_hands ["program", "value"] [] := F_is_hands.bindsN fun _ _ _ _ _ _ us hl => match us, hl with | [_, _], _ => rfl
  obtain ⟨fd_line_in, F_line_in⟩ := c.def_ 14 (d := d_line_in) rfl
  have m_line_in : mg "line_in" = some (.ref _) := He.glo_ok X G (c.fact 14 (f := .glo "line_in") rfl)
  have B_line_in : Binds K fd_line_in ["program", "weaving"] [] := F_line_in.bindsN fun _ _ _ _ _ _ us hl => match us, hl with | [_, _], _ => rfl
  obtain ⟨fd_state_after, F_state_after⟩ := c.def_ 15 (d := d_state_after) rfl
  have m_state_after : mg "state_after" = some (.ref _) := He.glo_ok X G (c.fact 15 (f := .glo "state_after") rfl)
  have B_state_after : Binds K fd_state_after ["program", "weaving"] [] := F_state_after.bindsN fun _ _ _ _ _ _ us hl => match us, hl with | [_, _], _ => rfl
  obtain ⟨fd_done_after, F_done_after⟩ := c.def_ 16 (d := d_done_after) rfl
  have m_done_after : mg "done_after" = some (.ref _) := He.glo_ok X G (c.fact 16 (f := .glo "done_after") rfl)
  have B_done_after : Binds K fd_done_after ["program", "weaving"] [] := F_done_after.bindsN fun _ _ _ _ _ _ us hl => match us, hl with | [_, _], _ => rfl
  obtain ⟨fd_going, F_going⟩ := c.def_ 17 (d := d_going) rfl
  have m_going : mg "going" = some (.ref _) := He.glo_ok X G (c.fact 17 (f := .glo "going") rfl)
  have B_going : Binds K fd_going ["program", "weaving"] [] := F_going.bindsN fun _ _ _ _ _ _ us hl => match us, hl with | [_, _], _ => rfl
  obtain ⟨fd_is_shut, F_is_shut⟩ := c.def_ 18 (d := d_is_shut) rfl
  have m_is_shut : mg "is_shut" = some (.ref _) := He.glo_ok X G (c.fact 18 (f := .glo "is_shut") rfl)
  have B_is_shut : Binds K fd_is_shut ["program", "weaving", "hand"] [] := F_is_shut.bindsN fun _ _ _ _ _ _ us hl => match us, hl with | [_, _, _], _ => rfl
  obtain ⟨fd_walk, F_walk⟩ := c.def_ 19 (d := d_walk) rfl
  have m_walk : mg "walk" = some (.ref _) := He.glo_ok X G (c.fact 19 (f := .glo "walk") rfl)
  have B_walk : Binds K fd_walk ["program", "rounds"] [] := F_walk.bindsN fun _ _ _ _ _ _ us hl => match us, hl with | [_, _], _ => rfl
  obtain ⟨fd_walk_full, F_walk_full⟩ := c.def_ 20 (d := d_walk_full) rfl
  have m_walk_full : mg "walk_full" = some (.ref _) := He.glo_ok X G (c.fact 20 (f := .glo "walk_full") rfl)
  have B_walk_full : Binds K fd_walk_full ["program", "rounds"] [] := F_walk_full.bindsN fun _ _ _ _ _ _ us hl => match us, hl with | [_, _], _ => rfl
  obtain ⟨fd_walk_shut, F_walk_shut⟩ := c.def_ 21 (d := d_walk_shut) rfl
  have m_walk_shut : mg "walk_shut" = some (.ref _) := He.glo_ok X G (c.fact 21 (f := .glo "walk_shut") rfl)
  have B_walk_shut : Binds K fd_walk_shut ["program", "rounds"] [] := F_walk_shut.bindsN fun _ _ _ _ _ _ us hl => match us, hl with | [_, _], _ => rfl
  obtain ⟨fd_ask_text, F_ask_text⟩ := c.def_ 22 (d := d_ask_text) rfl
  have m_ask_text : mg "ask_text" = some (.ref _) := He.glo_ok X G (c.fact 22 (f := .glo "ask_text") rfl)
  have B_ask_text : Binds K fd_ask_text ["ask"] [] := F_ask_text.bindsN fun _ _ _ _ _ _ us hl => match us, hl with | [_], _ => rfl
  obtain ⟨fd_write_program, F_write_program⟩ := c.def_ 23 (d := d_write_program) rfl
  have m_write_program : mg "write_program" = some (.ref _) := He.glo_ok X G (c.fact 23 (f := .glo "write_program") rfl)
  have B_write_program : Binds K fd_write_program ["program"] [] := F_write_program.bindsN fun _ _ _ _ _ _ us hl => match us, hl with | [_], _ => rfl
  obtain ⟨fd_check, F_check⟩ := c.def_ 24 (d := d_check) rfl
  have m_check : mg "check" = some (.ref _) := He.glo_ok X G (c.fact 24 (f := .glo "check") rfl)
  have B_check : Binds K fd_check ["rows", "places"] [] := F_check.bindsN fun _ _ _ _ _ _ us hl => match us, hl with | [_, _], _ => rfl
  obtain ⟨fd_read_program, F_read_program⟩ := c.def_ 25 (d := d_read_program) rfl
  have m_read_program : mg "read_program" = some (.ref _) := He.glo_ok X G (c.fact 25 (f := .glo "read_program") rfl)
  have B_read_program : Binds K fd_read_program ["text"] [] := F_read_program.bindsN fun _ _ _ _ _ _ us hl => match us, hl with | [_], _ => rfl
  obtain ⟨fd__law_alike, F__law_alike⟩ := c.def_ 26 (d := d__law_alike) rfl
  have m__law_alike : mg "_law_alike" = some (.ref _) := He.glo_ok X G (c.fact 26 (f := .glo "_law_alike") rfl)
  have B__law_alike : Binds K fd__law_alike ["_law_found", "_law_due"] [] := F__law_alike.bindsN fun _ _ _ _ _ _ us hl => match us, hl with | [_, _], _ => rfl
  obtain ⟨fd_law, F_law⟩ := c.def_ 27 (d := d_law) rfl
  have e := hfa.symm.trans (He.glo_ok X G (c.fact 27 (f := .glo "law") rfl))
  cases e
  have b := FunD.bindsA (ps := ["_law_script"]) F_law fun _ _ _ _ _ _ us hl => match us, hl with | [_], _ => rfl
  refine ⟨fd_law, fun s v => b s [v] rfl, fun base Xb Gb TB_without_low => ?_⟩
  subst hP
  have R_InvalidText : RaC PySem.Challenge.pw_roundguards_k03_known_programs w K mg base 1 "InvalidText" (He.ga K "InvalidText") "place" := ini_ra (d := i_InvalidText) (c0.ini 0) (show (iniB K PySem.Challenge.pw_roundguards_k03_known_programs.main.file i_InvalidText) = true from cm _ (List.mem_of_getElem? (i := 0) rfl)) Xb Gb rfl rfl rfl rfl (by decide +kernel) rfl rfl rfl rfl ⟨_, rfl, rfl⟩ (by decide +kernel) (by decide +kernel) (by kernel_rfl) (fun _ _ _ _ _ _ _ us hl => match us, hl with | [_, _], _ => rfl) (fun _ => rfl) (fun _ _ _ _ => ⟨_, rfl⟩) (fun _ _ _ _ => rfl) (fun _ _ _ _ => rfl)
  have R0_NotText : Ra0 K mg "NotText" (He.ga K "NotText") := ⟨(He.exc_ok (c.fact 60 (f := .exc "NotText") rfl)).1, (He.exc_ok (c.fact 60 (f := .exc "NotText") rfl)).2.1, (He.exc_ok (c.fact 60 (f := .exc "NotText") rfl)).2.2.1, (He.exc_ok (c.fact 60 (f := .exc "NotText") rfl)).2.2.2, He.glo_ok X G (c.fact 61 (f := .glo "NotText") rfl)⟩
  have rT : RdC K (He.ga K "Reader") := ⟨He.cls_ok (c.fact 48 (f := .cls "Reader") rfl), He.noat_ok (c.fact 49 (f := .noat "Reader" "text") rfl), He.noat_ok (c.fact 50 (f := .noat "Reader" "at") rfl), He.noat_ok (c.fact 51 (f := .noat "Reader" "read") rfl)⟩
  have rM : Mk K (He.ga K "Reader") (He.ma K (He.ga K "Reader") "__init__") := He.mkr_ok (c.fact 52 (f := .mkr "Reader") rfl)
  have rG : mg "Reader" = some (.ref (He.ga K "Reader")) := He.glo_ok X G (c.fact 53 (f := .glo "Reader") rfl)
  obtain ⟨fdR_init, FR_init⟩ := c.def_ 28 (d := dR_init) rfl
  have BR_init : Binds K fdR_init ["self", "text"] [] := FR_init.bindsN fun _ _ _ _ _ _ us hl => match us, hl with | [_, _], _ => rfl
  obtain ⟨fdR_sign, FR_sign⟩ := c.def_ 29 (d := dR_sign) rfl
  have BR_sign : Binds K fdR_sign ["self"] [] := FR_sign.bindsN fun _ _ _ _ _ _ us hl => match us, hl with | [_], _ => rfl
  have mR_sign : Meth K (He.ga K "Reader") "sign" (He.ma K (He.ga K "Reader") "sign") := He.meth_ok (c.fact 54 (f := .meth "Reader" "sign") rfl)
  obtain ⟨fdR_skip, FR_skip⟩ := c.def_ 30 (d := dR_skip) rfl
  have BR_skip : Binds K fdR_skip ["self"] [] := FR_skip.bindsN fun _ _ _ _ _ _ us hl => match us, hl with | [_], _ => rfl
  have mR_skip : Meth K (He.ga K "Reader") "skip" (He.ma K (He.ga K "Reader") "skip") := He.meth_ok (c.fact 55 (f := .meth "Reader" "skip") rfl)
  obtain ⟨fdR_take, FR_take⟩ := c.def_ 31 (d := dR_take) rfl
  have BR_take : Binds K fdR_take ["self", "sign"] [] := FR_take.bindsN fun _ _ _ _ _ _ us hl => match us, hl with | [_, _], _ => rfl
  have mR_take : Meth K (He.ga K "Reader") "take" (He.ma K (He.ga K "Reader") "take") := He.meth_ok (c.fact 56 (f := .meth "Reader" "take") rfl)
  obtain ⟨fdR_number, FR_number⟩ := c.def_ 32 (d := dR_number) rfl
  have BR_number : Binds K fdR_number ["self", "least", "most"] [] := FR_number.bindsN fun _ _ _ _ _ _ us hl => match us, hl with | [_, _, _], _ => rfl
  have mR_number : Meth K (He.ga K "Reader") "number" (He.ma K (He.ga K "Reader") "number") := He.meth_ok (c.fact 57 (f := .meth "Reader" "number") rfl)
  obtain ⟨fdR_ask, FR_ask⟩ := c.def_ 33 (d := dR_ask) rfl
  have BR_ask : Binds K fdR_ask ["self"] [] := FR_ask.bindsN fun _ _ _ _ _ _ us hl => match us, hl with | [_], _ => rfl
  have mR_ask : Meth K (He.ga K "Reader") "ask" (He.ma K (He.ga K "Reader") "ask") := He.meth_ok (c.fact 58 (f := .meth "Reader" "ask") rfl)
  obtain ⟨fdR_item, FR_item⟩ := c.def_ 34 (d := dR_item) rfl
  have BR_item : Binds K fdR_item ["self"] [] := FR_item.bindsN fun _ _ _ _ _ _ us hl => match us, hl with | [_], _ => rfl
  have mR_item : Meth K (He.ga K "Reader") "item" (He.ma K (He.ga K "Reader") "item") := He.meth_ok (c.fact 59 (f := .meth "Reader" "item") rfl)
  have GR_init : FnOk PySem.Challenge.pw_roundguards_k03_known_programs w K mg base CX0 1 _ fdR_init ["self", "text"] (spInitR (He.ga K "Reader")) := okRI rT FR_init
  have GR_sign : FnOk PySem.Challenge.pw_roundguards_k03_known_programs w K mg base CX0 1 _ fdR_sign ["self"] (spSign (He.ga K "Reader")) := okRs rT FR_sign
  have GR_skip : FnOk PySem.Challenge.pw_roundguards_k03_known_programs w K mg base CX0 2 _ fdR_skip ["self"] (spSkip (He.ga K "Reader")) := okRk rT FR_skip GR_sign BR_sign mR_sign
  have GR_take : FnOk PySem.Challenge.pw_roundguards_k03_known_programs w K mg base (L2.CX PySem.Challenge.pw_roundguards_k03_known_programs w) 3 _ fdR_take ["self", "sign"] (spTake (He.ga K "Reader") (He.ga K "InvalidText")) := okRt (kx := 0) rT FR_take R_InvalidText GR_sign BR_sign mR_sign
  have GR_number : FnOk PySem.Challenge.pw_roundguards_k03_known_programs w K mg base (L2.CX PySem.Challenge.pw_roundguards_k03_known_programs w) 3 _ fdR_number ["self", "least", "most"] (spNum (He.ga K "Reader") (He.ga K "InvalidText")) := okRn rT FR_number R_InvalidText z_int GR_sign BR_sign mR_sign
  have GR_ask : FnOk PySem.Challenge.pw_roundguards_k03_known_programs w K mg base (L2.CX PySem.Challenge.pw_roundguards_k03_known_programs w) 4 _ fdR_ask ["self"] (spAsk (He.ga K "Reader") (He.ga K "InvalidText")) := okRa rT FR_ask R_InvalidText GR_sign BR_sign mR_sign GR_number BR_number mR_number GR_take BR_take mR_take c_MOST_HANDS c_LEAST_LOW c_MOST_LOW c_MOST_HIGH
  have GR_item : FnOk PySem.Challenge.pw_roundguards_k03_known_programs w K mg base (L2.CX PySem.Challenge.pw_roundguards_k03_known_programs w) 5 _ fdR_item ["self"] (spItem K (He.ga K "Reader") (He.ga K "InvalidText")) := okRi rT FR_item R_InvalidText z_tuple GR_sign BR_sign mR_sign GR_skip BR_skip mR_skip GR_ask BR_ask mR_ask GR_take BR_take mR_take c_MOST_ITEMS
  have C_is_in : Cal PySem.Challenge.pw_roundguards_k03_known_programs w K mg base 1 "is_in" ["value", "least", "most"] (spF K 3 φ_is_in) := ⟨_, _, m_is_in, F_is_in.kp, B_is_in, (ok_is_in F_is_in z_isinstance z_int z_bool).up⟩
  have C_is_ask : Cal PySem.Challenge.pw_roundguards_k03_known_programs w K mg base 2 "is_ask" ["value", "hand", "rows"] (spF K 3 φ_is_ask) := ⟨_, _, m_is_ask, F_is_ask.kp, B_is_ask, (ok_is_ask F_is_ask C_is_in z_isinstance z_tuple z_len c_LEAST_LOW c_MOST_LOW c_MOST_HIGH).up⟩
  have C_is_item : Cal PySem.Challenge.pw_roundguards_k03_known_programs w K mg base 3 "is_item" ["value", "hand", "rows"] (spF K 3 φ_is_item) := ⟨_, _, m_is_item, F_is_item.kp, B_is_item, (ok_is_item F_is_item C_is_ask z_isinstance z_tuple z_sorted z_set).up⟩
  have C_need_program : Cal PySem.Challenge.pw_roundguards_k03_known_programs w K mg base 4 "need_program" ["program"] (spF K 1 φ_need_program) := ⟨_, _, m_need_program, F_need_program.kp, B_need_program, (ok_need_program F_need_program C_is_item z_isinstance z_tuple z_len c_MOST_HANDS z_sum c_MOST_ITEMS z_enumerate).up⟩
  have C_need_item : Cal PySem.Challenge.pw_roundguards_k03_known_programs w K mg base 2 "need_item" ["program", "name"] (spF K 2 φ_need_item) := ⟨_, _, m_need_item, F_need_item.kp, B_need_item, (ok_need_item F_need_item C_is_in z_isinstance z_tuple z_len).up⟩
  have C_need_hand : Cal PySem.Challenge.pw_roundguards_k03_known_programs w K mg base 2 "need_hand" ["program", "hand"] (spF K 2 φ_need_hand) := ⟨_, _, m_need_hand, F_need_hand.kp, B_need_hand, (ok_need_hand F_need_hand C_is_in z_len).up⟩
  have C_with_item : Cal PySem.Challenge.pw_roundguards_k03_known_programs w K mg base 1 "with_item" ["program", "name", "item"] (spF K 3 φ_with_item) := ⟨_, _, m_with_item, F_with_item.kp, B_with_item, (ok_with_item F_with_item z_enumerate z_tuple).up⟩
  have C_without_low : Cal PySem.Challenge.pw_roundguards_k03_known_programs w K mg base 5 "without_low" ["program", "name", "mark"] (spF K 3 φ_without_low) := ⟨_, _, m_without_low, F_without_low.kp, B_without_low, (ok_without_low F_without_low C_need_program C_need_item C_with_item z_sorted z_tuple (t_without_low.code (st := s_without_low) (y := "without_low") X m_without_low F_without_low) TB_without_low hB_without_low hnm_without_low).up⟩
  have C_times_done : Cal PySem.Challenge.pw_roundguards_k03_known_programs w K mg base 1 "times_done" ["program", "done", "mark"] (spF K 3 φ_times_done) := ⟨_, _, m_times_done, F_times_done.kp, B_times_done, (ok_times_done F_times_done z_len).up⟩
  have C_asks_now : Cal PySem.Challenge.pw_roundguards_k03_known_programs w K mg base 2 "asks_now" ["program", "done", "hand"] (spF K 3 φ_asks_now) := ⟨_, _, m_asks_now, F_asks_now.kp, B_asks_now, (ok_asks_now F_asks_now C_times_done z_len).up⟩
  have C_can_go : Cal PySem.Challenge.pw_roundguards_k03_known_programs w K mg base 3 "can_go" ["program", "done", "hand"] (spF K 3 φ_can_go) := ⟨_, _, m_can_go, F_can_go.kp, B_can_go, (ok_can_go F_can_go C_asks_now).up⟩
  have C_is_shut_in : Cal PySem.Challenge.pw_roundguards_k03_known_programs w K mg base 3 "is_shut_in" ["program", "done", "hand"] (spF K 3 φ_is_shut_in) := ⟨_, _, m_is_shut_in, F_is_shut_in.kp, B_is_shut_in, (ok_is_shut_in F_is_shut_in C_asks_now).up⟩
  have C_gone : Cal PySem.Challenge.pw_roundguards_k03_known_programs w K mg base 1 "gone" ["done", "hand"] (spF K 2 φ_gone) := ⟨_, _, m_gone, F_gone.kp, B_gone, (ok_gone F_gone ).up⟩
  have C_is_hands : Cal PySem.Challenge.pw_roundguards_k03_known_programs w K mg base 2 "is_hands" ["program", "value"] (spF K 2 φ_is_hands) := ⟨_, _, m_is_hands, F_is_hands.kp, B_is_hands, (ok_is_hands F_is_hands C_is_in z_isinstance z_tuple z_len c_MOST_WEAVING).up⟩
  have C_line_in : Cal PySem.Challenge.pw_roundguards_k03_known_programs w K mg base 4 "line_in" ["program", "weaving"] (spF K 2 φ_line_in) := ⟨_, _, m_line_in, F_line_in.kp, B_line_in, (ok_line_in F_line_in C_can_go C_gone z_len).up⟩
  have C_state_after : Cal PySem.Challenge.pw_roundguards_k03_known_programs w K mg base 5 "state_after" ["program", "weaving"] (spF K 2 φ_state_after) := ⟨_, _, m_state_after, F_state_after.kp, B_state_after, (ok_state_after F_state_after C_need_program C_is_hands C_line_in z_len).up⟩
  have C_done_after : Cal PySem.Challenge.pw_roundguards_k03_known_programs w K mg base 6 "done_after" ["program", "weaving"] (spF K 2 φ_done_after) := ⟨_, _, m_done_after, F_done_after.kp, B_done_after, (ok_done_after F_done_after C_state_after).up⟩
  have C_going : Cal PySem.Challenge.pw_roundguards_k03_known_programs w K mg base 6 "going" ["program", "weaving"] (spF K 2 φ_going) := ⟨_, _, m_going, F_going.kp, B_going, (ok_going F_going C_state_after C_can_go z_len z_range z_tuple).up⟩
  have C_is_shut : Cal PySem.Challenge.pw_roundguards_k03_known_programs w K mg base 6 "is_shut" ["program", "weaving", "hand"] (spF K 3 φ_is_shut) := ⟨_, _, m_is_shut, F_is_shut.kp, B_is_shut, (ok_is_shut F_is_shut C_state_after C_need_hand C_is_shut_in).up⟩
  have C_walk : Cal PySem.Challenge.pw_roundguards_k03_known_programs w K mg base 5 "walk" ["program", "rounds"] (spF K 2 φ_walk) := ⟨_, _, m_walk, F_walk.kp, B_walk, (ok_walk F_walk C_need_program C_is_in C_can_go C_gone c_MOST_ROUNDS z_len c_MOST_WALKED z_range z_sorted).up⟩
  have C_walk_full : Cal PySem.Challenge.pw_roundguards_k03_known_programs w K mg base 6 "walk_full" ["program", "rounds"] (spF K 2 φ_walk_full) := ⟨_, _, m_walk_full, F_walk_full.kp, B_walk_full, (ok_walk_full F_walk_full C_walk z_len z_tuple).up⟩
  have C_walk_shut : Cal PySem.Challenge.pw_roundguards_k03_known_programs w K mg base 6 "walk_shut" ["program", "rounds"] (spF K 2 φ_walk_shut) := ⟨_, _, m_walk_shut, F_walk_shut.kp, B_walk_shut, (ok_walk_shut F_walk_shut C_walk C_is_shut_in z_len z_range z_tuple).up⟩
  have C_ask_text : Cal PySem.Challenge.pw_roundguards_k03_known_programs w K mg base 1 "ask_text" ["ask"] (spF K 1 φ_ask_text) := ⟨_, _, m_ask_text, F_ask_text.kp, B_ask_text, (ok_ask_text F_ask_text z_str).up⟩
  have C_write_program : Cal PySem.Challenge.pw_roundguards_k03_known_programs w K mg base 5 "write_program" ["program"] (spF K 1 φ_write_program) := ⟨_, _, m_write_program, F_write_program.kp, B_write_program, (ok_write_program F_write_program C_need_program C_ask_text).up⟩
  have C_check : Cal PySem.Challenge.pw_roundguards_k03_known_programs w K mg base 3 "check" ["rows", "places"] (spX K 2 (xcOf K errs) φ_check) := ⟨_, _, m_check, F_check.kp, B_check, ok_check F_check z_enumerate z_len R_InvalidText⟩
  have C_read_program : Cal PySem.Challenge.pw_roundguards_k03_known_programs w K mg base 7 "read_program" ["text"] (spX K 1 (xcOf K errs) φ_read_program) := ⟨_, _, m_read_program, F_read_program.kp, B_read_program, okRp rT F_read_program rG rM R_InvalidText R0_NotText GR_init BR_init GR_sign BR_sign mR_sign GR_skip BR_skip mR_skip GR_item BR_item mR_item C_check z_isinstance z_str z_len z_tuple c_MOST_HANDS⟩
  have C__law_alike : Cal PySem.Challenge.pw_roundguards_k03_known_programs w K mg base 12 "_law_alike" ["_law_found", "_law_due"] (spF K 2 (φ__law_alike 12)) := ⟨_, _, m__law_alike, F__law_alike.kp, B__law_alike, (ok__law_alike F__law_alike m__law_alike B__law_alike z_isinstance z_tuple z_list z_len z_range z_str z_int z_bool 12).up⟩
  exact ok_law F_law C_write_program C_read_program C_going C_is_shut C_done_after C__law_alike C_walk C_walk_full C_walk_shut C_without_low
end L
open PySem PySem.W PySem.Calls PyProof.Rows
theorem PySem.Challenge.cw_roundguards_k03_known_programs_holds : PySem.Challenge.rw_roundguards_k03_known_programs.Holds := by
  w_on; o_law
  refine HandSHeadRun.head_any (r := OpenLaw.row PySem.Challenge.rw_roundguards_k03_known_programs) (q := view (OpenLaw.row PySem.Challenge.rw_roundguards_k03_known_programs).prog [25, 52]) (H := L.hk) (ob := L.ob) (M := 6000) (loose := L.loose) (d := HandSHeadRun.topDef (OpenLaw.row PySem.Challenge.rw_roundguards_k03_known_programs).prog 52) (kwd := []) L.ob_eq
    (by kernel_rfl) (fun s => by kernel_rfl) L.run (by kernel_rfl) (by kernel_rfl) (by kernel_rfl) (by rfl) (by first | assumption | decide +kernel) (by decide +kernel) ⟨rfl, rfl, rfl, rfl, rfl, by decide +kernel⟩ ?hw ?hc
  case hw => w_witness2
  case hc =>
    refine G.walk_ofT (l := PySem.Challenge.rw_roundguards_k03_known_programs) (n := 63) (k := 13) (x := "_law_script") (CX := fun _ => L2.CX0) L.xs rfl (by decide) (by kernel_rfl) ⟨rfl, by decide, by decide⟩ (by kernel_rfl) ?F (fun _ _ _ _ _ z => z)
    intro w mg fa h Y GN hmg0 tabs
    obtain ⟨K, KX, c⟩ := Y
    have hmg : mg ("law" : PySem.Str) = some (.ref fa) := by
      have e : (HandSHeadRun.topDef (OpenLaw.row PySem.Challenge.rw_roundguards_k03_known_programs).prog 52).name = ("law" : PySem.Str) := by kernel_rfl
      rw [← e]
      exact hmg0
    obtain ⟨c_without_low, T_without_low, t_without_low⟩ := tabs "without_low" (by simp [L.xs])
    let tq : G.TQ := ⟨fun P => ("without_low" ++ ".<locals>.") ++ "<lambda>", fun P => P = T_without_low⟩
    obtain ⟨fd, hb, hF⟩ := L.facts (P := (PySem.Challenge.rw_roundguards_k03_known_programs).prog) (w := w) KX GN hmg c.d rfl t_without_low (rfl) rfl
    refine ⟨K, KX, fd, [(c_without_low, T_without_low)], G.spF K 1 L.φ_law, (by simp only [List.forall_mem_cons, List.not_mem_nil, false_implies, implies_true, and_true]; exact t_without_low.emp), (by simp only [List.forall_mem_cons, List.not_mem_nil, false_implies, implies_true, and_true]; exact t_without_low.ninX c.nt KX), (by simp only [List.forall_mem_cons, List.not_mem_nil, false_implies, implies_true, and_true]; exact t_without_low.hd), hb, fun H a ns hl _ hT hS => G.law_sp L.law_true (?_) hl hS, fun base b1 b2 b3 => hF base b1 b2 (b3 (c_without_low, T_without_low) (by simp))⟩
    exact fun P (hP : P = T_without_low) => by
      rw [hP]
      exact LamX.TabS.nil (hT (c_without_low, T_without_low) (by simp))
#print axioms PySem.Challenge.cw_roundguards_k03_known_programs_holds
