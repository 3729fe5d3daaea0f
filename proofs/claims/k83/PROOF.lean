import PyProof.Rows.All
import Wide.All
import OpenK.AllK
import Wide.FinOn
import HandS.ForMost
import HandS.Style
import HandS.IsInst
import HandS.Deep
import HandS.SortInts
import HandS.TupAny
import HandS.Lambda
import HandS.Defaults
import HandS.SetFor
import HandS.Strs
import KE.SortKeyHeap
import HandS.SortKw
import HandS.Conv
import HandS.SetKeys
import HandS.HeadWalk
import HandS.HeadHook4
import HandS.HeadEnd
import HandS.Head2
import PySem.Challenge.RW_pagepart_k83_whole_pressed
/-! Mir: plain data, and the combinators of which a def's mirror is built. Core Lean alone. -/
noncomputable section
namespace Mir

/-- what a Python value is, the heap forgotten; fz: the script (a list of intsD that is only read); kt: a tuple of the module's top -/
inductive D where
  | non
  | bl (b : Bool)
  | int (i : Int)
  | str (x : List Nat)
  | lst (xs : List D)
  | tup (xs : List D)
  | fz (xs : List Int)
  | kt (xs : List D)
deriving Inhabited

mutual
/-- == -/
def eqv : D → D → Bool
  | .non, .non => true
  | .bl a, .bl b => a == b
  | .bl a, .int j => (if a then 1 else 0) == j
  | .int i, .bl b => i == (if b then 1 else 0)
  | .int i, .int j => i == j
  | .str x, .str y => x == y
  | .lst xs, .lst ys => eqvs xs ys
  | .tup xs, .tup ys => eqvs xs ys
  | _, _ => false
def eqvs : List D → List D → Bool
  | [], [] => true
  | x :: xs, y :: ys => eqv x y && eqvs xs ys
  | _, _ => false
end
mutual
/-- may be compared -/
def okD : D → Bool
  | .non | .bl _ | .int _ => true
  | .str x => x.all (· < 0x110000)
  | .lst xs | .tup xs => okDs xs
  | .fz _ | .kt _ => false
def okDs : List D → Bool
  | [] => true
  | x :: xs => okD x && okDs xs
end
mutual
def dep : D → Nat
  | .lst xs | .tup xs => deps xs + 1
  | _ => 0
def deps : List D → Nat
  | [] => 0
  | x :: xs => max (dep x) (deps xs)
end
def shp (d : D) : Bool := okD d && decide (dep d ≤ 64)
def flat : D → Bool
  | .non | .bl _ | .int _ | .str _ => true
  | _ => false
/-- two that are compared without a look inside -/
def scal : D → D → Bool
  | .non, .non => true
  | .non, .int _ => true
  | .int _, .non => true
  | .non, .bl _ => true
  | .bl _, .non => true
  | .non, .str _ => true
  | .str _, .non => true
  | .int _, .int _ => true
  | .bl _, .bl _ => true
  | .str _, .str _ => true
  | .int _, .str _ => true
  | .str _, .int _ => true
  | .bl _, .str _ => true
  | .str _, .bl _ => true
  | _, _ => false

/-- whether p holds, not to be computed -/
def cl (p : Prop) : Bool := @decide p (Classical.propDecidable p)
theorem cl_iff {p : Prop} : cl p = true ↔ p := @decide_eq_true_iff p (Classical.propDecidable p)
/-- sizes that the machine takes -/
def fits (n : Nat) : Bool := cl (n ≤ 16000000)

/-! ### operators -/
def addD : D → D → Option D
  | .int i, .int j => some (.int (i + j))
  | .str x, .str y => if fits (x.length + y.length) then some (.str (x ++ y)) else none
  | .lst x, .lst y => if fits (x.length + y.length) then some (.lst (x ++ y)) else none
  | .tup x, .tup y => if fits (x.length + y.length) then some (.tup (x ++ y)) else none
  | _, _ => none
/-- of intsD alone -/
def addI : D → D → Option D
  | .int i, .int j => some (.int (i + j))
  | _, _ => none
def subD : D → D → Option D
  | .int i, .int j => some (.int (i - j))
  | _, _ => none
def mulD : D → D → Option D
  | .int i, .int j => if cl (-(2 ^ 64) < i ∧ i < 2 ^ 64) = true then some (.int (i * j)) else none
  | .lst x, .int k => if cl (-1000000 ≤ k ∧ k ≤ 1000000) = true ∧ fits (x.length * k.toNat) = true then some (.lst (List.replicate k.toNat x).flatten) else none
  | _, _ => none
def modD : D → D → Option D
  | .int i, .int j => if j ≠ 0 then some (.int (i.fmod j)) else none
  | _, _ => none
def fdivD : D → D → Option D
  | .int i, .int j => if cl (j ≠ 0 ∧ j.natAbs < 1073741824) = true then some (.int (i.fdiv j)) else none
  | _, _ => none
def eqD (a b : D) : Option D := if scal a b || (shp a && shp b) then some (.bl (eqv a b)) else none
def neD (a b : D) : Option D := if scal a b || (shp a && shp b) then some (.bl (!eqv a b)) else none
def ltD : D → D → Option D
  | .int i, .int j => some (.bl (decide (i < j)))
  | _, _ => none
def leD : D → D → Option D
  | .int i, .int j => some (.bl (decide (i ≤ j)))
  | _, _ => none
def gtD : D → D → Option D
  | .int i, .int j => some (.bl (decide (j < i)))
  | _, _ => none
def geD : D → D → Option D
  | .int i, .int j => some (.bl (decide (j ≤ i)))
  | _, _ => none
def inB : D → D → Option Bool
  | .str x, .str y => (match x with | [c] => some (decide (c ∈ y)) | _ => none)
  | x, .lst ys => if flat x && ys.all flat then some (ys.any fun y => eqv y x) else none
  | x, .tup ys => if flat x && ys.all flat then some (ys.any fun y => eqv y x) else none
  | x, .kt ys => if flat x && ys.all flat then some (ys.any fun y => eqv y x) else none
  | _, _ => none
def inD (a b : D) : Option D := (inB a b).map .bl
def notInD (a b : D) : Option D := (inB a b).map fun c => .bl (!c)
def isN : D → Option D
  | .non => some (.bl true)
  | .bl _ | .int _ | .str _ | .lst _ | .tup _ => some (.bl false)
  | _ => none
def notN : D → Option D
  | .non => some (.bl false)
  | .bl _ | .int _ | .str _ | .lst _ | .tup _ => some (.bl true)
  | _ => none
def notD : D → Option D
  | .bl b => some (.bl (!b))
  | _ => none
def negD : D → Option D
  | .int i => some (.int (-i))
  | _ => none
/-- the place of an index, of any sign -/
def ixN (n : Nat) (i : Int) : Option Nat := if 0 ≤ i then (if i < n then some i.toNat else none) else if -(n : Int) ≤ i then some (i + n).toNat else none
def atI {α : Type} (xs : List α) (i : Int) : Option α := (ixN xs.length i).bind fun j => xs[j]?
def ixD : D → D → Option D
  | .lst xs, .int i => atI xs i
  | .tup xs, .int i => atI xs i
  | .fz xs, .int i => (atI xs i).map .int
  | .str x, .int i => if fits x.length then (atI x i).map fun c => .str [c] else none
  | _, _ => none
/-- a slice's end -/
def sIx (n d : Nat) : Option Int → Nat
  | none => d
  | some v => if v < 0 then (v + (n : Int)).toNat else min v.toNat n
def cut {α : Type} (xs : List α) (lo hi : Option Int) : List α := (xs.drop (sIx xs.length 0 lo)).take (sIx xs.length xs.length hi - sIx xs.length 0 lo)
def slD : D → Option Int → Option Int → Option D
  | .lst xs, lo, hi => some (.lst (cut xs lo hi))
  | .fz xs, lo, hi => some (.lst ((cut xs lo hi).map .int))
  | .str x, lo, hi => if fits x.length then some (.str (cut x lo hi)) else none
  | _, _, _ => none
def revD : D → Option D
  | .lst xs => some (.lst xs.reverse)
  | _ => none

/-! ### built-ins -/
def lenD : D → Option D
  | .lst xs => some (.int xs.length)
  | .tup xs => some (.int xs.length)
  | .fz xs => some (.int xs.length)
  | .str x => if fits x.length then some (.int x.length) else none
  | _ => none
def intsD : List D → Option (List Int)
  | [] => some []
  | .int i :: r => (intsD r).map (i :: ·)
  | _ => none
def bools : List D → Option (List Bool)
  | [] => some []
  | .bl i :: r => (bools r).map (i :: ·)
  | _ => none
def strsD : List D → Option (List (List Nat))
  | [] => some []
  | .str i :: r => (strsD r).map (i :: ·)
  | _ => none
def sumD : D → Option D
  | .lst xs => (intsD xs).map fun ns => .int ns.sum
  | _ => none
def minL : Int → List Int → Int
  | a, [] => a
  | a, b :: r => minL (if b < a then b else a) r
def maxL : Int → List Int → Int
  | a, [] => a
  | a, b :: r => maxL (if a < b then b else a) r
def minD : D → Option D
  | .lst xs => (intsD xs).bind fun ns => match ns with | [] => none | a :: r => some (.int (minL a r))
  | _ => none
def maxD : D → Option D
  | .lst xs => (intsD xs).bind fun ns => match ns with | [] => none | a :: r => some (.int (maxL a r))
  | _ => none
def min2 : D → D → Option D
  | .int i, .int j => some (.int (if j < i then j else i))
  | _, _ => none
def max2 : D → D → Option D
  | .int i, .int j => some (.int (if j > i then j else i))
  | _, _ => none
def allD : D → Option D
  | .lst xs => (bools xs).map fun bs => .bl (bs.all id)
  | _ => none
def listD : D → Option D
  | .lst xs => some (.lst xs)
  | .tup xs => some (.lst xs)
  | .fz xs => some (.lst (xs.map .int))
  | _ => none
def tupleD : D → Option D
  | .lst xs => some (.tup xs)
  | .tup xs => some (.tup xs)
  | _ => none
/-- int(x) of an int or a bool -/
def int1 : D → Option D
  | .int i => some (.int i)
  | .bl b => some (.int (if b then 1 else 0))
  | _ => none
def codes (s : String) : List Nat := s.toList.map Char.toNat
/-- str(n) -/
def strI : D → Option D
  | .int i => if cl (i.natAbs.log2 < 1920) = true then some (.str (codes (toString i))) else none
  | _ => none
def isInt : D → Option D
  | .int _ | .bl _ => some (.bl true)
  | .non | .str _ | .lst _ | .tup _ => some (.bl false)
  | _ => none
def isBool : D → Option D
  | .bl _ => some (.bl true)
  | .int _ | .non | .str _ | .lst _ | .tup _ => some (.bl false)
  | _ => none
def isTup : D → Option D
  | .tup _ => some (.bl true)
  | .int _ | .non | .str _ | .lst _ | .bl _ => some (.bl false)
  | _ => none
def isList : D → Option D
  | .lst _ => some (.bl true)
  | .int _ | .non | .str _ | .tup _ | .bl _ => some (.bl false)
  | _ => none
def isStr : D → Option D
  | .str _ => some (.bl true)
  | .int _ | .non | .lst _ | .tup _ | .bl _ => some (.bl false)
  | _ => none
/-- the intsD of a tuple -/
def tints : D → Option (List Int)
  | .tup xs => intsD xs
  | _ => none
def allSome {α β : Type} (f : α → Option β) : List α → Option (List β)
  | [] => some []
  | x :: r => (f x).bind fun y => (allSome f r).bind fun ys => some (y :: ys)
/-- the order of things that are sorted: intsD, texts, tuples of intsD -/
def ordD : D → D → Bool
  | .int i, .int j => decide (i ≤ j)
  | .str x, .str y => decide (x ≤ y)
  | .tup xs, .tup ys => (match intsD xs, intsD ys with | some a, some b => decide (a ≤ b) | _, _ => true)
  | _, _ => true
def isTi (d : D) : Bool := match tints d with | some (_ :: _) => true | _ => false
def sortable (xs : List D) : Bool := ((intsD xs).isSome || (strsD xs).isSome) || xs.all isTi
def sortD : D → Option D
  | .lst xs => if sortable xs && okDs xs then some (.lst (xs.mergeSort ordD)) else none
  | _ => none
/-- lambda box: (box[1], box[0]) -/
def kBox : D → Option D
  | .tup (.int a :: .int b :: _) => some (.tup [.int b, .int a])
  | _ => none
/-- is, of truth values; .. is None, is not None -/
def isBD : D → D → Option D
  | .bl x, .bl y => some (.bl (decide (x = y)))
  | _, _ => none
abbrev mIsN : D → D → Option D := fun a b => match b with | .non => isN a | _ => none
abbrev mNotN : D → D → Option D := fun a b => match b with | .non => notN a | _ => none
/-- sorted(xs, key=k) -/
def sortK (k : D → Option D) : D → Option D
  | .lst xs => (allSome k xs).bind fun ks => if sortable ks then some (.lst (xs.mergeSort fun a b => ordD ((k a).getD .non) ((k b).getD .non))) else none
  | _ => none
/-- sorted(set(xs)) of fewer than 64 intsD -/
def dedup : List Int → List Int
  | [] => []
  | x :: r => if x ∈ r then dedup r else x :: dedup r
def sortSet : D → Option D
  | .lst xs => (intsD xs).bind fun ns => if ns.length < 64 then some (.lst (((dedup ns).mergeSort fun a b => decide (a ≤ b)).map .int)) else none
  | _ => none
def joinL (S : List Nat) : List (List Nat) → List Nat
  | [] => []
  | [p] => p
  | p :: q :: r => p ++ (S ++ joinL S (q :: r))
def joinD : D → D → Option D
  | .str s, .lst xs => (strsD xs).bind fun ps => if fits ((ps.map List.length).sum + ps.length * s.length) then some (.str (joinL s ps)) else none
  | _, _ => none
/-- the parts of a text between the signs c -/
def splitC (c : Nat) : List Nat → List Nat → List (List Nat)
  | acc, [] => [acc]
  | acc, x :: r => if x = c then acc :: splitC c [] r else splitC c (acc ++ [x]) r
def splitD : D → D → Option D
  | .str x, .str [c] => if fits x.length then some (.lst ((splitC c [] x).map .str)) else none
  | _, _ => none
/-- xs.index(y) -/
def indexL (y : D) : Nat → List D → Option Nat
  | _, [] => none
  | k, x :: r => if eqv x y then some k else indexL y (k + 1) r
def indexD : D → D → Option D
  | .lst xs, y => if shp y && shp (.lst xs) then (indexL y 0 xs).map fun k => .int (k : Nat) else none
  | _, _ => none

/-! ### a def's names -/
inductive Sl where
  | emp
  | frz (d : D)
  | own (ds : List D)
  | dk (kvs : List (Int × D))
  | dt (kvs : List (List Int × D))
abbrev Env := List Sl
def slot : Env → Nat → Sl
  | [], _ => .emp
  | s :: _, 0 => s
  | _ :: r, n + 1 => slot r n
def put : Env → Nat → Sl → Env
  | [], _, _ => []
  | _ :: r, 0, s => s :: r
  | x :: r, n + 1, s => x :: put r n s
/-- a list that this def alone holds is given away -/
def Sl.freeze : Sl → Sl
  | .own ds => .frz (.lst ds)
  | s => s
def freeze : Env → List Nat → Env
  | ρ, [] => ρ
  | ρ, i :: r => freeze (put ρ i (slot ρ i).freeze) r
def wipe : Env → List Nat → Env
  | ρ, [] => ρ
  | ρ, i :: r => put (wipe ρ r) i .emp

/-! ### expressions -/
abbrev EM := Env → Option D
abbrev EL := Env → Option (List D)
abbrev TM := Env → Option Bool
abbrev GM := D → Env → Option Env
/-- a name that holds a thing | .. or a list of its own -/
def vV (i : Nat) : EM := fun ρ => match slot ρ i with | .frz d => some d | _ => none
def vB (i : Nat) : EM := fun ρ => match slot ρ i with | .frz d => some d | .own ds => some (.lst ds) | _ => none
def cD (d : D) : EM := fun _ => some d
def o1 (f : D → Option D) (a : EM) : EM := fun ρ => (a ρ).bind f
def o2 (f : D → D → Option D) (a b : EM) : EM := fun ρ => (a ρ).bind fun x => (b ρ).bind fun y => f x y
def eNil : EL := fun _ => some []
def eCons (a : EM) (r : EL) : EL := fun ρ => (a ρ).bind fun x => (r ρ).bind fun xs => some (x :: xs)
def mkT (es : EL) : EM := fun ρ => (es ρ).bind fun xs => some (.tup xs)
def mkL (es : EL) : EM := fun ρ => (es ρ).bind fun xs => some (.lst xs)
def call (f : List D → Option D) (es : EL) : EM := fun ρ => (es ρ).bind f
def asInt : D → Option Int
  | .int i => some i
  | _ => none
def oN : Env → Option (Option Int) := fun _ => some none
def oS (a : EM) : Env → Option (Option Int) := fun ρ => (a ρ).bind fun x => (asInt x).map some
def sl (a : EM) (lo hi : Env → Option (Option Int)) : EM := fun ρ => (a ρ).bind fun x => (lo ρ).bind fun l => (hi ρ).bind fun h => slD x l h
def asB : D → Option Bool
  | .bl b => some b
  | _ => none
def andV (a b : EM) : EM := fun ρ => (a ρ).bind fun x => (asB x).bind fun c => if c then b ρ else some (.bl false)
def orV (a b : EM) : EM := fun ρ => (a ρ).bind fun x => (asB x).bind fun c => if c then some (.bl true) else b ρ
/-- a < b <= c, b asked once -/
def chain2 (f g : D → D → Option D) (a b c : EM) : EM := fun ρ => (a ρ).bind fun x => (b ρ).bind fun y => (f x y).bind fun z => (asB z).bind fun k =>
  if k then (c ρ).bind fun w => g y w else some (.bl false)
def chain3 (f g h : D → D → Option D) (a b c d : EM) : EM := fun ρ => (a ρ).bind fun x => (b ρ).bind fun y => (f x y).bind fun z => (asB z).bind fun k =>
  if k then (c ρ).bind fun w => (g y w).bind fun z2 => (asB z2).bind fun k2 => if k2 then (d ρ).bind fun u => h w u else some (.bl false) else some (.bl false)

/-! ### tests -/
def tB (a : EM) : TM := fun ρ => (a ρ).bind asB
def tNot (t : TM) : TM := fun ρ => (t ρ).bind fun c => some (!c)
def tAnd (t u : TM) : TM := fun ρ => (t ρ).bind fun c => if c then u ρ else some false
def tOr (t u : TM) : TM := fun ρ => (t ρ).bind fun c => if c then some true else u ρ
def ifE (t : TM) (a b : EM) : EM := fun ρ => (t ρ).bind fun c => if c then a ρ else b ρ

/-! ### what is walked; targets; comprehensions -/
def itOf : D → Option (List D)
  | .lst xs => some xs
  | .tup xs => some xs
  | .str x => if fits x.length then some (x.map fun c => .str [c]) else none
  | _ => none
def small (i : Int) : Bool := cl (-(2 ^ 62) ≤ i ∧ i < 2 ^ 62)
def rangeL (lo : Int) : Nat → List D
  | 0 => []
  | n + 1 => .int lo :: rangeL (lo + 1) n
def iL (a : EM) : EL := fun ρ => (a ρ).bind itOf
def iR1 (a : EM) : EL := fun ρ => (a ρ).bind fun x => (asInt x).bind fun j => if small j && fits j.toNat then some (rangeL 0 j.toNat) else none
def iR2 (a b : EM) : EL := fun ρ => (a ρ).bind fun x => (b ρ).bind fun y => (asInt x).bind fun i => (asInt y).bind fun j => if (small i && small j) && fits (j - i).toNat then some (rangeL i (j - i).toNat) else none
def enumL : Nat → List D → List D
  | _, [] => []
  | k, x :: r => .tup [.int (k : Nat), x] :: enumL (k + 1) r
def zipL : List D → List D → List D
  | x :: r, y :: s => .tup [x, y] :: zipL r s
  | _, _ => []
def asL : D → Option (List D)
  | .lst xs => some xs
  | _ => none
def iEn (a : EM) : EL := fun ρ => (a ρ).bind fun x => (asL x).bind fun xs => some (enumL 0 xs)
def iZp (a b : EM) : EL := fun ρ => (a ρ).bind fun x => (b ρ).bind fun y => (asL x).bind fun xs => (asL y).bind fun ys => some (zipL xs ys)
def zipD : D → D → Option D
  | .lst x, .lst y => some (.lst (zipL x y))
  | _, _ => none
/-- list(range(n)) -/
def rangeD : D → Option D
  | .int j => if small j && fits j.toNat then some (.lst (rangeL 0 j.toNat)) else none
  | _ => none
def gN (i : Nat) : GM := fun d ρ => some (put ρ i (.frz d))
def gTs : List GM → List D → Env → Option Env
  | [], [], ρ => some ρ
  | g :: gs, d :: ds, ρ => (g d ρ).bind fun ρ' => gTs gs ds ρ'
  | _, _, _ => none
def gT (gs : List GM) : GM := fun d ρ => match d with | .tup xs => gTs gs xs ρ | _ => none
def lcGo (tg : GM) (c : TM) (e : EM) (ρ : Env) : List D → Option (List D)
  | [] => some []
  | d :: r => (tg d ρ).bind fun ρ1 => (c ρ1).bind fun b => if b then (e ρ1).bind fun y => (lcGo tg c e ρ r).bind fun ys => some (y :: ys) else lcGo tg c e ρ r
def tYes : TM := fun _ => some true
def lc (it : EL) (vs : List Nat) (tg : GM) (c : TM) (e : EM) : EM := fun ρ => (it ρ).bind fun ds => (lcGo tg c e (wipe ρ vs) ds).bind fun ys => some (.lst ys)

/-! ### statements -/
inductive Out where
  | next (ρ : Env)
  | ret (d : D)
  | brk (ρ : Env)
  | cont (ρ : Env)
abbrev SM := Env → Option Out
def skip : SM := fun ρ => some (.next ρ)
def seq (a b : SM) : SM := fun ρ => (a ρ).bind fun o => match o with | .next ρ' => b ρ' | o => some o
def asg (g : GM) (e : EM) : SM := fun ρ => (e ρ).bind fun d => (g d ρ).bind fun ρ' => some (.next ρ')
/-- x = e, x to be changed in its place behind -/
def asOwn : D → Sl
  | .lst ds => .own ds
  | d => .frz d
def asgO (i : Nat) (e : EM) : SM := fun ρ => (e ρ).bind fun d => some (.next (put ρ i (asOwn d)))
def frz (is : List Nat) (s : SM) : SM := fun ρ => s (freeze ρ is)
def ret (e : EM) : SM := fun ρ => (e ρ).bind fun d => some (.ret d)
def retN : SM := fun _ => some (.ret .non)
def iff (t : TM) (a b : SM) : SM := fun ρ => (t ρ).bind fun c => if c then a ρ else b ρ
def brk : SM := fun ρ => some (.brk ρ)
def cont : SM := fun ρ => some (.cont ρ)
def never : SM := fun _ => none
def drop (e : EM) : SM := fun ρ => (e ρ).bind fun _ => some (.next ρ)
def forGo (g : GM) (body : SM) : List D → Env → Option Out
  | [], ρ => some (.next ρ)
  | d :: r, ρ => (g d ρ).bind fun ρ1 => (body ρ1).bind fun o => match o with
    | .next ρ' => forGo g body r ρ'
    | .cont ρ' => forGo g body r ρ'
    | .brk ρ' => some (.next ρ')
    | .ret d => some (.ret d)
def forS (it : EL) (g : GM) (body : SM) : SM := fun ρ => (it ρ).bind fun ds => forGo g body ds ρ
def whGo (t : TM) (body : SM) : Nat → Env → Option Out
  | 0, _ => none
  | n + 1, ρ => (t ρ).bind fun c => if c then (body ρ).bind fun o => match o with
      | .next ρ' => whGo t body n ρ'
      | .cont ρ' => whGo t body n ρ'
      | .brk ρ' => some (.next ρ')
      | .ret d => some (.ret d)
    else some (.next ρ)
open Classical in
/-- while: the end of some number of turns, if there is one -/
def whS (t : TM) (body : SM) : SM := fun ρ => if h : ∃ n o, whGo t body n ρ = some o then some (Classical.choose (Classical.choose_spec h)) else none
/-- xs.append(e), xs.extend(e), xs[i] = e of a list of its own -/
def app (i : Nat) (e : EM) : SM := fun ρ => (e ρ).bind fun d => match slot ρ i with
  | .own ds => if fits ds.length then some (.next (put ρ i (.own (ds ++ [d])))) else none
  | _ => none
def ext (i : Nat) (e : EM) : SM := fun ρ => (e ρ).bind fun d => match slot ρ i, d with
  | .own ds, .lst es => if fits (ds.length + es.length) then some (.next (put ρ i (.own (ds ++ es)))) else none
  | _, _ => none
def setI (i : Nat) (ix e : EM) : SM := fun ρ => (e ρ).bind fun d => (ix ρ).bind fun k => match slot ρ i, k with
  | .own ds, .int k => (ixN ds.length k).bind fun j => some (.next (put ρ i (.own (ds.set j d))))
  | _, _ => none
/-- xs.pop() given to a target -/
def popS (i : Nat) (g : GM) : SM := fun ρ => match slot ρ i with
  | .own ds => (ds[ds.length - 1]?).bind fun d => (g d (put ρ i (.own ds.dropLast))).bind fun ρ' => some (.next ρ')
  | _ => none
/-- xs.pop() dropped -/
def popD (i : Nat) : SM := fun ρ => match slot ρ i with
  | .own ds => (ds[ds.length - 1]?).bind fun _ => some (.next (put ρ i (.own ds.dropLast)))
  | _ => none
/-- ys.append(xs.pop(e)) -/
def appPop (j i : Nat) (e : EM) : SM := fun ρ => (e ρ).bind fun k => match slot ρ i, slot ρ j, k with
  | .own ds, .own es, .int k => if small k && fits es.length then (ixN ds.length k).bind fun m => (ds[m]?).bind fun d => some (.next (put (put ρ i (.own (ds.eraseIdx m))) j (.own (es ++ [d])))) else none
  | _, _, _ => none

/-! ### dicts of its own: keys that are intsD, keys that are tuples of intsD -/
def kGet {κ : Type} [DecidableEq κ] (kvs : List (κ × D)) (k : κ) : Option D := (kvs.find? fun kv => decide (kv.1 = k)).map (·.2)
def kPut {κ : Type} [DecidableEq κ] (kvs : List (κ × D)) (k : κ) (v : D) : List (κ × D) :=
  if (kvs.any fun kv => decide (kv.1 = k)) = true then kvs.map (fun kv => if kv.1 = k then (kv.1, v) else kv) else kvs ++ [(k, v)]
def newK (i : Nat) : SM := fun ρ => some (.next (put ρ i (.dk [])))
def newT (i : Nat) : SM := fun ρ => some (.next (put ρ i (.dt [])))
def putS (i : Nat) (k e : EM) : SM := fun ρ => (e ρ).bind fun d => (k ρ).bind fun y => match slot ρ i, y with
  | .dk kvs, .int n => if fits kvs.length then some (.next (put ρ i (.dk (kPut kvs n d)))) else none
  | .dt kvs, .tup ks => (intsD ks).bind fun ns => if fits kvs.length then some (.next (put ρ i (.dt (kPut kvs ns d)))) else none
  | _, _ => none
def dLook : Sl → D → Option (Option D)
  | .dk kvs, .int n => some (kGet kvs n)
  | .dt kvs, .tup ks => (intsD ks).bind fun ns => some (kGet kvs ns)
  | _, _ => none
def hasK (i : Nat) (k : EM) : EM := fun ρ => (k ρ).bind fun y => (dLook (slot ρ i) y).bind fun o => some (.bl o.isSome)
def getK (i : Nat) (k : EM) : EM := fun ρ => (k ρ).bind fun y => (dLook (slot ρ i) y).bind fun o => o
def lenK (i : Nat) : EM := fun ρ => match slot ρ i with
  | .dk kvs => some (.int kvs.length)
  | .dt kvs => some (.int kvs.length)
  | _ => none
def maxK (i : Nat) : EM := fun ρ => match slot ρ i with
  | .dk kvs => (match kvs.map (·.1) with | [] => none | a :: r => some (.int (maxL a r)))
  | _ => none

/-! ### a def -/
def fn (n k : Nat) (body : SM) : List D → Option D := fun ds => if ds.length = n then (body (ds.map .frz ++ List.replicate k .emp)).bind fun o => match o with
    | .ret d => some d
    | .next _ => some .non
    | _ => none
  else none
end Mir
end
set_option Elab.async false
set_option linter.all false
set_option maxRecDepth 100000
set_option maxHeartbeats 4000000
/-! Snd1: what stands in the heap for plain data; the relation of slots and mirrored names; readings of mirrors. -/
namespace Snd
open PySem L2 LamX
abbrev D := Mir.D

/-- the tables of code objects that lambdas are entered into: told once, for all that follows -/
class TabCtx where
  T : List (Addr × Str)
variable [TC : TabCtx]
/-! ### heaps that grow -/
/-- all stays but tables of code objects, and these stay tables -/
structure Ex (H H' : Hp) : Prop where
  k : ∀ a o, H a = some o → (∀ ps, o ≠ .tbl ps) → H' a = some o
  ne : ∀ a, H a ≠ none → H' a ≠ none
  tb : ∀ a q, (a, q) ∈ TC.T → TabS H a q → TabS H' a q
/-- no table, no code object -/
def NoT (u : HO) : Prop := (∀ ps, u ≠ .tbl ps) ∧ ∀ c q, u ≠ CodeO c q
theorem NoT.l {xs : List V} : NoT (.lst xs) := ⟨(by intro _ z; cases z), (by intro c q z; unfold CodeO at z; cases z)⟩
theorem NoT.t {xs : List V} : NoT (.tup xs) := ⟨(by intro _ z; cases z), (by intro c q z; unfold CodeO at z; cases z)⟩
theorem NoT.dk {xs : List (Key × V)} : NoT (.dK xs) := ⟨(by intro _ z; cases z), (by intro c q z; unfold CodeO at z; cases z)⟩
theorem NoT.dt {xs : List (List Key × V)} : NoT (.dT xs) := ⟨(by intro _ z; cases z), (by intro c q z; unfold CodeO at z; cases z)⟩
theorem Ex.of {H H' : Hp} (e : ∀ a o, H a = some o → H' a = some o) : Ex H H' := ⟨fun a o h _ => e a o h, fun a h => by
  cases q : H a with
  | none => exact absurd q h
  | some o => rw [e a o q]; exact fun z => (nomatch z), fun a q _ h => h.ext e⟩
theorem Ex.refl (H : Hp) : Ex H H := Ex.of fun _ _ h => h
theorem Ex.trans {H H1 H2 : Hp} (a : Ex H H1) (b : Ex H1 H2) : Ex H H2 := ⟨fun x o h n => b.k x o (a.k x o h n) n, fun x h => b.ne x (a.ne x h), fun x q m h => b.tb x q m (a.tb x q m h)⟩
theorem Ex.l {H H' : Hp} (e : Ex H H') {a : Addr} {xs : List V} (h : H a = some (.lst xs)) : H' a = some (.lst xs) := e.k a _ h NoT.l.1
theorem Ex.t {H H' : Hp} (e : Ex H H') {a : Addr} {xs : List V} (h : H a = some (.tup xs)) : H' a = some (.tup xs) := e.k a _ h NoT.t.1
theorem Ex.dk {H H' : Hp} (e : Ex H H') {a : Addr} {xs : List (Key × V)} (h : H a = some (.dK xs)) : H' a = some (.dK xs) := e.k a _ h NoT.dk.1
theorem Ex.dt {H H' : Hp} (e : Ex H H') {a : Addr} {xs : List (List Key × V)} (h : H a = some (.dT xs)) : H' a = some (.dT xs) := e.k a _ h NoT.dt.1
theorem some_ne {α : Type} {a : α} {o : Option α} (h : o = some a) : o ≠ none := fun q => by rw [q] at h; cases h
theorem Ex.new {H : Hp} {p : Addr} {o : HO} (h : H p = none) : Ex H (upd H p o) := Ex.of fun a u e => by
  rw [upd_ne (ne_of_none e h)]
  exact e
theorem Ex.back {H H' : Hp} (e : Ex H H') {p : Addr} (h : H' p = none) : H p = none := by
  cases q : H p with
  | none => rfl
  | some o => exact absurd h (e.ne p (some_ne q))
theorem tabS_at {H H' : Hp} {a : Addr} {q : Str} (t : TabS H a q) (h1 : ∀ ps, H a = some (.tbl ps) → H' a = some (.tbl ps)) (h2 : ∀ c r, H c = some (CodeO c r) → H' c = some (CodeO c r)) : TabS H' a q := by
  obtain ⟨ps, hP, ht, ha⟩ := t
  refine ⟨ps, h1 _ hP, ht, fun pos cv hc => ?_⟩
  obtain ⟨c, e1, e2⟩ := ha pos cv hc
  exact ⟨c, e1, h2 _ _ e2⟩
/-- a new thing changes -/
theorem Ex.mut {H H' : Hp} (e : Ex H H') {l : Addr} (n : H l = none) (hl : ∀ u, H' l = some u → NoT u) (o : HO) : Ex H (upd H' l o) :=
  ⟨fun a u h m => by
    rw [upd_ne (ne_of_none h n)]
    exact e.k a u h m, fun a h => by
    have : a ≠ l := fun q => h (by rw [q]; exact n)
    rw [upd_ne this]
    exact e.ne a h, fun a q m h => tabS_at (e.tb a q m h) (fun ps hp => by
    have : a ≠ l := fun q => by
      subst q
      exact (hl _ hp).1 ps rfl
    rw [upd_ne this]
    exact hp) fun c r hc => by
    have : c ≠ l := fun q => by
      subst q
      exact (hl _ hc).2 c r rfl
    rw [upd_ne this]
    exact hc⟩
theorem Ex.rd {H H' : Hp} {a : Addr} {u : HO} (e : Ex H H') (n : ∀ ps, u ≠ .tbl ps) (h : Rd H a u) : Rd H' a u := by
  rcases h with h | ⟨o, h⟩
  · exact .inl (e.k _ _ h n)
  · exact .inr ⟨o, e.k _ _ h (by intro _ z; cases z)⟩
theorem Ex.sqL {K : PySem.W.Frag} {H H' : Hp} {a : Addr} {xs : List V} (e : Ex H H') (h : SqL K H a xs) : SqL K H' a xs := by
  rcases h with h | h
  · exact .inl (e.rd NoT.l.1 h)
  · exact .inr h
theorem Ex.sqT {K : PySem.W.Frag} {H H' : Hp} {a : Addr} {xs : List V} (e : Ex H H') (h : SqT K H a xs) : SqT K H' a xs := by
  rcases h with h | h
  · exact .inl (e.rd NoT.t.1 h)
  · exact .inr h

/-- a text by its signs -/
abbrev S (x : List Nat) : Str := ⟨x.toArray⟩
theorem S_len (x : List Nat) : (S x).length = x.length := by
  show x.toArray.size = x.length
  simp
/-! ### data in a heap -/
mutual
inductive At (K : PySem.W.Frag) (G : Hp) : V → D → Prop
  | non : At K G .non .non
  | bl (b : Bool) : At K G (.bl b) (.bl b)
  | int (i : Int) : At K G (.int i) (.int i)
  | str (x : List Nat) : At K G (.str (S x)) (.str x)
  | lst {a : Addr} {vs : List V} {ds : List D} : G a = some (.lst vs) → AtL K G vs ds → At K G (.ref a) (.lst ds)
  | tup {a : Addr} {vs : List V} {ds : List D} : G a = some (.tup vs) → AtL K G vs ds → At K G (.ref a) (.tup ds)
  | fz {a : Addr} {ns : List Int} : SqL K G a (ns.map V.int) → At K G (.ref a) (.fz ns)
  | kt {a : Addr} {vs : List V} {ds : List D} : SqT K G a vs → AtL K G vs ds → At K G (.ref a) (.kt ds)
inductive AtL (K : PySem.W.Frag) (G : Hp) : List V → List D → Prop
  | nil : AtL K G [] []
  | cons {v : V} {vs : List V} {d : D} {ds : List D} : At K G v d → AtL K G vs ds → AtL K G (v :: vs) (d :: ds)
end
section
variable {K : PySem.W.Frag} {G G' : Hp}
mutual
theorem At.mono (e : Ex G G') : ∀ {v : V} {d : D}, At K G v d → At K G' v d
  | _, _, .non => .non
  | _, _, .bl b => .bl b
  | _, _, .int i => .int i
  | _, _, .str x => .str x
  | _, _, .lst h r => .lst (e.l h) (AtL.mono e r)
  | _, _, .tup h r => .tup (e.t h) (AtL.mono e r)
  | _, _, .fz h => .fz (e.sqL h)
  | _, _, .kt h r => .kt (e.sqT h) (AtL.mono e r)
theorem AtL.mono (e : Ex G G') : ∀ {vs : List V} {ds : List D}, AtL K G vs ds → AtL K G' vs ds
  | _, _, .nil => .nil
  | _, _, .cons a r => .cons (At.mono e a) (AtL.mono e r)
end
theorem AtL.len : ∀ {vs : List V} {ds : List D}, AtL K G vs ds → vs.length = ds.length
  | _, _, .nil => rfl
  | _, _, .cons _ r => by rw [List.length_cons, List.length_cons, AtL.len r]
theorem AtL.get : ∀ {vs : List V} {ds : List D} {i : Nat} {d : D}, AtL K G vs ds → ds[i]? = some d → ∃ v, vs[i]? = some v ∧ At K G v d
  | _, _, _, _, .nil, e => by simp at e
  | _, _, 0, _, .cons a _, e => by simp at e; subst e; exact ⟨_, rfl, a⟩
  | _, _, i + 1, d, .cons _ r, e => by
    obtain ⟨v, h1, h2⟩ := AtL.get (i := i) (d := d) r (by simpa using e)
    exact ⟨v, by simpa using h1, h2⟩
theorem AtL.getV : ∀ {vs : List V} {ds : List D} {i : Nat} {v : V}, AtL K G vs ds → vs[i]? = some v → ∃ d, ds[i]? = some d ∧ At K G v d
  | _, _, _, _, .nil, e => by simp at e
  | _, _, 0, _, .cons a _, e => by simp at e; subst e; exact ⟨_, rfl, a⟩
  | _, _, i + 1, v, .cons _ r, e => by
    obtain ⟨d, h1, h2⟩ := AtL.getV (i := i) (v := v) r (by simpa using e)
    exact ⟨d, by simpa using h1, h2⟩
theorem AtL.app : ∀ {vs ws : List V} {ds es : List D}, AtL K G vs ds → AtL K G ws es → AtL K G (vs ++ ws) (ds ++ es)
  | _, _, _, _, .nil, s => s
  | _, _, _, _, .cons a r, s => .cons a (AtL.app r s)
theorem AtL.take : ∀ {vs : List V} {ds : List D} (n : Nat), AtL K G vs ds → AtL K G (vs.take n) (ds.take n)
  | _, _, 0, _ => .nil
  | _, _, _ + 1, .nil => .nil
  | _, _, n + 1, .cons a r => .cons a (AtL.take n r)
theorem AtL.drop : ∀ {vs : List V} {ds : List D} (n : Nat), AtL K G vs ds → AtL K G (vs.drop n) (ds.drop n)
  | _, _, 0, r => r
  | _, _, _ + 1, .nil => .nil
  | _, _, n + 1, .cons _ r => AtL.drop n r
theorem AtL.set {v : V} {d : D} (a : At K G v d) : ∀ {vs : List V} {ds : List D} (i : Nat), AtL K G vs ds → AtL K G (vs.set i v) (ds.set i d)
  | _, _, _, .nil => .nil
  | _, _, 0, .cons _ r => .cons a r
  | _, _, i + 1, .cons b r => .cons b (AtL.set a i r)
theorem AtL.erase : ∀ {vs : List V} {ds : List D} (i : Nat), AtL K G vs ds → AtL K G (vs.eraseIdx i) (ds.eraseIdx i)
  | _, _, _, .nil => .nil
  | _, _, 0, .cons _ r => r
  | _, _, i + 1, .cons b r => .cons b (AtL.erase i r)
theorem AtL.dropLast : ∀ {vs : List V} {ds : List D}, AtL K G vs ds → AtL K G vs.dropLast ds.dropLast
  | _, _, .nil => .nil
  | _, _, .cons _ .nil => .nil
  | _, _, .cons a (.cons b r) => .cons a (AtL.dropLast (.cons b r))
theorem AtL.rev {vs : List V} {ds : List D} (r : AtL K G vs ds) : AtL K G vs.reverse ds.reverse := by
  induction r using AtL.rec (motive_1 := fun _ _ _ => True) with
  | nil => exact .nil
  | cons a r _ ih =>
    rw [List.reverse_cons, List.reverse_cons]
    exact AtL.app ih (.cons a .nil)
  | _ => trivial
theorem AtL.ints : ∀ {vs : List V} {ds : List D} {ns : List Int}, AtL K G vs ds → Mir.intsD ds = some ns → vs = ns.map V.int
  | _, _, ns, .nil, e => by
    simp [Mir.intsD] at e
    subst e
    rfl
  | _, _, ns, .cons a r, e => by
    cases a <;> simp only [Mir.intsD] at e <;> try cases e
    rename_i vs ds i
    cases q : Mir.intsD ds with
    | none => rw [q] at e; cases e
    | some ms =>
      rw [q] at e
      cases e
      rw [AtL.ints r q]
      rfl
theorem AtL.bools : ∀ {vs : List V} {ds : List D} {ns : List Bool}, AtL K G vs ds → Mir.bools ds = some ns → vs = ns.map V.bl
  | _, _, ns, .nil, e => by
    simp [Mir.bools] at e
    subst e
    rfl
  | _, _, ns, .cons a r, e => by
    cases a <;> simp only [Mir.bools] at e <;> try cases e
    rename_i vs ds i
    cases q : Mir.bools ds with
    | none => rw [q] at e; cases e
    | some ms =>
      rw [q] at e
      cases e
      rw [AtL.bools r q]
      rfl
theorem AtL.strs : ∀ {vs : List V} {ds : List D} {ns : List (List Nat)}, AtL K G vs ds → Mir.strsD ds = some ns → vs = (ns.map S).map V.str
  | _, _, ns, .nil, e => by
    simp [Mir.strsD] at e
    subst e
    rfl
  | _, _, ns, .cons a r, e => by
    cases a <;> simp only [Mir.strsD] at e <;> try cases e
    rename_i vs ds i
    cases q : Mir.strsD ds with
    | none => rw [q] at e; cases e
    | some ms =>
      rw [q] at e
      cases e
      rw [AtL.strs r q]
      rfl
theorem AtL.ofInts : ∀ (ns : List Int), AtL K G (ns.map V.int) (ns.map Mir.D.int)
  | [] => .nil
  | n :: r => .cons (.int n) (AtL.ofInts r)
theorem AtL.ofStrs : ∀ (ns : List (List Nat)), AtL K G ((ns.map S).map V.str) (ns.map Mir.D.str)
  | [] => .nil
  | n :: r => .cons (.str n) (AtL.ofStrs r)
theorem AtL.flat : ∀ {vs : List V} {ds : List D}, AtL K G vs ds → ds.all Mir.flat = true → vs.all flatV = true
  | _, _, .nil, _ => rfl
  | _, _, .cons a r, h => by
    rw [List.all_cons, Bool.and_eq_true] at h
    rw [List.all_cons, AtL.flat r h.2, Bool.and_true]
    cases a <;> first | rfl | (have := h.1; simp [Mir.flat] at this)
theorem S_inj {x y : List Nat} : S x = S y ↔ x = y := by
  constructor
  · intro h
    have h1 : x.toArray = y.toArray := congrArg Str.cps h
    simpa using congrArg Array.toList h1
  · rintro rfl; rfl
theorem S_beq (x y : List Nat) : (S x == S y) = (x == y) := by
  by_cases h : x = y
  · subst h; simp
  · have h' : S x ≠ S y := fun e => h (S_inj.mp e)
    rw [beq_eq_false_iff_ne.mpr h, beq_eq_false_iff_ne.mpr h']
theorem At.eqV {v w : V} {d e : D} (a : At K G v d) (b : At K G w e) (hd : Mir.flat d = true) (he : Mir.flat e = true) : eqV v w = Mir.eqv d e := by
  cases a <;> simp [Mir.flat] at hd <;> cases b <;> simp [Mir.flat] at he <;> first | rfl | (simp only [L2.eqV, Mir.eqv, S_beq])
theorem AtL.inV {x : V} {d : D} (a : At K G x d) (hd : Mir.flat d = true) : ∀ {vs : List V} {ds : List D}, AtL K G vs ds → ds.all Mir.flat = true → inV x vs = ds.any fun y => Mir.eqv y d
  | _, _, .nil, _ => rfl
  | _, _, .cons b r, h => by
    rw [List.all_cons, Bool.and_eq_true] at h
    show (eqV _ x || L2.inV x _) = _
    rw [At.eqV b a h.1 hd, AtL.inV a hd r h.2, List.any_cons]
/-! ### for == at any depth -/
mutual
def py : D → PyData
  | .non => .none
  | .bl b => .bool b
  | .int i => .int i
  | .str x => .str (S x)
  | .lst xs => .list (pys xs)
  | .tup xs => .tuple (pys xs)
  | .fz _ => .none
  | .kt _ => .none
def pys : List D → List PyData
  | [] => []
  | x :: xs => py x :: pys xs
end
mutual
theorem At.dp : ∀ {v : V} {d : D}, At K G v d → Mir.okD d = true → Dp K G v (py d)
  | _, _, .non, _ => .non
  | _, _, .bl b, _ => .bl b
  | _, _, .int i, _ => .int i
  | _, _, .str x, _ => .str _
  | _, _, .lst h r, o => .lst (SqL.of h) (AtL.dp r (by simpa [Mir.okD] using o))
  | _, _, .tup h r, o => .tup (SqT.of h) (AtL.dp r (by simpa [Mir.okD] using o))
  | _, _, .fz _, o => by simp [Mir.okD] at o
  | _, _, .kt _ _, o => by simp [Mir.okD] at o
theorem AtL.dp : ∀ {vs : List V} {ds : List D}, AtL K G vs ds → Mir.okDs ds = true → DpAll K G vs (pys ds)
  | _, _, .nil, _ => .nil
  | _, _, .cons a r, o => by
    simp only [Mir.okDs, Bool.and_eq_true] at o
    exact .cons (At.dp a o.1) (AtL.dp r o.2)
end
mutual
theorem canLay_py : ∀ d : D, Mir.okD d = true → PyData.canLay0 (py d) = true
  | .non, _ => by simp [py, PyData.canLay0]
  | .bl _, _ => by simp [py, PyData.canLay0]
  | .int _, _ => by simp [py, PyData.canLay0]
  | .str x, o => by
    simp only [py, PyData.canLay0, PyData.strOk]
    simpa [Mir.okD] using o
  | .lst xs, o => by
    simp only [py, PyData.canLay0]
    exact canLay_pys xs (by simpa [Mir.okD] using o)
  | .tup xs, o => by
    simp only [py, PyData.canLay0]
    exact canLay_pys xs (by simpa [Mir.okD] using o)
  | .fz _, o => by simp [Mir.okD] at o
  | .kt _, o => by simp [Mir.okD] at o
theorem canLay_pys : ∀ ds : List D, Mir.okDs ds = true → PyData.canLayAll0 (pys ds) = true
  | [], _ => by simp [pys, PyData.canLayAll0]
  | d :: ds, o => by
    simp only [Mir.okDs, Bool.and_eq_true] at o
    simp only [pys, PyData.canLayAll0, canLay_py d o.1, canLay_pys ds o.2, Bool.and_self]
end
mutual
theorem depth_py : ∀ d : D, PyData.depth (py d) = Mir.dep d
  | .non => by simp [py, PyData.depth, Mir.dep]
  | .bl _ => by simp [py, PyData.depth, Mir.dep]
  | .int _ => by simp [py, PyData.depth, Mir.dep]
  | .str _ => by simp [py, PyData.depth, Mir.dep]
  | .lst xs => by simp only [py, PyData.depth, Mir.dep, depth_pys xs]
  | .tup xs => by simp only [py, PyData.depth, Mir.dep, depth_pys xs]
  | .fz _ => by simp [py, PyData.depth, Mir.dep]
  | .kt _ => by simp [py, PyData.depth, Mir.dep]
theorem depth_pys : ∀ ds : List D, PyData.depthAll (pys ds) = Mir.deps ds
  | [] => by simp [pys, PyData.depthAll, Mir.deps]
  | d :: ds => by simp only [pys, PyData.depthAll, Mir.deps, depth_py d, depth_pys ds]
end
theorem shaped_py {d : D} (h : Mir.shp d = true) : SeqAt.shaped (py d) = true := by
  simp only [Mir.shp, Bool.and_eq_true, decide_eq_true_eq] at h
  simp only [SeqAt.shaped, canLay_py d h.1, depth_py, Bool.true_and, decide_eq_true_eq]
  exact h.2
mutual
theorem eqv_py : ∀ d e : D, Mir.okD d = true → Mir.okD e = true → PyData.eqv (py d) (py e) = Mir.eqv d e
  | .lst xs, .lst ys, a, b => by
    simp only [py, PyData.eqv, Mir.eqv]
    exact eqvs_py xs ys (by simpa [Mir.okD] using a) (by simpa [Mir.okD] using b)
  | .tup xs, .tup ys, a, b => by
    simp only [py, PyData.eqv, Mir.eqv]
    exact eqvs_py xs ys (by simpa [Mir.okD] using a) (by simpa [Mir.okD] using b)
  | .fz _, _, a, _ => by simp [Mir.okD] at a
  | .kt _, _, a, _ => by simp [Mir.okD] at a
  | .non, e, _, b => by cases e <;> simp [Mir.okD] at b <;> simp [py, PyData.eqv, Mir.eqv]
  | .bl _, e, _, b => by cases e <;> simp [Mir.okD] at b <;> simp [py, PyData.eqv, Mir.eqv]
  | .int _, e, _, b => by cases e <;> simp [Mir.okD] at b <;> simp [py, PyData.eqv, Mir.eqv]
  | .str x, e, _, b => by cases e <;> simp [Mir.okD] at b <;> simp [py, PyData.eqv, Mir.eqv, S_beq]
  | .lst _, .non, _, _ => by simp [py, PyData.eqv, Mir.eqv]
  | .lst _, .bl _, _, _ => by simp [py, PyData.eqv, Mir.eqv]
  | .lst _, .int _, _, _ => by simp [py, PyData.eqv, Mir.eqv]
  | .lst _, .str _, _, _ => by simp [py, PyData.eqv, Mir.eqv]
  | .lst _, .tup _, _, _ => by simp [py, PyData.eqv, Mir.eqv]
  | .lst _, .fz _, _, b => by simp [Mir.okD] at b
  | .lst _, .kt _, _, b => by simp [Mir.okD] at b
  | .tup _, .non, _, _ => by simp [py, PyData.eqv, Mir.eqv]
  | .tup _, .bl _, _, _ => by simp [py, PyData.eqv, Mir.eqv]
  | .tup _, .int _, _, _ => by simp [py, PyData.eqv, Mir.eqv]
  | .tup _, .str _, _, _ => by simp [py, PyData.eqv, Mir.eqv]
  | .tup _, .lst _, _, _ => by simp [py, PyData.eqv, Mir.eqv]
  | .tup _, .fz _, _, b => by simp [Mir.okD] at b
  | .tup _, .kt _, _, b => by simp [Mir.okD] at b
theorem eqvs_py : ∀ ds es : List D, Mir.okDs ds = true → Mir.okDs es = true → PyData.eqvAll (pys ds) (pys es) = Mir.eqvs ds es
  | [], [], _, _ => by simp [pys, PyData.eqvAll, Mir.eqvs]
  | [], _ :: _, _, _ => by simp [pys, PyData.eqvAll, Mir.eqvs]
  | _ :: _, [], _, _ => by simp [pys, PyData.eqvAll, Mir.eqvs]
  | d :: ds, e :: es, a, b => by
    simp only [Mir.okDs, Bool.and_eq_true] at a b
    simp only [pys, PyData.eqvAll, Mir.eqvs, eqv_py d e a.1 b.1, eqvs_py ds es a.2 b.2]
end
end
end Snd
set_option Elab.async false
set_option linter.all false
set_option maxRecDepth 100000
set_option maxHeartbeats 4000000
/-! Snd2: the relation, readings of mirrors, their composition. -/
namespace Snd
open PySem L2 LamX
variable [TC : TabCtx]

/-! ### slots -/
inductive KvK (K : PySem.W.Frag) (G : Hp) : List (Key × V) → List (Int × D) → Prop
  | nil : KvK K G [] []
  | cons {k : Int} {v : V} {d : D} {us : List (Key × V)} {kvs : List (Int × D)} : At K G v d → KvK K G us kvs → KvK K G ((Sum.inl k, v) :: us) ((k, d) :: kvs)
def keyL (ns : List Int) : List Key := ns.map Sum.inl
inductive KvT (K : PySem.W.Frag) (G : Hp) : List (List Key × V) → List (List Int × D) → Prop
  | nil : KvT K G [] []
  | cons {k : List Int} {v : V} {d : D} {us : List (List Key × V)} {kvs : List (List Int × D)} : At K G v d → KvT K G us kvs → KvT K G ((keyL k, v) :: us) ((k, d) :: kvs)
theorem KvK.mono {K : PySem.W.Frag} {G G' : Hp} (e : Ex G G') {us kvs} (h : KvK K G us kvs) : KvK K G' us kvs := by
  induction h with
  | nil => exact .nil
  | cons a _ ih => exact .cons (a.mono e) ih
theorem KvT.mono {K : PySem.W.Frag} {G G' : Hp} (e : Ex G G') {us kvs} (h : KvT K G us kvs) : KvT K G' us kvs := by
  induction h with
  | nil => exact .nil
  | cons a _ ih => exact .cons (a.mono e) ih
/-- what the slot o holds, H0 the heap at the def's entry, G what is given away, H all -/
def SlAt (K : PySem.W.Frag) (H0 G H : Hp) (o : Option (Option V)) : Mir.Sl → Prop
  | .emp => True
  | .frz d => ∃ v, o = some (some v) ∧ At K G v d
  | .own ds => ∃ l vs, o = some (some (.ref l)) ∧ H0 l = none ∧ G l = none ∧ H l = some (.lst vs) ∧ AtL K G vs ds
  | .dk kvs => ∃ l us, o = some (some (.ref l)) ∧ H0 l = none ∧ G l = none ∧ H l = some (.dK us) ∧ KvK K G us kvs
  | .dt kvs => ∃ l us, o = some (some (.ref l)) ∧ H0 l = none ∧ G l = none ∧ H l = some (.dT us) ∧ KvT K G us kvs
def mutSl : Mir.Sl → Bool
  | .own _ | .dk _ | .dt _ => true
  | _ => false
structure Rel (K : PySem.W.Frag) (G0 H0 G H : Hp) (σ : St) (ρ : Mir.Env) : Prop where
  gg : Ex G0 G
  hh : Ex H0 H
  gh : Ex G H
  fr : ∀ a, H0 a ≠ none → G a = G0 a
  sl : ∀ i, SlAt K H0 G H σ[i]? (Mir.slot ρ i)
  ds : ∀ i j l, i ≠ j → mutSl (Mir.slot ρ i) = true → mutSl (Mir.slot ρ j) = true → σ[i]? = some (some (.ref l)) → σ[j]? ≠ some (some (.ref l))
  ln : ρ.length ≤ σ.length
  tb : Tabs TC.T H
/-- an expression's step: things are made, nothing changes -/
structure Stp (G H G' H' : Hp) : Prop where
  g : Ex G G'
  h : Ex H H'
  gh : Ex G' H'
  fr : ∀ a, H a ≠ none → G' a = G a
theorem Stp.refl {G H : Hp} (e : Ex G H) : Stp G H G H := ⟨Ex.refl G, Ex.refl H, e, fun _ _ => rfl⟩
theorem Stp.trans {G H G1 H1 G2 H2 : Hp} (a : Stp G H G1 H1) (b : Stp G1 H1 G2 H2) : Stp G H G2 H2 :=
  ⟨a.g.trans b.g, a.h.trans b.h, b.gh, fun x hx => by
    rw [b.fr x (a.h.ne x hx), a.fr x hx]⟩
/-- a new thing, given away at once -/
theorem tabS_un {G : Hp} {p a : Addr} {o : HO} {q : Str} (n : NoT o) (h : TabS (upd G p o) a q) : TabS G a q := tabS_at h (fun ps hP => by
    by_cases z : a = p
    · subst z
      rw [upd_same] at hP
      exact absurd (Option.some.inj hP) (n.1 ps)
    · rw [upd_ne z] at hP
      exact hP) fun c r hc => by
    by_cases z : c = p
    · subst z
      rw [upd_same] at hc
      exact absurd (Option.some.inj hc) (n.2 c r)
    · rw [upd_ne z] at hc
      exact hc
theorem Ex.put2 {G H : Hp} (e : Ex G H) {p : Addr} {o : HO} (n : NoT o) (hp : H p = none) : Ex (upd G p o) (upd H p o) :=
  ⟨fun a u h m => by
    by_cases ha : a = p
    · subst ha
      rw [upd_same] at h ⊢
      exact h
    · rw [upd_ne ha] at h ⊢
      exact e.k _ _ h m, fun a h => by
    by_cases ha : a = p
    · subst ha
      rw [upd_same]
      exact fun z => nomatch z
    · rw [upd_ne ha] at h ⊢
      exact e.ne _ h, fun a q m h => (Ex.new hp).tb a q m (e.tb a q m (tabS_un n h))⟩
/-- what stands in H is given away -/
theorem Ex.give {G H : Hp} (e : Ex G H) {p : Addr} {o : HO} (n : NoT o) (hp : H p = some o) : Ex (upd G p o) H :=
  ⟨fun a u h m => by
    by_cases ha : a = p
    · subst ha
      rw [upd_same] at h
      rw [← h]
      exact hp
    · rw [upd_ne ha] at h
      exact e.k _ _ h m, fun a h => by
    by_cases ha : a = p
    · subst ha
      exact some_ne hp
    · rw [upd_ne ha] at h
      exact e.ne _ h, fun a q m h => e.tb a q m (tabS_un n h)⟩
theorem Stp.both {G H : Hp} (e : Ex G H) {p : Addr} {o : HO} (hp : H p = none) (hn : NoT o) : Stp G H (upd G p o) (upd H p o) :=
  ⟨Ex.new (e.back hp), Ex.new hp, e.put2 hn hp, fun a ha => by
    have : a ≠ p := fun q => ha (by rw [q]; exact hp)
    rw [upd_ne this]⟩
/-- a new thing of one's own -/
theorem Stp.own {G H : Hp} (e : Ex G H) {p : Addr} {o : HO} (hp : H p = none) : Stp G H G (upd H p o) :=
  ⟨Ex.refl G, Ex.new hp, e.trans (Ex.new hp), fun _ _ => rfl⟩
section
variable {K : PySem.W.Frag} {G0 H0 G H G' H' : Hp} {σ : St} {ρ : Mir.Env}
theorem SlAt.stp (st : Stp G H G' H') {o : Option (Option V)} {s : Mir.Sl} (h : SlAt K H0 G H o s) : SlAt K H0 G' H' o s := by
  have ng : ∀ l u, H l = some u → G l = none → G' l = none := fun l u e n => by
    rw [st.fr l (by rw [e]; exact fun z => nomatch z)]
    exact n
  cases s with
  | emp => trivial
  | frz d =>
    obtain ⟨v, e, a⟩ := h
    exact ⟨v, e, a.mono st.g⟩
  | own ds =>
    obtain ⟨l, vs, e, n0, n, hl, a⟩ := h
    exact ⟨l, vs, e, n0, ng l _ hl n, st.h.l hl, a.mono st.g⟩
  | dk kvs =>
    obtain ⟨l, vs, e, n0, n, hl, a⟩ := h
    exact ⟨l, vs, e, n0, ng l _ hl n, st.h.dk hl, a.mono st.g⟩
  | dt kvs =>
    obtain ⟨l, vs, e, n0, n, hl, a⟩ := h
    exact ⟨l, vs, e, n0, ng l _ hl n, st.h.dt hl, a.mono st.g⟩
theorem Rel.stp (r : Rel K G0 H0 G H σ ρ) (st : Stp G H G' H') : Rel K G0 H0 G' H' σ ρ where
  gg := r.gg.trans st.g
  hh := r.hh.trans st.h
  gh := st.gh
  fr := fun a ha => by
    rw [st.fr a (r.hh.ne a ha), r.fr a ha]
  sl := fun i => (r.sl i).stp st
  ds := r.ds
  ln := r.ln
  tb := fun p hp => st.h.tb p.1 p.2 hp (r.tb p hp)
end

/-! ### values: given away; borrowed (a list of the def's own, for the moment); new -/
def AtB (K : PySem.W.Frag) (G H : Hp) (v : V) (d : D) : Prop := At K G v d ∨ ∃ l vs ds, v = .ref l ∧ d = .lst ds ∧ H l = some (.lst vs) ∧ AtL K G vs ds
def AtN (K : PySem.W.Frag) (H0 G H : Hp) (v : V) (d : D) : Prop := ((∀ ds, d ≠ .lst ds) ∧ At K G v d) ∨ ∃ l vs ds, v = .ref l ∧ d = .lst ds ∧ H0 l = none ∧ G l = none ∧ H l = some (.lst vs) ∧ AtL K G vs ds
inductive AtBL (K : PySem.W.Frag) (G H : Hp) : List V → List D → Prop
  | nil : AtBL K G H [] []
  | cons {v : V} {vs : List V} {d : D} {ds : List D} : AtB K G H v d → AtBL K G H vs ds → AtBL K G H (v :: vs) (d :: ds)
section
variable {K : PySem.W.Frag} {G H G' H' : Hp}
theorem AtB.stp (st : Stp G H G' H') {v : V} {d : D} (h : AtB K G H v d) : AtB K G' H' v d := by
  rcases h with h | ⟨l, vs, ds, e1, e2, hl, a⟩
  · exact .inl (h.mono st.g)
  · exact .inr ⟨l, vs, ds, e1, e2, st.h.l hl, a.mono st.g⟩
theorem AtBL.stp (st : Stp G H G' H') {vs : List V} {ds : List D} (h : AtBL K G H vs ds) : AtBL K G' H' vs ds := by
  induction h with
  | nil => exact .nil
  | cons a _ ih => exact .cons (a.stp st) ih
/-- a borrowed value as data of the heap as it is -/
theorem AtB.at (e : Ex G H) {v : V} {d : D} (h : AtB K G H v d) : At K H v d := by
  rcases h with h | ⟨l, vs, ds, rfl, rfl, hl, a⟩
  · exact h.mono e
  · exact .lst hl (a.mono e)
theorem AtB.lst (e : Ex G H) {v : V} {ds : List D} (h : AtB K G H v (.lst ds)) : ∃ l vs, v = .ref l ∧ H l = some (.lst vs) ∧ AtL K G vs ds := by
  rcases h with h | ⟨l, vs, ds, rfl, q, hl, a⟩
  · cases h with
    | lst h r => exact ⟨_, _, rfl, e.l h, r⟩
  · cases q
    exact ⟨l, vs, rfl, hl, a⟩
theorem AtB.tup (e : Ex G H) {v : V} {ds : List D} (h : AtB K G H v (.tup ds)) : ∃ l vs, v = .ref l ∧ H l = some (.tup vs) ∧ AtL K G vs ds := by
  rcases h with h | ⟨l, vs, ds, rfl, q, hl, a⟩
  · cases h with
    | tup h r => exact ⟨_, _, rfl, e.t h, r⟩
  · cases q
theorem AtB.int {v : V} {i : Int} (h : AtB K G H v (.int i)) : v = .int i := by
  rcases h with h | ⟨l, vs, ds, rfl, q, hl, a⟩
  · cases h; rfl
  · cases q
theorem AtB.bl {v : V} {b : Bool} (h : AtB K G H v (.bl b)) : v = .bl b := by
  rcases h with h | ⟨l, vs, ds, rfl, q, hl, a⟩
  · cases h; rfl
  · cases q
theorem AtB.str {v : V} {x : List Nat} (h : AtB K G H v (.str x)) : v = .str (S x) := by
  rcases h with h | ⟨l, vs, ds, rfl, q, hl, a⟩
  · cases h; rfl
  · cases q
theorem AtB.fz {v : V} {ns : List Int} (e : Ex G H) (h : AtB K G H v (.fz ns)) : ∃ a, v = .ref a ∧ SqL K H a (ns.map V.int) := by
  rcases h with h | ⟨l, vs, ds, rfl, q, hl, a⟩
  · cases h with
    | fz h => exact ⟨_, rfl, e.sqL h⟩
  · cases q
theorem AtB.kt {v : V} {ds : List D} (e : Ex G H) (h : AtB K G H v (.kt ds)) : ∃ a vs, v = .ref a ∧ SqT K H a vs ∧ AtL K G vs ds := by
  rcases h with h | ⟨l, vs, ds, rfl, q, hl, a⟩
  · cases h with
    | kt h r => exact ⟨_, _, rfl, e.sqT h, r⟩
  · cases q
theorem AtN.v {H0 : Hp} (h0 : Stp G H0 G' H') {v : V} {d : D} (h : AtN K H0 G' H' v d) : ∃ G2, Stp G H0 G2 H' ∧ At K G2 v d := by
  rcases h with ⟨_, h⟩ | ⟨l, vs, ds, rfl, rfl, n0, n, hl, a⟩
  · exact ⟨G', h0, h⟩
  · refine ⟨upd G' l (.lst vs), ⟨h0.g.trans (Ex.new n), h0.h, h0.gh.give NoT.l hl, fun b hb => ?_⟩, .lst upd_same (a.mono (Ex.new n))⟩
    · have : b ≠ l := fun q => hb (by rw [q]; exact n0)
      rw [upd_ne this]
      exact h0.fr b hb
end

/-! ### readings -/
def rdV (K : PySem.W.Frag) (m : Mir.EM) : TE := fun σ H Q => ∃ G0 H0 G ρ d, Rel K G0 H0 G H σ ρ ∧ m ρ = some d ∧ ∀ v G' H', Stp G H G' H' → At K G' v d → Q v H'
def rdB (K : PySem.W.Frag) (m : Mir.EM) : TE := fun σ H Q => ∃ G0 H0 G ρ d, Rel K G0 H0 G H σ ρ ∧ m ρ = some d ∧ ∀ v G' H', Stp G H G' H' → AtB K G' H' v d → Q v H'
def rdN (K : PySem.W.Frag) (m : Mir.EM) : TE := fun σ H Q => ∃ G0 H0 G ρ d, Rel K G0 H0 G H σ ρ ∧ m ρ = some d ∧ ∀ v G' H', Stp G H G' H' → AtN K H G' H' v d → Q v H'
def rdT (K : PySem.W.Frag) (m : Mir.TM) : TT := fun σ H Q => ∃ G0 H0 G ρ b, Rel K G0 H0 G H σ ρ ∧ m ρ = some b ∧ ∀ G' H', Stp G H G' H' → Q b H'
def rdL (K : PySem.W.Frag) (m : Mir.EL) : TA := fun σ H Q => ∃ G0 H0 G ρ ds, Rel K G0 H0 G H σ ρ ∧ m ρ = some ds ∧ ∀ vs G' H', Stp G H G' H' → AtL K G' vs ds → Q vs H'
def rdLB (K : PySem.W.Frag) (m : Mir.EL) : TA := fun σ H Q => ∃ G0 H0 G ρ ds, Rel K G0 H0 G H σ ρ ∧ m ρ = some ds ∧ ∀ vs G' H', Stp G H G' H' → AtBL K G' H' vs ds → Q vs H'
/-- behind a statement -/
structure Fin (G0 H0 G H : Hp) : Prop where
  gg : Ex G0 G
  hh : Ex H0 H
  gh : Ex G H
  fr : ∀ a, H0 a ≠ none → G a = G0 a
def after (K : PySem.W.Frag) (G0 H0 : Hp) (Dd : Ends) : Mir.Out → Prop
  | .next ρ => ∀ σ' G' H', Rel K G0 H0 G' H' σ' ρ → Dd.nx σ' H'
  | .brk ρ => ∀ σ' G' H', Rel K G0 H0 G' H' σ' ρ → Dd.bk σ' H'
  | .cont ρ => ∀ σ' G' H', Rel K G0 H0 G' H' σ' ρ → Dd.ct σ' H'
  | .ret d => ∀ v G' H', Fin G0 H0 G' H' → At K G' v d → Dd.rt v H'
def rdS (K : PySem.W.Frag) (m : Mir.SM) : TS := fun Dd σ H => ∃ G0 H0 G ρ o, Rel K G0 H0 G H σ ρ ∧ m ρ = some o ∧ after K G0 H0 Dd o
/-- a target; is: the slots that it stores -/
def rdG (K : PySem.W.Frag) (is : List Nat) (g : Mir.GM) : TG := fun v σ H Q => ∃ G0 H0 G ρ d ρ', Rel K G0 H0 G H σ ρ ∧ At K G v d ∧ g d ρ = some ρ' ∧
  ∀ σ', Rel K G0 H0 G H σ' ρ' → σ'.length = σ.length → (∀ j, j ∉ is → σ'[j]? = σ[j]?) → Q σ' H
abbrev EV (X : Cx) (e : Expr) (m : Mir.EM) : Prop := PE X e (rdV X.K m)
abbrev EB (X : Cx) (e : Expr) (m : Mir.EM) : Prop := PE X e (rdB X.K m)
abbrev EN (X : Cx) (e : Expr) (m : Mir.EM) : Prop := PE X e (rdN X.K m)
abbrev ET (X : Cx) (e : Expr) (m : Mir.TM) : Prop := PT X e (rdT X.K m)
abbrev EA (X : Cx) (es : List Expr) (m : Mir.EL) : Prop := PA X es (rdL X.K m)
abbrev EAB (X : Cx) (es : List Expr) (m : Mir.EL) : Prop := PA X es (rdLB X.K m)
abbrev SS (X : Cx) (st : Stmt) (m : Mir.SM) : Prop := PS X st (rdS X.K m)
abbrev SSs (X : Cx) (st : List Stmt) (m : Mir.SM) : Prop := PSs X st (rdS X.K m)
abbrev SG (X : Cx) (e : Expr) (is : List Nat) (g : Mir.GM) : Prop := PG X e (rdG X.K is g)
section
variable {X : Cx} {e : Expr} {es : List Expr} {st : Stmt} {sts : List Stmt}
theorem pe_imp {t t' : TE} (h : PE X e t) (k : ∀ pins s σ H Q, Inv X pins σ H s → t' σ H Q → t σ H Q) : PE X e t' :=
  ⟨fun pins s σ H Q I q => h.run pins s σ H Q I (k pins s σ H Q I q)⟩
theorem pt_imp {t t' : TT} (h : PT X e t) (k : ∀ pins s σ H Q, Inv X pins σ H s → t' σ H Q → t σ H Q) : PT X e t' :=
  ⟨fun pins s σ H Q I q => h.run pins s σ H Q I (k pins s σ H Q I q)⟩
theorem pw_imp {t t' : TT} (h : PW X e t) (k : ∀ pins s σ H Q, Inv X pins σ H s → t' σ H Q → t σ H Q) : PW X e t' :=
  ⟨fun wh pins s σ H Q I q => h.run wh pins s σ H Q I (k pins s σ H Q I q)⟩
theorem pa_imp {t t' : TA} (h : PA X es t) (k : ∀ pins s σ H Q, Inv X pins σ H s → t' σ H Q → t σ H Q) : PA X es t' :=
  ⟨fun pos pins s σ H Q I q => h.run pos pins s σ H Q I (k pins s σ H Q I q)⟩
theorem ps_imp {t t' : TS} (h : PS X st t) (k : ∀ pins s σ H Dd, Inv X pins σ H s → t' Dd σ H → t Dd σ H) : PS X st t' :=
  ⟨fun pins s σ H Dd I q => h.run pins s σ H Dd I (k pins s σ H Dd I q)⟩
theorem pss_imp {t t' : TS} (h : PSs X sts t) (k : ∀ pins s σ H Dd, Inv X pins σ H s → t' Dd σ H → t Dd σ H) : PSs X sts t' :=
  ⟨fun pins s σ H Dd I q => h.run pins s σ H Dd I (k pins s σ H Dd I q)⟩
theorem pg_imp {t t' : TG} (h : PG X e t) (k : ∀ pins s v σ H Q, Inv X pins σ H s → t' v σ H Q → t v σ H Q) : PG X e t' :=
  ⟨fun pins s σ H v u Q I r q => h.run pins s σ H v u Q I r (k pins s v σ H Q I q)⟩

/-! ### from one sort of value to another -/
theorem ev_b {m : Mir.EM} (h : EV X e m) : EB X e m := pe_imp h fun _ _ σ H Q _ ⟨G0, H0, G, ρ, d, r, hm, k⟩ => ⟨G0, H0, G, ρ, d, r, hm, fun v G' H' st a => k v G' H' st (.inl a)⟩
theorem en_v {m : Mir.EM} (h : EN X e m) : EV X e m := pe_imp h fun _ _ σ H Q _ ⟨G0, H0, G, ρ, d, r, hm, k⟩ => ⟨G0, H0, G, ρ, d, r, hm, fun v G' H' st a => by
  obtain ⟨G2, st2, a2⟩ := a.v st
  exact k v G2 H' st2 a2⟩
theorem en_b {m : Mir.EM} (h : EN X e m) : EB X e m := ev_b (en_v h)

/-! ### names, constants -/
theorem ev_var (i : Nat) {x : Str} {pos : Pos} (hN : X.N[i]? = some x := by rfl) (hv : Vis X.env.scope x := by first | exact Or.inl rfl | exact Or.inr (Or.inl rfl) | exact Or.inr (Or.inr rfl)) (hd : (x == ("__debug__" : Str)) = false := by decide)
    (hcd : (x == ("__classdict__" : Str)) = false := by decide) : EV X (.Name x pos) (Mir.vV i) := pe_imp (pe_var hN hv hd hcd) fun _ _ σ H Q _ ⟨G0, H0, G, ρ, d, r, hm, k⟩ => by
  have h := r.sl i
  unfold Mir.vV at hm
  split at hm
  · rename_i d' es
    cases hm
    rw [es] at h
    obtain ⟨v, e, a⟩ := h
    exact ⟨v, e, k v G H (.refl r.gh) a⟩
  · cases hm
theorem eb_var (i : Nat) {x : Str} {pos : Pos} (hN : X.N[i]? = some x := by rfl) (hv : Vis X.env.scope x := by first | exact Or.inl rfl | exact Or.inr (Or.inl rfl) | exact Or.inr (Or.inr rfl)) (hd : (x == ("__debug__" : Str)) = false := by decide)
    (hcd : (x == ("__classdict__" : Str)) = false := by decide) : EB X (.Name x pos) (Mir.vB i) := pe_imp (pe_var hN hv hd hcd) fun _ _ σ H Q _ ⟨G0, H0, G, ρ, d, r, hm, k⟩ => by
  have h := r.sl i
  unfold Mir.vB at hm
  split at hm
  · rename_i d' es
    cases hm
    rw [es] at h
    obtain ⟨v, e, a⟩ := h
    exact ⟨v, e, k v G H (.refl r.gh) (.inl a)⟩
  · rename_i ds es
    cases hm
    rw [es] at h
    obtain ⟨l, vs, e, _, _, hl, a⟩ := h
    exact ⟨_, e, k _ G H (.refl r.gh) (.inr ⟨l, vs, ds, rfl, rfl, hl, a⟩)⟩
  · cases hm
theorem ev_c {v : V} {d : D} (h : PE X e (tC v)) (a : ∀ G, At X.K G v d) : EV X e (Mir.cD d) := pe_imp h fun _ _ σ H Q _ ⟨G0, H0, G, ρ, d', r, hm, k⟩ => by
  cases hm
  exact k v G H (.refl r.gh) (a G)
theorem ev_int {i j pos} : EV X (.Constant (.int i) j pos) (Mir.cD (.int i)) := ev_c pe_int fun _ => .int i
theorem ev_bl {i j pos} : EV X (.Constant (.bool i) j pos) (Mir.cD (.bl i)) := ev_c pe_bl fun _ => .bl i
theorem ev_non {j pos} : EV X (.Constant .none j pos) (Mir.cD .non) := ev_c pe_non fun _ => .non
theorem S_of (z : Str) : S z.cps.toList = z := by
  show (⟨z.cps.toList.toArray⟩ : Str) = z
  simp
theorem ev_str {z : Str} {j pos} (x : List Nat) (hx : z = S x := by decide +kernel) : EV X (.Constant (.str z) j pos) (Mir.cD (.str x)) := by
  subst hx
  exact ev_c pe_str fun _ => .str x

/-! ### operators -/
/-- an operator of two values by its mirror -/
def rO (K : PySem.W.Frag) (F : D → D → Option D) : R2 := fun x y H Q => ∃ G dx dy d, Ex G H ∧ AtB K G H x dx ∧ AtB K G H y dy ∧ F dx dy = some d ∧ ∀ v G' H', Stp G H G' H' → At K G' v d → Q v H'
def rON (K : PySem.W.Frag) (F : D → D → Option D) : R2 := fun x y H Q => ∃ G dx dy d, Ex G H ∧ AtB K G H x dx ∧ AtB K G H y dy ∧ F dx dy = some d ∧ ∀ v G' H', Stp G H G' H' → AtN K H G' H' v d → Q v H'
theorem opR_imp {f : Value → Value → Sem Value} {r r' : R2} (h : OpR X f r) (k : ∀ pins s σ H x y Q, Inv X pins σ H s → r' x y H Q → r x y H Q) : OpR X f r' :=
  fun pins s σ H x y v u Q I rx ry q => h pins s σ H x y v u Q I rx ry (k pins s σ H x y Q I q)
theorem tOpV {F : D → D → Option D} {ma mb : Mir.EM} {σ : St} {H : Hp} {Q : VK} (h : rdV X.K (Mir.o2 F ma mb) σ H Q) : tOp (rO X.K F) (rdB X.K ma) (rdB X.K mb) σ H Q := by
  obtain ⟨G0, H0, G, ρ, d, r, hm, k⟩ := h
  simp only [Mir.o2, Option.bind_eq_some_iff] at hm
  obtain ⟨dx, hx, dy, hy, hf⟩ := hm
  exact ⟨G0, H0, G, ρ, dx, r, hx, fun x G1 H1 st1 ax => ⟨G0, H0, G1, ρ, dy, r.stp st1, hy, fun y G2 H2 st2 ay =>
    ⟨G2, dx, dy, d, st2.gh, ax.stp st2, ay, hf, fun v G' H' st a => k v G' H' ((st1.trans st2).trans st) a⟩⟩⟩
theorem AtN.back {K : PySem.W.Frag} {H0 H1 G H : Hp} (e : Ex H0 H1) {v : V} {d : D} (h : AtN K H1 G H v d) : AtN K H0 G H v d := by
  rcases h with h | ⟨l, vs, ds, a, b, c, r⟩
  · exact .inl h
  · exact .inr ⟨l, vs, ds, a, b, e.back c, r⟩
theorem tOpN {F : D → D → Option D} {ma mb : Mir.EM} {σ : St} {H : Hp} {Q : VK} (h : rdN X.K (Mir.o2 F ma mb) σ H Q) : tOp (rON X.K F) (rdB X.K ma) (rdB X.K mb) σ H Q := by
  obtain ⟨G0, H0, G, ρ, d, r, hm, k⟩ := h
  simp only [Mir.o2, Option.bind_eq_some_iff] at hm
  obtain ⟨dx, hx, dy, hy, hf⟩ := hm
  exact ⟨G0, H0, G, ρ, dx, r, hx, fun x G1 H1 st1 ax => ⟨G0, H0, G1, ρ, dy, r.stp st1, hy, fun y G2 H2 st2 ay =>
    ⟨G2, dx, dy, d, st2.gh, ax.stp st2, ay, hf, fun v G' H' st a => k v G' H' ((st1.trans st2).trans st) (a.back (st1.h.trans st2.h))⟩⟩⟩
variable {a b : Expr} {ma mb : Mir.EM} {pos : Pos}
theorem ev_bin {op : Operator} {F : D → D → Option D} (ho : OpR X (binaryOp op) (rO X.K F)) (ha : EB X a ma) (hb : EB X b mb) : EV X (.BinOp a op b pos) (Mir.o2 F ma mb) :=
  pe_imp (pe_op ho ha hb) fun _ _ _ _ _ _ h => tOpV h
theorem en_bin {op : Operator} {F : D → D → Option D} (ho : OpR X (binaryOp op) (rON X.K F)) (ha : EB X a ma) (hb : EB X b mb) : EN X (.BinOp a op b pos) (Mir.o2 F ma mb) :=
  pe_imp (pe_op ho ha hb) fun _ _ _ _ _ _ h => tOpN h
theorem ev_cmp {op : CmpOp} {F : D → D → Option D} (ho : OpR X (compareOp op) (rO X.K F)) (ha : EB X a ma) (hb : EB X b mb) (hm : behindInMarks op b = false := by first | exact nomark _ | rfl) : EV X (.Compare a [op] [b] pos) (Mir.o2 F ma mb) :=
  pe_imp (pe_cmpR ho ha hb hm) fun _ _ _ _ _ _ h => tOpV h
end
end Snd
set_option Elab.async false
set_option linter.all false
set_option maxRecDepth 100000
set_option maxHeartbeats 4000000
/-! Snd3: the operators by their mirrors. -/
namespace Snd
open PySem L2 LamX
variable [TC : TabCtx]
theorem fits_le {n : Nat} (h : Mir.fits n = true) : n ≤ 16000000 := Mir.cl_iff.mp h
theorem fits_line {n : Nat} (h : Mir.fits n = true) : n ≤ sizeLine := Nat.le_trans (fits_le h) (by decide)
theorem fits_lt {n : Nat} (h : Mir.fits n = true) : n < sizeLine := Nat.lt_of_le_of_lt (fits_le h) (by decide)
theorem S_app (x y : List Nat) : S x ++ S y = S (x ++ y) := by
  show (⟨x.toArray ++ y.toArray⟩ : Str) = ⟨(x ++ y).toArray⟩
  simp
section
variable {K : PySem.W.Frag} {G H : Hp} {Q : VK} {F : D → D → Option D} {x y : V}
/-- a value that is no list | a new list -/
theorem newV (e : Ex G H) {d : D} {v : V} (nd : ∀ ds, d ≠ .lst ds) (a : At K G v d) (k : ∀ v G' H', Stp G H G' H' → AtN K H G' H' v d → Q v H') : Q v H := k v G H (.refl e) (.inl ⟨nd, a⟩)
theorem newL (e : Ex G H) {vs : List V} {ds : List D} {p : Addr} (hp : H p = none) (a : AtL K G vs ds) (k : ∀ v G' H', Stp G H G' H' → AtN K H G' H' v (.lst ds) → Q v H') : Q (.ref p) (upd H p (.lst vs)) :=
  k _ G _ (.own e hp) (.inr ⟨p, vs, ds, rfl, rfl, hp, e.back hp, upd_same, a⟩)
theorem newT (e : Ex G H) {vs : List V} {ds : List D} {p : Addr} (hp : H p = none) (a : AtL K G vs ds) (k : ∀ v G' H', Stp G H G' H' → At K G' v (.tup ds) → Q v H') : Q (.ref p) (upd H p (.tup vs)) :=
  k _ _ _ (.both e hp NoT.t) (.tup upd_same (a.mono (Ex.new (e.back hp))))
theorem newTN (e : Ex G H) {vs : List V} {ds : List D} {p : Addr} (hp : H p = none) (a : AtL K G vs ds) (k : ∀ v G' H', Stp G H G' H' → AtN K H G' H' v (.tup ds) → Q v H') : Q (.ref p) (upd H p (.tup vs)) :=
  k _ _ _ (.both e hp NoT.t) (.inl ⟨(by intro _ z; cases z), .tup upd_same (a.mono (Ex.new (e.back hp)))⟩)
end
section
variable {X : Cx}
theorem om_add : OpR X (binaryOp .Add) (rON X.K Mir.addD) := opR_imp (OpR.or op_add (OpR.or op_add_str (OpR.or op_cat op_catA))) fun _ _ _ H x y Q I h => by
  obtain ⟨G, dx, dy, d, e, ax, ay, hf, k⟩ := h
  unfold Mir.addD at hf
  split at hf
  · cases hf
    rw [ax.int, ay.int]
    exact .inl ⟨_, _, rfl, rfl, newV e (by intro _ z; cases z) (.int _) k⟩
  · split at hf <;> cases hf
    rename_i hz
    rw [ax.str, ay.str]
    refine .inr (.inl ⟨_, _, rfl, rfl, ?_, ?_⟩)
    · rw [S_len, S_len]
      exact fits_line hz
    · rw [S_app]
      exact newV e (by intro _ z; cases z) (.str _) k
  · split at hf <;> cases hf
    rename_i hz
    obtain ⟨l1, v1, rfl, h1, r1⟩ := ax.lst e
    obtain ⟨l2, v2, rfl, h2, r2⟩ := ay.lst e
    refine .inr (.inr (.inl ⟨l1, l2, v1, v2, rfl, rfl, h1, h2, ?_, fun p hp => newL e hp (r1.app r2) k⟩))
    rw [r1.len, r2.len]
    exact fits_line hz
  · split at hf <;> cases hf
    rename_i xs ys hz
    obtain ⟨l1, v1, rfl, h1, r1⟩ := ax.tup e
    obtain ⟨l2, v2, rfl, h2, r2⟩ := ay.tup e
    refine .inr (.inr (.inr ⟨l1, l2, v1, v2, rfl, rfl, SqT.of h1, SqT.of h2, ?_, fun z => ?_, fun _ z => ?_, fun _ _ p hp => newTN e hp (r1.app r2) k⟩))
    · rw [r1.len, r2.len]
      exact fits_line hz
    · subst z
      cases r1
      rcases ay with ay | ⟨_, _, _, _, q, _⟩
      · exact newV e (by intro _ z; cases z) ay k
      · cases q
    · subst z
      cases r2
      rw [List.append_nil] at k
      rcases ax with ax | ⟨_, _, _, _, q, _⟩
      · exact newV e (by intro _ z; cases z) ax k
      · cases q
  · cases hf
theorem om_sub : OpR X (binaryOp .Sub) (rO X.K Mir.subD) := opR_imp op_sub fun _ _ _ H x y Q I h => by
  obtain ⟨G, dx, dy, d, e, ax, ay, hf, k⟩ := h
  unfold Mir.subD at hf
  split at hf <;> cases hf
  rw [ax.int, ay.int]
  exact ⟨_, _, rfl, rfl, k _ _ _ (.refl e) (.int _)⟩
theorem om_mul : OpR X (binaryOp .Mult) (rON X.K Mir.mulD) := opR_imp (OpR.or op_mul op_rep) fun _ _ _ H x y Q I h => by
  obtain ⟨G, dx, dy, d, e, ax, ay, hf, k⟩ := h
  unfold Mir.mulD at hf
  split at hf
  · split at hf <;> cases hf
    rename_i hz
    rw [ax.int, ay.int]
    exact .inl ⟨_, _, rfl, rfl, .inl (Mir.cl_iff.mp hz), newV e (by intro _ z; cases z) (.int _) k⟩
  · split at hf <;> cases hf
    rename_i xs n hz
    have hz1 := Mir.cl_iff.mp hz.1
    obtain ⟨l1, v1, rfl, h1, r1⟩ := ax.lst e
    rw [ay.int]
    refine .inr ⟨l1, _, v1, rfl, rfl, h1, ?_, ?_, ?_, fun p hp => newL e hp ?_ k⟩
    rotate_left 3
    · have : ∀ m : Nat, AtL X.K G (List.replicate m v1).flatten (List.replicate m xs).flatten := by
        intro m
        induction m with
        | zero => exact .nil
        | succ m ih =>
          rw [List.replicate_succ, List.replicate_succ, List.flatten_cons, List.flatten_cons]
          exact r1.app ih
      exact this _
    · omega
    · omega
    · rw [r1.len]
      exact fits_line hz.2
  · cases hf
theorem om_mod : OpR X (binaryOp .Mod) (rO X.K Mir.modD) := opR_imp op_modN fun _ _ _ H x y Q I h => by
  obtain ⟨G, dx, dy, d, e, ax, ay, hf, k⟩ := h
  unfold Mir.modD at hf
  split at hf
  · split at hf <;> cases hf
    rename_i hz
    rw [ax.int, ay.int]
    exact ⟨_, _, rfl, rfl, hz, k _ _ _ (.refl e) (.int _)⟩
  · cases hf
theorem om_fdiv : OpR X (binaryOp .FloorDiv) (rO X.K Mir.fdivD) := opR_imp op_fdivN fun _ _ _ H x y Q I h => by
  obtain ⟨G, dx, dy, d, e, ax, ay, hf, k⟩ := h
  unfold Mir.fdivD at hf
  split at hf
  · split at hf <;> cases hf
    rename_i hz
    rw [ax.int, ay.int]
    exact ⟨_, _, rfl, rfl, Mir.cl_iff.mp hz, k _ _ _ (.refl e) (.int _)⟩
  · cases hf
/-! ### comparisons -/
theorem om_lt : OpR X (compareOp .Lt) (rO X.K Mir.ltD) := opR_imp op_lt fun _ _ _ H x y Q I h => by
  obtain ⟨G, dx, dy, d, e, ax, ay, hf, k⟩ := h
  unfold Mir.ltD at hf
  split at hf <;> cases hf
  rw [ax.int, ay.int]
  exact ⟨_, _, rfl, rfl, k _ _ _ (.refl e) (.bl _)⟩
theorem om_le : OpR X (compareOp .LtE) (rO X.K Mir.leD) := opR_imp op_le fun _ _ _ H x y Q I h => by
  obtain ⟨G, dx, dy, d, e, ax, ay, hf, k⟩ := h
  unfold Mir.leD at hf
  split at hf <;> cases hf
  rw [ax.int, ay.int]
  exact ⟨_, _, rfl, rfl, k _ _ _ (.refl e) (.bl _)⟩
theorem om_gt : OpR X (compareOp .Gt) (rO X.K Mir.gtD) := opR_imp op_gt fun _ _ _ H x y Q I h => by
  obtain ⟨G, dx, dy, d, e, ax, ay, hf, k⟩ := h
  unfold Mir.gtD at hf
  split at hf <;> cases hf
  rw [ax.int, ay.int]
  exact ⟨_, _, rfl, rfl, k _ _ _ (.refl e) (.bl _)⟩
theorem om_ge : OpR X (compareOp .GtE) (rO X.K Mir.geD) := opR_imp op_ge fun _ _ _ H x y Q I h => by
  obtain ⟨G, dx, dy, d, e, ax, ay, hf, k⟩ := h
  unfold Mir.geD at hf
  split at hf <;> cases hf
  rw [ax.int, ay.int]
  exact ⟨_, _, rfl, rfl, k _ _ _ (.refl e) (.bl _)⟩
theorem V_int_eq (i j : Int) : decide (V.int i = V.int j) = (i == j) := by
  by_cases h : i = j
  · subst h; simp
  · have : V.int i ≠ V.int j := fun z => h (V.int.inj z)
    simp [this, h]
theorem V_str_eq (i j : List Nat) : decide (V.str (S i) = V.str (S j)) = (i == j) := by
  by_cases h : i = j
  · subst h; simp
  · have : V.str (S i) ≠ V.str (S j) := fun z => h (S_inj.mp (V.str.inj z))
    simp [this, h]
theorem V_bl_eq (i j : Bool) : decide (V.bl i = V.bl j) = (i == j) := by cases i <;> cases j <;> rfl
theorem At_nonref {K : PySem.W.Frag} {G : Hp} {v : V} {d : D} (a : At K G v d) (h : Mir.flat d = true) : (d = .non ∧ v = .non) ∨ (∃ b, d = .bl b ∧ v = .bl b) ∨ (∃ b, d = .int b ∧ v = .int b) ∨ (∃ b, d = .str b ∧ v = .str (S b)) := by
  cases a <;> simp [Mir.flat] at h <;> simp
theorem scal_flat {d e : D} (h : Mir.scal d e = true) : Mir.flat d = true ∧ Mir.flat e = true := by
  cases d <;> cases e <;> simp [Mir.scal] at h <;> simp [Mir.flat]
theorem AtB.flat {K : PySem.W.Frag} {G H : Hp} {v : V} {d : D} (h : AtB K G H v d) (f : Mir.flat d = true) : At K G v d := by
  rcases h with h | ⟨_, _, _, _, q, _⟩
  · exact h
  · rw [q] at f; cases f
theorem scal_ok {K : PySem.W.Frag} {G H : Hp} {v w : V} {d e : D} (a : AtB K G H v d) (b : AtB K G H w e) (h : Mir.scal d e = true) : L2.scal v w = true ∧ decide (v = w) = Mir.eqv d e := by
  obtain ⟨f1, f2⟩ := scal_flat h
  rcases At_nonref (a.flat f1) f1 with ⟨rfl, rfl⟩ | ⟨i, rfl, rfl⟩ | ⟨i, rfl, rfl⟩ | ⟨i, rfl, rfl⟩ <;>
  rcases At_nonref (b.flat f2) f2 with ⟨rfl, rfl⟩ | ⟨j, rfl, rfl⟩ | ⟨j, rfl, rfl⟩ | ⟨j, rfl, rfl⟩ <;>
  simp [Mir.scal] at h <;> refine ⟨rfl, ?_⟩ <;> first | (simp only [Mir.eqv]; done) | (simp only [Mir.eqv, V_int_eq, V_str_eq, V_bl_eq]; done) | (simp [Mir.eqv]; done)
theorem om_eq (hu : X.A.units + 64 < cLine) : OpR X (compareOp .Eq) (rO X.K Mir.eqD) := opR_imp (OpR.or op_eq (op_eqD hu)) fun _ _ _ H x y Q I h => by
  obtain ⟨G, dx, dy, d, e, ax, ay, hf, k⟩ := h
  unfold Mir.eqD at hf
  split at hf <;> cases hf
  rename_i hz
  rw [Bool.or_eq_true, Bool.and_eq_true] at hz
  rcases hz with hz | ⟨h1, h2⟩
  · obtain ⟨g1, g2⟩ := scal_ok ax ay hz
    exact .inl ⟨g1, by rw [g2]; exact k _ _ _ (.refl e) (.bl _)⟩
  · have o1 : Mir.okD dx = true := by simp only [Mir.shp, Bool.and_eq_true] at h1; exact h1.1
    have o2 : Mir.okD dy = true := by simp only [Mir.shp, Bool.and_eq_true] at h2; exact h2.1
    exact .inr ⟨_, _, (ax.at e).dp o1, (ay.at e).dp o2, shaped_py h1, shaped_py h2, by rw [eqv_py _ _ o1 o2]; exact k _ _ _ (.refl e) (.bl _)⟩
theorem om_ne (hu : X.A.units + 64 < cLine) : OpR X (compareOp .NotEq) (rO X.K Mir.neD) := opR_imp (OpR.or op_ne (op_neD hu)) fun _ _ _ H x y Q I h => by
  obtain ⟨G, dx, dy, d, e, ax, ay, hf, k⟩ := h
  unfold Mir.neD at hf
  split at hf <;> cases hf
  rename_i hz
  rw [Bool.or_eq_true, Bool.and_eq_true] at hz
  rcases hz with hz | ⟨h1, h2⟩
  · obtain ⟨g1, g2⟩ := scal_ok ax ay hz
    exact .inl ⟨g1, by rw [g2]; exact k _ _ _ (.refl e) (.bl _)⟩
  · have o1 : Mir.okD dx = true := by simp only [Mir.shp, Bool.and_eq_true] at h1; exact h1.1
    have o2 : Mir.okD dy = true := by simp only [Mir.shp, Bool.and_eq_true] at h2; exact h2.1
    exact .inr ⟨_, _, (ax.at e).dp o1, (ay.at e).dp o2, shaped_py h1, shaped_py h2, by rw [eqv_py _ _ o1 o2]; exact k _ _ _ (.refl e) (.bl _)⟩
theorem om_isN : OpR X (compareOp .Is) (rO X.K fun a b => match b with | .non => Mir.isN a | _ => none) := opR_imp op_isN fun _ _ _ H x y Q I h => by
  obtain ⟨G, dx, dy, d, e, ax, ay, hf, k⟩ := h
  cases dy <;> simp at hf
  have hy : y = .non := by
    have := ay.flat rfl
    cases this; rfl
  refine ⟨hy, ?_⟩
  unfold Mir.isN at hf
  have fin : ∀ b : Bool, decide (x = .non) = b → some (Mir.D.bl b) = some d → Q (.bl (decide (x = .non))) H := fun b e1 e2 => by
    cases e2
    rw [e1]
    exact k _ _ _ (.refl e) (.bl _)
  split at hf
  · have := ax.flat rfl
    cases this
    exact fin _ rfl hf
  · rw [ax.bl] at fin ⊢; exact fin _ rfl hf
  · rw [ax.int] at fin ⊢; exact fin _ rfl hf
  · rw [ax.str] at fin ⊢; exact fin _ rfl hf
  · obtain ⟨l, _, rfl, _⟩ := ax.lst e
    exact fin _ rfl hf
  · obtain ⟨l, _, rfl, _⟩ := ax.tup e
    exact fin _ rfl hf
  · cases hf
theorem om_notN : OpR X (compareOp .IsNot) (rO X.K fun a b => match b with | .non => Mir.notN a | _ => none) := opR_imp op_notN fun _ _ _ H x y Q I h => by
  obtain ⟨G, dx, dy, d, e, ax, ay, hf, k⟩ := h
  cases dy <;> simp at hf
  have hy : y = .non := by
    have := ay.flat rfl
    cases this; rfl
  refine ⟨hy, ?_⟩
  unfold Mir.notN at hf
  have fin : ∀ b : Bool, (!decide (x = .non)) = b → some (Mir.D.bl b) = some d → Q (.bl (!decide (x = .non))) H := fun b e1 e2 => by
    cases e2
    rw [e1]
    exact k _ _ _ (.refl e) (.bl _)
  split at hf
  · have := ax.flat rfl
    cases this
    exact fin _ rfl hf
  · rw [ax.bl] at fin ⊢; exact fin _ rfl hf
  · rw [ax.int] at fin ⊢; exact fin _ rfl hf
  · rw [ax.str] at fin ⊢; exact fin _ rfl hf
  · obtain ⟨l, _, rfl, _⟩ := ax.lst e
    exact fin _ rfl hf
  · obtain ⟨l, _, rfl, _⟩ := ax.tup e
    exact fin _ rfl hf
  · cases hf
theorem inB_seq {K : PySem.W.Frag} {G H : Hp} {x y : V} {dx dy : D} {b : Bool} (e : Ex G H) (ax : AtB K G H x dx) (ay : AtB K G H y dy) (h : Mir.inB dx dy = some b) :
    (∃ c z, x = .str ⟨#[c]⟩ ∧ y = .str z ∧ decide (c ∈ z.cps.toList) = b) ∨ (∃ p xs, y = .ref p ∧ (SqL K H p xs ∨ SqT K H p xs) ∧ flatV x = true ∧ xs.all flatV = true ∧ inV x xs = b) := by
  unfold Mir.inB at h
  have seq : ∀ (p : Addr) (vs : List V) (ds : List D), AtL K G vs ds → (SqL K H p vs ∨ SqT K H p vs) → (if (Mir.flat dx && ds.all Mir.flat) = true then some (ds.any fun y => Mir.eqv y dx) else none) = some b →
      (∃ p' xs, V.ref p = .ref p' ∧ (SqL K H p' xs ∨ SqT K H p' xs) ∧ flatV x = true ∧ xs.all flatV = true ∧ inV x xs = b) := fun p vs ds r hs hh => by
    split at hh <;> cases hh
    rename_i hz
    rw [Bool.and_eq_true] at hz
    have a := ax.flat hz.1
    refine ⟨p, vs, rfl, hs, ?_, r.flat hz.2, AtL.inV a hz.1 r hz.2⟩
    rcases At_nonref a hz.1 with ⟨_, rfl⟩ | ⟨i, _, rfl⟩ | ⟨i, _, rfl⟩ | ⟨i, _, rfl⟩ <;> rfl
  split at h
  · split at h <;> cases h
    rw [ax.str, ay.str]
    exact .inl ⟨_, _, rfl, rfl, by simp⟩
  · obtain ⟨l, vs, rfl, hl, r⟩ := ay.lst e
    exact .inr (seq l vs _ r (.inl (SqL.of hl)) h)
  · obtain ⟨l, vs, rfl, hl, r⟩ := ay.tup e
    exact .inr (seq l vs _ r (.inr (SqT.of hl)) h)
  · obtain ⟨l, vs, rfl, hl, r⟩ := ay.kt e
    exact .inr (seq l vs _ r (.inr hl) h)
  · cases h
theorem om_in : OpR X (compareOp .In) (rO X.K Mir.inD) := opR_imp (OpR.or op_in_sign op_in_seq) fun _ _ _ H x y Q I h => by
  obtain ⟨G, dx, dy, d, e, ax, ay, hf, k⟩ := h
  simp only [Mir.inD, Option.map_eq_some_iff] at hf
  obtain ⟨b, hb, rfl⟩ := hf
  rcases inB_seq e ax ay hb with ⟨c, z, e1, e2, e3⟩ | ⟨p, xs, e1, hs, f1, f2, e3⟩
  · exact .inl ⟨c, z, e1, e2, by rw [e3]; exact k _ _ _ (.refl e) (.bl _)⟩
  · exact .inr ⟨p, xs, e1, hs, f1, f2, by rw [if_neg (by decide), e3]; exact k _ _ _ (.refl e) (.bl _)⟩
theorem om_notIn : OpR X (compareOp .NotIn) (rO X.K Mir.notInD) := opR_imp (OpR.or op_notIn_sign op_notIn_seq) fun _ _ _ H x y Q I h => by
  obtain ⟨G, dx, dy, d, e, ax, ay, hf, k⟩ := h
  simp only [Mir.notInD, Option.map_eq_some_iff] at hf
  obtain ⟨b, hb, rfl⟩ := hf
  rcases inB_seq e ax ay hb with ⟨c, z, e1, e2, e3⟩ | ⟨p, xs, e1, hs, f1, f2, e3⟩
  · exact .inl ⟨c, z, e1, e2, by rw [e3]; exact k _ _ _ (.refl e) (.bl _)⟩
  · exact .inr ⟨p, xs, e1, hs, f1, f2, by rw [if_pos rfl, e3]; exact k _ _ _ (.refl e) (.bl _)⟩
end
end Snd
set_option Elab.async false
set_option linter.all false
set_option maxRecDepth 100000
set_option maxHeartbeats 4000000
/-! Snd4: subscripts, slices, displays, tests, calls. -/
namespace Snd
open PySem L2 LamX
variable [TC : TabCtx]
section
variable {X : Cx} {a b c dd e : Expr} {es : List Expr} {ma mb mc md me : Mir.EM} {pos : Pos}
/-! ### displays, argument lists -/
theorem ea_nil : EA X [] Mir.eNil := pa_imp pa_nil fun _ _ σ H Q _ ⟨G0, H0, G, ρ, ds, r, hm, k⟩ => by
  cases hm
  exact k [] G H (.refl r.gh) .nil
theorem ea_cons {mr : Mir.EL} (ha : EV X e ma) (hr : EA X es mr) (hs : starEach (e :: es) X.env = (false, eval e X.env) :: starEach es X.env := by rfl) : EA X (e :: es) (Mir.eCons ma mr) :=
  pa_imp (pa_cons ha hr hs) fun _ _ σ H Q _ ⟨G0, H0, G, ρ, ds, r, hm, k⟩ => by
    simp only [Mir.eCons, Option.bind_eq_some_iff] at hm
    obtain ⟨d, hd, ds', hds, e⟩ := hm
    cases e
    exact ⟨G0, H0, G, ρ, d, r, hd, fun v G1 H1 st1 a1 => ⟨G0, H0, G1, ρ, ds', r.stp st1, hds, fun vs G2 H2 st2 a2 => k _ _ _ (st1.trans st2) (.cons (a1.mono st2.g) a2)⟩⟩
theorem eab_nil : EAB X [] Mir.eNil := pa_imp pa_nil fun _ _ σ H Q _ ⟨G0, H0, G, ρ, ds, r, hm, k⟩ => by
  cases hm
  exact k [] G H (.refl r.gh) .nil
theorem eab_cons {mr : Mir.EL} (ha : EB X e ma) (hr : EAB X es mr) (hs : starEach (e :: es) X.env = (false, eval e X.env) :: starEach es X.env := by rfl) : EAB X (e :: es) (Mir.eCons ma mr) :=
  pa_imp (pa_cons ha hr hs) fun _ _ σ H Q _ ⟨G0, H0, G, ρ, ds, r, hm, k⟩ => by
    simp only [Mir.eCons, Option.bind_eq_some_iff] at hm
    obtain ⟨d, hd, ds', hds, e⟩ := hm
    cases e
    exact ⟨G0, H0, G, ρ, d, r, hd, fun v G1 H1 st1 a1 => ⟨G0, H0, G1, ρ, ds', r.stp st1, hds, fun vs G2 H2 st2 a2 => k _ _ _ (st1.trans st2) (.cons (a1.stp st2) a2)⟩⟩
/-- a written list's length: the arguments tell it -/
theorem ev_tup {m : Mir.EL} {x1} (h : EA X es m) (hl : ∀ ρ ds, m ρ = some ds → ds.length ≤ 1000) : EV X (.Tuple es x1 pos) (Mir.mkT m) := pe_imp (pe_tup h) fun _ _ σ H Q _ ⟨G0, H0, G, ρ, d, r, hm, k⟩ => by
  simp only [Mir.mkT, Option.bind_eq_some_iff] at hm
  obtain ⟨ds, hds, e⟩ := hm
  cases e
  exact ⟨G0, H0, G, ρ, ds, r, hds, fun vs G1 H1 st1 a1 => ⟨by rw [a1.len]; exact Nat.le_trans (hl _ _ hds) (by decide), fun p hp => newT st1.gh hp a1 fun v G' H' st a => k v G' H' (st1.trans st) a⟩⟩
theorem en_lst {m : Mir.EL} (h : EA X es m) (hl : ∀ ρ ds, m ρ = some ds → ds.length ≤ 1000) : EN X (.List es pos) (Mir.mkL m) := pe_imp (pe_lst h) fun _ _ σ H Q _ ⟨G0, H0, G, ρ, d, r, hm, k⟩ => by
  simp only [Mir.mkL, Option.bind_eq_some_iff] at hm
  obtain ⟨ds, hds, e⟩ := hm
  cases e
  exact ⟨G0, H0, G, ρ, ds, r, hds, fun vs G1 H1 st1 a1 => ⟨by rw [a1.len]; exact Nat.le_trans (hl _ _ hds) (by decide), fun p hp => newL st1.gh hp a1 fun v G' H' st a => k v G' H' (st1.trans st) (a.back st1.h)⟩⟩
theorem len_nil {n : Nat} : ∀ ρ ds, Mir.eNil ρ = some ds → ds.length ≤ n := fun ρ ds h => by cases h; exact Nat.zero_le _
theorem len_cons {n : Nat} {m : Mir.EM} {r : Mir.EL} (h : ∀ ρ ds, r ρ = some ds → ds.length ≤ n) : ∀ ρ ds, Mir.eCons m r ρ = some ds → ds.length ≤ n + 1 := fun ρ ds hm => by
  simp only [Mir.eCons, Option.bind_eq_some_iff] at hm
  obtain ⟨d, hd, ds', hds, e⟩ := hm
  cases e
  exact Nat.succ_le_succ (h ρ ds' hds)
theorem len_mono {n k : Nat} {r : Mir.EL} (h : ∀ ρ ds, r ρ = some ds → ds.length ≤ n) (hn : n ≤ k := by decide) : ∀ ρ ds, r ρ = some ds → ds.length ≤ k := fun ρ ds hm => Nat.le_trans (h ρ ds hm) hn

/-! ### unary -/
theorem ev_neg (ha : EB X a ma) : EV X (.UnaryOp .USub a pos) (Mir.o1 Mir.negD ma) := pe_imp (pe_un un_neg ha) fun _ _ σ H Q _ ⟨G0, H0, G, ρ, d, r, hm, k⟩ => by
  simp only [Mir.o1, Option.bind_eq_some_iff] at hm
  obtain ⟨dx, hx, hf⟩ := hm
  refine ⟨G0, H0, G, ρ, dx, r, hx, fun x G1 H1 st1 ax => ?_⟩
  unfold Mir.negD at hf
  split at hf <;> cases hf
  rw [ax.int]
  exact ⟨_, rfl, k _ _ _ st1 (.int _)⟩
theorem ev_not (ha : EB X a ma) : EV X (.UnaryOp .Not a pos) (Mir.o1 Mir.notD ma) := pe_imp (pe_not ha) fun _ _ σ H Q _ ⟨G0, H0, G, ρ, d, r, hm, k⟩ => by
  simp only [Mir.o1, Option.bind_eq_some_iff] at hm
  obtain ⟨dx, hx, hf⟩ := hm
  refine ⟨G0, H0, G, ρ, dx, r, hx, fun x G1 H1 st1 ax => ?_⟩
  unfold Mir.notD at hf
  split at hf <;> cases hf
  rw [ax.bl]
  exact ⟨_, rfl, k _ _ _ st1 (.bl _)⟩
/-! ### subscripts -/
theorem atI_eq {α : Type} (xs : List α) (i : Int) : L2.atI xs i = Mir.atI xs i := rfl
theorem AtL.atI {K : PySem.W.Frag} {G : Hp} {vs : List V} {ds : List D} {i : Int} {d : D} (r : AtL K G vs ds) (h : Mir.atI ds i = some d) : ∃ v, L2.atI vs i = some v ∧ At K G v d := by
  unfold Mir.atI at h
  rw [Option.bind_eq_some_iff] at h
  obtain ⟨j, hj, hd⟩ := h
  obtain ⟨v, hv, a⟩ := r.get hd
  refine ⟨v, ?_, a⟩
  rw [atI_eq]
  unfold Mir.atI
  rw [r.len, hj]
  exact hv
theorem ixm : IxR X (rO X.K Mir.ixD) := by
  intro value slice pins s σ H x y v u Q I rx ry q hs
  refine (IxR.or (IxR.or ix_list ix_tup) ix_str) value slice pins s σ H x y v u Q I rx ry ?_ hs
  obtain ⟨G, dx, dy, d, e, ax, ay, hf, k⟩ := q
  unfold Mir.ixD at hf
  split at hf
  · obtain ⟨l, vs, rfl, hl, r⟩ := ax.lst e
    obtain ⟨w, hw, a⟩ := r.atI hf
    rw [ay.int]
    exact .inl (.inl ⟨l, vs, _, w, rfl, rfl, SqL.of hl, hw, k _ _ _ (.refl e) a⟩)
  · obtain ⟨l, vs, rfl, hl, r⟩ := ax.tup e
    obtain ⟨w, hw, a⟩ := r.atI hf
    rw [ay.int]
    exact .inl (.inr ⟨l, vs, _, w, rfl, rfl, SqT.of hl, hw, k _ _ _ (.refl e) a⟩)
  · obtain ⟨l, rfl, hl⟩ := ax.fz e
    rw [Option.map_eq_some_iff] at hf
    obtain ⟨n, hn, rfl⟩ := hf
    rw [ay.int]
    refine .inl (.inl ⟨l, _, _, .int n, rfl, rfl, hl, ?_, k _ _ _ (.refl e) (.int n)⟩)
    rw [atI_eq]
    unfold Mir.atI at hn ⊢
    rw [Option.bind_eq_some_iff] at hn
    obtain ⟨j, hj, hd⟩ := hn
    rw [List.length_map, hj]
    show (List.map V.int _)[j]? = _
    rw [List.getElem?_map, hd]
    rfl
  · split at hf
    · rename_i hz
      rw [Option.map_eq_some_iff] at hf
      obtain ⟨n, hn, rfl⟩ := hf
      rw [ay.int, ax.str]
      refine .inr ⟨_, _, n, rfl, rfl, by rw [S_len]; exact fits_line hz, by rw [atI_eq]; exact hn, k _ _ _ (.refl e) (.str [n])⟩
    · cases hf
  · cases hf
theorem ev_ix (ha : EB X a ma) (hb : EB X b mb) (hs : PlainIx b := by exact fun _ _ => rfl) : EV X (.Subscript a b pos) (Mir.o2 Mir.ixD ma mb) := pe_imp (pe_ix ixm ha hb hs) fun _ _ _ _ _ _ h => tOpV h
/-! ### slices -/
def rdP (K : PySem.W.Frag) (m : Mir.Env → Option (Option Int)) : TO := fun σ H Q => ∃ G0 H0 G ρ o, Rel K G0 H0 G H σ ρ ∧ m ρ = some o ∧ ∀ G' H', Stp G H G' H' → Q o H'
theorem po_imp {o : Option Expr} {t t' : TO} (h : PO X o t) (k : ∀ σ H Q, t' σ H Q → t σ H Q) : PO X o t' := ⟨fun pins s σ H Q I q => h.run pins s σ H Q I (k σ H Q q)⟩
theorem op_n : PO X none (rdP X.K Mir.oN) := po_imp po_none fun σ H Q ⟨G0, H0, G, ρ, o, r, hm, k⟩ => by
  cases hm
  exact k _ _ (.refl r.gh)
theorem op_s (ha : EB X a ma) : PO X (some a) (rdP X.K (Mir.oS ma)) := po_imp (po_some ha) fun σ H Q ⟨G0, H0, G, ρ, o, r, hm, k⟩ => by
  simp only [Mir.oS, Option.bind_eq_some_iff, Option.map_eq_some_iff] at hm
  obtain ⟨dx, hx, i, hi, rfl⟩ := hm
  refine ⟨G0, H0, G, ρ, dx, r, hx, fun x G1 H1 st1 ax => ?_⟩
  cases dx <;> simp [Mir.asInt] at hi
  subst hi
  exact ⟨_, ax.int, k _ _ st1⟩
theorem AtL.cut {K : PySem.W.Frag} {G : Hp} {vs : List V} {ds : List D} (r : AtL K G vs ds) (lo hi : Option Int) : AtL K G (cutV vs lo hi) (Mir.cut ds lo hi) := by
  have e : ∀ (n d : Nat) (o : Option Int), HT.sIx n d o = Mir.sIx n d o := fun n d o => by cases o <;> rfl
  unfold cutV Mir.cut
  rw [r.len, e, e]
  exact (r.drop _).take _
theorem cut_map {α β : Type} (f : α → β) (xs : List α) (lo hi : Option Int) : Mir.cut (xs.map f) lo hi = (Mir.cut xs lo hi).map f := by
  unfold Mir.cut
  rw [List.length_map, List.map_take, List.map_drop]
def rSlM (K : PySem.W.Frag) : V → Option Int → Option Int → Hp → VK → Prop := fun x lo hi H Q => ∃ G dx d, Ex G H ∧ AtB K G H x dx ∧ Mir.slD dx lo hi = some d ∧ ∀ v G' H', Stp G H G' H' → AtN K H G' H' v d → Q v H'
theorem slm : SlR X (rSlM X.K) := by
  intro pins s σ H x v vl vu lo hi sl Q I rx hs pl pu q
  obtain ⟨G, dx, d, e, ax, hf, k⟩ := q
  unfold Mir.slD at hf
  split at hf
  · cases hf
    obtain ⟨l, vs, rfl, hl, r⟩ := ax.lst e
    exact sl_list pins s σ H _ v vl vu _ _ sl Q I rx hs pl pu ⟨l, vs, rfl, SqL.of hl, fun p hp => newL e hp (r.cut _ _) k⟩
  · cases hf
    rename_i ns
    obtain ⟨l, rfl, hl⟩ := ax.fz e
    refine sl_list pins s σ H _ v vl vu _ _ sl Q I rx hs pl pu ⟨l, _, rfl, hl, fun p hp => newL e hp ?_ k⟩
    rw [← cut_map]
    exact (AtL.ofInts ns).cut _ _
  · split at hf <;> cases hf
    rename_i y hz
    rw [ax.str] at rx
    refine sl_str pins s σ H _ v vl vu _ _ sl Q I rx hs pl pu ⟨_, rfl, by rw [S_len]; exact fits_line hz, ?_⟩
    have ec : ∀ lo hi, cutS (S y) lo hi = S (Mir.cut y lo hi) := fun lo hi => by
      have e : ∀ (n d : Nat) (o : Option Int), HT.sIx n d o = Mir.sIx n d o := fun n d o => by cases o <;> rfl
      unfold cutS Mir.cut
      rw [S_len, e, e]
    rw [ec]
    exact newV e (by intro _ z; cases z) (.str _) k
  · cases hf
theorem en_sl {lo hi : Option Expr} {ml mh : Mir.Env → Option (Option Int)} {p2} (ha : EB X a ma) (hl : PO X lo (rdP X.K ml)) (hh : PO X hi (rdP X.K mh)) : EN X (.Subscript a (.Slice lo hi none p2) pos) (Mir.sl ma ml mh) :=
  pe_imp (pe_slice slm ha hl hh) fun _ _ σ H Q _ ⟨G0, H0, G, ρ, d, r, hm, k⟩ => by
    simp only [Mir.sl, Option.bind_eq_some_iff] at hm
    obtain ⟨dx, hx, l, hl, h, hh, hf⟩ := hm
    exact ⟨G0, H0, G, ρ, dx, r, hx, fun x G1 H1 st1 ax => ⟨G0, H0, G1, ρ, l, r.stp st1, hl, fun G2 H2 st2 => ⟨G0, H0, G2, ρ, h, (r.stp st1).stp st2, hh, fun G3 H3 st3 =>
      ⟨G3, dx, d, st3.gh, (ax.stp st2).stp st3, hf, fun v G' H' st a => k v G' H' (((st1.trans st2).trans st3).trans st) (a.back ((st1.h.trans st2.h).trans st3.h))⟩⟩⟩⟩
/-! ### and, or; chains; if-expressions -/
theorem ev_one {op} (h : EV X a ma) : EV X (.BoolOp op [a] pos) ma := pe_one h
theorem ev_and {rest : List Expr} (ha : EB X a ma) (hb : EV X (.BoolOp .And (b :: rest) pos) mb) : EV X (.BoolOp .And (a :: b :: rest) pos) (Mir.andV ma mb) := pe_imp (pe_and ha hb) fun _ _ σ H Q _ ⟨G0, H0, G, ρ, d, r, hm, k⟩ => by
  simp only [Mir.andV, Option.bind_eq_some_iff] at hm
  obtain ⟨dx, hx, c, hc, hf⟩ := hm
  refine ⟨G0, H0, G, ρ, dx, r, hx, fun x G1 H1 st1 ax => ?_⟩
  cases dx <;> simp [Mir.asB] at hc
  subst hc
  refine ⟨_, ax.bl, ?_⟩
  rename_i cb
  cases cb with
  | true =>
    rw [if_pos rfl] at hf ⊢
    exact ⟨G0, H0, G1, ρ, d, r.stp st1, hf, fun v G' H' st a => k v G' H' (st1.trans st) a⟩
  | false =>
    rw [if_neg (by decide)] at hf ⊢
    cases hf
    exact k _ _ _ st1 (.bl _)
theorem ev_or {rest : List Expr} (ha : EB X a ma) (hb : EV X (.BoolOp .Or (b :: rest) pos) mb) : EV X (.BoolOp .Or (a :: b :: rest) pos) (Mir.orV ma mb) := pe_imp (pe_or ha hb) fun _ _ σ H Q _ ⟨G0, H0, G, ρ, d, r, hm, k⟩ => by
  simp only [Mir.orV, Option.bind_eq_some_iff] at hm
  obtain ⟨dx, hx, c, hc, hf⟩ := hm
  refine ⟨G0, H0, G, ρ, dx, r, hx, fun x G1 H1 st1 ax => ?_⟩
  cases dx <;> simp [Mir.asB] at hc
  subst hc
  refine ⟨_, ax.bl, ?_⟩
  rename_i cb
  cases cb with
  | true =>
    rw [if_pos rfl] at hf ⊢
    cases hf
    exact k _ _ _ st1 (.bl _)
  | false =>
    rw [if_neg (by decide)] at hf ⊢
    exact ⟨G0, H0, G1, ρ, d, r.stp st1, hf, fun v G' H' st a => k v G' H' (st1.trans st) a⟩
theorem ev_chain2 {op op' : CmpOp} {F F' : D → D → Option D} (ho : OpR X (compareOp op) (rO X.K F)) (ho' : OpR X (compareOp op') (rO X.K F')) (ha : EB X a ma) (hb : EB X b mb) (hc : EB X c mc)
    (hm : lastMarks [op, op'] [b, c] = false := by with_unfolding_all rfl) : EV X (.Compare a [op, op'] [b, c] pos) (Mir.chain2 F F' ma mb mc) := pe_imp (pe_chain ho ho' ha hb hc hm) fun _ _ σ H Q _ ⟨G0, H0, G, ρ, d, r, hm, k⟩ => by
  simp only [Mir.chain2, Option.bind_eq_some_iff] at hm
  obtain ⟨dx, hx, dy, hy, dz, hz, kk, hk, hf⟩ := hm
  refine ⟨G0, H0, G, ρ, dx, r, hx, fun x G1 H1 st1 ax => ⟨G0, H0, G1, ρ, dy, r.stp st1, hy, fun y G2 H2 st2 ay => ⟨G2, dx, dy, dz, st2.gh, ax.stp st2, ay, hz, fun z G3 H3 st3 az => ?_⟩⟩⟩
  cases dz <;> simp [Mir.asB] at hk
  subst hk
  cases az
  refine ⟨_, rfl, ?_⟩
  rename_i cb
  have st := (st1.trans st2).trans st3
  cases cb with
  | true =>
    rw [if_pos rfl] at hf ⊢
    rw [Option.bind_eq_some_iff] at hf
    obtain ⟨dw, hw, hf⟩ := hf
    exact ⟨G0, H0, G3, ρ, dw, r.stp st, hw, fun w G4 H4 st4 aw => ⟨G4, dy, dw, d, st4.gh, (ay.stp st3).stp st4, aw, hf, fun v G' H' st5 a => k v G' H' ((st.trans st4).trans st5) a⟩⟩
  | false =>
    rw [if_neg (by decide)] at hf ⊢
    cases hf
    exact k _ _ _ st (.bl _)
/-! ### tests -/
theorem et_v (h : EB X e me) (he : ∀ whole, isTrue e X.env whole = (do let v ← whole; standAt e.pos; holding [v] (truthy v)) := by intro _; rfl) : ET X e (Mir.tB me) := pt_imp (pt_val h he) fun _ _ σ H Q _ ⟨G0, H0, G, ρ, d, r, hm, k⟩ => by
  simp only [Mir.tB, Option.bind_eq_some_iff] at hm
  obtain ⟨dx, hx, hc⟩ := hm
  refine ⟨G0, H0, G, ρ, dx, r, hx, fun x G1 H1 st1 ax => ?_⟩
  cases dx <;> simp [Mir.asB] at hc
  subst hc
  exact ⟨_, ax.bl, k _ _ st1⟩
theorem et_cmp {op : CmpOp} {F : D → D → Option D} (ho : OpR X (compareOp op) (rO X.K F)) (ha : EB X a ma) (hb : EB X b mb) (hm : behindInMarks op b = false := by first | exact nomark _ | rfl) : ET X (.Compare a [op] [b] pos) (Mir.tB (Mir.o2 F ma mb)) :=
  pt_imp (pt_cmpR ho ha hb hm) fun _ _ σ H Q _ ⟨G0, H0, G, ρ, d, r, hm, k⟩ => by
    simp only [Mir.tB, Option.bind_eq_some_iff] at hm
    obtain ⟨dx, hx, hc⟩ := hm
    refine tOpV ⟨G0, H0, G, ρ, dx, r, hx, fun x G1 H1 st1 ax => ?_⟩
    cases dx <;> simp [Mir.asB] at hc
    subst hc
    cases ax
    exact ⟨_, rfl, k _ _ st1⟩
theorem et_chain2 {op op' : CmpOp} {F F' : D → D → Option D} (ho : OpR X (compareOp op) (rO X.K F)) (ho' : OpR X (compareOp op') (rO X.K F')) (ha : EB X a ma) (hb : EB X b mb) (hc : EB X c mc)
    (hm : lastMarks [op, op'] [b, c] = false := by with_unfolding_all rfl) : ET X (.Compare a [op, op'] [b, c] pos) (Mir.tB (Mir.chain2 F F' ma mb mc)) := pt_imp (pt_chain ho ho' ha hb hc hm) fun _ _ σ H Q _ ⟨G0, H0, G, ρ, d, r, hm, k⟩ => by
  simp only [Mir.tB, Mir.chain2, Option.bind_eq_some_iff] at hm
  obtain ⟨dq, ⟨dx, hx, dy, hy, dz, hz, kk, hk, hf⟩, hq⟩ := hm
  refine ⟨G0, H0, G, ρ, dx, r, hx, fun x G1 H1 st1 ax => ⟨G0, H0, G1, ρ, dy, r.stp st1, hy, fun y G2 H2 st2 ay => ⟨G2, dx, dy, dz, st2.gh, ax.stp st2, ay, hz, fun z G3 H3 st3 az => ?_⟩⟩⟩
  cases dz <;> simp [Mir.asB] at hk
  subst hk
  cases az
  refine ⟨_, rfl, ?_⟩
  rename_i cb
  have st := (st1.trans st2).trans st3
  cases cb with
  | true =>
    rw [if_pos rfl] at hf ⊢
    rw [Option.bind_eq_some_iff] at hf
    obtain ⟨dw, hw, hf⟩ := hf
    refine ⟨G0, H0, G3, ρ, dw, r.stp st, hw, fun w G4 H4 st4 aw => ⟨G4, dy, dw, dq, st4.gh, (ay.stp st3).stp st4, aw, hf, fun v G' H' st5 a => ?_⟩⟩
    cases dq <;> simp [Mir.asB] at hq
    subst hq
    cases a
    exact ⟨_, rfl, k _ _ ((st.trans st4).trans st5)⟩
  | false =>
    rw [if_neg (by decide)] at hf ⊢
    cases hf
    cases hq
    exact ⟨_, rfl, k _ _ st⟩
variable {ta tb : Mir.TM}
theorem et_not (h : ET X a ta) : ET X (.UnaryOp .Not a pos) (Mir.tNot ta) := pt_imp (pt_not h) fun _ _ σ H Q _ ⟨G0, H0, G, ρ, d, r, hm, k⟩ => by
  simp only [Mir.tNot, Option.bind_eq_some_iff] at hm
  obtain ⟨dx, hx, hc⟩ := hm
  cases hc
  exact ⟨G0, H0, G, ρ, dx, r, hx, fun G1 H1 st1 => k _ _ st1⟩
abbrev EW (X : Cx) (e : Expr) (m : Mir.TM) : Prop := PW X e (rdT X.K m)
theorem ew_t (h : EW X a ta) : ET X a ta := h.pt
theorem ew_and1 (h : ET X a ta) : EW X (.BoolOp .And [a] pos) ta := pw_and1 h
theorem ew_or1 (h : ET X a ta) : EW X (.BoolOp .Or [a] pos) ta := pw_or1 h
theorem ew_and {rest : List Expr} (ha : ET X a ta) (hb : EW X (.BoolOp .And (b :: rest) pos) tb) : EW X (.BoolOp .And (a :: b :: rest) pos) (Mir.tAnd ta tb) := pw_imp (pw_and ha hb) fun _ _ σ H Q _ ⟨G0, H0, G, ρ, d, r, hm, k⟩ => by
  simp only [Mir.tAnd, Option.bind_eq_some_iff] at hm
  obtain ⟨dx, hx, hf⟩ := hm
  refine ⟨G0, H0, G, ρ, dx, r, hx, fun G1 H1 st1 => ?_⟩
  cases dx with
  | true =>
    rw [if_pos rfl] at hf ⊢
    exact ⟨G0, H0, G1, ρ, d, r.stp st1, hf, fun G' H' st => k G' H' (st1.trans st)⟩
  | false =>
    rw [if_neg (by decide)] at hf ⊢
    cases hf
    exact k _ _ st1
theorem ew_or {rest : List Expr} (ha : ET X a ta) (hb : EW X (.BoolOp .Or (b :: rest) pos) tb) : EW X (.BoolOp .Or (a :: b :: rest) pos) (Mir.tOr ta tb) := pw_imp (pw_or ha hb) fun _ _ σ H Q _ ⟨G0, H0, G, ρ, d, r, hm, k⟩ => by
  simp only [Mir.tOr, Option.bind_eq_some_iff] at hm
  obtain ⟨dx, hx, hf⟩ := hm
  refine ⟨G0, H0, G, ρ, dx, r, hx, fun G1 H1 st1 => ?_⟩
  cases dx with
  | true =>
    rw [if_pos rfl] at hf ⊢
    cases hf
    exact k _ _ st1
  | false =>
    rw [if_neg (by decide)] at hf ⊢
    exact ⟨G0, H0, G1, ρ, d, r.stp st1, hf, fun G' H' st => k G' H' (st1.trans st)⟩
theorem ev_if (hc : ET X c ta) (ha : EV X a ma) (hb : EV X b mb) : EV X (.IfExp c a b pos) (Mir.ifE ta ma mb) := pe_imp (pe_ifExp hc ha hb) fun _ _ σ H Q _ ⟨G0, H0, G, ρ, d, r, hm, k⟩ => by
  simp only [Mir.ifE, Option.bind_eq_some_iff] at hm
  obtain ⟨dx, hx, hf⟩ := hm
  refine ⟨G0, H0, G, ρ, dx, r, hx, fun G1 H1 st1 => ?_⟩
  cases dx with
  | true =>
    rw [if_pos rfl] at hf ⊢
    exact ⟨G0, H0, G1, ρ, d, r.stp st1, hf, fun v G' H' st a => k v G' H' (st1.trans st) a⟩
  | false =>
    rw [if_neg (by decide)] at hf ⊢
    exact ⟨G0, H0, G1, ρ, d, r.stp st1, hf, fun v G' H' st a => k v G' H' (st1.trans st) a⟩

/-! ### a def's promise by its mirror; its call -/
def spD (K : PySem.W.Frag) (m : List D → Option D) : Sp := fun vs H Q _ => ∃ G ds d, Ex G H ∧ Tabs TC.T H ∧ AtL K G vs ds ∧ m ds = some d ∧ ∀ v G' H', Stp G H G' H' → At K G' v d → Q v H'
/-- the def of the name x keeps the promise of the mirror m, by at most level k -/
def Fd (P : Program) (w : World) (K : PySem.W.Frag) (mg : Str → Option Value) (base : Heap) (k : Nat) (x : Str) (m : List D → Option D) : Prop :=
  ∃ f fd ps, FnOk P w K mg base CX0 k f fd ps (spD K m) ∧ mg x = some (.ref f) ∧ PySem.W.keepIn K (.ref f) = true ∧ Binds K fd ps []
theorem Fd.mono {P : Program} {w : World} {K : PySem.W.Frag} {mg : Str → Option Value} {base : Heap} {j k : Nat} {x : Str} {m : List D → Option D} (h : Fd P w K mg base j x m) (hk : j ≤ k) : Fd P w K mg base k x m := by
  obtain ⟨f, fd, ps, F, r⟩ := h
  exact ⟨f, fd, ps, F.mono hk, r⟩
theorem ev_call {k : Nat} {x : Str} {m : List D → Option D} {ms : Mir.EL} {p : Pos} (F : Fd X.prog X.w X.K X.mg X.base k x m) (hr : Room k X.A) (ha : EA X (e :: es) ms) (hg : Gl X x := by rfl) (hdb : (x == ("__debug__" : Str)) = false := by decide)
    (he : starEach (e :: es) X.env = (false, eval e X.env) :: starEach es X.env := by rfl) (hpl : (backTo pos (starEach es X.env)).any (·.1) = false := by rfl) : EV X (.Call (.Name x p) (e :: es) [] pos) (Mir.call m ms) := by
  obtain ⟨f, fd, ps, F, mf, kp, b⟩ := F
  refine pe_imp (pe_call F hr hg mf kp b .nil pass0 ha hdb he hpl) fun _ _ σ H Q _ ⟨G0, H0, G, ρ, d, r, hm, k⟩ => ?_
  simp only [Mir.call, Option.bind_eq_some_iff] at hm
  obtain ⟨ds, hds, hf⟩ := hm
  refine ⟨G0, H0, G, ρ, ds, r, hds, fun vs G1 H1 st1 a1 => ?_⟩
  exact ⟨G1, ds, d, st1.gh, (r.stp st1).tb, by rw [List.append_nil]; exact a1, hf, fun v G' H' st a => k v G' H' (st1.trans st) a⟩
/-- a built-in by its mirror -/
def rC1 (K : PySem.W.Frag) (F : D → Option D) : List V → Hp → VK → Prop := fun xs H Q => ∃ G x dx d, xs = [x] ∧ Ex G H ∧ AtB K G H x dx ∧ F dx = some d ∧ ∀ v G' H', Stp G H G' H' → AtN K H G' H' v d → Q v H'
def rC2 (K : PySem.W.Frag) (F : D → D → Option D) : List V → Hp → VK → Prop := fun xs H Q => ∃ G x y dx dy d, xs = [x, y] ∧ Ex G H ∧ AtB K G H x dx ∧ AtB K G H y dy ∧ F dx dy = some d ∧ ∀ v G' H', Stp G H G' H' → AtN K H G' H' v d → Q v H'
theorem callR_imp {f : Value} {r r' : List V → Hp → VK → Prop} (h : CallR X f r) (k : ∀ pins s σ H xs Q, Inv X pins σ H s → r' xs H Q → r xs H Q) : CallR X f r' :=
  fun pins s σ H xs us Q I rx q => h pins s σ H xs us Q I rx (k pins s σ H xs Q I q)
theorem callR_or {f : Value} {r r' : List V → Hp → VK → Prop} (h : CallR X f r) (h' : CallR X f r') : CallR X f (fun xs H Q => r xs H Q ∨ r' xs H Q) := fun pins s σ H xs us Q I rx q => by
  rcases q with q | q
  · exact h pins s σ H xs us Q I rx q
  · exact h' pins s σ H xs us Q I rx q
theorem tCB1 {F : D → Option D} {σ : St} {H : Hp} {Q : VK} (h : rdN X.K (Mir.o1 F ma) σ H Q) : tCB (rC1 X.K F) (tCons (rdB X.K ma) tNil) σ H Q := by
  obtain ⟨G0, H0, G, ρ, d, r, hm, k⟩ := h
  simp only [Mir.o1, Option.bind_eq_some_iff] at hm
  obtain ⟨dx, hx, hf⟩ := hm
  exact ⟨G0, H0, G, ρ, dx, r, hx, fun x G1 H1 st1 ax => ⟨G1, x, dx, d, rfl, st1.gh, ax, hf, fun v G' H' st a => k v G' H' (st1.trans st) (a.back st1.h)⟩⟩
theorem tCB2 {F : D → D → Option D} {σ : St} {H : Hp} {Q : VK} (h : rdN X.K (Mir.o2 F ma mb) σ H Q) : tCB (rC2 X.K F) (tCons (rdB X.K ma) (tCons (rdB X.K mb) tNil)) σ H Q := by
  obtain ⟨G0, H0, G, ρ, d, r, hm, k⟩ := h
  simp only [Mir.o2, Option.bind_eq_some_iff] at hm
  obtain ⟨dx, hx, dy, hy, hf⟩ := hm
  exact ⟨G0, H0, G, ρ, dx, r, hx, fun x G1 H1 st1 ax => ⟨G0, H0, G1, ρ, dy, r.stp st1, hy, fun y G2 H2 st2 ay =>
    ⟨G2, x, y, dx, dy, d, rfl, st2.gh, ax.stp st2, ay, hf, fun v G' H' st a => k v G' H' ((st1.trans st2).trans st) (a.back (st1.h.trans st2.h))⟩⟩⟩
theorem en_b1 {x : Str} {id : String} {F : D → Option D} {p : Pos} (hc : CallR X (.builtin id) (rC1 X.K F)) (hm : X.mg x = none) (ha : EB X a ma) (hv : bootBuiltins x = some (.builtin id) := by decide +kernel) (hg : Gl X x := by rfl) (hn : x ≠ "__name__" := by decide) (hdb : (x == ("__debug__" : Str)) = false := by decide)
    (he : starEach [a] X.env = (false, eval a X.env) :: starEach [] X.env := by rfl) : EN X (.Call (.Name x p) [a] [] pos) (Mir.o1 F ma) :=
  pe_imp (pe_callB hc hg hm hv (pa_cons ha pa_nil he) hn hdb he) fun _ _ _ _ _ _ h => tCB1 h
theorem en_t1 {x : Str} {T : String} {F : D → Option D} {p : Pos} (hc : CallR X (.type T) (rC1 X.K F)) (hm : X.mg x = none) (ha : EB X a ma) (hv : bootBuiltins x = some (.type T) := by decide +kernel) (hg : Gl X x := by rfl) (hn : x ≠ "__name__" := by decide) (hdb : (x == ("__debug__" : Str)) = false := by decide)
    (he : starEach [a] X.env = (false, eval a X.env) :: starEach [] X.env := by rfl) : EN X (.Call (.Name x p) [a] [] pos) (Mir.o1 F ma) :=
  pe_imp (pe_callTy hc hg hm hv (pa_cons ha pa_nil he) hn hdb he) fun _ _ _ _ _ _ h => tCB1 h
theorem en_b2 {x : Str} {id : String} {F : D → D → Option D} {p : Pos} (hc : CallR X (.builtin id) (rC2 X.K F)) (hm : X.mg x = none) (ha : EB X a ma) (hb : EB X b mb) (hv : bootBuiltins x = some (.builtin id) := by decide +kernel) (hg : Gl X x := by rfl) (hn : x ≠ "__name__" := by decide) (hdb : (x == ("__debug__" : Str)) = false := by decide)
    (he : starEach [a, b] X.env = (false, eval a X.env) :: starEach [b] X.env := by rfl) (he2 : starEach [b] X.env = (false, eval b X.env) :: starEach [] X.env := by rfl) (hpl : (backTo pos (starEach [b] X.env)).any (·.1) = false := by rfl) : EN X (.Call (.Name x p) [a, b] [] pos) (Mir.o2 F ma mb) :=
  pe_imp (pe_callB hc hg hm hv (pa_cons ha (pa_cons hb pa_nil he2) he) hn hdb he hpl) fun _ _ _ _ _ _ h => tCB2 h
end
end Snd
set_option Elab.async false
set_option linter.all false
set_option maxRecDepth 100000
set_option maxHeartbeats 4000000
/-! Snd5: built-ins, methods of texts, targets, what is walked, comprehensions. -/
namespace Snd
open PySem L2 LamX
variable [TC : TabCtx]
section
variable {X : Cx}
theorem cm_len : CallR X (.builtin "len") (rC1 X.K Mir.lenD) := callR_imp call_len fun _ _ _ H xs Q I h => by
  obtain ⟨G, x, dx, d, rfl, e, ax, hf, k⟩ := h
  have fin : ∀ n : Nat, LenV X.K x H n → some (Mir.D.int n) = some d → ∃ x' m, [x] = [x'] ∧ LenV X.K x' H m ∧ Q (.int m) H := fun n hn e' => by
    cases e'
    exact ⟨x, n, rfl, hn, newV e (by intro _ z; cases z) (.int _) k⟩
  unfold Mir.lenD at hf
  split at hf
  · obtain ⟨l, vs, rfl, hl, r⟩ := ax.lst e
    exact fin _ (.inl ⟨_, SqL.of hl, r.len.symm⟩) hf
  · obtain ⟨l, vs, rfl, hl, r⟩ := ax.tup e
    exact fin _ (.inr ⟨_, SqT.of hl, r.len.symm⟩) hf
  · obtain ⟨l, rfl, hl⟩ := ax.fz e
    exact fin _ (.inl ⟨_, hl, by rw [List.length_map]⟩) hf
  · split at hf
    · rename_i hz
      have hx := ax.str
      subst hx
      exact fin _ ⟨by rw [S_len]; exact fits_line hz, (S_len _).symm⟩ hf
    · cases hf
  · cases hf
theorem cm_sum (hc : X.calm = true) : CallR X (.builtin "sum") (rC1 X.K Mir.sumD) := callR_imp (cr_sum hc) fun _ _ _ H xs Q I h => by
  obtain ⟨G, x, dx, d, rfl, e, ax, hf, k⟩ := h
  unfold Mir.sumD at hf
  split at hf
  · rw [Option.map_eq_some_iff] at hf
    obtain ⟨ns, hn, rfl⟩ := hf
    obtain ⟨l, vs, rfl, hl, r⟩ := ax.lst e
    have ev := r.ints hn
    subst ev
    exact ⟨l, ns, rfl, SqL.of hl, newV e (by intro _ z; cases z) (.int _) k⟩
  · cases hf
theorem maxL_ok : ∀ (r : List Int) (a : Int), Mir.maxL a r ∈ a :: r ∧ ∀ y ∈ a :: r, y ≤ Mir.maxL a r
  | [], a => ⟨by simp [Mir.maxL], by simp [Mir.maxL]⟩
  | b :: r, a => by
    have ih := maxL_ok r (if a < b then b else a)
    have e : Mir.maxL a (b :: r) = Mir.maxL (if a < b then b else a) r := rfl
    rw [e]
    constructor
    · rcases List.mem_cons.mp ih.1 with h | h
      · rw [h]
        split
        · simp
        · simp
      · simp [h]
    · intro y hy
      have h0 := ih.2 _ (List.mem_cons_self)
      have h1 := ih.2 y
      generalize Mir.maxL _ r = m at h0 h1 ⊢
      rcases List.mem_cons.mp hy with h | h
      · subst h
        split at h0 <;> omega
      · rcases List.mem_cons.mp h with h | h
        · subst h
          split at h0 <;> omega
        · exact h1 (List.mem_cons_of_mem _ h)
theorem minL_ok : ∀ (r : List Int) (a : Int), Mir.minL a r ∈ a :: r ∧ ∀ y ∈ a :: r, Mir.minL a r ≤ y
  | [], a => ⟨by simp [Mir.minL], by simp [Mir.minL]⟩
  | b :: r, a => by
    have ih := minL_ok r (if b < a then b else a)
    have e : Mir.minL a (b :: r) = Mir.minL (if b < a then b else a) r := rfl
    rw [e]
    constructor
    · rcases List.mem_cons.mp ih.1 with h | h
      · rw [h]
        split
        · simp
        · simp
      · simp [h]
    · intro y hy
      have h0 := ih.2 _ (List.mem_cons_self)
      have h1 := ih.2 y
      generalize Mir.minL _ r = m at h0 h1 ⊢
      rcases List.mem_cons.mp hy with h | h
      · subst h
        split at h0 <;> omega
      · rcases List.mem_cons.mp h with h | h
        · subst h
          split at h0 <;> omega
        · exact h1 (List.mem_cons_of_mem _ h)
theorem cm_max (hc : X.calm = true) : CallR X (.builtin "max") (rC1 X.K Mir.maxD) := callR_imp (cr_max hc) fun _ _ _ H xs Q I h => by
  obtain ⟨G, x, dx, d, rfl, e, ax, hf, k⟩ := h
  unfold Mir.maxD at hf
  split at hf
  · rw [Option.bind_eq_some_iff] at hf
    obtain ⟨ns, hn, hf⟩ := hf
    obtain ⟨l, vs, rfl, hl, r⟩ := ax.lst e
    have ev := r.ints hn
    subst ev
    split at hf
    · cases hf
    · rename_i a q
      cases hf
      refine ⟨l, a :: q, rfl, SqL.of hl, by simp, fun m hm hy => ?_⟩
      have em : m = Mir.maxL a q := Int.le_antisymm ((maxL_ok q a).2 m hm) (hy _ (maxL_ok q a).1)
      rw [em]
      exact newV e (by intro _ z; cases z) (.int _) k
  · cases hf
theorem cm_min (hc : X.calm = true) : CallR X (.builtin "min") (rC1 X.K Mir.minD) := callR_imp (cr_min hc) fun _ _ _ H xs Q I h => by
  obtain ⟨G, x, dx, d, rfl, e, ax, hf, k⟩ := h
  unfold Mir.minD at hf
  split at hf
  · rw [Option.bind_eq_some_iff] at hf
    obtain ⟨ns, hn, hf⟩ := hf
    obtain ⟨l, vs, rfl, hl, r⟩ := ax.lst e
    have ev := r.ints hn
    subst ev
    split at hf
    · cases hf
    · rename_i a q
      cases hf
      refine ⟨l, a :: q, rfl, SqL.of hl, by simp, fun m hm hy => ?_⟩
      have em : m = Mir.minL a q := Int.le_antisymm (hy _ (minL_ok q a).1) ((minL_ok q a).2 m hm)
      rw [em]
      exact newV e (by intro _ z; cases z) (.int _) k
  · cases hf
theorem cm_max2 (hc : X.calm = true) : CallR X (.builtin "max") (rC2 X.K Mir.max2) := callR_imp (call_max2 hc) fun _ _ _ H xs Q I h => by
  obtain ⟨G, x, y, dx, dy, d, rfl, e, ax, ay, hf, k⟩ := h
  unfold Mir.max2 at hf
  split at hf
  · cases hf
    rw [ax.int, ay.int]
    exact ⟨_, _, rfl, newV e (by intro _ z; cases z) (.int _) k⟩
  · cases hf
theorem cm_min2 (hc : X.calm = true) : CallR X (.builtin "min") (rC2 X.K Mir.min2) := callR_imp (call_min2 hc) fun _ _ _ H xs Q I h => by
  obtain ⟨G, x, y, dx, dy, d, rfl, e, ax, ay, hf, k⟩ := h
  unfold Mir.min2 at hf
  split at hf
  · cases hf
    rw [ax.int, ay.int]
    exact ⟨_, _, rfl, newV e (by intro _ z; cases z) (.int _) k⟩
  · cases hf
theorem cm_all (hc : X.calm = true) : CallR X (.builtin "all") (rC1 X.K Mir.allD) := callR_imp (cr_all hc) fun _ _ _ H xs Q I h => by
  obtain ⟨G, x, dx, d, rfl, e, ax, hf, k⟩ := h
  unfold Mir.allD at hf
  split at hf
  · rw [Option.map_eq_some_iff] at hf
    obtain ⟨ns, hn, rfl⟩ := hf
    obtain ⟨l, vs, rfl, hl, r⟩ := ax.lst e
    have ev := r.bools hn
    subst ev
    exact ⟨l, ns, rfl, SqL.of hl, newV e (by intro _ z; cases z) (.bl _) k⟩
  · cases hf
theorem cm_list : CallR X (.type "list") (rC1 X.K Mir.listD) := callR_imp call_list_of fun _ _ _ H xs Q I h => by
  obtain ⟨G, x, dx, d, rfl, e, ax, hf, k⟩ := h
  unfold Mir.listD at hf
  split at hf
  · cases hf
    obtain ⟨l, vs, rfl, hl, r⟩ := ax.lst e
    exact ⟨l, vs, rfl, .inl (SqL.of hl), fun p hp => newL e hp r k⟩
  · cases hf
    obtain ⟨l, vs, rfl, hl, r⟩ := ax.tup e
    exact ⟨l, vs, rfl, .inr (SqT.of hl), fun p hp => newL e hp r k⟩
  · cases hf
    obtain ⟨l, rfl, hl⟩ := ax.fz e
    exact ⟨l, _, rfl, .inl hl, fun p hp => newL e hp (.ofInts _) k⟩
  · cases hf
theorem cm_tuple : CallR X (.type "tuple") (rC1 X.K Mir.tupleD) := callR_imp call_tuple_of fun _ _ _ H xs Q I h => by
  obtain ⟨G, x, dx, d, rfl, e, ax, hf, k⟩ := h
  unfold Mir.tupleD at hf
  split at hf
  · cases hf
    obtain ⟨l, vs, rfl, hl, r⟩ := ax.lst e
    exact ⟨l, vs, rfl, .inl ⟨SqL.of hl, fun p hp => newTN e hp r k⟩⟩
  · cases hf
    obtain ⟨l, vs, rfl, hl, r⟩ := ax.tup e
    rcases ax with ax | ⟨_, _, _, _, q, _⟩
    · exact ⟨l, vs, rfl, .inr ⟨SqT.of hl, newV e (by intro _ z; cases z) ax k⟩⟩
    · cases q
  · cases hf
theorem cm_int1 : CallR X (.type "int") (rC1 X.K Mir.int1) := callR_imp call_int1 fun _ _ _ H xs Q I h => by
  obtain ⟨G, x, dx, d, rfl, e, ax, hf, k⟩ := h
  unfold Mir.int1 at hf
  split at hf
  · cases hf
    rw [ax.int]
    exact .inl ⟨_, rfl, newV e (by intro _ z; cases z) (.int _) k⟩
  · cases hf
    rw [ax.bl]
    exact .inr ⟨_, rfl, newV e (by intro _ z; cases z) (.int _) k⟩
  · cases hf
theorem S_codes (s : String) : Str.ofString s = S (Mir.codes s) := by
  show (⟨(cpsOfBytes 0 0 s.toByteArray.data.toList).toArray⟩ : Str) = ⟨(s.toList.map Char.toNat).toArray⟩
  rw [cpsOfBytes_string]
theorem cm_str : CallR X (.type "str") (rC1 X.K Mir.strI) := callR_imp call_str_int fun _ _ _ H xs Q I h => by
  obtain ⟨G, x, dx, d, rfl, e, ax, hf, k⟩ := h
  unfold Mir.strI at hf
  split at hf
  · split at hf
    · rename_i i hz
      cases hf
      rw [ax.int]
      refine ⟨i, rfl, Mir.cl_iff.mp hz, ?_⟩
      have : (Str.ofString (toString i)) = S (Mir.codes (toString i)) := S_codes _
      show Q (.str (Str.ofString (toString i))) H
      rw [this]
      exact newV e (by intro _ z; cases z) (.str _) k
    · cases hf
  · cases hf
/-! ### isinstance -/
theorem AtB.ty {K : PySem.W.Frag} {G H : Hp} {v : V} {d : D} (e : Ex G H) (a : AtB K G H v d) : (d = .non → TyX K H v (.type "NoneType")) ∧ (∀ b, d = .bl b → TyX K H v (.type "bool")) ∧ (∀ i, d = .int i → TyX K H v (.type "int")) ∧
    (∀ i, d = .str i → TyX K H v (.type "str")) ∧ (∀ i, d = .lst i → TyX K H v (.type "list")) ∧ (∀ i, d = .tup i → TyX K H v (.type "tuple")) := by
  refine ⟨?_, ?_, ?_, ?_, ?_, ?_⟩
  · rintro rfl
    have := a.flat rfl
    cases this
    exact .base .non
  · rintro b rfl
    rw [a.bl]
    exact .base (.bl b)
  · rintro b rfl
    rw [a.int]
    exact .base (.int b)
  · rintro b rfl
    rw [a.str]
    exact .base (.str _)
  · rintro b rfl
    obtain ⟨l, vs, rfl, hl, r⟩ := a.lst e
    exact .base (.lst hl)
  · rintro b rfl
    obtain ⟨l, vs, rfl, hl, r⟩ := a.tup e
    exact .base (.tup hl)
theorem ev_isi {T : String} {F : D → Option D} {a : Expr} {ma : Mir.EM} {x : Str} {p p2 pos : Pos}
    (hF : ∀ K G H v d d', Ex G H → AtB K G H v d → F d = some d' → ∃ t b, TyX K H v t ∧ PySem.W.kitOne K t (.type T) = some b ∧ d' = .bl b) (hi : X.mg "isinstance" = none) (hm : X.mg x = none) (ha : EB X a ma)
    (hvT : bootBuiltins x = some (.type T) := by decide +kernel) (hv : bootBuiltins "isinstance" = some (.builtin "isinstance") := by decide +kernel) (hgi : Gl X "isinstance" := by rfl) (hg : Gl X x := by rfl) (hn : x ≠ "__name__" := by decide) (hdb : (x == ("__debug__" : Str)) = false := by decide)
    (he : starEach [a, .Name x p2] X.env = (false, eval a X.env) :: starEach [.Name x p2] X.env := by rfl) (he2 : starEach [.Name x p2] X.env = (false, eval (.Name x p2) X.env) :: starEach [] X.env := by rfl) (hpl : (backTo pos (starEach [.Name x p2] X.env)).any (·.1) = false := by rfl) :
    EV X (.Call (.Name "isinstance" p) [a, .Name x p2] [] pos) (Mir.o1 F ma) :=
  pe_imp (pe_callB call_isi hgi hi hv (pa_cons ha (pa_cons (pe_bltn (v := .ty T) hg hm hvT rfl hn hdb) pa_nil he2) he) (by decide) (by decide) he hpl) fun _ _ σ H Q _ ⟨G0, H0, G, ρ, d, r, hm, k⟩ => by
    simp only [Mir.o1, Option.bind_eq_some_iff] at hm
    obtain ⟨dx, hx, hf⟩ := hm
    refine ⟨G0, H0, G, ρ, dx, r, hx, fun x G1 H1 st1 ax => ?_⟩
    obtain ⟨t, b, ht, hk, rfl⟩ := hF _ _ _ _ _ _ st1.gh ax hf
    exact ⟨x, .ty T, t, _, b, rfl, .ty T, ht, hk, k _ _ _ st1 (.bl b)⟩
theorem isi_int : ∀ K G H v d d', Ex G H → AtB K G H v d → Mir.isInt d = some d' → ∃ t b, TyX K H v t ∧ PySem.W.kitOne K t (.type "int") = some b ∧ d' = .bl b := fun K G H v d d' e a h => by
  obtain ⟨t1, t2, t3, t4, t5, t6⟩ := a.ty e
  cases d <;> simp [Mir.isInt] at h <;> subst h
  · exact ⟨_, _, t1 rfl, kit_ty (by decide +kernel), rfl⟩
  · exact ⟨_, _, t2 _ rfl, kit_ty (by decide +kernel), rfl⟩
  · exact ⟨_, _, t3 _ rfl, kit_ty (by decide +kernel), rfl⟩
  · exact ⟨_, _, t4 _ rfl, kit_ty (by decide +kernel), rfl⟩
  · exact ⟨_, _, t5 _ rfl, kit_ty (by decide +kernel), rfl⟩
  · exact ⟨_, _, t6 _ rfl, kit_ty (by decide +kernel), rfl⟩
theorem isi_bool : ∀ K G H v d d', Ex G H → AtB K G H v d → Mir.isBool d = some d' → ∃ t b, TyX K H v t ∧ PySem.W.kitOne K t (.type "bool") = some b ∧ d' = .bl b := fun K G H v d d' e a h => by
  obtain ⟨t1, t2, t3, t4, t5, t6⟩ := a.ty e
  cases d <;> simp [Mir.isBool] at h <;> subst h
  · exact ⟨_, _, t1 rfl, kit_ty (by decide +kernel), rfl⟩
  · exact ⟨_, _, t2 _ rfl, kit_ty (by decide +kernel), rfl⟩
  · exact ⟨_, _, t3 _ rfl, kit_ty (by decide +kernel), rfl⟩
  · exact ⟨_, _, t4 _ rfl, kit_ty (by decide +kernel), rfl⟩
  · exact ⟨_, _, t5 _ rfl, kit_ty (by decide +kernel), rfl⟩
  · exact ⟨_, _, t6 _ rfl, kit_ty (by decide +kernel), rfl⟩
theorem isi_tup : ∀ K G H v d d', Ex G H → AtB K G H v d → Mir.isTup d = some d' → ∃ t b, TyX K H v t ∧ PySem.W.kitOne K t (.type "tuple") = some b ∧ d' = .bl b := fun K G H v d d' e a h => by
  obtain ⟨t1, t2, t3, t4, t5, t6⟩ := a.ty e
  cases d <;> simp [Mir.isTup] at h <;> subst h
  · exact ⟨_, _, t1 rfl, kit_ty (by decide +kernel), rfl⟩
  · exact ⟨_, _, t2 _ rfl, kit_ty (by decide +kernel), rfl⟩
  · exact ⟨_, _, t3 _ rfl, kit_ty (by decide +kernel), rfl⟩
  · exact ⟨_, _, t4 _ rfl, kit_ty (by decide +kernel), rfl⟩
  · exact ⟨_, _, t5 _ rfl, kit_ty (by decide +kernel), rfl⟩
  · exact ⟨_, _, t6 _ rfl, kit_ty (by decide +kernel), rfl⟩
theorem isi_list : ∀ K G H v d d', Ex G H → AtB K G H v d → Mir.isList d = some d' → ∃ t b, TyX K H v t ∧ PySem.W.kitOne K t (.type "list") = some b ∧ d' = .bl b := fun K G H v d d' e a h => by
  obtain ⟨t1, t2, t3, t4, t5, t6⟩ := a.ty e
  cases d <;> simp [Mir.isList] at h <;> subst h
  · exact ⟨_, _, t1 rfl, kit_ty (by decide +kernel), rfl⟩
  · exact ⟨_, _, t2 _ rfl, kit_ty (by decide +kernel), rfl⟩
  · exact ⟨_, _, t3 _ rfl, kit_ty (by decide +kernel), rfl⟩
  · exact ⟨_, _, t4 _ rfl, kit_ty (by decide +kernel), rfl⟩
  · exact ⟨_, _, t5 _ rfl, kit_ty (by decide +kernel), rfl⟩
  · exact ⟨_, _, t6 _ rfl, kit_ty (by decide +kernel), rfl⟩
theorem isi_str : ∀ K G H v d d', Ex G H → AtB K G H v d → Mir.isStr d = some d' → ∃ t b, TyX K H v t ∧ PySem.W.kitOne K t (.type "str") = some b ∧ d' = .bl b := fun K G H v d d' e a h => by
  obtain ⟨t1, t2, t3, t4, t5, t6⟩ := a.ty e
  cases d <;> simp [Mir.isStr] at h <;> subst h
  · exact ⟨_, _, t1 rfl, kit_ty (by decide +kernel), rfl⟩
  · exact ⟨_, _, t2 _ rfl, kit_ty (by decide +kernel), rfl⟩
  · exact ⟨_, _, t3 _ rfl, kit_ty (by decide +kernel), rfl⟩
  · exact ⟨_, _, t4 _ rfl, kit_ty (by decide +kernel), rfl⟩
  · exact ⟨_, _, t5 _ rfl, kit_ty (by decide +kernel), rfl⟩
  · exact ⟨_, _, t6 _ rfl, kit_ty (by decide +kernel), rfl⟩
end
end Snd
set_option Elab.async false
set_option linter.all false
set_option maxRecDepth 100000
set_option maxHeartbeats 4000000
/-! Snd6: targets, what is walked, comprehensions, statements, defs. -/
namespace Snd
open PySem L2 LamX
variable [TC : TabCtx]
theorem slot_put : ∀ (ρ : Mir.Env) (i j : Nat) (s : Mir.Sl), Mir.slot (Mir.put ρ i s) j = if j = i ∧ i < ρ.length then s else Mir.slot ρ j
  | [], i, j, s => by simp [Mir.put]
  | x :: r, 0, 0, s => by simp [Mir.put, Mir.slot]
  | x :: r, 0, j + 1, s => by simp [Mir.put, Mir.slot]
  | x :: r, i + 1, 0, s => by simp [Mir.put, Mir.slot]
  | x :: r, i + 1, j + 1, s => by
    simp only [Mir.put, Mir.slot, slot_put r i j s, List.length_cons, Nat.add_lt_add_iff_right, Nat.add_right_cancel_iff]
theorem put_len : ∀ (ρ : Mir.Env) (i : Nat) (s : Mir.Sl), (Mir.put ρ i s).length = ρ.length
  | [], _, _ => rfl
  | _ :: _, 0, _ => rfl
  | x :: r, i + 1, s => by simp only [Mir.put, List.length_cons, put_len r i s]
theorem slot_out : ∀ (ρ : Mir.Env) (i : Nat), ρ.length ≤ i → Mir.slot ρ i = .emp
  | [], _, _ => rfl
  | _ :: _, 0, h => by simp at h
  | x :: r, i + 1, h => by
    simp only [Mir.slot]
    exact slot_out r i (by simpa using h)
theorem slot_in {ρ : Mir.Env} {i : Nat} (h : Mir.slot ρ i ≠ .emp) : i < ρ.length := by
  by_cases q : i < ρ.length
  · exact q
  · exact absurd (slot_out ρ i (by omega)) h
section
variable {K : PySem.W.Frag} {G0 H0 G H G' H' : Hp} {σ σ' : St} {ρ : Mir.Env}
/-- a slot gets something that stands by itself -/
theorem Rel.put (r : Rel K G0 H0 G H σ ρ) (i : Nat) (s : Mir.Sl) (hs : mutSl s = false) (hl : σ'.length = σ.length) (ho : ∀ j, j ≠ i → σ'[j]? = σ[j]?) (hi : i < ρ.length → SlAt K H0 G H σ'[i]? s) : Rel K G0 H0 G H σ' (Mir.put ρ i s) where
  gg := r.gg
  hh := r.hh
  gh := r.gh
  fr := r.fr
  sl := fun j => by
    rw [slot_put]
    by_cases h : j = i ∧ i < ρ.length
    · rw [if_pos h, h.1]
      exact hi h.2
    · rw [if_neg h]
      by_cases hj : j = i
      · subst hj
        rw [slot_out ρ j (by omega)]
        trivial
      · rw [ho j hj]
        exact r.sl j
  ds := fun a b l hab ha hb ea => by
    rw [slot_put] at ha hb
    by_cases h1 : a = i ∧ i < ρ.length
    · rw [if_pos h1, hs] at ha; cases ha
    rw [if_neg h1] at ha
    by_cases h2 : b = i ∧ i < ρ.length
    · rw [if_pos h2, hs] at hb; cases hb
    rw [if_neg h2] at hb
    have na : a ≠ i := fun q => by
      subst q
      rw [slot_out ρ a (by omega)] at ha
      cases ha
    have nb : b ≠ i := fun q => by
      subst q
      rw [slot_out ρ b (by omega)] at hb
      cases hb
    rw [ho a na] at ea
    rw [ho b nb]
    exact r.ds a b l hab ha hb ea
  ln := by
    rw [put_len, hl]
    exact r.ln
  tb := r.tb
theorem Rel.set (r : Rel K G0 H0 G H σ ρ) (i : Nat) {v : V} {d : D} (a : At K G v d) : Rel K G0 H0 G H (σ.set i (some v)) (Mir.put ρ i (.frz d)) :=
  r.put i (.frz d) rfl (by simp) (fun j hj => by rw [List.getElem?_set_ne (Ne.symm hj)]) fun hi => ⟨v, by rw [List.getElem?_set_self (Nat.lt_of_lt_of_le hi r.ln)], a⟩
theorem wipe_len' : ∀ (ρ : Mir.Env) (vs : List Nat), (Mir.wipe ρ vs).length = ρ.length
  | _, [] => rfl
  | ρ, v :: vs => by rw [Mir.wipe, put_len, wipe_len' ρ vs]
theorem Rel.wipe (r : Rel K G0 H0 G H σ ρ) : ∀ vs : List Nat, Rel K G0 H0 G H (L2.wipe σ vs) (Mir.wipe ρ vs)
  | [] => r
  | v :: vs => by
    have ih := Rel.wipe r vs
    unfold L2.wipe Mir.wipe
    exact ih.put v .emp rfl (by simp) (fun j hj => by rw [List.getElem?_set_ne (Ne.symm hj)]) fun _ => trivial
/-- another base -/
theorem Rel.rebase (r : Rel K G0 H0 G H σ ρ) : Rel K G H0 G H σ ρ := ⟨Ex.refl _, r.hh, r.gh, fun _ _ => rfl, r.sl, r.ds, r.ln, r.tb⟩
theorem Rel.unbase {G1 : Hp} (g : Ex G0 G1) (f : ∀ a, H0 a ≠ none → G1 a = G0 a) (r : Rel K G1 H0 G H σ ρ) : Rel K G0 H0 G H σ ρ := ⟨g.trans r.gg, r.hh, r.gh, fun a ha => (r.fr a ha).trans (f a ha), r.sl, r.ds, r.ln, r.tb⟩
theorem Fin.unbase {G1 : Hp} (g : Ex G0 G1) (f : ∀ a, H0 a ≠ none → G1 a = G0 a) (r : Fin G1 H0 G H) : Fin G0 H0 G H := ⟨g.trans r.gg, r.hh, r.gh, fun a ha => (r.fr a ha).trans (f a ha)⟩
theorem Rel.fin (r : Rel K G0 H0 G H σ ρ) : Fin G0 H0 G H := ⟨r.gg, r.hh, r.gh, r.fr⟩
theorem Fin.stp (f : Fin G0 H0 G H) (st : Stp G H G' H') : Fin G0 H0 G' H' := ⟨f.gg.trans st.g, f.hh.trans st.h, st.gh, fun a ha => by
  rw [st.fr a (f.hh.ne a ha), f.fr a ha]⟩
end
section
variable {X : Cx} {e a b : Expr} {es : List Expr} {pos : Pos}
/-! ### targets -/
theorem sg_name (i : Nat) {x : Str} (hN : X.N.Nodup) (hi : X.N[i]? = some x := by rfl) (hx : Loc X.env.scope x := by first | exact Or.inl rfl | exact Or.inr rfl) (hf : X.fn x = true ∨ X.env.scope.names.lookup x = some .local := by first | exact .inl rfl | exact .inr rfl) : SG X (.Name x pos) [i] (Mir.gN i) :=
  pg_imp (pg_name hN hi hx hf) fun _ _ v σ H Q _ ⟨G0, H0, G, ρ, d, ρ', r, a, hg, k⟩ => by
    cases hg
    exact k _ (r.set i a) (by simp) fun j hj => by rw [List.getElem?_set_ne (fun q => hj (by simp [q]))]
def rdGs (K : PySem.W.Frag) (is : List Nat) (gs : List Mir.GM) : TGs := fun vs σ H Q => ∃ G0 H0 G ρ ds ρ', Rel K G0 H0 G H σ ρ ∧ AtL K G vs ds ∧ Mir.gTs gs ds ρ = some ρ' ∧
  ∀ σ', Rel K G0 H0 G H σ' ρ' → σ'.length = σ.length → (∀ j, j ∉ is → σ'[j]? = σ[j]?) → Q σ' H
abbrev SGs (X : Cx) (es : List Expr) (is : List Nat) (gs : List Mir.GM) : Prop := PGs X es (rdGs X.K is gs)
theorem pgs_imp {t t' : TGs} (h : PGs X es t) (k : ∀ vs σ H Q, t' vs σ H Q → t vs σ H Q) : PGs X es t' :=
  ⟨fun pins s σ H vs us Q I r q => h.run pins s σ H vs us Q I r (k vs σ H Q q)⟩
theorem sgs_nil : SGs X [] [] [] := pgs_imp pgs_nil fun vs σ H Q ⟨G0, H0, G, ρ, ds, ρ', r, a, hg, k⟩ => by
  cases ds with
  | nil =>
    cases a
    cases hg
    exact ⟨rfl, k _ r rfl fun _ _ => rfl⟩
  | cons => cases hg
theorem sgs_cons {is js : List Nat} {g : Mir.GM} {gs : List Mir.GM} (h1 : SG X e is g) (h2 : SGs X es js gs) (hs : (assignEach (e :: es) X.env).map (·.2) = assign e X.env :: (assignEach es X.env).map (·.2) := by rfl) : SGs X (e :: es) (is ++ js) (g :: gs) :=
  pgs_imp (pgs_cons h1 h2 hs) fun vs σ H Q ⟨G0, H0, G, ρ, ds, ρ', r, a, hg, k⟩ => by
    cases ds with
    | nil => cases hg
    | cons d ds =>
      cases a with
      | cons a1 a2 =>
        simp only [Mir.gTs, Option.bind_eq_some_iff] at hg
        obtain ⟨ρ1, h1, h2⟩ := hg
        refine ⟨_, _, rfl, G0, H0, G, ρ, d, ρ1, r, a1, h1, fun σ1 r1 l1 o1 => ?_⟩
        exact ⟨G0, H0, G, ρ1, ds, ρ', r1, a2, h2, fun σ2 r2 l2 o2 => k σ2 r2 (l2.trans l1) fun j hj => by
          rw [List.mem_append, not_or] at hj
          rw [o2 j hj.2, o1 j hj.1]⟩
theorem gTs_len : ∀ {gs : List Mir.GM} {ds : List D} {ρ ρ' : Mir.Env}, Mir.gTs gs ds ρ = some ρ' → ds.length = gs.length
  | [], [], _, _, _ => rfl
  | [], _ :: _, _, _, h => by cases h
  | _ :: _, [], _, _, h => by cases h
  | g :: gs, d :: ds, ρ, ρ', h => by
    simp only [Mir.gTs, Option.bind_eq_some_iff] at h
    obtain ⟨ρ1, _, h2⟩ := h
    rw [List.length_cons, List.length_cons, gTs_len h2]
theorem sg_tup {is : List Nat} {gs : List Mir.GM} {k : Nat} (hc : X.calm = true) (h : SGs X es is gs) (hn : (assignEach es X.env).length = gs.length := by rfl) (hst : (assignEach es X.env).findIdx? (·.1) = none := by rfl) : SG X (.Tuple es k pos) is (Mir.gT gs) :=
  pg_imp (pg_tup (n := gs.length) hc h hn hst) fun _ _ v σ H Q _ ⟨G0, H0, G, ρ, d, ρ', r, a, hg, kk⟩ => by
    unfold Mir.gT at hg
    split at hg
    · cases a with
      | tup ha al => exact ⟨_, _, rfl, SqT.of (r.gh.t ha), by rw [al.len]; exact gTs_len hg, G0, H0, G, ρ, _, ρ', r, al, hg, kk⟩
    · cases hg

/-! ### what is walked -/
structure ItD (K : PySem.W.Frag) (J : It) (G1 : Hp) (ds : List D) : Prop where
  go : ∀ (i : Nat) d G H, Ex G1 G → Ex G H → ds[i]? = some d → J.go i H ∧ ∀ x H', J.yld i H x H' → ∃ G', Stp G H G' H' ∧ At K G' x d
  stop : ∀ (i : Nat) G H, Ex G1 G → Ex G H → ds.length ≤ i → J.stop i H
  sz : ds.length ≤ sizeLine
def rdI (K : PySem.W.Frag) (m : Mir.EL) : TI := fun σ H R => ∃ G0 H0 G ρ ds, Rel K G0 H0 G H σ ρ ∧ m ρ = some ds ∧ ∀ J G' H', Stp G H G' H' → ItD K J G' ds → R J H'
abbrev SI (X : Cx) (tg e : Expr) (m : Mir.EL) : Prop := PI X tg e (rdI X.K m)
theorem pi_imp {tg : Expr} {t t' : TI} (h : PI X tg e t) (k : ∀ pins s σ H R, Inv X pins σ H s → t' σ H R → t σ H R) : PI X tg e t' :=
  ⟨fun pins s σ H R I q => h.run pins s σ H R I (k pins s σ H R I q)⟩
theorem pi_or {tg : Expr} {t t' : TI} (h : PI X tg e t) (h' : PI X tg e t') : PI X tg e (fun σ H R => t σ H R ∨ t' σ H R) := ⟨fun pins s σ H R I q => by
  rcases q with q | q
  · exact h.run pins s σ H R I q
  · exact h'.run pins s σ H R I q⟩
/-- the list, tuple, text that an expression gives: the three kinds in one -/
theorem pi_any {tg : Expr} {te : TE} (he : PE X e te) : PI X tg e (fun σ H R => te σ H fun v H1 => (∃ a xs, v = .ref a ∧ SqL X.K H1 a xs ∧ (xs.length ≤ sizeLine → R (Itl X.K a) H1)) ∨ (∃ a xs, v = .ref a ∧ SqT X.K H1 a xs ∧ (xs.length ≤ sizeLine → R (Itt X.K a) H1)) ∨ ∃ x, v = .str x ∧ R (Its x) H1) := by
  refine ⟨fun pins s σ H R I h => ?_⟩
  refine thn (he.run pins s σ H _ I h) fun v s1 ⟨y, H1, I1, r1, q⟩ => ?_
  rcases q with ⟨a, xs, rfl, hx, q⟩ | ⟨a, xs, rfl, hx, q⟩ | ⟨x, rfl, q⟩
  · cases r1
    obtain ⟨its, rv, p, hz⟩ := I1.list hx
    refine wpAny_pyIter_list p.isList ?_
    refine ⟨s1.heap.objs.size, [s1.heap.objs.size], _, _, H1, rfl, I1.kept (t' := s1.toks) fun b o e => Heap.get?_push_of_some _ e, turn_list a _, ⟨_, Heap.get?_push_size _ rfl, rfl, rfl⟩, fun b hb => ?_, q hz⟩
    have e : b = s1.heap.objs.size := by simpa using hb
    subst e
    exact I1.fpOk (Nat.le_refl _) (I1.hok.fresh (Nat.le_refl _))
  · cases r1
    obtain ⟨its, rv, p, hz⟩ := I1.tuple hx
    refine wpAny_pyIter_tuple (show s1.heap.IsTuple a its.toArray from p) ?_
    refine ⟨s1.heap.objs.size, [s1.heap.objs.size], _, _, H1, rfl, I1.kept (t' := s1.toks) fun b o e => Heap.get?_push_of_some _ e, turn_tuple a _, ⟨_, Heap.get?_push_size _ rfl, rfl, rfl⟩, fun b hb => ?_, q hz⟩
    have e : b = s1.heap.objs.size := by simpa using hb
    subst e
    exact I1.fpOk (Nat.le_refl _) (I1.hok.fresh (Nat.le_refl _))
  · obtain ⟨t, rfl⟩ := r1
    cases ha : x.cps.all (· < 128)
    · exact wpAny_pyIter_wide ha (pi_one (tk := s1.toks) I1 _ (turn_str _ x t "str_iterator" (.inr rfl)) ⟨_, Heap.get?_push_size _ rfl, rfl, rfl⟩ q)
    · exact wpAny_pyIter_ascii ha (pi_one (tk := s1.toks) I1 _ (turn_str _ x t "str_ascii_iterator" (.inl rfl)) ⟨_, Heap.get?_push_size _ rfl, rfl, rfl⟩ q)
theorem it_l {K : PySem.W.Frag} {G1 : Hp} {a : Addr} {vs : List V} {ds : List D} (h : G1 a = some (.lst vs)) (r : AtL K G1 vs ds) (hz : vs.length ≤ sizeLine) : ItD K (Itl K a) G1 ds where
  go := fun i d G H e1 e2 hd => by
    obtain ⟨v, hv, av⟩ := r.get hd
    have hs : SqL K H a vs := SqL.of (e2.l (e1.l h))
    refine ⟨⟨vs, v, hs, hv⟩, fun x H' hy => ?_⟩
    obtain ⟨rfl, hy⟩ := hy
    have := (hy _ hs).symm.trans hv
    cases this
    exact ⟨G, .refl e2, av.mono e1⟩
  stop := fun i G H e1 e2 hi => ⟨vs, SqL.of (e2.l (e1.l h)), by rw [r.len]; exact hi⟩
  sz := by rw [← r.len]; exact hz
theorem it_t {K : PySem.W.Frag} {G1 : Hp} {a : Addr} {vs : List V} {ds : List D} (h : G1 a = some (.tup vs)) (r : AtL K G1 vs ds) (hz : vs.length ≤ sizeLine) : ItD K (Itt K a) G1 ds where
  go := fun i d G H e1 e2 hd => by
    obtain ⟨v, hv, av⟩ := r.get hd
    have hs : SqT K H a vs := SqT.of (e2.t (e1.t h))
    refine ⟨⟨vs, v, hs, hv⟩, fun x H' hy => ?_⟩
    obtain ⟨rfl, hy⟩ := hy
    have := (hy _ hs).symm.trans hv
    cases this
    exact ⟨G, .refl e2, av.mono e1⟩
  stop := fun i G H e1 e2 hi => ⟨vs, SqT.of (e2.t (e1.t h)), by rw [r.len]; exact hi⟩
  sz := by rw [← r.len]; exact hz
theorem it_s {K : PySem.W.Frag} {G1 : Hp} (x : List Nat) (hz : x.length ≤ sizeLine) : ItD K (Its (S x)) G1 (x.map fun c => .str [c]) where
  go := fun i d G H e1 e2 hd => by
    rw [List.getElem?_map, Option.map_eq_some_iff] at hd
    obtain ⟨c, hc, rfl⟩ := hd
    have hi := (List.getElem?_eq_some_iff.mp hc).1
    refine ⟨?_, fun v H' hy => ?_⟩
    · show i < x.toArray.size
      simpa using hi
    · obtain ⟨rfl, c', hc', rfl⟩ := hy
      have e : c = c' := by
        have h1 : x.toArray[i]? = some c' := hc'
        rw [List.getElem?_toArray, hc] at h1
        exact Option.some.inj h1
      subst e
      exact ⟨G, .refl e2, .str [c]⟩
  stop := fun i G H e1 e2 hi => by
    show x.toArray.size ≤ i
    simpa using hi
  sz := by rw [List.length_map]; exact hz
theorem si_any {tg : Expr} {m : Mir.EM} (he : EV X e m) : SI X tg e (Mir.iL m) := pi_imp (pi_any he) fun _ _ σ H R _ ⟨G0, H0, G, ρ, ds, r, hm, k⟩ => by
  simp only [Mir.iL, Option.bind_eq_some_iff] at hm
  obtain ⟨d, hd, hi⟩ := hm
  refine ⟨G0, H0, G, ρ, d, r, hd, fun v G1 H1 st1 a1 => ?_⟩
  unfold Mir.itOf at hi
  split at hi
  · cases hi
    cases a1 with
    | lst h al => exact .inl ⟨_, _, rfl, SqL.of (st1.gh.l h), fun hz => k _ _ _ st1 (it_l h al hz)⟩
  · cases hi
    cases a1 with
    | tup h al => exact .inr (.inl ⟨_, _, rfl, SqT.of (st1.gh.t h), fun hz => k _ _ _ st1 (it_t h al hz)⟩)
  · split at hi <;> cases hi
    rename_i hz
    cases a1
    exact .inr (.inr ⟨_, rfl, k _ _ _ st1 (it_s _ (fits_line hz))⟩)
  · cases hi
theorem rangeL_get : ∀ (n : Nat) (lo : Int) (i : Nat), (Mir.rangeL lo n)[i]? = if i < n then some (.int (lo + i)) else none
  | 0, lo, i => by simp [Mir.rangeL]
  | n + 1, lo, 0 => by simp [Mir.rangeL]
  | n + 1, lo, i + 1 => by
    simp only [Mir.rangeL, List.getElem?_cons_succ, rangeL_get n (lo + 1) i, Nat.add_lt_add_iff_right]
    split
    · congr 2
      omega
    · rfl
theorem rangeL_len : ∀ (n : Nat) (lo : Int), (Mir.rangeL lo n).length = n
  | 0, _ => rfl
  | n + 1, lo => by simp [Mir.rangeL, rangeL_len n]
theorem it_r {K : PySem.W.Frag} {G1 : Hp} (lo : Int) (n : Nat) (hz : n ≤ sizeLine) : ItD K (Itr lo n) G1 (Mir.rangeL lo n) where
  go := fun i d G H e1 e2 hd => by
    rw [rangeL_get] at hd
    split at hd <;> cases hd
    rename_i hi
    exact ⟨hi, fun x H' hy => by
      obtain ⟨rfl, rfl⟩ := hy
      exact ⟨G, .refl e2, .int _⟩⟩
  stop := fun i G H e1 e2 hi => by
    rw [rangeL_len] at hi
    exact hi
  sz := by rw [rangeL_len]; exact hz
theorem si_r1 {tg : Expr} {ma : Mir.EM} {p : Pos} (hr : X.mg "range" = none) (ha : EB X a ma) (hg : Gl X "range" := by rfl) (he : starEach [a] X.env = (false, eval a X.env) :: starEach [] X.env := by rfl) : SI X tg (.Call (.Name "range" p) [a] [] pos) (Mir.iR1 ma) :=
  pi_imp (pi_range1 hg hr (pa_cons ha pa_nil he) (hs := he)) fun _ _ σ H R _ ⟨G0, H0, G, ρ, ds, r, hm, k⟩ => by
    simp only [Mir.iR1, Option.bind_eq_some_iff] at hm
    obtain ⟨d, hd, j, hj, hi⟩ := hm
    split at hi <;> cases hi
    rename_i hz
    rw [Bool.and_eq_true] at hz
    refine ⟨G0, H0, G, ρ, d, r, hd, fun v G1 H1 st1 a1 => ?_⟩
    cases d <;> simp [Mir.asInt] at hj
    subst hj
    have hs := Mir.cl_iff.mp hz.1
    exact ⟨_, by rw [a1.int], hs.1, hs.2, k _ _ _ st1 (it_r 0 _ (fits_line hz.2))⟩
theorem si_r2 {tg : Expr} {ma mb : Mir.EM} {p : Pos} (hr : X.mg "range" = none) (ha : EB X a ma) (hb : EB X b mb) (hg : Gl X "range" := by rfl) (he : starEach [a, b] X.env = (false, eval a X.env) :: starEach [b] X.env := by rfl)
    (he2 : starEach [b] X.env = (false, eval b X.env) :: starEach [] X.env := by rfl) : SI X tg (.Call (.Name "range" p) [a, b] [] pos) (Mir.iR2 ma mb) :=
  pi_imp (pi_range2 hg hr (pa_cons ha (pa_cons hb pa_nil he2) he) (hs := by rw [he, he2] <;> rfl) (hs2 := he2)) fun _ _ σ H R _ ⟨G0, H0, G, ρ, ds, r, hm, k⟩ => by
    simp only [Mir.iR2, Option.bind_eq_some_iff] at hm
    obtain ⟨d, hd, d2, hd2, i, hi, j, hj, hf⟩ := hm
    split at hf <;> cases hf
    rename_i hz
    rw [Bool.and_eq_true, Bool.and_eq_true] at hz
    refine ⟨G0, H0, G, ρ, d, r, hd, fun v G1 H1 st1 a1 => ⟨G0, H0, G1, ρ, d2, r.stp st1, hd2, fun v2 G2 H2 st2 a2 => ?_⟩⟩
    cases d <;> simp [Mir.asInt] at hi
    subst hi
    cases d2 <;> simp [Mir.asInt] at hj
    subst hj
    have hs := Mir.cl_iff.mp hz.1.1
    have hs2 := Mir.cl_iff.mp hz.1.2
    exact ⟨_, _, by rw [a1.int, a2.int], ⟨hs.1, hs.2, hs2.1, hs2.2⟩, k _ _ _ (st1.trans st2) (it_r _ _ (fits_line hz.2))⟩
theorem enumL_get : ∀ (ds : List D) (k i : Nat), (Mir.enumL k ds)[i]? = (ds[i]?).map fun d => .tup [.int ((k + i : Nat) : Int), d]
  | [], k, i => by simp [Mir.enumL]
  | d :: ds, k, 0 => by simp [Mir.enumL]
  | d :: ds, k, i + 1 => by
    simp only [Mir.enumL, List.getElem?_cons_succ, enumL_get ds (k + 1) i]
    rw [show k + 1 + i = k + (i + 1) by omega]
theorem enumL_len : ∀ (ds : List D) (k : Nat), (Mir.enumL k ds).length = ds.length
  | [], _ => rfl
  | d :: ds, k => by simp [Mir.enumL, enumL_len ds]
theorem it_e {K : PySem.W.Frag} {G1 : Hp} {a : Addr} {vs : List V} {ds : List D} (h : G1 a = some (.lst vs)) (r : AtL K G1 vs ds) (hz : vs.length ≤ sizeLine) : ItD K (Ite K a) G1 (Mir.enumL 0 ds) where
  go := fun i d G H e1 e2 hd => by
    rw [enumL_get, Option.map_eq_some_iff, Nat.zero_add] at hd
    obtain ⟨d, hd, rfl⟩ := hd
    obtain ⟨v, hv, av⟩ := r.get hd
    have hs : SqL K H a vs := SqL.of (e2.l (e1.l h))
    refine ⟨⟨vs, v, hs, hv⟩, fun x H' hy => ?_⟩
    obtain ⟨T, y, rfl, nT, rfl, hy⟩ := hy
    have := (hy _ hs).symm.trans hv
    cases this
    refine ⟨upd G T _, .both e2 nT NoT.t, .tup upd_same (.cons (.int _) (.cons (av.mono (e1.trans (Ex.new (e2.back nT)))) .nil))⟩
  stop := fun i G H e1 e2 hi => ⟨vs, SqL.of (e2.l (e1.l h)), by rw [r.len]; rw [enumL_len] at hi; exact hi⟩
  sz := by rw [enumL_len, ← r.len]; exact hz
theorem si_en {ma : Mir.EM} {p tpos : Pos} {elts : List Expr} {kk : Nat} (hr : X.mg "enumerate" = none) (ha : EV X a ma) (hg : Gl X "enumerate" := by rfl) (he : starEach [a] X.env = (false, eval a X.env) :: starEach [] X.env := by rfl) :
    SI X (.Tuple elts kk tpos) (.Call (.Name "enumerate" p) [a] [] pos) (Mir.iEn ma) := by
  have big : PA X [a] (fun σ H Q => rdV X.K ma σ H fun x H1 => (∀ l vs, H1 l = some (.lst vs) → vs.length ≤ sizeLine) → Q [x] H1) :=
    ⟨fun pos pins s σ H Q I q => thn ((pa_cons ha pa_nil he).run pos pins s σ H (fun vs H1 => (∀ l ws, H1 l = some (.lst ws) → ws.length ≤ sizeLine) → Q vs H1) I q) fun us s1 ⟨vs, H1, I1, r1, q1⟩ => ⟨vs, H1, I1, r1, q1 fun l ws hl => by
      obtain ⟨hz, _⟩ := I1.hok l _ hl
      exact hz⟩⟩
  refine pi_imp (pi_enum hg hr big he) fun _ _ σ H R _ ⟨G0, H0, G, ρ, ds, r, hm, k⟩ => ?_
  simp only [Mir.iEn, Option.bind_eq_some_iff] at hm
  obtain ⟨d, hd, xs, hx, hi⟩ := hm
  cases hi
  refine ⟨G0, H0, G, ρ, d, r, hd, fun v G1 H1 st1 a1 hbig => ?_⟩
  cases d <;> simp [Mir.asL] at hx
  subst hx
  cases a1 with
  | lst h al => exact ⟨_, _, rfl, SqL.of (st1.gh.l h), k _ _ _ st1 (it_e h al (hbig _ _ (st1.gh.l h)))⟩
theorem zipL_get : ∀ (xs ys : List D) (i : Nat), (Mir.zipL xs ys)[i]? = (xs[i]?).bind fun x => (ys[i]?).map fun y => .tup [x, y]
  | [], ys, i => by simp [Mir.zipL]
  | x :: xs, [], i => by
    simp [Mir.zipL]
  | x :: xs, y :: ys, 0 => by simp [Mir.zipL]
  | x :: xs, y :: ys, i + 1 => by simp only [Mir.zipL, List.getElem?_cons_succ, zipL_get xs ys i]
theorem zipL_len : ∀ (xs ys : List D), (Mir.zipL xs ys).length = min xs.length ys.length
  | [], ys => by simp [Mir.zipL]
  | x :: xs, [] => by simp [Mir.zipL]
  | x :: xs, y :: ys => by
    simp only [Mir.zipL, List.length_cons, zipL_len xs ys]
    omega
theorem it_z {K : PySem.W.Frag} {G1 : Hp} {a b : Addr} {vs ws : List V} {ds es : List D} (h : G1 a = some (.lst vs)) (r : AtL K G1 vs ds) (h' : G1 b = some (.lst ws)) (r' : AtL K G1 ws es) (hz : vs.length ≤ sizeLine) : ItD K (Itz K a b) G1 (Mir.zipL ds es) where
  go := fun i d G H e1 e2 hd => by
    rw [zipL_get, Option.bind_eq_some_iff] at hd
    obtain ⟨dx, hdx, hd⟩ := hd
    rw [Option.map_eq_some_iff] at hd
    obtain ⟨dy, hdy, rfl⟩ := hd
    obtain ⟨v, hv, av⟩ := r.get hdx
    obtain ⟨w, hw, aw⟩ := r'.get hdy
    have hs : SqL K H a vs := SqL.of (e2.l (e1.l h))
    have hs' : SqL K H b ws := SqL.of (e2.l (e1.l h'))
    refine ⟨⟨vs, ws, v, w, hs, hs', hv, hw⟩, fun x H' hy => ?_⟩
    obtain ⟨T, y, z, rfl, nT, rfl, hy, hy'⟩ := hy
    have := (hy _ hs).symm.trans hv
    cases this
    have := (hy' _ hs').symm.trans hw
    cases this
    have e3 : Ex G1 (upd G T (.tup [v, w])) := e1.trans (Ex.new (e2.back nT))
    exact ⟨upd G T _, .both e2 nT NoT.t, .tup upd_same (.cons (av.mono e3) (.cons (aw.mono e3) .nil))⟩
  stop := fun i G H e1 e2 hi => by
    refine ⟨vs, ws, SqL.of (e2.l (e1.l h)), SqL.of (e2.l (e1.l h')), ?_⟩
    rw [zipL_len] at hi
    rw [r.len, r'.len]
    omega
  sz := by
    rw [zipL_len, ← r.len]
    omega
theorem si_zp {ma mb : Mir.EM} {p tpos : Pos} {elts : List Expr} {kk : Nat} (hr : X.mg "zip" = none) (ha : EV X a ma) (hb : EV X b mb) (hg : Gl X "zip" := by rfl) (he : starEach [a, b] X.env = (false, eval a X.env) :: starEach [b] X.env := by rfl)
    (he2 : starEach [b] X.env = (false, eval b X.env) :: starEach [] X.env := by rfl) (hpl : (backTo pos (starEach [b] X.env)).any (·.1) = false := by rfl) :
    SI X (.Tuple elts kk tpos) (.Call (.Name "zip" p) [a, b] [] pos) (Mir.iZp ma mb) := by
  have big : PA X [a, b] (fun σ H Q => rdV X.K ma σ H fun x H1 => rdV X.K mb σ H1 fun y H2 => (∀ l vs, H2 l = some (.lst vs) → vs.length ≤ sizeLine) → Q [x, y] H2) :=
    ⟨fun pos pins s σ H Q I q => thn ((pa_cons ha (pa_cons hb pa_nil he2) he).run pos pins s σ H (fun vs H1 => (∀ l ws, H1 l = some (.lst ws) → ws.length ≤ sizeLine) → Q vs H1) I q) fun us s1 ⟨vs, H1, I1, r1, q1⟩ => ⟨vs, H1, I1, r1, q1 fun l ws hl => by
      obtain ⟨hz, _⟩ := I1.hok l _ hl
      exact hz⟩⟩
  refine pi_imp (pi_zip hg hr big he hpl) fun _ _ σ H R _ ⟨G0, H0, G, ρ, ds, r, hm, k⟩ => ?_
  simp only [Mir.iZp, Option.bind_eq_some_iff] at hm
  obtain ⟨d, hd, d2, hd2, xs, hx, ys, hy, hi⟩ := hm
  cases hi
  refine ⟨G0, H0, G, ρ, d, r, hd, fun v G1 H1 st1 a1 => ⟨G0, H0, G1, ρ, d2, r.stp st1, hd2, fun v2 G2 H2 st2 a2 hbig => ?_⟩⟩
  cases d <;> simp [Mir.asL] at hx
  subst hx
  cases d2 <;> simp [Mir.asL] at hy
  subst hy
  cases a1 with
  | lst h al =>
    cases a2 with
    | lst h' al' => exact ⟨_, _, _, _, rfl, SqL.of (st2.h.l (st1.gh.l h)), SqL.of (st2.gh.l h'), k _ _ _ (st1.trans st2) (it_z (st2.g.l h) (al.mono st2.g) h' al' (hbig _ _ (st2.h.l (st1.gh.l h))))⟩

/-! ### comprehensions -/
theorem wipe_eq {σ σ' : St} : ∀ {vs : List Nat}, σ'.length = σ.length → (∀ j, j ∉ vs → σ'[j]? = σ[j]?) → L2.wipe σ' vs = L2.wipe σ vs := fun {vs} hl ho => by
  apply List.ext_getElem?
  intro j
  have key : ∀ (vs : List Nat) (τ : St), (L2.wipe τ vs)[j]? = if j ∈ vs ∧ j < τ.length then some none else τ[j]? := by
    intro vs
    induction vs with
    | nil => intro τ; simp [L2.wipe]
    | cons v vs ih =>
      intro τ
      unfold L2.wipe
      by_cases hj : v = j
      · subst hj
        by_cases hv : v < τ.length
        · rw [List.getElem?_set_self (by rw [wipe_length]; exact hv), if_pos ⟨List.mem_cons_self, hv⟩]
        · rw [List.getElem?_eq_none (by rw [List.length_set, wipe_length]; omega), if_neg (fun q => hv q.2), List.getElem?_eq_none (by omega)]
      · rw [List.getElem?_set_ne hj, ih τ]
        by_cases hm : j ∈ vs
        · simp [hm]
        · have : j ∉ v :: vs := by
            rw [List.mem_cons, not_or]
            exact ⟨fun q => hj q.symm, hm⟩
          simp [hm, this]
  rw [key vs σ', key vs σ, hl]
  by_cases hm : j ∈ vs
  · by_cases hj : j < σ.length
    · simp [hm, hj]
    · simp only [hm, hj, and_false, if_false]
      rw [List.getElem?_eq_none (by omega), List.getElem?_eq_none (by omega)]
  · simp only [hm, false_and, if_false]
    exact ho j hm
theorem wipe_wipe (σ : St) (vs : List Nat) : L2.wipe (L2.wipe σ vs) vs = L2.wipe σ vs := by
  refine (wipe_eq (by rw [wipe_length]) fun j hj => ?_)
  have key : ∀ (vs : List Nat), j ∉ vs → (L2.wipe σ vs)[j]? = σ[j]? := by
    intro vs
    induction vs with
    | nil => intro _; rfl
    | cons v vs ih =>
      intro hv
      rw [List.mem_cons, not_or] at hv
      unfold L2.wipe
      rw [List.getElem?_set_ne (fun q => hv.1 q.symm), ih hv.2]
  exact key vs hj
abbrev STs (X : Cx) (ifs : List Expr) (m : Mir.TM) : Prop := PTs X ifs (rdT X.K m)
theorem sts_nil : STs X [] Mir.tYes := ⟨fun pins s σ H Q I ⟨G0, H0, G, ρ, b, r, hm, k⟩ => pts_nil.run pins s σ H Q I (by
  cases hm
  exact k _ _ (.refl r.gh))⟩
theorem sts_one {c : Expr} {t : Mir.TM} (h : ET X c t) : STs X [c] t := pts_one h
/-- the reading of a comprehension -/
theorem lc_rd {wi : TI} {g : TG} {tt : TT} {te : TE} {vs is : List Nat} {it : Mir.EL} {tg : Mir.GM} {c : Mir.TM} {m : Mir.EM} (hi : ∀ j ∈ is, j ∈ vs) {σ : St} {H : Hp} {Q : VK} (h : rdN X.K (Mir.lc it vs tg c m) σ H Q) :
    tLc (rdI X.K it) (rdG X.K is tg) (rdT X.K c) (rdV X.K m) vs σ H Q := by
  obtain ⟨G0, H0, G, ρ, d, r, hm, k⟩ := h
  simp only [Mir.lc, Option.bind_eq_some_iff] at hm
  obtain ⟨ds, hds, ys, hys, hd⟩ := hm
  cases hd
  refine ⟨G0, H0, G, ρ, ds, r, hds, fun J G1 H1 st1 hJ Dl hD => ?_⟩
  have hD0 : H Dl = none := st1.h.back hD
  refine ⟨fun i n H' => n = ds.length - i ∧ i ≤ ds.length ∧ ∃ G' ws zs rs, Stp G H G' H' ∧ Ex G1 G' ∧ H' Dl = some (.lst ws) ∧ G' Dl = none ∧ AtL X.K G' ws zs ∧ zs.length ≤ i ∧
    Mir.lcGo tg c m (Mir.wipe ρ vs) (ds.drop i) = some rs ∧ zs ++ rs = ys, ⟨ds.length, by omega, Nat.zero_le _, G1, [], [], ys, ?_, Ex.refl _, upd_same, st1.gh.back hD, .nil, Nat.zero_le _, hys, rfl⟩, ?_⟩
  · exact st1.trans (.own st1.gh hD)
  rintro i n H' ⟨rfl, hi0, G', ws, zs, rs, st, e1, hl, gl, al, lz, hgo, happ⟩
  by_cases hlt : i < ds.length
  · refine .inr ?_
    have hd := List.getElem?_eq_getElem hlt
    rw [List.drop_eq_getElem_cons hlt] at hgo
    generalize ds[i] = d at hd hgo
    obtain ⟨g1, g2⟩ := hJ.go i d G' H' e1 st.gh hd
    simp only [Mir.lcGo, Option.bind_eq_some_iff] at hgo
    obtain ⟨ρ1, hρ1, b, hb, hgo⟩ := hgo
    refine ⟨g1, fun H'' => ∃ G' ws zs rs, Stp G H G' H'' ∧ Ex G1 G' ∧ H'' Dl = some (.lst ws) ∧ G' Dl = none ∧ AtL X.K G' ws zs ∧ zs.length ≤ i + 1 ∧ Mir.lcGo tg c m (Mir.wipe ρ vs) (ds.drop (i + 1)) = some rs ∧ zs ++ rs = ys, fun H'' hN => ⟨ds.length - (i + 1), by omega, rfl, hlt, hN⟩, fun x Hx hy => ?_⟩
    obtain ⟨Gx, stx, ax⟩ := g2 x Hx hy
    have rx : Rel X.K G0 H0 Gx Hx (L2.wipe σ vs) (Mir.wipe ρ vs) := ((r.stp st).stp stx).wipe vs
    refine ⟨G0, H0, Gx, _, d, ρ1, rx, ax, hρ1, fun σ2 r2 l2 o2 => ⟨?_, ?_⟩⟩
    · rw [wipe_eq l2 fun j hj => o2 j fun q => hj (hi j q), wipe_wipe]
    refine ⟨G0, H0, Gx, ρ1, b, r2, hb, fun G3 H3 st3 => ?_⟩
    have stA := (st.trans stx).trans st3
    have hl3 : H3 Dl = some (.lst ws) := st3.h.l (stx.h.l hl)
    have gl3 : G3 Dl = none := by
      rw [st3.fr Dl (some_ne (stx.h.l hl)), stx.fr Dl (some_ne hl), gl]
    cases b with
    | true =>
      rw [if_pos rfl] at hgo
      simp only [Option.bind_eq_some_iff] at hgo
      obtain ⟨y, hy, ys', hys', e⟩ := hgo
      cases e
      refine iteT ?_
      refine ⟨G0, H0, G3, ρ1, y, r2.stp st3, hy, fun v G4 H4 st4 a4 => ⟨ws, st4.h.l hl3, ?_, ?_⟩⟩
      · rw [al.len]
        have := hJ.sz
        omega
      · have gl4 : G4 Dl = none := by rw [st4.fr Dl (some_ne hl3), gl3]
        have stB := stA.trans st4
        refine ⟨G4, ws ++ [v], zs ++ [y], ys', ⟨stB.g, stB.h.mut hD0 (fun u hu => by rw [st4.h.l hl3] at hu; cases hu; exact NoT.l) _, stB.gh.mut gl4 (fun u hu => by rw [st4.h.l hl3] at hu; cases hu; exact NoT.l) _, stB.fr⟩, e1.trans ((stx.trans st3).trans st4).g, upd_same, gl4, ?_, ?_, hys', by rw [List.append_assoc]; exact happ⟩
        · exact (al.mono ((stx.trans st3).trans st4).g).app (.cons a4 .nil)
        · rw [List.length_append, List.length_singleton]
          omega
    | false =>
      rw [if_neg (by decide)] at hgo
      refine iteF ?_
      exact ⟨G3, ws, zs, rs, stA, e1.trans (stx.trans st3).g, hl3, gl3, al.mono (stx.trans st3).g, by omega, hgo, happ⟩
  · refine .inl ⟨hJ.stop i G' H' e1 st.gh (by omega), ?_⟩
    rw [List.drop_eq_nil_of_le (by omega)] at hgo
    cases hgo
    rw [List.append_nil] at happ
    subst happ
    exact k _ G' H' st (.inr ⟨Dl, ws, zs, rfl, rfl, hD0, gl, hl, al⟩)
theorem en_lc {elt tg iter : Expr} {ifs : List Expr} {scope : Scope} {own : List (Str × Nat)} {is : List Nat} {it : Mir.EL} {g : Mir.GM} {c : Mir.TM} {m : Mir.EM} (hc : X.calm = true) (hN : X.N.Nodup) (ok : BlkOk X.N X.env.scope scope own) (hi : SI X tg iter it)
    (hg : ∀ (s : Shared) (H : Hp) (C : Addr) (cl : List (Str × Addr)) (fp : List Addr), SG (X.blk s H scope (compEnvC scope cl C X.env) fp) tg is g) (ht : ∀ (s : Shared) (H : Hp) (C : Addr) (cl : List (Str × Addr)) (fp : List Addr), STs (X.blk s H scope (compEnvC scope cl C X.env) fp) ifs c)
    (he : ∀ (s : Shared) (H : Hp) (C : Addr) (cl : List (Str × Addr)) (fp : List Addr), EV (X.blk s H scope (compEnvC scope cl C X.env) fp) elt m) (his : ∀ j ∈ is, j ∈ own.map (·.2) := by decide) (hs : ∀ x, foldedSetIterable iter X.env x = pure x := by intro _; rfl) :
    EN X (.ListComp elt [⟨tg, iter, ifs, 0⟩] scope pos) (Mir.lc it (own.map (·.2)) g c m) :=
  pe_imp (pe_lc hc hN hi ok hg ht he hs) fun _ _ _ _ _ _ h => lc_rd (wi := rdI X.K it) (g := rdG X.K is g) (tt := rdT X.K c) (te := rdV X.K m) his h
end
end Snd
set_option Elab.async false
set_option linter.all false
set_option maxRecDepth 100000
set_option maxHeartbeats 4000000
/-! Snd7: statements, defs. -/
namespace Snd
open PySem L2 LamX
variable [TC : TabCtx]
section
variable {K : PySem.W.Frag} {G0 H0 G H G' H' : Hp} {σ σ' : St} {ρ : Mir.Env}
/-- the heap is another one, slots' things all the same but what slot i holds -/
theorem Rel.change (r : Rel K G0 H0 G H σ ρ) {i : Nat} {l : Addr} {s0 s : Mir.Sl} (e0 : Mir.slot ρ i = s0) (hm : mutSl s0 = true) (hl : σ[i]? = some (some (.ref l))) (n0 : H0 l = none) (gl : G l = none) {o u0 : HO} (hu : H l = some u0) (nt : NoT u0)
    (hs : SlAt K H0 G (upd H l o) σ[i]? s) : Rel K G0 H0 G (upd H l o) σ (Mir.put ρ i s) where
  gg := r.gg
  hh := r.hh.mut n0 (fun u h => by rw [hu] at h; cases h; exact nt) o
  gh := r.gh.mut gl (fun u h => by rw [hu] at h; cases h; exact nt) o
  tb := fun p hp => tabS_at (r.tb p hp) (fun ps h => by
    have : p.1 ≠ l := fun q => by
      rw [q, hu] at h
      exact nt.1 ps (Option.some.inj h)
    rw [upd_ne this]
    exact h) fun c q h => by
    have : c ≠ l := fun z => by
      rw [z, hu] at h
      exact nt.2 c q (Option.some.inj (by rw [z]; exact h))
    rw [upd_ne this]
    exact h
  fr := r.fr
  sl := fun j => by
    rw [slot_put]
    by_cases h : j = i ∧ i < ρ.length
    · rw [if_pos h, h.1]
      exact hs
    · rw [if_neg h]
      by_cases hj : j = i
      · subst hj
        rw [slot_out ρ j (by omega)]
        trivial
      · have q := r.sl j
        have apart : ∀ l' vs', mutSl (Mir.slot ρ j) = true → σ[j]? = some (some (.ref l')) → H l' = some vs' → (upd H l o) l' = some vs' := fun l' vs' hmj e h => by
          have : l' ≠ l := fun q => by
            subst q
            exact r.ds i j l' (Ne.symm hj) (by rw [e0]; exact hm) hmj hl e
          rw [upd_ne this]
          exact h
        generalize hsj : Mir.slot ρ j = sj at q apart
        cases sj with
        | emp => trivial
        | frz d => exact q
        | own ds =>
          obtain ⟨l', vs, e, a1, a2, a3, a4⟩ := q
          exact ⟨l', vs, e, a1, a2, apart l' _ rfl e a3, a4⟩
        | dk ds =>
          obtain ⟨l', vs, e, a1, a2, a3, a4⟩ := q
          exact ⟨l', vs, e, a1, a2, apart l' _ rfl e a3, a4⟩
        | dt ds =>
          obtain ⟨l', vs, e, a1, a2, a3, a4⟩ := q
          exact ⟨l', vs, e, a1, a2, apart l' _ rfl e a3, a4⟩
  ds := fun a b l' hab ha hb ea => by
    have key : ∀ c, mutSl (Mir.slot (Mir.put ρ i s) c) = true → mutSl (Mir.slot ρ c) = true := fun c hc => by
      rw [slot_put] at hc
      by_cases h : c = i ∧ i < ρ.length
      · rw [h.1, e0]; exact hm
      · rw [if_neg h] at hc
        exact hc
    exact r.ds a b l' hab (key a ha) (key b hb) ea
  ln := by
    rw [put_len]
    exact r.ln
/-- a list of the def's own is given away -/
theorem Rel.give (r : Rel K G0 H0 G H σ ρ) (i : Nat) : ∃ G', Ex G G' ∧ Rel K G0 H0 G' H σ (Mir.put ρ i (Mir.slot ρ i).freeze) := by
  have same : ∀ s, Mir.slot ρ i = s → (∀ ds, s ≠ .own ds) → ∃ G', Ex G G' ∧ Rel K G0 H0 G' H σ (Mir.put ρ i s.freeze) := fun s e0 ne => by
    have ef : s.freeze = s := by cases s <;> first | rfl | exact absurd rfl (ne _)
    rw [ef]
    refine ⟨G, Ex.refl _, r.gg, r.hh, r.gh, r.fr, fun j => ?_, fun a b l' hab ha hb ea => ?_, by rw [put_len]; exact r.ln, r.tb⟩
    · rw [slot_put]
      split
      · rename_i h
        rw [← e0, h.1]
        exact r.sl i
      · exact r.sl j
    · have key : ∀ c, mutSl (Mir.slot (Mir.put ρ i s) c) = true → mutSl (Mir.slot ρ c) = true := fun c hc => by
        rw [slot_put] at hc
        split at hc
        · rename_i h
          rw [h.1, e0]; exact hc
        · exact hc
      exact r.ds a b l' hab (key a ha) (key b hb) ea
  generalize e0 : Mir.slot ρ i = s
  cases s with
  | emp => exact same _ e0 (by intro _ z; cases z)
  | frz d => exact same _ e0 (by intro _ z; cases z)
  | dk d => exact same _ e0 (by intro _ z; cases z)
  | dt d => exact same _ e0 (by intro _ z; cases z)
  | own ds =>
    have q := r.sl i
    rw [e0] at q
    obtain ⟨l, vs, e, n0, gl, hl, al⟩ := q
    have ex : Ex G (upd G l (.lst vs)) := Ex.new gl
    refine ⟨upd G l (.lst vs), ex, r.gg.trans ex, r.hh, r.gh.give NoT.l hl, fun a ha => ?_, fun j => ?_, fun a b l' hab ha hb ea => ?_, by rw [put_len]; exact r.ln, r.tb⟩
    · have : a ≠ l := fun q => ha (by rw [q]; exact n0)
      rw [upd_ne this]
      exact r.fr a ha
    · rw [slot_put]
      split
      · rename_i h
        rw [h.1]
        exact ⟨_, e, .lst upd_same (al.mono ex)⟩
      · rename_i h
        by_cases hj : j = i
        · subst hj
          rw [slot_out ρ j (by omega)]
          trivial
        have q := r.sl j
        have apart : ∀ l', mutSl (Mir.slot ρ j) = true → σ[j]? = some (some (.ref l')) → G l' = none → (upd G l (.lst vs)) l' = none := fun l' hmj e' h => by
          have : l' ≠ l := fun q => by
            subst q
            exact r.ds i j l' (Ne.symm hj) (by rw [e0]; rfl) hmj e e'
          rw [upd_ne this]
          exact h
        generalize hsj : Mir.slot ρ j = sj at q apart
        cases sj with
        | emp => trivial
        | frz d =>
          obtain ⟨v, e, a⟩ := q
          exact ⟨v, e, a.mono ex⟩
        | own ds =>
          obtain ⟨l', vs, e, a1, a2, a3, a4⟩ := q
          exact ⟨l', vs, e, a1, apart l' rfl e a2, a3, a4.mono ex⟩
        | dk ds =>
          obtain ⟨l', vs, e, a1, a2, a3, a4⟩ := q
          exact ⟨l', vs, e, a1, apart l' rfl e a2, a3, a4.mono ex⟩
        | dt ds =>
          obtain ⟨l', vs, e, a1, a2, a3, a4⟩ := q
          exact ⟨l', vs, e, a1, apart l' rfl e a2, a3, a4.mono ex⟩
    · have key : ∀ c, mutSl (Mir.slot (Mir.put ρ i (.frz (.lst ds))) c) = true → mutSl (Mir.slot ρ c) = true := fun c hc => by
        rw [slot_put] at hc
        split at hc
        · cases hc
        · exact hc
      exact r.ds a b l' hab (key a ha) (key b hb) ea
theorem Rel.freeze : ∀ (is : List Nat) {G : Hp} {ρ : Mir.Env}, Rel K G0 H0 G H σ ρ → ∃ G', Ex G G' ∧ Rel K G0 H0 G' H σ (Mir.freeze ρ is)
  | [], G, ρ, r => ⟨G, Ex.refl _, r⟩
  | i :: is, G, ρ, r => by
    obtain ⟨G1, e1, r1⟩ := r.give i
    obtain ⟨G2, e2, r2⟩ := Rel.freeze is r1
    exact ⟨G2, e1.trans e2, r2⟩
/-- a slot gets a list that is new -/
theorem Rel.getOwn {G1 H1 : Hp} (r0 : Rel K G0 H0 G1 H1 σ ρ) (st : Stp G1 H1 G H) (i : Nat) {v : V} {d : D} (a : AtN K H1 G H v d) : Rel K G0 H0 G H (σ.set i (some v)) (Mir.put ρ i (Mir.asOwn d)) := by
  have r := r0.stp st
  rcases a with ⟨nl, a⟩ | ⟨l, vs, ds, rfl, rfl, n1, gl, hl, al⟩
  · have : Mir.asOwn d = .frz d := by cases d <;> first | rfl | exact absurd rfl (nl _)
    rw [this]
    exact r.set i a
  · have n0 : H0 l = none := r0.hh.back n1
    have noref : ∀ b, b ≠ i → mutSl (Mir.slot ρ b) = true → σ[b]? ≠ some (some (.ref l)) := fun b hb hm eb => by
      have q := r0.sl b
      have fin : ∀ l' o, σ[b]? = some (some (.ref l')) → H1 l' = some o → False := fun l' o e h => by
        rw [eb] at e
        cases e
        rw [n1] at h
        cases h
      generalize hsb : Mir.slot ρ b = sb at q hm
      cases sb with
      | emp => cases hm
      | frz d => cases hm
      | own ds =>
        obtain ⟨l', vs, e, a1, a2, a3, a4⟩ := q
        exact fin l' _ e a3
      | dk ds =>
        obtain ⟨l', vs, e, a1, a2, a3, a4⟩ := q
        exact fin l' _ e a3
      | dt ds =>
        obtain ⟨l', vs, e, a1, a2, a3, a4⟩ := q
        exact fin l' _ e a3
    refine ⟨r.gg, r.hh, r.gh, r.fr, fun j => ?_, fun a b l' hab ha hb ea eb => ?_, by rw [put_len, List.length_set]; exact r.ln, r.tb⟩
    · rw [slot_put]
      split
      · rename_i h
        rw [h.1]
        exact ⟨l, vs, by rw [List.getElem?_set_self (Nat.lt_of_lt_of_le h.2 r.ln)], n0, gl, hl, al⟩
      · rename_i h
        by_cases hj : j = i
        · subst hj
          rw [slot_out ρ j (by omega)]
          trivial
        · rw [List.getElem?_set_ne (Ne.symm hj)]
          exact r.sl j
    · have lt : ∀ c, mutSl (Mir.slot (Mir.put ρ i (Mir.asOwn (.lst ds))) c) = true → c < ρ.length := fun c hc => by
        have : c < (Mir.put ρ i (Mir.asOwn (.lst ds))).length := slot_in fun z => by rw [z] at hc; cases hc
        rwa [put_len] at this
      have old : ∀ c, c ≠ i → mutSl (Mir.slot (Mir.put ρ i (Mir.asOwn (.lst ds))) c) = true → mutSl (Mir.slot ρ c) = true := fun c hc h => by
        rw [slot_put, if_neg fun z => hc z.1] at h
        exact h
      have at_i : i < ρ.length → ∀ l'', (σ.set i (some (V.ref l)))[i]? = some (some (.ref l'')) → l'' = l := fun hi l'' e => by
        rw [List.getElem?_set_self (Nat.lt_of_lt_of_le hi r.ln)] at e
        cases e
        rfl
      by_cases h1 : a = i
      · subst h1
        have := at_i (lt a ha) _ ea
        subst this
        rw [List.getElem?_set_ne hab] at eb
        exact noref b (Ne.symm hab) (old b (Ne.symm hab) hb) eb
      · rw [List.getElem?_set_ne (Ne.symm h1)] at ea
        by_cases h2 : b = i
        · subst h2
          have := at_i (lt b hb) _ eb
          subst this
          exact noref a h1 (old a h1 ha) ea
        · rw [List.getElem?_set_ne (Ne.symm h2)] at eb
          exact r.ds a b l' hab (old a h1 ha) (old b h2 hb) ea eb
/-- a slot gets a dict that is new -/
theorem Rel.getNew (r : Rel K G0 H0 G H σ ρ) (i : Nat) {l : Addr} {o : HO} {s : Mir.Sl} (hp : H l = none) (hs : SlAt K H0 G (upd H l o) (some (some (.ref l))) s) (hm : mutSl s = true) : Rel K G0 H0 G (upd H l o) (σ.set i (some (.ref l))) (Mir.put ρ i s) := by
  have st : Stp G H G (upd H l o) := .own r.gh hp
  have r2 := r.stp st
  have noref : ∀ b, b ≠ i → mutSl (Mir.slot ρ b) = true → σ[b]? ≠ some (some (.ref l)) := fun b hb hm eb => by
    have q := r.sl b
    have fin : ∀ l' o, σ[b]? = some (some (.ref l')) → H l' = some o → False := fun l' o e h => by
      rw [eb] at e
      cases e
      rw [hp] at h
      cases h
    generalize hsb : Mir.slot ρ b = sb at q hm
    cases sb with
    | emp => cases hm
    | frz d => cases hm
    | own ds =>
      obtain ⟨l', vs, e, a1, a2, a3, a4⟩ := q
      exact fin l' _ e a3
    | dk ds =>
      obtain ⟨l', vs, e, a1, a2, a3, a4⟩ := q
      exact fin l' _ e a3
    | dt ds =>
      obtain ⟨l', vs, e, a1, a2, a3, a4⟩ := q
      exact fin l' _ e a3
  refine ⟨r2.gg, r2.hh, r2.gh, r2.fr, fun j => ?_, fun a b l' hab ha hb ea eb => ?_, by rw [put_len, List.length_set]; exact r2.ln, r2.tb⟩
  · rw [slot_put]
    split
    · rename_i h
      rw [h.1, List.getElem?_set_self (Nat.lt_of_lt_of_le h.2 r2.ln)]
      exact hs
    · rename_i h
      by_cases hj : j = i
      · subst hj
        rw [slot_out ρ j (by omega)]
        trivial
      · rw [List.getElem?_set_ne (Ne.symm hj)]
        exact r2.sl j
  · have lt : ∀ c, mutSl (Mir.slot (Mir.put ρ i s) c) = true → c < ρ.length := fun c hc => by
      have : c < (Mir.put ρ i s).length := slot_in fun z => by rw [z] at hc; cases hc
      rwa [put_len] at this
    have old : ∀ c, c ≠ i → mutSl (Mir.slot (Mir.put ρ i s) c) = true → mutSl (Mir.slot ρ c) = true := fun c hc h => by
      rw [slot_put, if_neg fun z => hc z.1] at h
      exact h
    have at_i : i < ρ.length → ∀ l'', (σ.set i (some (V.ref l)))[i]? = some (some (.ref l'')) → l'' = l := fun hi l'' e => by
      rw [List.getElem?_set_self (Nat.lt_of_lt_of_le hi r2.ln)] at e
      cases e
      rfl
    by_cases h1 : a = i
    · subst h1
      have := at_i (lt a ha) _ ea
      subst this
      rw [List.getElem?_set_ne hab] at eb
      exact noref b (Ne.symm hab) (old b (Ne.symm hab) hb) eb
    · rw [List.getElem?_set_ne (Ne.symm h1)] at ea
      by_cases h2 : b = i
      · subst h2
        have := at_i (lt b hb) _ eb
        subst this
        exact noref a h1 (old a h1 ha) ea
      · rw [List.getElem?_set_ne (Ne.symm h2)] at eb
        exact r2.ds a b l' hab (old a h1 ha) (old b h2 hb) ea eb
end
section
variable {X : Cx} {e a b c tg iter : Expr} {st : Stmt} {sts body els : List Stmt} {pos : Pos} {m m1 m2 : Mir.SM} {me : Mir.EM} {t : Mir.TM}
theorem ss_nil : SSs X [] Mir.skip := pss_imp pss_nil fun _ _ σ H Dd _ ⟨G0, H0, G, ρ, o, r, hm, k⟩ => by
  cases hm
  exact k _ _ _ r
theorem ss_cons (h1 : SS X st m1) (h2 : SSs X sts m2) : SSs X (st :: sts) (Mir.seq m1 m2) := pss_imp (pss_cons h1 h2) fun _ _ σ H Dd _ ⟨G0, H0, G, ρ, o, r, hm, k⟩ => by
  simp only [Mir.seq, Option.bind_eq_some_iff] at hm
  obtain ⟨o1, h1, h2⟩ := hm
  refine ⟨G0, H0, G, ρ, o1, r, h1, ?_⟩
  cases o1 with
  | next ρ' => exact fun σ' G' H' r' => ⟨G0, H0, G', ρ', o, r', h2, k⟩
  | ret d => cases h2; exact k
  | brk ρ' => cases h2; exact k
  | cont ρ' => cases h2; exact k
theorem ss_one (h1 : SS X st m1) : SSs X [st] m1 := pss_one h1
theorem ss_pass : SS X (.Pass pos) Mir.skip := ps_imp ps_pass fun _ _ σ H Dd _ ⟨G0, H0, G, ρ, o, r, hm, k⟩ => by
  cases hm
  exact k _ _ _ r
theorem ss_break : SS X (.Break pos) Mir.brk := ps_imp ps_break fun _ _ σ H Dd _ ⟨G0, H0, G, ρ, o, r, hm, k⟩ => by
  cases hm
  exact k _ _ _ r
theorem ss_continue : SS X (.Continue pos) Mir.cont := ps_imp ps_continue fun _ _ σ H Dd _ ⟨G0, H0, G, ρ, o, r, hm, k⟩ => by
  cases hm
  exact k _ _ _ r
theorem ss_never : SS X st Mir.never := ps_imp ps_never fun _ _ σ H Dd _ ⟨G0, H0, G, ρ, o, r, hm, k⟩ => by cases hm
theorem ss_frz (is : List Nat) (h : SS X st m) : SS X st (Mir.frz is m) := ps_imp h fun _ _ σ H Dd _ ⟨G0, H0, G, ρ, o, r, hm, k⟩ => by
  obtain ⟨G', ex, r'⟩ := r.freeze is
  exact ⟨G0, H0, G', _, o, r', hm, k⟩
theorem ss_asg {is : List Nat} {g : Mir.GM} (he : EV X e me) (hg : SG X tg is g) (hs : swapsWithSole [tg] e pos.line X.env = pure false := by rfl) (hw : swappedStores [tg] e X.env = pure none := by rfl) (h1 : (assignEach [tg] X.env).map (·.2) = [assign tg X.env] := by rfl) :
    SS X (.Assign [tg] e pos) (Mir.asg g me) := ps_imp (ps_asg he hg hs hw h1) fun _ _ σ H Dd _ ⟨G0, H0, G, ρ, o, r, hm, k⟩ => by
  simp only [Mir.asg, Option.bind_eq_some_iff] at hm
  obtain ⟨d, hd, ρ', hg, e⟩ := hm
  cases e
  exact ⟨G0, H0, G, ρ, d, r, hd, fun v G1 H1 st1 a1 => ⟨G0, H0, G1, ρ, d, ρ', r.stp st1, a1, hg, fun σ' r' _ _ => k _ _ _ r'⟩⟩
theorem ss_asgO (i : Nat) {x : Str} {pos' : Pos} (hN : X.N.Nodup) (he : EN X e me) (hi : X.N[i]? = some x := by rfl) (hx : Loc X.env.scope x := by first | exact Or.inl rfl | exact Or.inr rfl) (hs : swapsWith e (some (.Name x pos')) pos.line X.env = pure false := by rfl)
    (hf : X.fn x = true ∨ X.env.scope.names.lookup x = some .local := by first | exact .inl rfl | exact .inr rfl) :
    SS X (.Assign [.Name x pos'] e pos) (Mir.asgO i me) := ps_imp (ps_set hN hi hx he hs hf) fun _ _ σ H Dd _ ⟨G0, H0, G, ρ, o, r, hm, k⟩ => by
  simp only [Mir.asgO, Option.bind_eq_some_iff] at hm
  obtain ⟨d, hd, e⟩ := hm
  cases e
  exact ⟨G0, H0, G, ρ, d, r, hd, fun v G1 H1 st1 a1 => k _ _ _ (r.getOwn st1 i a1)⟩
section
variable {elt : Expr} {ifs : List Expr} {scope : Scope} {own : List (Str × Nat)} {is : List Nat} {it : Mir.EL} {g : Mir.GM} {cc : Mir.TM} {py spos : Pos} {i : Nat} {y : Str}
/-- y = [..], y a local of the def: the comprehension stores it itself -/
theorem ss_lcO (i : Nat) (hc : X.calm = true) (hN : X.N.Nodup) (ok : BlkOk X.N X.env.scope scope own) (hi : SI X tg iter it)
    (hg : ∀ (s : Shared) (H : Hp) (C : Addr) (cl : List (Str × Addr)) (fp : List Addr), SG (X.blk s H scope (compEnvC scope cl C X.env) fp) tg is g) (ht : ∀ (s : Shared) (H : Hp) (C : Addr) (cl : List (Str × Addr)) (fp : List Addr), STs (X.blk s H scope (compEnvC scope cl C X.env) fp) ifs cc)
    (he : ∀ (s : Shared) (H : Hp) (C : Addr) (cl : List (Str × Addr)) (fp : List Addr), EV (X.blk s H scope (compEnvC scope cl C X.env) fp) elt me) (his : ∀ j ∈ is, j ∈ own.map (·.2) := by decide)
    (hy : X.N[i]? = some y := by rfl) (hyl : X.env.scope.names.lookup y = some .local := by rfl) (hsw : swapsWith (.ListComp elt [⟨tg, iter, ifs, 0⟩] scope pos) (some (.Name y py)) spos.line X.env = pure true := by exact sw_true rfl rfl rfl (by decide +kernel)) (hs : ∀ x, foldedSetIterable iter X.env x = pure x := by intro _; rfl) :
    SS X (.Assign [.Name y py] (.ListComp elt [⟨tg, iter, ifs, 0⟩] scope pos) spos) (Mir.asgO i (Mir.lc it (own.map (·.2)) g cc me)) :=
  ps_imp (ps_setLc hc hN hy hyl hsw hi ok hg ht he hs) fun _ _ σ H Dd _ ⟨G0, H0, G, ρ, o, r, hm, k⟩ => by
    simp only [Mir.asgO, Option.bind_eq_some_iff] at hm
    obtain ⟨d, hd, e⟩ := hm
    cases e
    exact lc_rd (wi := rdI X.K it) (g := rdG X.K is g) (tt := rdT X.K cc) (te := rdV X.K me) his ⟨G0, H0, G, ρ, d, r, hd, fun v G1 H1 st1 a1 => k _ _ _ (r.getOwn st1 i a1)⟩
theorem ss_lc (i : Nat) (hc : X.calm = true) (hN : X.N.Nodup) (ok : BlkOk X.N X.env.scope scope own) (hi : SI X tg iter it)
    (hg : ∀ (s : Shared) (H : Hp) (C : Addr) (cl : List (Str × Addr)) (fp : List Addr), SG (X.blk s H scope (compEnvC scope cl C X.env) fp) tg is g) (ht : ∀ (s : Shared) (H : Hp) (C : Addr) (cl : List (Str × Addr)) (fp : List Addr), STs (X.blk s H scope (compEnvC scope cl C X.env) fp) ifs cc)
    (he : ∀ (s : Shared) (H : Hp) (C : Addr) (cl : List (Str × Addr)) (fp : List Addr), EV (X.blk s H scope (compEnvC scope cl C X.env) fp) elt me) (his : ∀ j ∈ is, j ∈ own.map (·.2) := by decide)
    (hy : X.N[i]? = some y := by rfl) (hyl : X.env.scope.names.lookup y = some .local := by rfl) (hsw : swapsWith (.ListComp elt [⟨tg, iter, ifs, 0⟩] scope pos) (some (.Name y py)) spos.line X.env = pure true := by exact sw_true rfl rfl rfl (by decide +kernel)) (hs : ∀ x, foldedSetIterable iter X.env x = pure x := by intro _; rfl) :
    SS X (.Assign [.Name y py] (.ListComp elt [⟨tg, iter, ifs, 0⟩] scope pos) spos) (Mir.asg (Mir.gN i) (Mir.lc it (own.map (·.2)) g cc me)) :=
  ps_imp (ps_setLc hc hN hy hyl hsw hi ok hg ht he hs) fun _ _ σ H Dd _ ⟨G0, H0, G, ρ, o, r, hm, k⟩ => by
    simp only [Mir.asg, Option.bind_eq_some_iff] at hm
    obtain ⟨d, hd, ρ', hg', e⟩ := hm
    cases e
    cases hg'
    refine lc_rd (wi := rdI X.K it) (g := rdG X.K is g) (tt := rdT X.K cc) (te := rdV X.K me) his ⟨G0, H0, G, ρ, d, r, hd, fun v G1 H1 st1 a1 => ?_⟩
    obtain ⟨G2, st2, a2⟩ := a1.v st1
    exact k _ _ _ ((r.stp st2).set i a2)
end
theorem ss_if (hc : ET X c t) (ha : SSs X body m1) (hb : SSs X els m2) : SS X (.If c body els pos) (Mir.iff t m1 m2) := ps_imp (ps_if hc ha hb) fun _ _ σ H Dd _ ⟨G0, H0, G, ρ, o, r, hm, k⟩ => by
  simp only [Mir.iff, Option.bind_eq_some_iff] at hm
  obtain ⟨b, hb, hf⟩ := hm
  refine ⟨G0, H0, G, ρ, b, r, hb, fun G1 H1 st1 => ?_⟩
  cases b with
  | true =>
    rw [if_pos rfl] at hf ⊢
    exact ⟨G0, H0, G1, ρ, o, r.stp st1, hf, k⟩
  | false =>
    rw [if_neg (by decide)] at hf ⊢
    exact ⟨G0, H0, G1, ρ, o, r.stp st1, hf, k⟩
theorem ss_ret (he : EV X e me) : SS X (.Return (some e) pos) (Mir.ret me) := ps_imp (ps_ret he) fun _ _ σ H Dd _ ⟨G0, H0, G, ρ, o, r, hm, k⟩ => by
  simp only [Mir.ret, Option.bind_eq_some_iff] at hm
  obtain ⟨d, hd, e⟩ := hm
  cases e
  exact ⟨G0, H0, G, ρ, d, r, hd, fun v G1 H1 st1 a1 => k _ _ _ (r.fin.stp st1) a1⟩
theorem ss_retN : SS X (.Return none pos) Mir.retN := ps_imp ps_retN fun _ _ σ H Dd _ ⟨G0, H0, G, ρ, o, r, hm, k⟩ => by
  cases hm
  exact k _ _ _ r.fin .non
theorem ss_drop (he : EB X e me) (hs : swapsWith e none pos.line X.env = pure false := by rfl) : SS X (.Expr e pos) (Mir.drop me) := ps_imp (ps_expr he hs) fun _ _ σ H Dd _ ⟨G0, H0, G, ρ, o, r, hm, k⟩ => by
  simp only [Mir.drop, Option.bind_eq_some_iff] at hm
  obtain ⟨d, hd, e⟩ := hm
  cases e
  exact ⟨G0, H0, G, ρ, d, r, hd, fun v G1 H1 st1 a1 => k _ _ _ (r.stp st1)⟩
/-- x += e of ints -/
theorem ss_aug (i : Nat) {x : Str} {pos' : Pos} (hN : X.N.Nodup) (he : EV X e me) (hi : X.N[i]? = some x := by rfl) (hx : Loc X.env.scope x := by first | exact Or.inl rfl | exact Or.inr rfl) (hf : X.fn x = true ∨ X.env.scope.names.lookup x = some .local := by first | exact .inl rfl | exact .inr rfl) :
    SS X (.AugAssign (.Name x pos') .Add e pos) (Mir.asg (Mir.gN i) (Mir.o2 Mir.addI (Mir.vV i) me)) := ps_imp (ps_aug hN hi hx he ip_add hf) fun _ _ σ H Dd _ ⟨G0, H0, G, ρ, o, r, hm, k⟩ => by
  simp only [Mir.asg, Mir.o2, Option.bind_eq_some_iff] at hm
  obtain ⟨d, ⟨dx, hx, dy, hy, hf⟩, ρ', hg, e⟩ := hm
  cases e
  have q := r.sl i
  unfold Mir.vV at hx
  split at hx
  · rename_i d' es
    cases hx
    rw [es] at q
    obtain ⟨v, ev, av⟩ := q
    refine ⟨v, ev, G0, H0, G, ρ, dy, r, hy, fun w G1 H1 st1 a1 => ?_⟩
    unfold Mir.addI at hf
    split at hf
    · cases hf
      cases av
      cases a1
      cases hg
      exact ⟨_, _, rfl, rfl, k _ _ _ ((r.stp st1).set i (.int _))⟩
    · cases hf
  · cases hx

/-! ### loops -/
theorem after_unbase {G1 : Hp} {G0 H0 : Hp} {K : PySem.W.Frag} {Dd : Ends} (g : Ex G0 G1) (f : ∀ a, H0 a ≠ none → G1 a = G0 a) {o : Mir.Out} (k : after K G0 H0 Dd o) : after K G1 H0 Dd o := by
  cases o with
  | next ρ => exact fun σ' G' H' r => k σ' G' H' (r.unbase g f)
  | brk ρ => exact fun σ' G' H' r => k σ' G' H' (r.unbase g f)
  | cont ρ => exact fun σ' G' H' r => k σ' G' H' (r.unbase g f)
  | ret d => exact fun v G' H' r => k v G' H' (r.unbase g f)
theorem ss_for {is : List Nat} {it : Mir.EL} {g : Mir.GM} (hp : PassesOwn (model X.prog X.w) X.A X.env X.xe) (hc : X.calm = true) (hi : SI X tg iter it) (hg : SG X tg is g) (hb : SSs X body m) (hs : ∀ x, foldedSetIterable iter X.env x = pure x := by intro _; rfl) :
    SS X (.For tg iter body [] pos) (Mir.forS it g m) := ps_imp (ps_for hp hc hi hg hb hs) fun _ _ σ H Dd _ ⟨G0, H0, G, ρ, o, r, hm, k⟩ => by
  simp only [Mir.forS, Option.bind_eq_some_iff] at hm
  obtain ⟨ds, hds, hgo⟩ := hm
  refine ⟨G0, H0, G, ρ, ds, r, hds, fun J G1 H1 st1 hJ => ?_⟩
  have r1 := r.stp st1
  have k1 : after X.K G1 H0 Dd o := after_unbase (r.gg.trans st1.g) r1.fr k
  refine ⟨fun i n σ' H' => n = ds.length - i ∧ i ≤ ds.length ∧ ∃ G' ρ', Rel X.K G1 H0 G' H' σ' ρ' ∧ Mir.forGo g m (ds.drop i) ρ' = some o, ⟨ds.length, by omega, Nat.zero_le _, G1, ρ, r1.rebase, hgo⟩, ?_⟩
  rintro i n σ' H' ⟨rfl, hi0, G', ρ', r', hgo⟩
  by_cases hlt : i < ds.length
  · refine .inr ?_
    have hd := List.getElem?_eq_getElem hlt
    rw [List.drop_eq_getElem_cons hlt] at hgo
    generalize ds[i] = d at hd hgo
    obtain ⟨g1, g2⟩ := hJ.go i d G' H' r'.gg r'.gh hd
    simp only [Mir.forGo, Option.bind_eq_some_iff] at hgo
    obtain ⟨ρ1, hρ1, ob, hob, hgo⟩ := hgo
    refine ⟨g1, fun σ2 H2 => ∃ G' ρ', Rel X.K G1 H0 G' H2 σ2 ρ' ∧ Mir.forGo g m (ds.drop (i + 1)) ρ' = some o, fun σ2 H2 ⟨G2, ρ2, r2, h2⟩ => ⟨ds.length - (i + 1), by omega, rfl, hlt, G2, ρ2, r2, h2⟩, fun x Hx hy => ?_⟩
    obtain ⟨Gx, stx, ax⟩ := g2 x Hx hy
    refine ⟨G1, H0, Gx, ρ', d, ρ1, r'.stp stx, ax, hρ1, fun σ2 r2 _ _ => ⟨G1, H0, Gx, ρ1, ob, r2, hob, ?_⟩⟩
    cases ob with
    | next ρ2 => exact fun σ3 G3 H3 r3 => ⟨G3, ρ2, r3, hgo⟩
    | cont ρ2 => exact fun σ3 G3 H3 r3 => ⟨G3, ρ2, r3, hgo⟩
    | brk ρ2 =>
      cases hgo
      exact k1
    | ret d =>
      cases hgo
      exact k1
  · refine .inl ⟨hJ.stop i G' H' r'.gg r'.gh (by omega), ?_⟩
    rw [List.drop_eq_nil_of_le (by omega)] at hgo
    cases hgo
    exact k1 _ _ _ r'
theorem whGo_mono (t : Mir.TM) (m : Mir.SM) : ∀ (n : Nat) (ρ : Mir.Env) (o : Mir.Out), Mir.whGo t m n ρ = some o → Mir.whGo t m (n + 1) ρ = some o
  | 0, _, _, h => by cases h
  | n + 1, ρ, o, h => by
    rw [Mir.whGo] at h ⊢
    rw [Option.bind_eq_some_iff] at h ⊢
    obtain ⟨c, hc, h⟩ := h
    refine ⟨c, hc, ?_⟩
    split at h
    · rename_i hct
      rw [if_pos hct]
      rw [Option.bind_eq_some_iff] at h ⊢
      obtain ⟨o1, h1, h⟩ := h
      refine ⟨o1, h1, ?_⟩
      cases o1 with
      | next ρ' => exact whGo_mono t m n ρ' o h
      | cont ρ' => exact whGo_mono t m n ρ' o h
      | brk ρ' => exact h
      | ret d => exact h
    · rename_i hct
      rw [if_neg hct]
      exact h
theorem ss_while (hp : PassesOwn (model X.prog X.w) X.A X.env X.xe) (hc : ET X c t) (hb : SSs X body m) : SS X (.While c body [] pos) (Mir.whS t m) := ps_imp (ps_while hp hc hb) fun _ _ σ H Dd _ ⟨G0, H0, G, ρ, o, r, hm, k⟩ => by
  obtain ⟨n, hn⟩ : ∃ n, Mir.whGo t m n ρ = some o := by
    unfold Mir.whS at hm
    split at hm
    · rename_i h
      cases hm
      exact ⟨_, Classical.choose_spec (Classical.choose_spec h)⟩
    · cases hm
  refine ⟨fun n σ' H' => ∃ G' ρ', Rel X.K G0 H0 G' H' σ' ρ' ∧ Mir.whGo t m n ρ' = some o, ⟨n, G, ρ, r, hn⟩, ?_⟩
  rintro n σ' H' ⟨G', ρ', r', hn⟩
  cases n with
  | zero => cases hn
  | succ n =>
    rw [Mir.whGo, Option.bind_eq_some_iff] at hn
    obtain ⟨b, hb, hn⟩ := hn
    refine ⟨G0, H0, G', ρ', b, r', hb, fun G1 H1 st1 => ?_⟩
    have r1 := r'.stp st1
    cases b with
    | true =>
      rw [if_pos rfl] at hn
      rw [Option.bind_eq_some_iff] at hn
      obtain ⟨o1, h1, hn⟩ := hn
      refine iteT ?_
      refine ⟨fun σ2 H2 => ∃ G' ρ', Rel X.K G0 H0 G' H2 σ2 ρ' ∧ Mir.whGo t m n ρ' = some o, fun σ2 H2 h2 => ⟨n, by omega, h2⟩, G0, H0, G1, ρ', o1, r1, h1, ?_⟩
      cases o1 with
      | next ρ2 => exact fun σ3 G3 H3 r3 => ⟨G3, ρ2, r3, hn⟩
      | cont ρ2 => exact fun σ3 G3 H3 r3 => ⟨G3, ρ2, r3, hn⟩
      | brk ρ2 =>
        cases hn
        exact k
      | ret d =>
        cases hn
        exact k
    | false =>
      rw [if_neg (by decide)] at hn
      cases hn
      refine iteF ?_
      exact k _ _ _ r1
end
end Snd
set_option Elab.async false
set_option linter.all false
set_option maxRecDepth 100000
set_option maxHeartbeats 4000000
/-! Snd8: lists and dicts changed in their place; sorting; defs. -/
namespace Snd
open PySem L2 LamX
variable [TC : TabCtx]
section
variable {X : Cx} {e a b c tg : Expr} {pos : Pos} {me ma mb : Mir.EM}
/-- the slot's own list, as the machine has it -/
theorem Rel.own {K : PySem.W.Frag} {G0 H0 G H : Hp} {σ : St} {ρ : Mir.Env} (r : Rel K G0 H0 G H σ ρ) {i : Nat} {ds : List D} (h : Mir.slot ρ i = .own ds) : ∃ l vs, σ[i]? = some (some (.ref l)) ∧ H0 l = none ∧ G l = none ∧ H l = some (.lst vs) ∧ AtL K G vs ds := by
  have q := r.sl i
  rw [h] at q
  exact q
theorem ss_app (i : Nat) {x : Str} {p apos cpos spos : Pos} (he : EV X e me) (hN : X.N[i]? = some x := by rfl) (hv : Vis X.env.scope x := by first | exact Or.inl rfl | exact Or.inr (Or.inl rfl)) (hd : (x == ("__debug__" : Str)) = false := by decide) (hcd : (x == ("__classdict__" : Str)) = false := by decide)
    (hbase : attributeBase (.Name x p) "append" X.env (eval (.Name x p) X.env) = eval (.Name x p) X.env := by rfl)
    (hfew : ((backTo cpos (starEach [e] X.env)).all (fun x => !x.1) && (backToKw cpos (keywordEach [] X.env)).all (fun x => x.1.isSome) && decide (([e] : List Expr).length + ([] : List Keyword).length + (if ([] : List Keyword).isEmpty then 0 else 1) < 30)) = true := by rfl)
    (hline : (apos.endLine == cpos.line) = true := by rfl) (hs : starEach [e] X.env = (false, eval e X.env) :: starEach [] X.env := by rfl) (hsw : swapsWith (.Call (.Attribute (.Name x p) "append" apos) [e] [] cpos) none spos.line X.env = pure false := by rfl) :
    SS X (.Expr (.Call (.Attribute (.Name x p) "append" apos) [e] [] cpos) spos) (Mir.app i me) :=
  ps_imp (ps_expr (pe_bm PySem.F.plainAttrs_list PySem.F.slot_list_append PySem.F.type_list_append mt_append (pe_var hN hv hd hcd) (pa_cons he pa_nil hs) hbase hfew hline hs) hsw) fun _ _ σ H Dd _ ⟨G0, H0, G, ρ, o, r, hm, k⟩ => by
    simp only [Mir.app, Option.bind_eq_some_iff] at hm
    obtain ⟨d, hd, hm⟩ := hm
    split at hm
    · rename_i ds hsl
      split at hm <;> cases hm
      rename_i hz
      obtain ⟨l, vs, hl, n0, gl, hh, al⟩ := r.own hsl
      refine ⟨_, hl, .inl ⟨rfl, vs, SqL.of hh⟩, G0, H0, G, ρ, d, r, hd, fun v G1 H1 st1 a1 => ?_⟩
      have r1 := r.stp st1
      have hh1 := st1.h.l hh
      have gl1 : G1 l = none := by rw [st1.fr l (some_ne hh), gl]
      refine ⟨l, vs, v, rfl, rfl, hh1, by rw [al.len]; exact fits_lt hz, k _ _ _ (r1.change hsl rfl hl n0 gl1 hh1 NoT.l ⟨l, vs ++ [v], hl, n0, gl1, upd_same, (al.mono st1.g).app (.cons a1 .nil)⟩)⟩
    · cases hm
theorem ss_ext (i : Nat) {x : Str} {p apos cpos spos : Pos} (he : EV X e me) (hN : X.N[i]? = some x := by rfl) (hv : Vis X.env.scope x := by first | exact Or.inl rfl | exact Or.inr (Or.inl rfl)) (hd : (x == ("__debug__" : Str)) = false := by decide) (hcd : (x == ("__classdict__" : Str)) = false := by decide)
    (hbase : attributeBase (.Name x p) "extend" X.env (eval (.Name x p) X.env) = eval (.Name x p) X.env := by rfl)
    (hfew : ((backTo cpos (starEach [e] X.env)).all (fun x => !x.1) && (backToKw cpos (keywordEach [] X.env)).all (fun x => x.1.isSome) && decide (([e] : List Expr).length + ([] : List Keyword).length + (if ([] : List Keyword).isEmpty then 0 else 1) < 30)) = true := by rfl)
    (hline : (apos.endLine == cpos.line) = true := by rfl) (hs : starEach [e] X.env = (false, eval e X.env) :: starEach [] X.env := by rfl) (hsw : swapsWith (.Call (.Attribute (.Name x p) "extend" apos) [e] [] cpos) none spos.line X.env = pure false := by rfl) :
    SS X (.Expr (.Call (.Attribute (.Name x p) "extend" apos) [e] [] cpos) spos) (Mir.ext i me) :=
  ps_imp (ps_expr (pe_bm PySem.F.plainAttrs_list PySem.F.slot_list_extend PySem.F.type_list_extend mt_extend (pe_var hN hv hd hcd) (pa_cons he pa_nil hs) hbase hfew hline hs) hsw) fun _ _ σ H Dd _ ⟨G0, H0, G, ρ, o, r, hm, k⟩ => by
    simp only [Mir.ext, Option.bind_eq_some_iff] at hm
    obtain ⟨d, hd, hm⟩ := hm
    split at hm
    · rename_i ds es hsl
      split at hm <;> cases hm
      rename_i hz
      obtain ⟨l, vs, hl, n0, gl, hh, al⟩ := r.own hsl
      refine ⟨_, hl, .inl ⟨rfl, vs, SqL.of hh⟩, G0, H0, G, ρ, _, r, hd, fun v G1 H1 st1 a1 => ?_⟩
      have r1 := r.stp st1
      have hh1 := st1.h.l hh
      have gl1 : G1 l = none := by rw [st1.fr l (some_ne hh), gl]
      cases a1 with
      | lst hb ab =>
        refine ⟨l, _, vs, _, rfl, rfl, hh1, st1.gh.l hb, by rw [al.len, ab.len]; exact fits_line hz, k _ _ _ (r1.change hsl rfl hl n0 gl1 hh1 NoT.l ⟨l, _, hl, n0, gl1, upd_same, (al.mono st1.g).app ab⟩)⟩
    · cases hm
/-- x[k] = e -/
theorem ss_setI (i : Nat) {x : Str} {p p2 spos : Pos} (hk : EB X b mb) (he : EV X e me) (hN : X.N[i]? = some x := by rfl) (hv : Vis X.env.scope x := by first | exact Or.inl rfl | exact Or.inr (Or.inl rfl)) (hd : (x == ("__debug__" : Str)) = false := by decide) (hcd : (x == ("__classdict__" : Str)) = false := by decide)
    (ha : ∀ v, assign (.Subscript (.Name x p) b p2) X.env v = (do
      let ov ← holding [v] (eval (.Name x p) X.env)
      let iv ← holding [v, ov] (eval b X.env)
      standAt p2
      holding [v, ov, iv] (setItem ov iv v)
      release [v, ov, iv] []) := by intro _; rfl)
    (hs : swapsWithSole [.Subscript (.Name x p) b p2] e spos.line X.env = pure false := by rfl) (hw : swappedStores [.Subscript (.Name x p) b p2] e X.env = pure none := by rfl) (h1 : (assignEach [.Subscript (.Name x p) b p2] X.env).map (·.2) = [assign (.Subscript (.Name x p) b p2) X.env] := by rfl) :
    SS X (.Assign [.Subscript (.Name x p) b p2] e spos) (Mir.setI i mb me) :=
  ps_imp (ps_asg he (pg_sub (pe_var hN hv hd hcd) hk set_list ha) hs hw h1) fun _ _ σ H Dd _ ⟨G0, H0, G, ρ, o, r, hm, k⟩ => by
    simp only [Mir.setI, Option.bind_eq_some_iff] at hm
    obtain ⟨d, hd, kd, hkd, hm⟩ := hm
    split at hm
    · rename_i ds kk hsl
      rw [Option.bind_eq_some_iff] at hm
      obtain ⟨j, hj, hm⟩ := hm
      cases hm
      obtain ⟨l, vs, hl, n0, gl, hh, al⟩ := r.own hsl
      refine ⟨G0, H0, G, ρ, d, r, hd, fun v G1 H1 st1 a1 => ⟨_, hl, G0, H0, G1, ρ, _, r.stp st1, hkd, fun w G2 H2 st2 a2 => ?_⟩⟩
      have r2 := (r.stp st1).stp st2
      have hh2 := st2.h.l (st1.h.l hh)
      have gl2 : G2 l = none := by rw [st2.fr l (some_ne (st1.h.l hh)), st1.fr l (some_ne hh), gl]
      rw [a2.int]
      refine ⟨l, vs, kk, j, rfl, rfl, hh2, by rw [al.len]; exact hj, k _ _ _ (r2.change hsl rfl hl n0 gl2 hh2 NoT.l ⟨l, _, hl, n0, gl2, upd_same, AtL.set (a1.mono st2.g) j (al.mono (st1.g.trans st2.g))⟩)⟩
    · cases hm
/-- target = x.pop() -/
theorem ss_pop (i : Nat) {x : Str} {p apos cpos spos : Pos} {is : List Nat} {g : Mir.GM} (hg : SG X tg is g) (hN : X.N[i]? = some x := by rfl) (hv : Vis X.env.scope x := by first | exact Or.inl rfl | exact Or.inr (Or.inl rfl)) (hd : (x == ("__debug__" : Str)) = false := by decide) (hcd : (x == ("__classdict__" : Str)) = false := by decide)
    (hbase : attributeBase (.Name x p) "pop" X.env (eval (.Name x p) X.env) = eval (.Name x p) X.env := by rfl) (hline : (apos.endLine == cpos.line) = true := by rfl)
    (hs : swapsWithSole [tg] (.Call (.Attribute (.Name x p) "pop" apos) [] [] cpos) spos.line X.env = pure false := by rfl) (hw : swappedStores [tg] (.Call (.Attribute (.Name x p) "pop" apos) [] [] cpos) X.env = pure none := by rfl) (h1 : (assignEach [tg] X.env).map (·.2) = [assign tg X.env] := by rfl) :
    SS X (.Assign [tg] (.Call (.Attribute (.Name x p) "pop" apos) [] [] cpos) spos) (Mir.popS i g) :=
  ps_imp (ps_asg (pe_bm0 PySem.F.plainAttrs_list PySem.F.slot_list_pop PySem.F.type_list_pop mt_pop (pe_var hN hv hd hcd) hbase hline) hg hs hw h1) fun _ _ σ H Dd _ ⟨G0, H0, G, ρ, o, r, hm, k⟩ => by
    unfold Mir.popS at hm
    split at hm
    · rename_i ds hsl
      simp only [Option.bind_eq_some_iff] at hm
      obtain ⟨d, hd, ρ', hg', hm⟩ := hm
      cases hm
      obtain ⟨l, vs, hl, n0, gl, hh, al⟩ := r.own hsl
      obtain ⟨v, hv, av⟩ := al.get hd
      refine ⟨_, hl, .inl ⟨rfl, vs, SqL.of hh⟩, l, vs, v, rfl, rfl, hh, by rw [al.len]; exact hv, ?_⟩
      have r1 := r.change hsl rfl hl n0 gl hh NoT.l (o := .lst vs.dropLast) (s := .own ds.dropLast) ⟨l, _, hl, n0, gl, upd_same, al.dropLast⟩
      exact ⟨G0, H0, G, _, d, ρ', r1, av, hg', fun σ' r' _ _ => k _ _ _ r'⟩
    · cases hm

/-! ### dicts -/
theorem ss_newK (i : Nat) {x : Str} {p dpos spos : Pos} (hN : X.N.Nodup) (hi : X.N[i]? = some x := by rfl) (hx : Loc X.env.scope x := by first | exact Or.inl rfl | exact Or.inr rfl) (hs : swapsWith (.Dict [] [] dpos) (some (.Name x p)) spos.line X.env = pure false := by rfl) (hf : X.fn x = true ∨ X.env.scope.names.lookup x = some .local := by first | exact .inl rfl | exact .inr rfl) :
    SS X (.Assign [.Name x p] (.Dict [] [] dpos) spos) (Mir.newK i) := ps_imp (ps_set hN hi hx pe_dnewK hs hf) fun _ _ σ H Dd _ ⟨G0, H0, G, ρ, o, r, hm, k⟩ => by
  cases hm
  intro p hp
  exact k _ _ _ (r.getNew i hp ⟨p, [], rfl, r.hh.back hp, r.gh.back hp, upd_same, .nil⟩ rfl)
theorem ss_newT (i : Nat) {x : Str} {p dpos spos : Pos} (hN : X.N.Nodup) (hi : X.N[i]? = some x := by rfl) (hx : Loc X.env.scope x := by first | exact Or.inl rfl | exact Or.inr rfl) (hs : swapsWith (.Dict [] [] dpos) (some (.Name x p)) spos.line X.env = pure false := by rfl) (hf : X.fn x = true ∨ X.env.scope.names.lookup x = some .local := by first | exact .inl rfl | exact .inr rfl) :
    SS X (.Assign [.Name x p] (.Dict [] [] dpos) spos) (Mir.newT i) := ps_imp (ps_set hN hi hx pe_dnewT hs hf) fun _ _ σ H Dd _ ⟨G0, H0, G, ρ, o, r, hm, k⟩ => by
  cases hm
  intro p hp
  exact k _ _ _ (r.getNew i hp ⟨p, [], rfl, r.hh.back hp, r.gh.back hp, upd_same, .nil⟩ rfl)
theorem keyL_inj {m n : List Int} : keyL m = keyL n ↔ m = n := by
  constructor
  · intro h
    induction m generalizing n with
    | nil => cases n with
      | nil => rfl
      | cons y ys => cases h
    | cons x xs ih => cases n with
      | nil => cases h
      | cons y ys =>
        unfold keyL at h
        rw [List.map_cons, List.map_cons, List.cons.injEq] at h
        rw [Sum.inl.inj h.1, ih (n := ys) h.2]
  · rintro rfl; rfl
theorem KvK.len {K : PySem.W.Frag} {G : Hp} {us kvs} (h : KvK K G us kvs) : us.length = kvs.length := by
  induction h with
  | nil => rfl
  | cons _ _ ih => rw [List.length_cons, List.length_cons, ih]
theorem KvT.len {K : PySem.W.Frag} {G : Hp} {us kvs} (h : KvT K G us kvs) : us.length = kvs.length := by
  induction h with
  | nil => rfl
  | cons _ _ ih => rw [List.length_cons, List.length_cons, ih]
theorem KvK.get {K : PySem.W.Frag} {G : Hp} {us kvs} (h : KvK K G us kvs) (n : Int) : (Mir.kGet kvs n = none ∧ valV us (Sum.inl n) = none) ∨ ∃ d v, Mir.kGet kvs n = some d ∧ valV us (Sum.inl n) = some v ∧ At K G v d := by
  induction h with
  | nil => exact .inl ⟨rfl, rfl⟩
  | @cons k v d us kvs a r ih =>
    by_cases e : k = n
    · subst e
      exact .inr ⟨d, v, by simp [Mir.kGet], valV_pos rfl, a⟩
    · have e1 : valV ((Sum.inl k, v) :: us) (Sum.inl n : Key) = valV us (Sum.inl n) := valV_neg fun z => e (Sum.inl.inj z)
      have e2 : Mir.kGet ((k, d) :: kvs) n = Mir.kGet kvs n := by simp [Mir.kGet, e]
      rw [e1, e2]
      exact ih
theorem KvT.get {K : PySem.W.Frag} {G : Hp} {us kvs} (h : KvT K G us kvs) (n : List Int) : (Mir.kGet kvs n = none ∧ valV us (keyL n) = none) ∨ ∃ d v, Mir.kGet kvs n = some d ∧ valV us (keyL n) = some v ∧ At K G v d := by
  induction h with
  | nil => exact .inl ⟨rfl, rfl⟩
  | @cons k v d us kvs a r ih =>
    by_cases e : k = n
    · subst e
      exact .inr ⟨d, v, by simp [Mir.kGet], valV_pos rfl, a⟩
    · have e1 : valV ((keyL k, v) :: us) (keyL n) = valV us (keyL n) := valV_neg fun z => e (keyL_inj.mp z)
      have e2 : Mir.kGet ((k, d) :: kvs) n = Mir.kGet kvs n := by simp [Mir.kGet, e]
      rw [e1, e2]
      exact ih
theorem KvK.any {K : PySem.W.Frag} {G : Hp} {us kvs} (h : KvK K G us kvs) (n : Int) : (us.any fun kv => decide (kv.1 = Sum.inl n)) = (kvs.any fun kv => decide (kv.1 = n)) := by
  induction h with
  | nil => rfl
  | @cons k v d us kvs a r ih =>
    rw [List.any_cons, List.any_cons, ih]
    congr 1
    by_cases e : k = n
    · subst e; simp
    · have : ¬ (Sum.inl k : Key) = Sum.inl n := fun z => e (Sum.inl.inj z)
      simp [e, this]
theorem KvT.any {K : PySem.W.Frag} {G : Hp} {us kvs} (h : KvT K G us kvs) (n : List Int) : (us.any fun kv => decide (kv.1 = keyL n)) = (kvs.any fun kv => decide (kv.1 = n)) := by
  induction h with
  | nil => rfl
  | @cons k v d us kvs a r ih =>
    rw [List.any_cons, List.any_cons, ih]
    congr 1
    by_cases e : k = n
    · subst e; simp
    · have : ¬ keyL k = keyL n := fun z => e (keyL_inj.mp z)
      simp [e, this]
theorem KvK.app {K : PySem.W.Frag} {G : Hp} {us ws kvs ls} (h : KvK K G us kvs) (h' : KvK K G ws ls) : KvK K G (us ++ ws) (kvs ++ ls) := by
  induction h with
  | nil => exact h'
  | cons a _ ih => exact .cons a ih
theorem KvT.app {K : PySem.W.Frag} {G : Hp} {us ws kvs ls} (h : KvT K G us kvs) (h' : KvT K G ws ls) : KvT K G (us ++ ws) (kvs ++ ls) := by
  induction h with
  | nil => exact h'
  | cons a _ ih => exact .cons a ih
theorem KvK.putM {K : PySem.W.Frag} {G : Hp} {us kvs} (h : KvK K G us kvs) (n : Int) {v : V} {d : D} (a : At K G v d) : KvK K G (us.map fun kv => if kv.1 = (Sum.inl n : Key) then (kv.1, v) else kv) (kvs.map fun kv => if kv.1 = n then (kv.1, d) else kv) := by
  induction h with
  | nil => exact .nil
  | @cons k v' d' us kvs a' r ih =>
    rw [List.map_cons, List.map_cons]
    by_cases e : k = n
    · subst e
      rw [if_pos rfl, if_pos rfl]
      exact .cons a ih
    · rw [if_neg (fun z => e (Sum.inl.inj z)), if_neg e]
      exact .cons a' ih
theorem KvT.putM {K : PySem.W.Frag} {G : Hp} {us kvs} (h : KvT K G us kvs) (n : List Int) {v : V} {d : D} (a : At K G v d) : KvT K G (us.map fun kv => if kv.1 = keyL n then (kv.1, v) else kv) (kvs.map fun kv => if kv.1 = n then (kv.1, d) else kv) := by
  induction h with
  | nil => exact .nil
  | @cons k v' d' us kvs a' r ih =>
    rw [List.map_cons, List.map_cons]
    by_cases e : k = n
    · subst e
      rw [if_pos rfl, if_pos rfl]
      exact .cons a ih
    · rw [if_neg (fun z => e (keyL_inj.mp z)), if_neg e]
      exact .cons a' ih
theorem KvK.put {K : PySem.W.Frag} {G : Hp} {us kvs} (h : KvK K G us kvs) (n : Int) {v : V} {d : D} (a : At K G v d) : KvK K G (putK us (Sum.inl n) v) (Mir.kPut kvs n d) := by
  unfold putK Mir.kPut
  rw [h.any n]
  split
  · exact h.putM n a
  · exact h.app (.cons a .nil)
theorem KvT.put {K : PySem.W.Frag} {G : Hp} {us kvs} (h : KvT K G us kvs) (n : List Int) {v : V} {d : D} (a : At K G v d) : KvT K G (putK us (keyL n) v) (Mir.kPut kvs n d) := by
  unfold putK Mir.kPut
  rw [h.any n]
  split
  · exact h.putM n a
  · exact h.app (.cons a .nil)
/-- a key, as the machine reads it -/
theorem key_t {K : PySem.W.Frag} {G H : Hp} (e : Ex G H) {y : V} {ks : List D} {ns : List Int} (a : AtB K G H y (.tup ks)) (h : Mir.intsD ks = some ns) : ∃ b, y = .ref b ∧ H b = some (.tup ((keyL ns).map kV)) := by
  obtain ⟨l, vs, rfl, hl, r⟩ := a.tup e
  refine ⟨l, rfl, ?_⟩
  rw [hl, r.ints h]
  unfold keyL
  rw [List.map_map]
  rfl
theorem Rel.dk {K : PySem.W.Frag} {G0 H0 G H : Hp} {σ : St} {ρ : Mir.Env} (r : Rel K G0 H0 G H σ ρ) {i : Nat} {ds} (h : Mir.slot ρ i = .dk ds) : ∃ l vs, σ[i]? = some (some (.ref l)) ∧ H0 l = none ∧ G l = none ∧ H l = some (.dK vs) ∧ KvK K G vs ds := by
  have q := r.sl i
  rw [h] at q
  exact q
theorem Rel.dt {K : PySem.W.Frag} {G0 H0 G H : Hp} {σ : St} {ρ : Mir.Env} (r : Rel K G0 H0 G H σ ρ) {i : Nat} {ds} (h : Mir.slot ρ i = .dt ds) : ∃ l vs, σ[i]? = some (some (.ref l)) ∧ H0 l = none ∧ G l = none ∧ H l = some (.dT vs) ∧ KvT K G vs ds := by
  have q := r.sl i
  rw [h] at q
  exact q
/-- d[k] = e -/
theorem ss_putS (i : Nat) {x : Str} {p p2 spos : Pos} (hu : X.A.units + 1 < cLine) (hk : EB X b mb) (he : EV X e me) (hN : X.N[i]? = some x := by rfl) (hv : Vis X.env.scope x := by first | exact Or.inl rfl | exact Or.inr (Or.inl rfl)) (hd : (x == ("__debug__" : Str)) = false := by decide) (hcd : (x == ("__classdict__" : Str)) = false := by decide)
    (hs : swapsWith e (some (.Subscript (.Name x p) b p2)) spos.line X.env = pure false := by rfl) : SS X (.Assign [.Subscript (.Name x p) b p2] e spos) (Mir.putS i mb me) :=
  ps_imp (ps_dput hu (pe_var hN hv hd hcd) hk he hs) fun _ _ σ H Dd _ ⟨G0, H0, G, ρ, o, r, hm, k⟩ => by
    simp only [Mir.putS, Option.bind_eq_some_iff] at hm
    obtain ⟨d, hd, kd, hkd, hm⟩ := hm
    refine ⟨G0, H0, G, ρ, d, r, hd, fun v G1 H1 st1 a1 => ?_⟩
    split at hm
    · rename_i kvs n hsl
      split at hm <;> cases hm
      rename_i hz
      obtain ⟨l, vs, hl, n0, gl, hh, al⟩ := r.dk hsl
      refine ⟨_, hl, G0, H0, G1, ρ, _, r.stp st1, hkd, fun w G2 H2 st2 a2 => ?_⟩
      have r2 := (r.stp st1).stp st2
      have hh2 := st2.h.dk (st1.h.dk hh)
      have gl2 : G2 l = none := by rw [st2.fr l (some_ne (st1.h.dk hh)), st1.fr l (some_ne hh), gl]
      rw [a2.int]
      refine ⟨l, _, rfl, DPut.k (k := Sum.inl n) hh2 (by rw [al.len]; exact fits_lt hz), k _ _ _ (r2.change hsl rfl hl n0 gl2 hh2 NoT.dk ⟨l, _, hl, n0, gl2, upd_same, (al.mono (st1.g.trans st2.g)).put n (a1.mono st2.g)⟩)⟩
    · rename_i kvs ks hsl
      rw [Option.bind_eq_some_iff] at hm
      obtain ⟨ns, hns, hm⟩ := hm
      split at hm <;> cases hm
      rename_i hz
      obtain ⟨l, vs, hl, n0, gl, hh, al⟩ := r.dt hsl
      refine ⟨_, hl, G0, H0, G1, ρ, _, r.stp st1, hkd, fun w G2 H2 st2 a2 => ?_⟩
      have r2 := (r.stp st1).stp st2
      have hh2 := st2.h.dt (st1.h.dt hh)
      have gl2 : G2 l = none := by rw [st2.fr l (some_ne (st1.h.dt hh)), st1.fr l (some_ne hh), gl]
      obtain ⟨t, rfl, ht⟩ := key_t st2.gh a2 hns
      refine ⟨l, _, rfl, DPut.t hh2 ht (by rw [al.len]; exact fits_lt hz), k _ _ _ (r2.change hsl rfl hl n0 gl2 hh2 NoT.dt ⟨l, _, hl, n0, gl2, upd_same, (al.mono (st1.g.trans st2.g)).put ns (a1.mono st2.g)⟩)⟩
    · cases hm
theorem dLook_cases {s : Mir.Sl} {y : D} {o : Option D} (h : Mir.dLook s y = some o) : (∃ kvs n, s = .dk kvs ∧ y = .int n ∧ o = Mir.kGet kvs n) ∨ ∃ kvs ks ns, s = .dt kvs ∧ y = .tup ks ∧ Mir.intsD ks = some ns ∧ o = Mir.kGet kvs ns := by
  unfold Mir.dLook at h
  split at h
  · cases h
    exact .inl ⟨_, _, rfl, rfl, rfl⟩
  · rw [Option.bind_eq_some_iff] at h
    obtain ⟨ns, hns, h⟩ := h
    cases h
    exact .inr ⟨_, _, ns, rfl, rfl, hns, rfl⟩
  · cases h
/-- what the dict of slot i says of a key -/
theorem dget_i {K : PySem.W.Frag} {G0 H0 G H G1 H1 : Hp} {σ : St} {ρ : Mir.Env} (r : Rel K G0 H0 G H σ ρ) (st : Stp G H G1 H1) {i : Nat} {y : D} {w : V} (a : AtB K G1 H1 w y) {o : Option D} (h : Mir.dLook (Mir.slot ρ i) y = some o) :
    ∃ l, σ[i]? = some (some (.ref l)) ∧ ((o = none ∧ DGet H1 l w none) ∨ ∃ d v, o = some d ∧ DGet H1 l w (some v) ∧ At K G1 v d) := by
  rcases dLook_cases h with ⟨kvs, n, hsl, rfl, rfl⟩ | ⟨kvs, ks, ns, hsl, rfl, hns, rfl⟩
  · obtain ⟨l, vs, hl, n0, gl, hh, al⟩ := r.dk hsl
    have hh1 := st.h.dk hh
    rw [a.int]
    refine ⟨l, hl, ?_⟩
    have g : DGet H1 l (.int n) (valV vs (Sum.inl n)) := DGet.k (k := Sum.inl n) hh1
    rcases (al.mono st.g).get n with ⟨e1, e2⟩ | ⟨d, v, e1, e2, av⟩
    · rw [e2] at g
      exact .inl ⟨e1, g⟩
    · rw [e2] at g
      exact .inr ⟨d, v, e1, g, av⟩
  · obtain ⟨l, vs, hl, n0, gl, hh, al⟩ := r.dt hsl
    have hh1 := st.h.dt hh
    obtain ⟨t, rfl, ht⟩ := key_t st.gh a hns
    refine ⟨l, hl, ?_⟩
    have g : DGet H1 l (.ref t) (valV vs (keyL ns)) := DGet.t hh1 ht
    rcases (al.mono st.g).get ns with ⟨e1, e2⟩ | ⟨d, v, e1, e2, av⟩
    · rw [e2] at g
      exact .inl ⟨e1, g⟩
    · rw [e2] at g
      exact .inr ⟨d, v, e1, g, av⟩
theorem hasK_eq {i : Nat} {m : Mir.EM} {ρ : Mir.Env} {d : D} (h : Mir.hasK i m ρ = some d) : ∃ y o, m ρ = some y ∧ Mir.dLook (Mir.slot ρ i) y = some o ∧ d = .bl o.isSome := by
  simp only [Mir.hasK, Option.bind_eq_some_iff] at h
  obtain ⟨y, hy, o, ho, h⟩ := h
  cases h
  exact ⟨y, o, hy, ho, rfl⟩
theorem getK_eq {i : Nat} {m : Mir.EM} {ρ : Mir.Env} {d : D} (h : Mir.getK i m ρ = some d) : ∃ y, m ρ = some y ∧ Mir.dLook (Mir.slot ρ i) y = some (some d) := by
  simp only [Mir.getK, Option.bind_eq_some_iff] at h
  obtain ⟨y, hy, o, ho, h⟩ := h
  cases h
  exact ⟨y, hy, ho⟩
/-- k in d, k not in d -/
theorem et_in (i : Nat) {x : Str} {p : Pos} (hu : X.A.units + 1 < cLine) (hk : EB X a ma) (hN : X.N[i]? = some x := by rfl) (hv : Vis X.env.scope x := by first | exact Or.inl rfl | exact Or.inr (Or.inl rfl)) (hd : (x == ("__debug__" : Str)) = false := by decide) (hcd : (x == ("__classdict__" : Str)) = false := by decide)
    (h1 : behindInMarks .In (.Name x p) = false := by rfl) : ET X (.Compare a [.In] [.Name x p] pos) (Mir.tB (Mir.hasK i ma)) := pt_imp (pt_cmp (pc_din hu hk (pe_var hN hv hd hcd)) h1) fun _ _ σ H Q _ ⟨G0, H0, G, ρ, b, r, hm, k⟩ => by
  simp only [Mir.tB, Option.bind_eq_some_iff] at hm
  obtain ⟨dd, hdd, hb⟩ := hm
  obtain ⟨y, o, hy, ho, rfl⟩ := hasK_eq hdd
  cases hb
  refine ⟨G0, H0, G, ρ, y, r, hy, fun w G1 H1 st1 a1 => ?_⟩
  obtain ⟨l, hl, g⟩ := dget_i r st1 a1 ho
  refine ⟨_, hl, l, ?_⟩
  rcases g with ⟨rfl, g⟩ | ⟨d, v, rfl, g, av⟩
  · exact ⟨none, rfl, g, _, rfl, k _ _ st1⟩
  · exact ⟨some v, rfl, g, _, rfl, k _ _ st1⟩
theorem ev_getK (i : Nat) {x : Str} {p : Pos} (hu : X.A.units + 1 < cLine) (hk : EB X b mb) (hN : X.N[i]? = some x := by rfl) (hv : Vis X.env.scope x := by first | exact Or.inl rfl | exact Or.inr (Or.inl rfl) | exact Or.inr (Or.inr rfl)) (hd : (x == ("__debug__" : Str)) = false := by decide) (hcd : (x == ("__classdict__" : Str)) = false := by decide)
    (hs : NoSl b := by exact fun _ _ => rfl) : EV X (.Subscript (.Name x p) b pos) (Mir.getK i mb) := pe_imp (pe_dget hu (pe_var hN hv hd hcd) hk hs) fun _ _ σ H Q _ ⟨G0, H0, G, ρ, d, r, hm, k⟩ => by
  obtain ⟨y, hy, ho⟩ := getK_eq hm
  have hl : ∃ l, σ[i]? = some (some (.ref l)) := by
    rcases dLook_cases ho with ⟨kvs, n, hsl, _⟩ | ⟨kvs, ks, ns, hsl, _⟩
    · obtain ⟨l, _, hl, _⟩ := r.dk hsl
      exact ⟨l, hl⟩
    · obtain ⟨l, _, hl, _⟩ := r.dt hsl
      exact ⟨l, hl⟩
  obtain ⟨l, hl⟩ := hl
  refine ⟨_, hl, G0, H0, G, ρ, y, r, hy, fun w G1 H1 st1 a1 => ?_⟩
  obtain ⟨l', hl', g⟩ := dget_i r st1 a1 ho
  rw [hl] at hl'
  cases hl'
  rcases g with ⟨q, _⟩ | ⟨d', v, q, g, av⟩
  · cases q
  · cases q
    exact ⟨l, v, rfl, g, k _ _ _ st1 av⟩
end
end Snd
set_option Elab.async false
set_option linter.all false
set_option maxRecDepth 100000
set_option maxHeartbeats 4000000
/-! SndSet: set(xs) of a list of ints. -/
namespace Snd
open PySem L2 PySem.Spec PyProof.Rows
/-! ### set(xs), xs a list of ints -/
section
variable {P : Program} {w : World} {A : Around} {E : Value → Shared → Prop} {s : Shared}
theorem set_of_list {l : Addr} {items : Array Value} (ns : List Int) {Q : Value → Shared → Prop} (hh : A.handled = none) (hl : s.heap.IsList l items) (hit : IntsAre items.toList ns) (hb : ns.length + 1 < scanBound)
    (h : ∀ (h' : Heap) (tk c : Nat), SetR w h' s.heap.objs.size (fun j => decide (j ∈ ns)) c → c ≤ ns.length → (∀ b o, s.heap.get? b = some o → h'.get? b = some o) → Q (.ref s.heap.objs.size) { s with heap := h', toks := tk }) :
    wpAny (model P w) A (call (.type "set") [.ref l]) Q E s := by
  have len : items.size = ns.length := (Array.length_toList (xs := items)).symm.trans hit.length
  let fresh : Obj := { cls := .type "set", dict := none, data := .set #[] 0 (.fresh 0 0 (!w.params.followText "set-order")) }
  let h1 : Heap := s.heap.push fresh
  obtain ⟨c, tl, hmro⟩ := F.called_set.mro
  have hmade := F.called_set.made
  have hsub := F.called_set.sub
  refine wpAny_call (codeAny_of_tree ?_)
  show wpAny _ _ (callAny (.type "set") _) _ _ _
  refine wpAny_pure ⟨Code.quiet_builtin _ (by decide +kernel), codeAny_builtin F.entry_type_call ?_⟩
  rw [Around.under_plain (weight_type_call_type "set" [.ref l] []) rfl]
  have k1 := F.called_set.notType
  have k2 := F.called_set.canCreate
  have k3 := F.typeCall_set_1 (.ref l)
  repeat (any_goals (first | assumption | wp_step))
  refine codeAny_mono (code_set_led1 (.ref l) (E := E) (Q₁ := fun ob s₁ => ob = .ref s.heap.objs.size ∧ s₁ = { s with heap := h1 }) ⟨rfl, rfl⟩) fun r s₁ hr => ?_
  match r, hr with
  | .error e, hr => exact hr
  | .ok .next, hr => exact hr.elim
  | .ok .brk, hr => exact hr.elim
  | .ok .cont, hr => exact hr.elim
  | .ok (.ret ob), hr =>
    obtain ⟨rfl, rfl⟩ := hr
    have hS : h1.get? s.heap.objs.size = some fresh := Heap.get?_push_size _ rfl
    have hT : Shared.TypeIs { s with heap := h1 } (.ref s.heap.objs.size) "set" := ⟨_, hS, rfl⟩
    have k4 := F.called_set.init.lookup
    have k5 := F.called_set.init.bind (.ref s.heap.objs.size)
    repeat (any_goals (first | assumption | wp_step))
    refine codeAny_mono (codeAny_call_builtin (R := wants (fun r s₂ => r = .none ∧ ∃ h' tk c, s₂ = { s with heap := h', toks := tk } ∧ SetR w h' s.heap.objs.size (fun j => decide (j ∈ ns)) c ∧ c ≤ ns.length ∧ (∀ b o, s.heap.get? b = some o → h'.get? b = some o)) E)
      F.called_set.init.plain F.entry_set_init (check_set_init_1 hT ?_)) fun r₂ s₂ hr₂ => ?_
    · obtain ⟨ol, hol, hcl, nl, hdat⟩ := hl
      obtain ⟨ocls, odict, odata, oslots⟩ := ol
      simp only at hcl hdat
      subst hcl; subst hdat
      have hol' : h1.get? l = some { cls := .type "list", dict := odict, data := .seq items nl, slots := oslots } := Heap.get?_push_of_some _ hol
      have k6 := F.sub_list_set
      have k7 := F.sub_list_frozenset
      have k8 : (Value.type "list" == Value.type "dict") = false := by decide
      have hl1 : h1.IsList l items := ⟨_, hol', rfl, nl, rfl⟩
      unfold Builtin.«set.__init__» noKeywords Builtin.Frozenset.updateFrom
      generalize hPI : pyIter = PI
      wp_walk
      subst hPI
      refine wpAny_pyIter_list hl1 (wpAny_bind (wpAny_runValue ?_))
      have lt0 : l < s.heap.objs.size := Heap.lt_size hol
      have sz : h1.objs.size = s.heap.objs.size + 1 := Heap.size_push ..
      have neI : l ≠ h1.objs.size := Nat.ne_of_lt (by rw [sz]; exact Nat.lt_succ_of_lt lt0)
      have notin : s.heap.objs.size ∉ [h1.objs.size, l] := by
        simp only [List.mem_cons, List.not_mem_nil, or_false, not_or]
        exact ⟨Nat.ne_of_lt (by rw [sz]; exact Nat.lt_succ_self _), Nat.ne_of_gt lt0⟩
      have hval : ∀ (i : Nat) (v : Value), items[i]? = some v → ∃ k t, ns[i]? = some k ∧ v = .int k t := fun i v hv => by
        have hi : i < ns.length := by rw [← len]; exact (Array.getElem?_eq_some_iff.mp hv).1
        obtain ⟨t, e⟩ := PyProof.Rows.IntsAre.int_at hit i v (by rw [Array.getElem?_toList]; exact hv)
        exact ⟨ns[i], t, List.getElem?_eq_getElem hi, by rw [e, List.getD_eq_getElem?_getD, List.getElem?_eq_getElem hi] <;> rfl⟩
      have hh3 : A.in1.in1.in1.handled = none := by simp [hh]
      refine set_update_ints ((Walks.list hh3 _ l neI items).toS) s.heap.objs.size notin ns len hb hval (items.size - 0) 0 _ (by omega) (Nat.zero_le _) ⟨⟨_, Heap.get?_push_size _ rfl, rfl, rfl⟩, hl1.push _⟩ ?first ?last
      case first => exact ⟨0, Nat.le_refl 0, setR_new_at (Heap.get?_push_of_some _ hS)⟩
      case last =>
        rintro ⟨h', g', d', tk', os'⟩ c' hm hc' hS'
        obtain rfl : g' = s.gens := hm.gens
        obtain rfl : d' = s.drawn := hm.drawn
        obtain rfl : os' = s.os := hm.os
        refine wpAny_pure ?_
        refine wpAny_pure ⟨rfl, h', tk', c', rfl, hS', (by rw [← len]; exact hc'), fun b o e => ?_⟩
        have hb0 : b < s.heap.objs.size := Heap.lt_size e
        refine hm.heap b o ?_ (Heap.get?_push_of_some _ (Heap.get?_push_of_some _ e))
        simp only [List.mem_cons, List.not_mem_nil, or_false, not_or]
        exact ⟨Nat.ne_of_lt hb0, Nat.ne_of_lt (by rw [sz]; exact Nat.lt_succ_of_lt hb0)⟩
    · match r₂, hr₂ with
      | .error e, hr₂ => exact hr₂
      | .ok .next, hr₂ => exact hr₂.elim
      | .ok .brk, hr₂ => exact hr₂.elim
      | .ok .cont, hr₂ => exact hr₂.elim
      | .ok (.ret r), hr₂ =>
        obtain ⟨rfl, h', tk, c', rfl, hS', hc', hk'⟩ := hr₂
        repeat (any_goals (first | assumption | wp_step))
        exact h _ _ _ hS' hc' hk'
end
end Snd
set_option Elab.async false
set_option linter.all false
set_option maxRecDepth 100000
set_option maxHeartbeats 4000000
/-! SndA: sorted; what is built of more than one call. -/
namespace Snd
open PySem L2 LamX PySem.Spec PyProof.Rows PySem.W
variable [TC : TabCtx]
section
variable {X : Cx} {e a b c tg : Expr} {pos : Pos} {me ma mb : Mir.EM}
/-- a machine's value that is data -/
def Rd1 (K : PySem.W.Frag) (G : Hp) (u : Value) (d : D) : Prop := ∃ v, RelV v u ∧ At K G v d
theorem each_of {K : PySem.W.Frag} {G : Hp} : ∀ {vs : List V} {us : List Value} {ds : List D}, Vals vs us → AtL K G vs ds → EachIs (Rd1 K G) us ds
  | _, _, _, .nil, .nil => .nil
  | _, _, _, .cons r rs, .cons a as => .cons ⟨_, r, a⟩ (each_of rs as)
theorem of_each {K : PySem.W.Frag} {G : Hp} : ∀ {us : List Value} {ds : List D}, EachIs (Rd1 K G) us ds → ∃ vs, Vals vs us ∧ AtL K G vs ds
  | _, _, .nil => ⟨[], .nil, .nil⟩
  | _, _, .cons ⟨v, r, a⟩ h => by
    obtain ⟨vs, r1, a1⟩ := of_each h
    exact ⟨v :: vs, .cons r r1, .cons a a1⟩
theorem okDs_mem : ∀ {ds : List D}, Mir.okDs ds = true → ∀ d ∈ ds, Mir.okD d = true
  | [], _, d, h => absurd h (by simp)
  | x :: xs, o, d, h => by
    simp only [Mir.okDs, Bool.and_eq_true] at o
    rcases List.mem_cons.mp h with rfl | h
    · exact o.1
    · exact okDs_mem o.2 d h
theorem ints_all : ∀ {ds : List D}, (Mir.intsD ds).isSome = true → ∀ d ∈ ds, ∃ i, d = .int i
  | [], _, d, h => absurd h (by simp)
  | x :: xs, o, d, h => by
    cases x <;> simp [Mir.intsD] at o
    rcases List.mem_cons.mp h with rfl | h
    · exact ⟨_, rfl⟩
    · exact ints_all o d h
theorem strs_all : ∀ {ds : List D}, (Mir.strsD ds).isSome = true → ∀ d ∈ ds, ∃ i, d = .str i
  | [], _, d, h => absurd h (by simp)
  | x :: xs, o, d, h => by
    cases x <;> simp [Mir.strsD] at o
    rcases List.mem_cons.mp h with rfl | h
    · exact ⟨_, rfl⟩
    · exact strs_all o d h
theorem ints_eq : ∀ {ds : List D} {ns : List Int}, Mir.intsD ds = some ns → ds = ns.map Mir.D.int
  | [], ns, h => by cases h; rfl
  | x :: xs, ns, h => by
    cases x <;> simp [Mir.intsD] at h
    obtain ⟨ms, h, rfl⟩ := h
    rw [List.map_cons, ← ints_eq h]
theorem isTi_eq {d : D} (h : Mir.isTi d = true) : ∃ n ns, d = .tup ((n :: ns).map Mir.D.int) := by
  unfold Mir.isTi at h
  split at h
  · rename_i n ns q
    unfold Mir.tints at q
    split at q
    · exact ⟨n, ns, by rw [← ints_eq q]⟩
    · cases q
  · cases h
theorem py_ints (ns : List Int) : py (.tup (ns.map Mir.D.int)) = .tuple (ns.map PyData.int) := by
  simp only [py]
  congr 1
  induction ns with
  | nil => simp [pys]
  | cons n r ih => simp only [List.map_cons, pys, py, ih]
theorem ints_map : ∀ ns : List Int, Mir.intsD (ns.map Mir.D.int) = some ns
  | [] => rfl
  | n :: r => by simp only [List.map_cons, Mir.intsD, ints_map r, Option.map_some]
theorem alike_sort {ds : List D} (h : Mir.sortable ds = true) : (∀ d ∈ ds, ∀ e ∈ ds, alike (py d) (py e) = true) ∧ Sortable (ds.map py) ∧ (∀ d ∈ ds, ∀ e ∈ ds, dataLe false py d e = Mir.ordD d e) ∧ ∀ d ∈ ds, (py d).depth ≤ 1 := by
  unfold Mir.sortable at h
  rw [Bool.or_eq_true, Bool.or_eq_true] at h
  rcases h with (h | h) | h
  · have k := ints_all h
    refine ⟨fun d hd e he => ?_, .inr fun z hz => ?_, fun d hd e he => ?_, fun d hd => ?_⟩
    · obtain ⟨i, rfl⟩ := k d hd
      obtain ⟨j, rfl⟩ := k e he
      simp [py, alike]
    · obtain ⟨d, hd, rfl⟩ := List.mem_map.mp hz
      obtain ⟨i, rfl⟩ := k d hd
      exact ⟨by simp [py], by simp [py]⟩
    · obtain ⟨i, rfl⟩ := k d hd
      obtain ⟨j, rfl⟩ := k e he
      rw [dataLe_eq]
      simp only [cond_false, py, dataLt_int, Mir.ordD]
      exact not_lt_int i j
    · obtain ⟨i, rfl⟩ := k d hd
      simp [py, PyData.depth]
  · have k := strs_all h
    refine ⟨fun d hd e he => ?_, .inr fun z hz => ?_, fun d hd e he => ?_, fun d hd => ?_⟩
    · obtain ⟨i, rfl⟩ := k d hd
      obtain ⟨j, rfl⟩ := k e he
      simp [py, alike]
    · obtain ⟨d, hd, rfl⟩ := List.mem_map.mp hz
      obtain ⟨i, rfl⟩ := k d hd
      exact ⟨by simp [py], by simp [py]⟩
    · obtain ⟨i, rfl⟩ := k d hd
      obtain ⟨j, rfl⟩ := k e he
      rw [dataLe_eq]
      simp only [cond_false, py, dataLt_str, Mir.ordD]
      exact not_lt_str i j
    · obtain ⟨i, rfl⟩ := k d hd
      simp [py, PyData.depth]
  · have k : ∀ d ∈ ds, ∃ n ns, d = .tup ((n :: ns).map Mir.D.int) := fun d hd => isTi_eq (List.all_eq_true.mp h d hd)
    refine ⟨fun d hd e he => ?_, .inl fun z hz => ?_, fun d hd e he => ?_, fun d hd => ?_⟩
    · obtain ⟨i, is, rfl⟩ := k d hd
      obtain ⟨j, js, rfl⟩ := k e he
      rw [py_ints, py_ints]
      simp only [alike]
      exact alike_ints _ _
    · obtain ⟨d, hd, rfl⟩ := List.mem_map.mp hz
      obtain ⟨i, is, rfl⟩ := k d hd
      rw [py_ints]
      exact ⟨_, _, rfl⟩
    · obtain ⟨i, is, rfl⟩ := k d hd
      obtain ⟨j, js, rfl⟩ := k e he
      rw [dataLe_eq]
      simp only [cond_false, py_ints, Mir.ordD, ints_map]
      have h1 := dataLt_ints (j :: js) (i :: is)
      unfold rowLt at h1
      rw [dataLt_tuple, h1]
      by_cases q : (j :: js) < (i :: is)
      · simp only [q, decide_true, Bool.not_true]
        symm
        rw [decide_eq_false_iff_not]
        exact fun z => z q
      · simp only [q, decide_false, Bool.not_false]
        symm
        rw [decide_eq_true_eq]
        exact q
    · obtain ⟨i, is, rfl⟩ := k d hd
      rw [py_ints]
      simp only [PyData.depth, depth_ints]
      omega
theorem vals_len {vs : List V} {us : List Value} (r : Vals vs us) : vs.length = us.length := r.length
theorem cm_sorted (hu : X.A.units + 64 < cLine) : CallR X (.builtin "sorted") (rC1 X.K Mir.sortD) := by
  intro pins s σ H xs us Q I rx q
  obtain ⟨G, x, dx, d, rfl, e, ax, hf, k⟩ := q
  unfold Mir.sortD at hf
  split at hf
  · rename_i ds
    split at hf <;> cases hf
    rename_i hz
    rw [Bool.and_eq_true] at hz
    obtain ⟨l, vs, rfl, hl, al⟩ := ax.lst e
    obtain rfl := Vals.ref1 rx
    obtain ⟨its, rv, pl, hsz⟩ := I.list (SqL.of hl)
    obtain ⟨h1, h2, h3, h4⟩ := alike_sort hz.1
    have ea := each_of rv al
    have er : EachIs (fun v b => ∃ as, Reads s.heap v (py b) as) its ds := EachIs.of_zip ea.length fun p hp => by
      obtain ⟨v, r, a⟩ := ea.zip p hp
      have hm : p.2 ∈ ds := (List.of_mem_zip hp).2
      exact Dp.reads I (py p.2) v p.1 ((a.mono e).dp (okDs_mem hz.2 _ hm)) r
    have hlen : ds.length ≤ sizeLine := by rw [← al.len]; exact hsz
    refine sorted_data pl.isList ea er (fun d hd d' hd' => ?_) h2 hlen (fun d hd => ?_) fun out hol eo => ?_
    · obtain ⟨b, hb, rfl⟩ := List.mem_map.mp hd
      obtain ⟨b', hb', rfl⟩ := List.mem_map.mp hd'
      exact h1 b hb b' hb'
    · have := h4 d hd
      omega
    · rw [sort_congr h3] at eo
      obtain ⟨ws, rw', aw⟩ := of_each eo
      obtain ⟨ep, he'⟩ := PyProof.Rows.sortedAll_at s.heap its out.toArray
      have hn : H (s.heap.objs.size + 1) = none := I.hok.fresh (Nat.le_succ _)
      refine ⟨.ref _, upd H (s.heap.objs.size + 1) (.lst ws), I.laid (t' := s.toks) (fun _ _ => PyProof.Rows.sortedAll_old) (Nat.le_succ _) ⟨?_, out, ep, rw', he'⟩, rfl, newL e hn aw k⟩
      rw [rw'.length, hol]
      exact hlen
  · cases hf
/-! ### sorted(set(xs)) -/
def rSetOf (K : PySem.W.Frag) (w : World) : List V → Hp → VK → Prop := fun xs H Q => ∃ (l : Addr) (ns : List Int), xs = [.ref l] ∧ SqL K H l (ns.map V.int) ∧ ns.length < 64 ∧ ∀ p c, H p = none → c ≤ ns.length → Q (.ref p) (upd H p (SetO w p (fun j => decide (j ∈ ns)) c))
theorem cr_setOf (hc : X.calm = true) : CallR X (.type "set") (rSetOf X.K X.w) := by
  intro pins s σ H xs us Q I rx q
  obtain ⟨l, ns, rfl, hl, hz, q⟩ := q
  obtain rfl := Vals.ref1 rx
  obtain ⟨its, rv, pl, hsz⟩ := I.list hl
  refine set_of_list ns (I.ok.hd hc) pl.isList (by simpa using rv.ints) (by unfold scanBound; omega) fun h' tk c R hc' hk => ?_
  have hn : H s.heap.objs.size = none := I.hok.fresh (Nat.le_refl _)
  exact ⟨.ref _, _, I.laid (t' := tk) hk (Nat.le_refl _) (setO_new R), rfl, q _ c hn hc'⟩
theorem dedup_mem : ∀ (l : List Int) (x : Int), x ∈ Mir.dedup l ↔ x ∈ l
  | [], x => by simp [Mir.dedup]
  | y :: r, x => by
    unfold Mir.dedup
    split
    · rename_i h
      rw [dedup_mem r x, List.mem_cons]
      constructor
      · exact .inr
      · rintro (rfl | h')
        · exact h
        · exact h'
    · rw [List.mem_cons, List.mem_cons, dedup_mem r x]
theorem dedup_nodup : ∀ l : List Int, (Mir.dedup l).Nodup
  | [] => List.nodup_nil
  | y :: r => by
    unfold Mir.dedup
    split
    · exact dedup_nodup r
    · rename_i h
      refine List.nodup_cons.mpr ⟨fun q => h ((dedup_mem r y).mp q), dedup_nodup r⟩
theorem sorted_one : ∀ {m n : List Int}, m.Pairwise (· < ·) → n.Pairwise (· < ·) → (∀ k, k ∈ m ↔ k ∈ n) → m = n
  | [], [], _, _, _ => rfl
  | [], y :: n, _, _, h => by have := (h y).mpr List.mem_cons_self; simp at this
  | x :: m, [], _, _, h => by have := (h x).mp List.mem_cons_self; simp at this
  | x :: m, y :: n, h1, h2, h => by
    rw [List.pairwise_cons] at h1 h2
    have exy : x = y := by
      rcases List.mem_cons.mp ((h x).mp List.mem_cons_self) with q | q
      · exact q
      · rcases List.mem_cons.mp ((h y).mpr List.mem_cons_self) with q' | q'
        · exact q'.symm
        · have a1 := h2.1 x q
          have a2 := h1.1 y q'
          omega
    subst exy
    rw [sorted_one h1.2 h2.2 fun k => ?_]
    constructor
    · intro hk
      rcases List.mem_cons.mp ((h k).mp (List.mem_cons_of_mem _ hk)) with q | q
      · have := h1.1 k hk
        omega
      · exact q
    · intro hk
      rcases List.mem_cons.mp ((h k).mpr (List.mem_cons_of_mem _ hk)) with q | q
      · have := h2.1 k hk
        omega
      · exact q
theorem sortSet_sorted (ns : List Int) : ((Mir.dedup ns).mergeSort fun a b => decide (a ≤ b)).Pairwise (· < ·) := by
  have p := List.pairwise_mergeSort (le := fun a b : Int => decide (a ≤ b)) (fun a b c h1 h2 => by simp only [decide_eq_true_eq] at *; omega) (fun a b => by simp only [Bool.or_eq_true, decide_eq_true_eq]; omega) (Mir.dedup ns)
  have nd : ((Mir.dedup ns).mergeSort fun a b => decide (a ≤ b)).Nodup := ((List.mergeSort_perm _ _).nodup_iff).mpr (dedup_nodup ns)
  exact (p.and nd).imp fun ⟨h1, h2⟩ => by
    simp only [decide_eq_true_eq] at h1
    omega
theorem en_sortSet {p p2 q : Pos} (hc : X.calm = true) (h1 : X.mg "sorted" = none) (h2 : X.mg "set" = none) (ha : EB X a ma) (hg1 : Gl X "sorted" := by rfl) (hg2 : Gl X "set" := by rfl) (hv1 : bootBuiltins "sorted" = some (.builtin "sorted") := by decide +kernel) (hv2 : bootBuiltins "set" = some (.type "set") := by decide +kernel)
    (he : starEach [a] X.env = (false, eval a X.env) :: starEach [] X.env := by rfl) (he2 : starEach [.Call (.Name "set" p2) [a] [] q] X.env = (false, eval (.Call (.Name "set" p2) [a] [] q) X.env) :: starEach [] X.env := by rfl) :
    EN X (.Call (.Name "sorted" p) [.Call (.Name "set" p2) [a] [] q] [] pos) (Mir.o1 Mir.sortSet ma) :=
  pe_imp (pe_callB (cr_sortedSet hc) hg1 h1 hv1 (pa_cons (pe_callTy (cr_setOf hc) hg2 h2 hv2 (pa_cons ha pa_nil he) (by decide) (by decide) he) pa_nil he2) (by decide) (by decide) he2) fun _ _ σ H Q _ ⟨G0, H0, G, ρ, d, r, hm, k⟩ => by
    simp only [Mir.o1, Option.bind_eq_some_iff] at hm
    obtain ⟨dx, hx, hf⟩ := hm
    unfold Mir.sortSet at hf
    split at hf
    · rw [Option.bind_eq_some_iff] at hf
      obtain ⟨ns, hns, hf⟩ := hf
      split at hf <;> cases hf
      rename_i hz
      refine ⟨G0, H0, G, ρ, _, r, hx, fun v G1 H1 st1 ax => ?_⟩
      obtain ⟨l, vs, rfl, hl, al⟩ := ax.lst st1.gh
      have ev := al.ints hns
      subst ev
      refine ⟨l, ns, rfl, SqL.of hl, hz, fun p c hp hcn => ⟨p, _, c, rfl, upd_same, by omega, fun ks q hk hmem hlen hq => ?_⟩⟩
      have st2 : Stp G1 H1 G1 (upd H1 p (SetO X.w p (fun j => decide (j ∈ ns)) c)) := .own st1.gh hp
      have e2 : ks = (Mir.dedup ns).mergeSort fun a b => decide (a ≤ b) := sorted_one hk (sortSet_sorted ns) fun z => by
        rw [hmem z, decide_eq_true_eq, (List.mergeSort_perm _ _).mem_iff, dedup_mem]
      rw [e2]
      exact newL st2.gh hq (.ofInts _) fun v G' H' st a => k v G' H' ((st1.trans st2).trans st) (a.back (st1.h.trans st2.h))
    · cases hf
end
end Snd
set_option Elab.async false
set_option linter.all false
set_option maxRecDepth 100000
set_option maxHeartbeats 4000000
/-! SndK: sorted by a lambda of one parameter that gives the second and the first item of a tuple. -/
namespace Snd
open PySem L2 LamX PySem.Spec PyProof.Rows PySem.W
variable [TC : TabCtx]
theorem allSome_mem {α β : Type} {f : α → Option β} : ∀ {l : List α} {m : List β}, Mir.allSome f l = some m → (∀ x ∈ l, ∃ y, f x = some y ∧ y ∈ m) ∧ m.length = l.length
  | [], m, h => by
    cases h
    exact ⟨fun x hx => absurd hx (by simp), rfl⟩
  | x :: r, m, h => by
    simp only [Mir.allSome, Option.bind_eq_some_iff] at h
    obtain ⟨y, hy, ys, hys, h⟩ := h
    cases h
    obtain ⟨k1, k2⟩ := allSome_mem hys
    refine ⟨fun z hz => ?_, by simp [k2]⟩
    rcases List.mem_cons.mp hz with rfl | hz
    · exact ⟨y, hy, List.mem_cons_self⟩
    · obtain ⟨w, h1, h2⟩ := k1 z hz
      exact ⟨w, h1, List.mem_cons_of_mem _ h2⟩
/-- the lambda's text -/
abbrev kPar (x : Str) (p : Pos) : Arguments := { posonlyargs := [], args := [{ arg := x, annotation := none, pos := p }], vararg := none, kwonlyargs := [], kw_defaults := [], kwarg := none, defaults := [] }
abbrev kItem (x : Str) (p1 p2 p3 : Pos) (i : Int) : Expr := .Subscript (.Name x p1) (.Constant (.int i) 0 p2) p3
abbrev kBody (x : Str) (p1 p2 p3 p4 p5 p6 p7 : Pos) : Expr := .Tuple [kItem x p1 p2 p3 1, kItem x p4 p5 p6 0] 0 p7
abbrev kScope (x : Str) : Scope := { kind := .function, names := [(x, .local)], isGenerator := false, isCoroutine := false, more := [] }
section
variable {prog : Program} {w : World} {A : Around} {E : Value → Shared → Prop} {s : Shared}
/-- box[i] -/
theorem key_item {env : Env} {x : Str} {m : Str → Option Value} {a : Addr} {its : Array Value} {p1 p2 p3 : Pos} {i : Nat} {u : Value} {Q : Value → Shared → Prop} (hk : env.scope.kind = .function) (hl : env.kindOf x = some .local) (hn : s.heap.Ns env.locals m) (hv : m x = some (.ref a))
    (ht : IsTup s.heap a its) (hi : i < its.size) (hz : its.size ≤ sizeLine) (hu : its[i]? = some u) (h : Q u { s with toks := s.toks + 1 }) (hd : (x == ("__debug__" : Str)) = false)
    (hs : ∀ o j, subscripted (.Constant (.int (i : Int)) 0 p2) false o j = operate [o, j] (getItem o j)) : wpAny (model prog w) A (eval (kItem x p1 p2 p3 i) env) Q E s := by
  refine PyProof.Rows.Subscript_ (wpAny_Name (wpAny_loadName_local hk hl hn hv ?_) hd)
  refine wpAny_Constant_int ?_
  have hs63 := line63
  have h63 : (i : Int) < 2 ^ 63 := by
    have : (i : Int) < (sizeLine : Int) := by omega
    omega
  refine subscriptTail_builtinR (x := u) (IsTup.typeIs (show IsTup ({ s with toks := s.toks + 1 } : Shared).heap a its from ht)) slot_tuple_getitem.lookup
    (PyProof.Rows.getItem_tuple (j := i) (Q := fun r s' => r = u ∧ Q r s') ht (by omega) h63 ?_ hu ⟨rfl, h⟩) (hs _ _)
  unfold seqIndex?
  simp
  omega
/-- a call of the key -/
theorem key_call {f c' a : Addr} {qual x : Str} {cl : List (Str × Addr)} {pm ctv u0 u1 : Value} {its : Array Value} {n0 n1 : Int} {p0 p1 p2 p3 p4 p5 p6 p7 : Pos} (hroom : A.depth < recursionLimit)
    (hf : s.heap.get? f = some (PySem.W.kla_obj "<lambda>" qual (kPar x p0) (kBody x p1 p2 p3 p4 p5 p6 p7) (kScope x) cl pm c' ctv)) (hrec : s.heap.CodeRec (.ref c') qual) (lim : s.heap.NoLimit)
    (ht : IsTup s.heap a its) (hz : its.size ≤ sizeLine) (h1 : 1 < its.size) (hu0 : its[0]? = some u0) (hu1 : its[1]? = some u1) (e0 : RelV (.int n0) u0) (e1 : RelV (.int n1) u1) (hd : (x == ("__debug__" : Str)) = false)
    (hbind : bindArgs (PySem.W.kla_fn "<lambda>" qual (kPar x p0) (kBody x p1 p2 p3 p4 p5 p6 p7) (kScope x) cl pm (.ref c') ctv) ⟨[.ref a], []⟩ = pure [(x, .ref a)])
    (hs : ∀ (i : Int) (p : Pos) o j, subscripted (.Constant (.int i) 0 p) false o j = operate [o, j] (getItem o j)) :
    wpAny (model prog w) A (call (.ref f) [.ref a]) (KeyPure (.tuple [.int n1, .int n0]) s) E s := by
  obtain ⟨t0, rfl⟩ := e0
  obtain ⟨t1, rfl⟩ := e1
  refine wpAny_call (PySem.W.kla_callFunE hroom hf rfl rfl rfl rfl hrec ?_)
  rw [hbind]
  have hl : (kScope x).names.lookup x = some .local := by simp [List.lookup]
  refine wpAny_pure (wpAny_newFunctionEnv (fun y hy => ?_) (fun y hy => ?_) (fun h₁ hns hsb => ⟨lim.fresh _ hsb, ?_⟩) rfl)
  · simp only [PySem.W.kla_fn, List.mem_singleton] at hy
    rw [hy]
    exact fun z => nomatch z
  · simp only [List.mem_singleton] at hy
    rw [hy]
    exact hl
  · have kp : ∀ b o, s.heap.get? b = some o → h₁.get? b = some o := fun b o e => hsb.extBut b o (Nat.ne_of_lt (Heap.lt_size e)) (Heap.get?_push_of_some _ e)
    refine PySem.W.kla_codeExpr ?_
    refine wpAny_Tuple_spliced (Calls.spliced_cons (key_item (i := 1) (u := .int n1 t1) (m := fun y => ([(x, Value.ref a)] : List (Str × Value)).reverse.lookup y) (a := a) rfl hl hns (by simp [List.lookup]) (ht.keeps kp) h1 hz hu1 ?_ hd (hs _ _)))
    refine Calls.spliced_cons (key_item (i := 0) (u := .int n0 t0) (m := fun y => ([(x, Value.ref a)] : List (Str × Value)).reverse.lookup y) (a := a) rfl hl hns (by simp [List.lookup]) (ht.keeps kp) (Nat.lt_trans Nat.zero_lt_one h1) hz hu0 ?_ hd (hs _ _))
    refine Calls.spliced_nil ⟨(show 2 ≤ sizeLine by decide), ?_⟩
    refine ⟨_, _, rfl, fun b o e => Heap.get?_push_of_some _ (kp b o e), ?_⟩
    exact .tuple (Heap.get?_push_size _ rfl) rfl rfl (.cons (.int _ _) (.cons (.int _ _) .nil))
end
section
variable {X : Cx} {pins : List (Addr × Obj)} {σ : L2.St} {H : Hp} {s : Shared}
/-- a lambda's making, told of all tables -/
theorem lam_new {c P : Addr} {params : Arguments} {body : Expr} {scope : Scope} {pos : Pos} {E : Value → Shared → Prop} {Q : Value → Shared → Prop} (I : Inv X pins σ H s) (TB : TabB X.base X.mg c P) (hcode : X.env.code = .ref c)
    (hm : (P, X.env.qual ++ "<lambda>") ∈ TC.T) (hu : ∀ p ∈ TC.T, p.1 = P → p.2 = X.env.qual ++ "<lambda>") (hT : Tabs TC.T H) (hdef : defaultsOf params X.env = ([], [])) (hfree : ∀ y ∈ scope.names, y.2 = .free → ∃ c, X.env.cells.lookup y.1 = some c)
    (h : ∀ (f c' : Addr) (pm ctv : Value) (H1 : Hp) (s' : Shared), Inv X pins σ H1 s' → Ex H H1 → (∀ a, H a = none → H1 a = none ∨ a = c') →
      s'.heap.get? f = some (PySem.W.kla_obj "<lambda>" (X.env.qual ++ "<lambda>") params body scope (cloFrom X.env.cells scope.names []) pm c' ctv) → s'.heap.CodeRec (.ref c') (X.env.qual ++ "<lambda>") → Q (.ref f) s') :
    wpAny (model X.prog X.w) X.A (eval (.Lambda params body scope pos) X.env) Q E s := by
  obtain ⟨ps, hP, ht, ha⟩ := hT _ hm
  replace hP : H P = some (.tbl ps) := hP
  have gP : s.heap.get? P = some (PySem.W.tabObj ps) := I.hok P _ hP
  have bP := TB.bm.keeps I.bk
  have cP := TB.code.keeps I.bk
  have gl := I.mod.glob.keeps I.bk
  refine PySem.W.kla_eval hdef ?_
  rcases hc : codeAmong pos ps.toList with _ | cv
  · refine PySem.W.kla_makeFunction (mg := X.mg) (closure_ok hfree) I.ok.glob gl hcode cP gP ht hc TB.gP bP fun c' ctv h' tk hx hge hlt hrec htb => ?_
    obtain ⟨c2, oc, vs, t, e2, hoc, hd, hv⟩ := hrec
    cases e2
    have nC : H c' = none := I.hok.fresh hge
    have nP : P ≠ c' := ne_of_none hP nC
    have up : ∀ {b : Addr} {o o2 : Obj}, h'.get? b = some o → (h'.push o2).get? b = some o := fun e => Heap.get?_push_of_some _ e
    refine h _ c' _ ctv _ _ (inv_table (t' := tk) (q := X.env.qual ++ "<lambda>") (more := #[rawInt pos.line, rawInt pos.col, .ref c']) I hP (fun b o hb e => up (hx b o hb e)) (up htb) hge ⟨oc, vs, t, up hoc, hd, hv⟩) ?_ (fun a q => ?_) (Heap.get?_push_size _ rfl) ⟨c', oc, vs, t, rfl, up hoc, hd, hv⟩
    · have kk : ∀ a o, H a = some o → (∀ qs, o ≠ .tbl qs) → upd (upd H P (.tbl (ps ++ #[rawInt pos.line, rawInt pos.col, .ref c']))) c' (CodeO c' (X.env.qual ++ "<lambda>")) a = some o := fun a o e n => by
        rw [upd_ne (ne_of_none e nC), upd_ne fun z => n ps (Option.some.inj (e.symm.trans (by rw [z]; exact hP)))]
        exact e
      refine ⟨kk, fun a n => ?_, fun a q m tq => ?_⟩
      · by_cases z1 : a = c'
        · rw [z1, upd_same]
          exact fun z => nomatch z
        · rw [upd_ne z1]
          by_cases z2 : a = P
          · rw [z2, upd_same]
            exact fun z => nomatch z
          · rw [upd_ne z2]
            exact n
      · obtain ⟨ps', b1, b2, b3⟩ := tq
        by_cases z : a = P
        · subst z
          obtain rfl : q = X.env.qual ++ "<lambda>" := hu _ m rfl
          have el : (ps ++ #[rawInt pos.line, rawInt pos.col, .ref c']).toList = ps.toList ++ [rawInt pos.line, rawInt pos.col, .ref c'] := Array.toList_append
          refine ⟨_, by rw [upd_ne nP, upd_same], el ▸ PySem.TriplesOk_snoc _ _ _ _ ht, fun p' cv hcv => ?_⟩
          rcases among_app _ ht (el ▸ hcv) with y | y
          · obtain ⟨c0, f1, f2⟩ := ha p' cv y
            exact ⟨c0, f1, kk _ _ f2 codeO_ne⟩
          · exact ⟨c', y, upd_same⟩
        · refine ⟨ps', by rw [upd_ne (ne_of_none b1 nC), upd_ne z]; exact b1, b2, fun p' cv hcv => ?_⟩
          obtain ⟨c0, f1, f2⟩ := b3 p' cv hcv
          exact ⟨c0, f1, kk _ _ f2 codeO_ne⟩
    · by_cases z : a = c'
      · exact .inr z
      · left
        rw [upd_ne z, upd_ne fun y => by rw [y, hP] at q; cases q]
        exact q
  · obtain ⟨c', e, hco⟩ := ha pos cv hc
    subst e
    refine PySem.W.kla_makeFunctionHit (mg := X.mg) (closure_ok hfree) I.ok.glob gl hcode cP gP ht hc bP fun ctv h' tk hx hsz => ?_
    have kp : ∀ {o2 : Obj} b o, s.heap.get? b = some o → (h'.push o2).get? b = some o := fun b o e => Heap.get?_push_of_some _ (hx b o e)
    obtain ⟨⟨oc, vs, t, b1, b2, b3⟩, _, _⟩ := I.hok c' _ hco
    exact h _ c' _ ctv H _ (I.kept kp) (Ex.refl H) (fun a q => .inl q) (Heap.get?_push_size _ rfl) ⟨c', oc, vs, t, rfl, kp _ _ b1, b2, b3⟩
end
theorem kBox_eq {d y : D} (h : Mir.kBox d = some y) : ∃ n0 n1 r, d = .tup (.int n0 :: .int n1 :: r) ∧ y = .tup [.int n1, .int n0] := by
  unfold Mir.kBox at h
  split at h
  · cases h
    exact ⟨_, _, _, rfl, rfl⟩
  · cases h
section
variable {X : Cx} {a : Expr} {pos : Pos} {ma : Mir.EM}
theorem en_sortKey {k : Nat} {c P : Addr} {x : Str} {p lp kp p0 p1 p2 p3 p4 p5 p6 p7 : Pos} (hr : Room k X.A) (TB : TabB X.base X.mg c P) (hcode : X.env.code = .ref c)
    (hT : (P, X.env.qual ++ "<lambda>") ∈ TC.T) (hu : ∀ p ∈ TC.T, p.1 = P → p.2 = X.env.qual ++ "<lambda>") (hmg : X.mg "sorted" = none) (ha : EB X a ma)
    (hd : (x == ("__debug__" : Str)) = false)
    (hbind : ∀ qual cl pm c' ctv (u : Value), bindArgs (PySem.W.kla_fn "<lambda>" qual (kPar x p0) (kBody x p1 p2 p3 p4 p5 p6 p7) (kScope x) cl pm (.ref c') ctv) ⟨[u], []⟩ = pure [(x, u)])
    (hs : ∀ (i : Int) (p : Pos) o j, subscripted (.Constant (.int i) 0 p) false o j = operate [o, j] (getItem o j))
    (hg : Gl X "sorted" := by rfl) (hv : bootBuiltins "sorted" = some (.builtin "sorted") := by decide +kernel) (he : starEach [a] X.env = (false, eval a X.env) :: starEach [] X.env := by rfl) :
    EN X (.Call (.Name "sorted" p) [a] [⟨some "key", .Lambda (kPar x p0) (kBody x p1 p2 p3 p4 p5 p6 p7) (kScope x) lp, kp⟩] pos) (Mir.o1 (Mir.sortK Mir.kBox) ma) := by
  refine ⟨fun pins s σ H Q I ⟨G0, H0, G, ρ, d, r, hm, kq⟩ => ?_⟩
  simp only [Mir.o1, Option.bind_eq_some_iff] at hm
  obtain ⟨dx, hx, hf⟩ := hm
  have he' : backTo pos (starEach [a] X.env) = (false, eval a X.env) :: backTo pos (starEach [] X.env) := by
    rw [he]
    rfl
  refine wpAny_Call_Name_kw (ld_blt I hg hmg hv ?_ (by decide) (by decide))
  refine PyProof.Rows.callWith_kw (thn ((pa_cons ha pa_nil he).run pos pins s σ H (fun vs H1 => ∃ G1 v, Stp G H G1 H1 ∧ vs = [v] ∧ AtB X.K G1 H1 v dx) I ⟨G0, H0, G, ρ, dx, r, hx, fun v G' H' st a => ⟨G', v, st, rfl, a⟩⟩) fun us s1 ⟨vs, H1, I1, r1, G1, v, st, ev, av⟩ => ?_) he' (by rw [he']; rfl) rfl rfl
  subst ev
  show wpAny _ _ (evalAll [do let v ← eval (.Lambda (kPar x p0) (kBody x p1 p2 p3 p4 p5 p6 p7) (kScope x) lp) X.env; standAt pos; pure v]) _ _ s1
  have r' := r.stp st
  refine wpAny_evalAll_cons (wpAny_bind (lam_new I1 TB hcode hT hu r'.tb rfl (fun y hy e => ?_) fun f c' pm ctv H2 s2 I2 ex hno hfo hrec => wpAny_bind (wpAny_standAt (wpAny_pure (wpAny_evalAll_nil ?_)))))
  · simp only [List.mem_singleton] at hy
    rw [hy] at e
    cases e
  show wpAny _ _ (call (.builtin "sorted") us [(Str.ofString "key", .ref f)]) _ _ s2
  obtain ⟨ds, rfl⟩ : ∃ ds, dx = .lst ds := by
    cases dx <;> first | exact ⟨_, rfl⟩ | cases hf
  simp only [Mir.sortK] at hf
  rw [Option.bind_eq_some_iff] at hf
  obtain ⟨ks, hks, hf⟩ := hf
  split at hf
  rotate_left
  · cases hf
  rename_i hz
  cases hf
  obtain ⟨l, vs, rfl, hl, al⟩ := av.lst st.gh
  obtain rfl := Vals.ref1 r1
  have ex2 : Ex H1 H2 := ex
  obtain ⟨its, rv, pl, hsz⟩ := I2.list (SqL.of (ex2.l hl))
  obtain ⟨km, _⟩ := allSome_mem hks
  have g2 : Ex G1 H2 := st.gh.trans ex2
  have kd : ∀ d ∈ ds, (Mir.kBox d).getD .non ∈ ks ∧ ∃ n0 n1 r, d = .tup (.int n0 :: .int n1 :: r) ∧ (Mir.kBox d).getD .non = .tup [.int n1, .int n0] := fun d hd => by
    obtain ⟨y, e1, e2⟩ := km d hd
    obtain ⟨n0, n1, r, q1, q2⟩ := kBox_eq e1
    rw [e1, Option.getD_some]
    exact ⟨e2, n0, n1, r, q1, q2⟩
  obtain ⟨h1, h2, h3, h4⟩ := alike_sort hz
  have ea := each_of rv al
  have hlen : ds.length ≤ sizeLine := by rw [← al.len]; exact hsz
  have hd2 : X.A.depth < recursionLimit := by
    have := hr.dp
    omega
  refine sorted_key_data (b := false) (A := X.A) (bs := ds) (R := Rd1 X.K G1) (fun d => py ((Mir.kBox d).getD .non)) pl.isList ea (fun u hu' w hw => ?_) ?_ hlen (fun d hd => ?_) (ksk_s1 _ _) (fun _ => ksk_l1 _ _) (fun _ => ksk_t1 _ _) (fun u d ⟨z, rz, az⟩ hdm h tk kp => ?_) fun out c h' tk kp hn0 hn1 hol eo => ?_
  · obtain ⟨b, hb, rfl⟩ := List.mem_map.mp hu'
    obtain ⟨b', hb', rfl⟩ := List.mem_map.mp hw
    exact h1 _ (kd b hb).1 _ (kd b' hb').1
  · refine .inl fun y hy => ?_
    obtain ⟨b, hb, rfl⟩ := List.mem_map.mp hy
    obtain ⟨_, n0, n1, r, _, e⟩ := kd b hb
    rw [e]
    exact ⟨_, _, by simp only [py, pys]; rfl⟩
  · have := h4 _ (kd d hd).1
    have := hr.un
    omega
  · obtain ⟨_, n0, n1, r, rfl, e⟩ := kd d hdm
    rw [e]
    cases az with
    | tup hg al' =>
      rename_i ad vs'
      cases rz
      obtain ⟨its', rv', pl', hsz'⟩ := I2.tuple (SqT.of (g2.t hg))
      cases al' with
      | cons a0 al' => cases al' with
        | cons a1 al' =>
          cases a0
          cases a1
          cases rv' with
          | cons e0 rv' => cases rv' with
            | cons e1 rv' =>
              obtain ⟨c2, oc, ws, t, e2, b1, b2, b3⟩ := hrec
              exact key_call (A := X.A.in1.in1) (show X.A.in1.in1.depth < _ from hd2) (kp _ _ hfo) ⟨c2, oc, ws, t, e2, kp _ _ b1, b2, b3⟩ (I2.nolimit.keeps kp) (pl'.keeps kp) (by
                have := rv'.length
                simp only [List.length_cons] at hsz'
                simp only [List.size_toArray, List.length_cons]
                omega) (by simp) (by simp) (by simp) e0 e1 hd (hbind _ _ _ _ _ _) hs
  · rw [show dataLe false (fun d => py ((Mir.kBox d).getD .non)) = fun p q => dataLe false py ((Mir.kBox p).getD .non) ((Mir.kBox q).getD .non) from rfl, sort_congr (s := fun p q => Mir.ordD ((Mir.kBox p).getD .non) ((Mir.kBox q).getD .non)) fun b hb b' hb' => h3 _ (kd b hb).1 _ (kd b' hb').1] at eo
    obtain ⟨ws, rw', aw⟩ := of_each eo
    have hn : H2 (s2.heap.objs.size + 1) = none := I2.hok.fresh (Nat.le_succ _)
    have hw : ws.length ≤ sizeLine := by
      rw [rw'.length, hol]
      exact hlen
    refine ⟨.ref _, upd H2 (s2.heap.objs.size + 1) (.lst ws), I2.laid (t' := tk) kp (Nat.le_succ _) ⟨hw, out, c, rw', hn1⟩, rfl, ?_⟩
    exact newL g2 hn aw fun v G' H' st' a => kq v G' H' ((st.trans ⟨Ex.refl _, ex2, g2, fun _ _ => rfl⟩).trans st') (a.back (st.h.trans ex2))
end
end Snd
set_option Elab.async false
set_option linter.all false
set_option maxRecDepth 100000
set_option maxHeartbeats 4000000
/-! SndB: more expressions. -/
namespace Snd
open PySem L2 LamX PySem.Spec PyProof.Rows
variable [TC : TabCtx]
section
variable {X : Cx} {a b c d : Expr} {pos : Pos} {ma mb mc md : Mir.EM}
theorem om_isB : OpR X (compareOp .Is) (rO X.K Mir.isBD) := opR_imp op_isBl fun _ _ _ H x y Q I h => by
  obtain ⟨G, dx, dy, d, e, ax, ay, hf, k⟩ := h
  unfold Mir.isBD at hf
  split at hf
  · cases hf
    obtain rfl := ax.bl
    obtain rfl := ay.bl
    exact ⟨_, _, rfl, rfl, k _ _ _ (.refl e) (.bl _)⟩
  · cases hf
/-- a module's int or text -/
theorem ev_glob {x : Str} {v : V} {u : Value} {dd : D} (hm : X.mg x = some u) (r : RelV v u) (hv : ∀ G, At X.K G v dd) (hg : Gl X x := by rfl) (hd : (x == ("__debug__" : Str)) = false := by decide) : EV X (.Name x pos) (Mir.cD dd) := ev_c (pe_glob hg hm r hd) hv
theorem rangeL_eq : ∀ (n : Nat) (lo : Int), Mir.rangeL lo n = (List.range n).map fun i => Mir.D.int (lo + (i : Nat))
  | 0, lo => rfl
  | n + 1, lo => by
    rw [List.range_succ_eq_map, List.map_cons, List.map_map]
    unfold Mir.rangeL
    rw [rangeL_eq n (lo + 1)]
    simp only [Int.natCast_zero, Int.add_zero, List.cons.injEq, true_and]
    refine List.map_congr_left fun i _ => ?_
    simp only [Function.comp_apply, Nat.succ_eq_add_one, Int.natCast_add, Int.natCast_one]
    congr 1
    omega
theorem at_rgV {K : PySem.W.Frag} {G : Hp} (j : Int) : AtL K G (rgV 0 j) (Mir.rangeL 0 j.toNat) := by
  rw [rangeL_eq]
  unfold rgV
  have e : (List.range (j - 0).toNat).map (fun i => V.int (0 + (i : Nat))) = ((List.range j.toNat).map fun i : Nat => (i : Int)).map V.int := by
    rw [Int.sub_zero, List.map_map]
    exact List.map_congr_left fun i _ => by simp
  have e2 : (List.range j.toNat).map (fun i => Mir.D.int (0 + (i : Nat))) = ((List.range j.toNat).map fun i : Nat => (i : Int)).map Mir.D.int := by
    rw [List.map_map]
    exact List.map_congr_left fun i _ => by simp
  rw [e, e2]
  exact AtL.ofInts _
/-- list(range(e)) -/
theorem en_rangeL {p p2 q : Pos} (hc : X.calm = true) (h1 : X.mg "list" = none) (h2 : X.mg "range" = none) (ha : EB X a ma) (hg1 : Gl X "list" := by rfl) (hg2 : Gl X "range" := by rfl)
    (he : starEach [a] X.env = (false, eval a X.env) :: starEach [] X.env := by rfl) (he2 : starEach [.Call (.Name "range" p2) [a] [] q] X.env = (false, eval (.Call (.Name "range" p2) [a] [] q) X.env) :: starEach [] X.env := by rfl) :
    EN X (.Call (.Name "list" p) [.Call (.Name "range" p2) [a] [] q] [] pos) (Mir.o1 Mir.rangeD ma) :=
  pe_imp (pe_listRg hc hg1 h1 (prg_1 hg2 h2 ha he) he2) fun _ _ σ H Q _ ⟨G0, H0, G, ρ, d, r, hm, k⟩ => by
    simp only [Mir.o1, Option.bind_eq_some_iff] at hm
    obtain ⟨dx, hx, hf⟩ := hm
    refine ⟨G0, H0, G, ρ, dx, r, hx, fun x G1 H1 st1 ax => ?_⟩
    cases dx <;> simp only [Mir.rangeD] at hf <;> try cases hf
    rename_i j
    split at hf <;> cases hf
    rename_i hz
    rw [Bool.and_eq_true] at hz
    have h3 := Mir.cl_iff.mp hz.1
    have h4 := fits_le hz.2
    obtain rfl := ax.int
    refine ⟨j, rfl, ⟨by omega, by omega, h3.1, h3.2, by rw [Int.sub_zero]; omega⟩, fun q hq => ?_⟩
    exact newL st1.gh hq (at_rgV j) fun v G' H' st' a => k v G' H' (st1.trans st') (a.back st1.h)
/-! ### a < b < c <= d -/
theorem pe_chain3 {op1 op2 op3 : CmpOp} {r1 r2 r3 : R2} {ta tb tc td : TE} (h1 : OpR X (compareOp op1) r1) (h2 : OpR X (compareOp op2) r2) (h3 : OpR X (compareOp op3) r3) (ha : PE X a ta) (hb : PE X b tb) (hc : PE X c tc) (hd : PE X d td)
    (hm : lastMarks [op1, op2, op3] [b, c, d] = false := by with_unfolding_all rfl) :
    PE X (.Compare a [op1, op2, op3] [b, c, d] pos) fun σ H Q => ta σ H fun x H1 => tb σ H1 fun y H2 => r1 x y H2 fun z H3 => ∃ k, z = .bl k ∧
      if k = true then tc σ H3 fun w H4 => r2 y w H4 fun z H5 => ∃ k, z = .bl k ∧ if k = true then td σ H5 fun u H6 => r3 w u H6 Q else Q (.bl false) H5 else Q (.bl false) H3 := by
  refine ⟨fun pins s σ H Q I h => ?_⟩
  refine Compare_chain (thn (ha.run pins s σ H _ I h) fun v1 s1 ⟨x, H1, I1, e1, q1⟩ => chain_link (thn (hb.run pins s1 σ H1 _ I1 q1) fun v2 s2 ⟨y, H2, I2, e2, q2⟩ =>
    thn (h1 pins s2 σ H2 x y v1 v2 _ I2 e1 e2 q2) fun v3 s3 ⟨z, H3, I3, e3, k, ez, q3⟩ => ?_)) hm
  subst ez
  cases e3
  refine wpAny_truthy_bool ?_
  cases k with
  | false => exact ite_ff ⟨.bl false, H3, I3, rfl, q3⟩
  | true =>
    refine ite_tt (chain_link (thn (hc.run pins s3 σ H3 _ I3 q3) fun v4 s4 ⟨w, H4, I4, e4, q4⟩ => thn (h2 pins s4 σ H4 y w v2 v4 _ I4 e2 e4 q4) fun v5 s5 ⟨z, H5, I5, e5, k, ez, q5⟩ => ?_))
    subst ez
    cases e5
    refine wpAny_truthy_bool ?_
    cases k with
    | false => exact ite_ff ⟨.bl false, H5, I5, rfl, q5⟩
    | true => exact ite_tt (chain_last (thn (hd.run pins s5 σ H5 _ I5 q5) fun v6 s6 ⟨u, H6, I6, e6, q6⟩ => h3 pins s6 σ H6 w u v4 v6 Q I6 e4 e6 q6))
theorem pt_chain3 {op1 op2 op3 : CmpOp} {r1 r2 r3 : R2} {ta tb tc td : TE} (h1 : OpR X (compareOp op1) r1) (h2 : OpR X (compareOp op2) r2) (h3 : OpR X (compareOp op3) r3) (ha : PE X a ta) (hb : PE X b tb) (hc : PE X c tc) (hd : PE X d td)
    (hm : lastMarks [op1, op2, op3] [b, c, d] = false := by with_unfolding_all rfl) :
    PT X (.Compare a [op1, op2, op3] [b, c, d] pos) fun σ H Q => ta σ H fun x H1 => tb σ H1 fun y H2 => r1 x y H2 fun z H3 => ∃ k, z = .bl k ∧
      if k = true then tc σ H3 fun w H4 => r2 y w H4 fun z H5 => ∃ k, z = .bl k ∧ if k = true then td σ H5 fun u H6 => r3 w u H6 fun z H7 => ∃ k, z = .bl k ∧ Q k H7 else Q false H5 else Q false H3 := by
  refine ⟨fun pins s σ H Q I h => ?_⟩
  refine isTrue_chain (thn (ha.run pins s σ H _ I h) fun v1 s1 ⟨x, H1, I1, e1, q1⟩ => test_link (thn (hb.run pins s1 σ H1 _ I1 q1) fun v2 s2 ⟨y, H2, I2, e2, q2⟩ =>
    thn (h1 pins s2 σ H2 x y v1 v2 _ I2 e1 e2 q2) fun v3 s3 ⟨z, H3, I3, e3, k, ez, q3⟩ => ?_)) hm
  subst ez
  cases e3
  refine wpAny_truthy_bool ?_
  cases k with
  | false => exact ite_ff ⟨H3, I3, q3⟩
  | true =>
    refine ite_tt (test_link (thn (hc.run pins s3 σ H3 _ I3 q3) fun v4 s4 ⟨w, H4, I4, e4, q4⟩ => thn (h2 pins s4 σ H4 y w v2 v4 _ I4 e2 e4 q4) fun v5 s5 ⟨z, H5, I5, e5, k, ez, q5⟩ => ?_))
    subst ez
    cases e5
    refine wpAny_truthy_bool ?_
    cases k with
    | false => exact ite_ff ⟨H5, I5, q5⟩
    | true =>
      refine ite_tt (test_last (thn (hd.run pins s5 σ H5 _ I5 q5) fun v6 s6 ⟨u, H6, I6, e6, q6⟩ => thn (h3 pins s6 σ H6 w u v4 v6 _ I6 e4 e6 q6) fun v7 s7 ⟨z, H7, I7, e7, k, ez, q7⟩ => ?_))
      subst ez
      cases e7
      exact wpAny_truthy_bool ⟨H7, I7, q7⟩
theorem ev_chain3 {op1 op2 op3 : CmpOp} {F1 F2 F3 : D → D → Option D} (h1 : OpR X (compareOp op1) (rO X.K F1)) (h2 : OpR X (compareOp op2) (rO X.K F2)) (h3 : OpR X (compareOp op3) (rO X.K F3)) (ha : EB X a ma) (hb : EB X b mb) (hc : EB X c mc) (hd : EB X d md)
    (hm : lastMarks [op1, op2, op3] [b, c, d] = false := by with_unfolding_all rfl) : EV X (.Compare a [op1, op2, op3] [b, c, d] pos) (Mir.chain3 F1 F2 F3 ma mb mc md) := pe_imp (pe_chain3 h1 h2 h3 ha hb hc hd hm) fun _ _ σ H Q _ ⟨G0, H0, G, ρ, d, r, hm, k⟩ => by
  simp only [Mir.chain3, Option.bind_eq_some_iff] at hm
  obtain ⟨dx, hx, dy, hy, dz, hz, kk, hk, hf⟩ := hm
  refine ⟨G0, H0, G, ρ, dx, r, hx, fun x G1 H1 st1 ax => ⟨G0, H0, G1, ρ, dy, r.stp st1, hy, fun y G2 H2 st2 ay => ⟨G2, dx, dy, dz, st2.gh, ax.stp st2, ay, hz, fun z G3 H3 st3 az => ?_⟩⟩⟩
  cases dz <;> simp [Mir.asB] at hk
  subst hk
  cases az
  refine ⟨_, rfl, ?_⟩
  rename_i cb
  have st := (st1.trans st2).trans st3
  cases cb with
  | true =>
    rw [if_pos rfl] at hf ⊢
    rw [Option.bind_eq_some_iff] at hf
    obtain ⟨dw, hw, hf⟩ := hf
    simp only [Option.bind_eq_some_iff] at hf
    obtain ⟨dz2, hz2, k2, hk2, hf⟩ := hf
    refine ⟨G0, H0, G3, ρ, dw, r.stp st, hw, fun w G4 H4 st4 aw => ⟨G4, dy, dw, dz2, st4.gh, (ay.stp st3).stp st4, aw, hz2, fun z2 G5 H5 st5 az2 => ?_⟩⟩
    have st' := (st.trans st4).trans st5
    cases dz2 <;> simp [Mir.asB] at hk2
    subst hk2
    cases az2
    refine ⟨_, rfl, ?_⟩
    rename_i cb2
    cases cb2 with
    | true =>
      rw [if_pos rfl] at hf ⊢
      rw [Option.bind_eq_some_iff] at hf
      obtain ⟨du, hu, hf⟩ := hf
      exact ⟨G0, H0, G5, ρ, du, r.stp st', hu, fun u G6 H6 st6 au => ⟨G6, dw, du, d, st6.gh, (aw.stp st5).stp st6, au, hf, fun v G' H' st7 a => k v G' H' ((st'.trans st6).trans st7) a⟩⟩
    | false =>
      rw [if_neg (by decide)] at hf ⊢
      cases hf
      exact k _ _ _ st' (.bl _)
  | false =>
    rw [if_neg (by decide)] at hf ⊢
    cases hf
    exact k _ _ _ st (.bl _)
theorem et_chain3 {op1 op2 op3 : CmpOp} {F1 F2 F3 : D → D → Option D} (h1 : OpR X (compareOp op1) (rO X.K F1)) (h2 : OpR X (compareOp op2) (rO X.K F2)) (h3 : OpR X (compareOp op3) (rO X.K F3)) (ha : EB X a ma) (hb : EB X b mb) (hc : EB X c mc) (hd : EB X d md)
    (hm : lastMarks [op1, op2, op3] [b, c, d] = false := by with_unfolding_all rfl) : ET X (.Compare a [op1, op2, op3] [b, c, d] pos) (Mir.tB (Mir.chain3 F1 F2 F3 ma mb mc md)) := pt_imp (pt_chain3 h1 h2 h3 ha hb hc hd hm) fun _ _ σ H Q _ ⟨G0, H0, G, ρ, d, r, hm, k⟩ => by
  simp only [Mir.tB, Mir.chain3, Option.bind_eq_some_iff] at hm
  obtain ⟨dq, ⟨dx, hx, dy, hy, dz, hz, kk, hk, hf⟩, hq⟩ := hm
  refine ⟨G0, H0, G, ρ, dx, r, hx, fun x G1 H1 st1 ax => ⟨G0, H0, G1, ρ, dy, r.stp st1, hy, fun y G2 H2 st2 ay => ⟨G2, dx, dy, dz, st2.gh, ax.stp st2, ay, hz, fun z G3 H3 st3 az => ?_⟩⟩⟩
  cases dz <;> simp [Mir.asB] at hk
  subst hk
  cases az
  refine ⟨_, rfl, ?_⟩
  rename_i cb
  have st := (st1.trans st2).trans st3
  cases cb with
  | true =>
    rw [if_pos rfl] at hf ⊢
    rw [Option.bind_eq_some_iff] at hf
    obtain ⟨dw, hw, hf⟩ := hf
    simp only [Option.bind_eq_some_iff] at hf
    obtain ⟨dz2, hz2, k2, hk2, hf⟩ := hf
    refine ⟨G0, H0, G3, ρ, dw, r.stp st, hw, fun w G4 H4 st4 aw => ⟨G4, dy, dw, dz2, st4.gh, (ay.stp st3).stp st4, aw, hz2, fun z2 G5 H5 st5 az2 => ?_⟩⟩
    have st' := (st.trans st4).trans st5
    cases dz2 <;> simp [Mir.asB] at hk2
    subst hk2
    cases az2
    refine ⟨_, rfl, ?_⟩
    rename_i cb2
    cases cb2 with
    | true =>
      rw [if_pos rfl] at hf ⊢
      rw [Option.bind_eq_some_iff] at hf
      obtain ⟨du, hu, hf⟩ := hf
      refine ⟨G0, H0, G5, ρ, du, r.stp st', hu, fun u G6 H6 st6 au => ⟨G6, dw, du, dq, st6.gh, (aw.stp st5).stp st6, au, hf, fun v G' H' st7 a => ?_⟩⟩
      cases dq <;> simp [Mir.asB] at hq
      subst hq
      cases a
      exact ⟨_, rfl, k _ _ ((st'.trans st6).trans st7)⟩
    | false =>
      rw [if_neg (by decide)] at hf ⊢
      cases hf
      cases hq
      exact k _ _ st'
  | false =>
    rw [if_neg (by decide)] at hf ⊢
    cases hf
    cases hq
    exact k _ _ st
end
end Snd
set_option Elab.async false
set_option linter.all false
set_option maxRecDepth 100000
set_option maxHeartbeats 4000000
/-! SndC: a def keeps its mirror's promise. -/
namespace Snd
open PySem L2 LamX PySem.Spec PyProof.Rows
variable [TC : TabCtx]
theorem slot_app_l : ∀ (a b : Mir.Env) (i : Nat), i < a.length → Mir.slot (a ++ b) i = Mir.slot a i
  | [], _, _, h => absurd h (by simp)
  | _ :: _, _, 0, _ => rfl
  | _ :: r, b, i + 1, h => slot_app_l r b i (by simpa using h)
theorem slot_rep : ∀ (n i : Nat), Mir.slot (List.replicate n .emp) i = .emp
  | 0, _ => rfl
  | n + 1, 0 => rfl
  | n + 1, i + 1 => slot_rep n i
theorem slot_app_r : ∀ (a b : Mir.Env) (i : Nat), a.length ≤ i → Mir.slot (a ++ b) i = Mir.slot b (i - a.length)
  | [], _, _, _ => rfl
  | _ :: _, _, 0, h => absurd h (by simp)
  | _ :: r, b, i + 1, h => by
    show Mir.slot (r ++ b) i = _
    rw [slot_app_r r b i (by simpa using h)]
    congr 1
    simp
theorem slot_frz : ∀ (ds : List D) (i : Nat) (h : i < ds.length), Mir.slot (ds.map .frz) i = .frz ds[i]
  | [], _, h => absurd h (by simp)
  | _ :: _, 0, _ => rfl
  | _ :: r, i + 1, h => slot_frz r i (by simpa using h)
theorem rel_start {K : PySem.W.Frag} {G H : Hp} {N : List Str} {vs : List V} {ds : List D} {j : Nat} (e : Ex G H) (a : AtL K G vs ds) (hN : N.length = ds.length + j) (tb : Tabs TC.T H) : Rel K G H G H (start N vs) (ds.map .frz ++ List.replicate j .emp) where
  gg := Ex.refl _
  hh := Ex.refl _
  gh := e
  fr := fun _ _ => rfl
  sl := fun i => by
    by_cases h : i < ds.length
    · rw [slot_app_l _ _ _ (by simpa using h), slot_frz _ _ h]
      obtain ⟨v, hv, av⟩ := a.get (i := i) (d := ds[i]) (by simp [h])
      refine ⟨v, ?_, av⟩
      unfold L2.start
      have hl : i < vs.length := by rw [a.len]; exact h
      rw [List.getElem?_append_left (by simpa using hl), List.getElem?_map, hv]
      rfl
    · rw [slot_app_r _ _ _ (by simp; omega), slot_rep]
      trivial
  ds := fun i k l _ h => by
    exfalso
    by_cases q : i < ds.length
    · rw [slot_app_l _ _ _ (by simpa using q), slot_frz _ _ q] at h
      cases h
    · rw [slot_app_r _ _ _ (by simp; omega), slot_rep] at h
      cases h
  ln := by
    unfold L2.start
    simp only [List.length_append, List.length_map, List.length_replicate]
    have := a.len
    omega
  tb := tb
/-- a def of the top -/
theorem fn_mk {P : Program} {w : World} {K : PySem.W.Frag} {mg : Str → Option Value} {base : Heap} {k n j : Nat} {x : Str} {params : Arguments} {body : List Stmt} {scope : Scope} {N ps : List Str} {mb : Mir.SM} {f : Addr} {fd : FuncData}
    (F : FunD K x x params body scope [] [] f fd) (S : FnScope N ps scope) (hps : ps.length = n) (hN : N.length = n + j)
    (hb : ∀ (cdv : Value) (A : Around) (outer : List Env) (s : Shared) (H : Hp) (E : XK), fd.code = cdv → Room k (A.deeper (envOfC x scope s.heap.objs.size f cdv)) → SSs (cxOf L2.CX0 P w K mg base N x scope f cdv A outer s H E).nox body mb) :
    FnOk P w K mg base L2.CX0 (k + 1) f fd ps (spD K (Mir.fn n j mb)) := by
  obtain ⟨oc, od, dV, kV, doc, pm, an, cdv, ct, osl, rfl, lk, hcd, _, _⟩ := F.ex
  have hlen : ∀ ds d, Mir.fn n j mb ds = some d → ds.length = n := fun ds d h => by
    unfold Mir.fn at h
    split at h
    · assumption
    · cases h
  refine fn_of lk hcd S (fun vs H Q E ⟨G, ds, d, e, tb, a, hm, _⟩ => ?_) fun A outer s H vs Q E hr ⟨G, ds, d, e, tb, a, hm, q⟩ => ⟨rdS K mb, PSs.nox (hb cdv A outer s H E rfl hr), ?_⟩
  · rw [a.len, hlen _ _ hm, hps]
  · have hd := hlen _ _ hm
    unfold Mir.fn at hm
    rw [if_pos hd, Option.bind_eq_some_iff] at hm
    obtain ⟨o, ho, hm⟩ := hm
    refine ⟨G, H, G, _, o, rel_start (j := j) e a (by rw [hd]; exact hN) tb, ho, ?_⟩
    cases o with
    | ret d' =>
      cases hm
      exact fun v G' H' fn av => q v G' H' ⟨fn.gg, fn.hh, fn.gh, fn.fr⟩ av
    | next ρ =>
      cases hm
      exact fun σ' G' H' r => q .non G' H' ⟨r.gg, r.hh, r.gh, r.fr⟩ .non
    | brk ρ => cases hm
    | cont ρ => cases hm
/-- a def of the top -/
theorem fd_mk {P : Program} {w : World} {K : PySem.W.Frag} {mg : Str → Option Value} {base : Heap} {k n j : Nat} {x : Str} {params : Arguments} {body : List Stmt} {scope : Scope} {N ps : List Str} {mb : Mir.SM} {f : Addr} {fd : FuncData}
    (F : FunD K x x params body scope [] [] f fd) (hmg : mg x = some (.ref f)) (S : FnScope N ps scope) (hps : ps.length = n) (hN : N.length = n + j) (bnd : Binds K fd ps [])
    (hb : ∀ (cdv : Value) (A : Around) (outer : List Env) (s : Shared) (H : Hp) (E : XK), fd.code = cdv → Room k (A.deeper (envOfC x scope s.heap.objs.size f cdv)) → SSs (cxOf L2.CX0 P w K mg base N x scope f cdv A outer s H E).nox body mb) :
    Fd P w K mg base (k + 1) x (Mir.fn n j mb) := ⟨f, fd, ps, fn_mk F S hps hN hb, hmg, F.kp, bnd⟩
theorem room_u {k : Nat} {A : Around} (hr : Room k A) : A.units + 64 < cLine := by
  have := hr.un
  omega
theorem room_u1 {k : Nat} {A : Around} (hr : Room k A) : A.units + 1 < cLine := by
  have := hr.un
  omega
/-- a def of which nothing is promised -/
theorem fd_none {P : Program} {w : World} {K : PySem.W.Frag} {mg : Str → Option Value} {base : Heap} {k : Nat} {x : Str} {params : Arguments} {body : List Stmt} {scope : Scope} {ps : List Str} {f : Addr} {fd : FuncData}
    (F : FunD K x x params body scope [] [] f fd) (hmg : mg x = some (.ref f)) (bnd : Binds K fd ps []) : Fd P w K mg base k x fun _ => none :=
  ⟨f, fd, ps, ⟨fun _ _ _ _ ⟨_, _, _, _, _, _, z, _⟩ => (nomatch z), fun _ _ _ _ _ _ _ _ _ _ _ _ _ ⟨_, _, _, _, _, _, z, _⟩ => (nomatch z)⟩, hmg, F.kp, bnd⟩
end Snd
set_option linter.all false
/-! MirG: a dict of lists, filled in one loop. -/
noncomputable section
namespace Mir
/-- x put behind the list of the key n -/
def addG : List (Int × List D) → Int → D → List (Int × List D)
  | [], n, x => [(n, [x])]
  | (k, xs) :: r, n, x => if k = n then (k, xs ++ [x]) :: r else (k, xs) :: addG r n x
def grpGo (g : GM) (t : TM) (k e : EM) : List D → Env → List (Int × List D) → Option (Env × List (Int × List D))
  | [], ρ, m => some (ρ, m)
  | d :: r, ρ, m => (g d ρ).bind fun ρ1 => (t ρ1).bind fun c => if c then (k ρ1).bind fun kk => (asInt kk).bind fun n => (e ρ1).bind fun x =>
      if fits m.length && m.all (fun kv => fits kv.2.length) then grpGo g t k e r ρ1 (addG m n x) else none
    else grpGo g t k e r ρ1 m
/-- for .. in ..: if ..: x.setdefault(k, []).append(e), x a dict of its own, empty ahead -/
def grpS (i : Nat) (it : EL) (g : GM) (t : TM) (k e : EM) : SM := fun ρ => match slot ρ i with
  | .dk [] => (it ρ).bind fun ds => (grpGo g t k e ds (put ρ i .emp) []).bind fun p => some (.next (put p.1 i (.dk (p.2.map fun kv => (kv.1, .lst kv.2)))))
  | _ => none
/-- sorted(x), x a dict of its own whose keys are ints -/
def sortKs (i : Nat) : EM := fun ρ => match slot ρ i with
  | .dk kvs => if kvs.length < 64 then some (.lst (((kvs.map (·.1)).mergeSort fun a b => decide (a ≤ b)).map .int)) else none
  | _ => none
/-- what is evaluated with lists of the def's own lent to it: no list comes out of it -/
def lendE (is : List Nat) (m : EM) : EM := fun ρ => (m (freeze ρ is)).bind fun d => if flat d then some d else none
/-- sorted(x), x a list or a tuple -/
def sortA : D → Option D
  | .tup xs => sortD (.lst xs)
  | d => sortD d
end Mir
end
set_option Elab.async false
set_option linter.all false
set_option maxRecDepth 100000
set_option maxHeartbeats 4000000
/-! SndG: a dict of lists, filled in one loop. -/
namespace Snd
open PySem L2 LamX
variable [TC : TabCtx]
section
variable {K : PySem.W.Frag} {G0 H0 G H G' H' : Hp} {σ : St} {ρ : Mir.Env}
/-- no slot owns a -/
def Apart (σ : St) (ρ : Mir.Env) (a : Addr) : Prop := ∀ j, mutSl (Mir.slot ρ j) = true → σ[j]? ≠ some (some (.ref a))
/-- a thing of nobody's changes -/
theorem Rel.poke (r : Rel K G0 H0 G H σ ρ) {a : Addr} {o u0 : HO} (n0 : H0 a = none) (gl : G a = none) (hu : H a = some u0) (nt : NoT u0) (no : Apart σ ρ a) : Rel K G0 H0 G (upd H a o) σ ρ where
  gg := r.gg
  hh := r.hh.mut n0 (fun u h => by rw [hu] at h; cases h; exact nt) o
  gh := r.gh.mut gl (fun u h => by rw [hu] at h; cases h; exact nt) o
  tb := fun p hp => tabS_at (r.tb p hp) (fun ps h => by
    have : p.1 ≠ a := fun q => by
      rw [q, hu] at h
      exact nt.1 ps (Option.some.inj h)
    rw [upd_ne this]
    exact h) fun c q h => by
    have : c ≠ a := fun z => by
      rw [z, hu] at h
      exact nt.2 c q (Option.some.inj (by rw [z]; exact h))
    rw [upd_ne this]
    exact h
  fr := r.fr
  ds := r.ds
  ln := r.ln
  sl := fun j => by
    have q := r.sl j
    have keep : ∀ l' vs', mutSl (Mir.slot ρ j) = true → σ[j]? = some (some (.ref l')) → H l' = some vs' → (upd H a o) l' = some vs' := fun l' vs' hm e h => by
      have : l' ≠ a := fun z => no j hm (z ▸ e)
      rw [upd_ne this]
      exact h
    generalize Mir.slot ρ j = sj at q keep
    cases sj with
    | emp => trivial
    | frz d => exact q
    | own ds =>
      obtain ⟨l', vs, e, a1, a2, a3, a4⟩ := q
      exact ⟨l', vs, e, a1, a2, keep l' _ rfl e a3, a4⟩
    | dk ds =>
      obtain ⟨l', vs, e, a1, a2, a3, a4⟩ := q
      exact ⟨l', vs, e, a1, a2, keep l' _ rfl e a3, a4⟩
    | dt ds =>
      obtain ⟨l', vs, e, a1, a2, a3, a4⟩ := q
      exact ⟨l', vs, e, a1, a2, keep l' _ rfl e a3, a4⟩
/-- a thing of nobody's is given away -/
theorem Rel.hand (r : Rel K G0 H0 G H σ ρ) {a : Addr} {o : HO} (n0 : H0 a = none) (gl : G a = none) (hu : H a = some o) (nt : NoT o) (no : Apart σ ρ a) : Rel K G0 H0 (upd G a o) H σ ρ := by
  have ex : Ex G (upd G a o) := Ex.new gl
  refine ⟨r.gg.trans ex, r.hh, r.gh.give nt hu, fun b hb => ?_, fun j => ?_, r.ds, r.ln, r.tb⟩
  · have : b ≠ a := fun q => hb (by rw [q]; exact n0)
    rw [upd_ne this]
    exact r.fr b hb
  · have q := r.sl j
    have keep : ∀ l', mutSl (Mir.slot ρ j) = true → σ[j]? = some (some (.ref l')) → G l' = none → (upd G a o) l' = none := fun l' hm e h => by
      have : l' ≠ a := fun z => no j hm (z ▸ e)
      rw [upd_ne this]
      exact h
    generalize Mir.slot ρ j = sj at q keep
    cases sj with
    | emp => trivial
    | frz d =>
      obtain ⟨v, e, a⟩ := q
      exact ⟨v, e, a.mono ex⟩
    | own ds =>
      obtain ⟨l', vs, e, a1, a2, a3, a4⟩ := q
      exact ⟨l', vs, e, a1, keep l' rfl e a2, a3, a4.mono ex⟩
    | dk ds =>
      obtain ⟨l', vs, e, a1, a2, a3, a4⟩ := q
      exact ⟨l', vs, e, a1, keep l' rfl e a2, a3, a4.mono ex⟩
    | dt ds =>
      obtain ⟨l', vs, e, a1, a2, a3, a4⟩ := q
      exact ⟨l', vs, e, a1, keep l' rfl e a2, a3, a4.mono ex⟩
/-- the dict's pairs, its lists at the addresses as -/
inductive GrpL (K : PySem.W.Frag) (H0 G H : Hp) : List (Key × V) → List (Int × List D) → List Addr → Prop
  | nil : GrpL K H0 G H [] [] []
  | cons {k : Int} {a : Addr} {vs : List V} {ds : List D} {us : List (Key × V)} {m : List (Int × List D)} {as : List Addr} : H0 a = none → G a = none → H a = some (.lst vs) → AtL K G vs ds → GrpL K H0 G H us m as → GrpL K H0 G H ((Sum.inl k, .ref a) :: us) ((k, ds) :: m) (a :: as)
theorem GrpL.stp (st : Stp G H G' H') {us m as} (h : GrpL K H0 G H us m as) : GrpL K H0 G' H' us m as := by
  induction h with
  | nil => exact .nil
  | cons h1 h2 h3 h4 _ ih => exact .cons h1 (by rw [st.fr _ (some_ne h3), h2]) (st.h.l h3) (h4.mono st.g) ih
theorem GrpL.poke {us m as} (h : GrpL K H0 G H us m as) {b : Addr} (hb : b ∉ as) (o : HO) : GrpL K H0 G (upd H b o) us m as := by
  induction h with
  | nil => exact .nil
  | @cons k a vs ds us m as h1 h2 h3 h4 _ ih =>
    have : a ≠ b := fun q => hb (by rw [q]; exact List.mem_cons_self)
    exact .cons h1 h2 (by rw [upd_ne this]; exact h3) h4 (ih fun q => hb (List.mem_cons_of_mem _ q))
theorem GrpL.len {us m as} (h : GrpL K H0 G H us m as) : us.length = m.length := by
  induction h with
  | nil => rfl
  | cons _ _ _ _ _ ih => simp [ih]
/-- the key n stands there or not -/
theorem GrpL.find {us m as} (h : GrpL K H0 G H us m as) (nd : as.Nodup) (n : Int) :
    (valV us (Sum.inl n : Key) = none ∧ (us.any fun kv => decide (kv.1 = (Sum.inl n : Key))) = false ∧ ∀ x, Mir.addG m n x = m ++ [(n, [x])]) ∨
    ∃ a vs ds, valV us (Sum.inl n : Key) = some (.ref a) ∧ a ∈ as ∧ H0 a = none ∧ G a = none ∧ H a = some (.lst vs) ∧ vs.length = ds.length ∧ (n, ds) ∈ m ∧ ∀ w x, At K G w x → GrpL K H0 G (upd H a (.lst (vs ++ [w]))) us (Mir.addG m n x) as := by
  induction h with
  | nil => exact .inl ⟨rfl, rfl, fun x => rfl⟩
  | @cons k a vs ds us m as h1 h2 h3 h4 hr ih =>
    obtain ⟨nd1, nd2⟩ := List.nodup_cons.mp nd
    by_cases q : k = n
    · subst q
      refine .inr ⟨a, vs, ds, valV_pos rfl, List.mem_cons_self, h1, h2, h3, h4.len, List.mem_cons_self, fun w x ax => ?_⟩
      simp only [Mir.addG, if_true]
      exact .cons h1 h2 upd_same (h4.app (.cons ax .nil)) (hr.poke nd1 _)
    · have qk : ¬ (Sum.inl k : Key) = Sum.inl n := fun z => q (Sum.inl.inj z)
      rcases ih nd2 with ⟨i1, i2, i3⟩ | ⟨b, ws, es, j1, j2, j3, j4, j5, j6, j7, j8⟩
      · refine .inl ⟨by rw [valV_neg (p := (Sum.inl k, V.ref a)) qk]; exact i1, ?_, fun x => ?_⟩
        · rw [List.any_cons, i2, Bool.or_false]
          exact decide_eq_false qk
        · simp only [Mir.addG, if_neg q, i3 x, List.cons_append]
      · refine .inr ⟨b, ws, es, by rw [valV_neg (p := (Sum.inl k, V.ref a)) qk]; exact j1, List.mem_cons_of_mem _ j2, j3, j4, j5, j6, List.mem_cons_of_mem _ j7, fun w x ax => ?_⟩
        simp only [Mir.addG, if_neg q]
        have : a ≠ b := fun z => nd1 (z ▸ j2)
        exact .cons h1 h2 (by rw [upd_ne this]; exact h3) h4 (j8 w x ax)
theorem GrpL.snoc {us m as} (h : GrpL K H0 G H us m as) {p : Addr} {n : Int} {w : V} {x : D} (h1 : H0 p = none) (h2 : G p = none) (h3 : H p = some (.lst [w])) (ax : At K G w x) : GrpL K H0 G H (us ++ [(Sum.inl n, .ref p)]) (m ++ [(n, [x])]) (as ++ [p]) := by
  induction h with
  | nil => exact .cons h1 h2 h3 (.cons ax .nil) .nil
  | cons a1 a2 a3 a4 _ ih => exact .cons a1 a2 a3 a4 ih
/-- all lists are given away -/
theorem GrpL.hand : ∀ {us m as} {G : Hp}, GrpL K H0 G H us m as → as.Nodup → Rel K G0 H0 G H σ ρ → (∀ a ∈ as, Apart σ ρ a) → ∃ G', Ex G G' ∧ (∀ a, a ∉ as → G' a = G a) ∧ Rel K G0 H0 G' H σ ρ ∧ KvK K G' us (m.map fun kv => (kv.1, .lst kv.2))
  | _, _, _, G, .nil, _, r, _ => ⟨G, Ex.refl _, fun _ _ => rfl, r, .nil⟩
  | _, _, _, G, .cons (k := k) (a := a) (vs := vs) (ds := ds) (as := as) h1 h2 h3 h4 hr, nd, r, ap => by
    obtain ⟨nd1, nd2⟩ := List.nodup_cons.mp nd
    have r1 := r.hand h1 h2 h3 NoT.l (ap a List.mem_cons_self)
    have ex : Ex G (upd G a (.lst vs)) := Ex.new h2
    have hr1 : ∀ {us m as}, GrpL K H0 G H us m as → a ∉ as → GrpL K H0 (upd G a (.lst vs)) H us m as := fun {us m as} h hn => by
      induction h with
      | nil => exact .nil
      | @cons k b ws es us m as b1 b2 b3 b4 _ ih =>
        have : b ≠ a := fun q => hn (by rw [q]; exact List.mem_cons_self)
        exact .cons b1 (by rw [upd_ne this]; exact b2) b3 (b4.mono ex) (ih fun q => hn (List.mem_cons_of_mem _ q))
    obtain ⟨G', e1, e2, e3, e4⟩ := GrpL.hand (hr1 hr nd1) nd2 r1 fun b hb => ap b (List.mem_cons_of_mem _ hb)
    refine ⟨G', ex.trans e1, fun b hb => ?_, e3, .cons ?_ e4⟩
    · have hb1 : b ≠ a := fun q => hb (by rw [q]; exact List.mem_cons_self)
      rw [e2 b fun q => hb (List.mem_cons_of_mem _ q), upd_ne hb1]
    · exact (At.lst upd_same (h4.mono ex)).mono e1
/-- a slot is looked away from -/
theorem Rel.hide (r : Rel K G0 H0 G H σ ρ) (i : Nat) : Rel K G0 H0 G H σ (Mir.put ρ i .emp) := by
  have key : ∀ j, mutSl (Mir.slot (Mir.put ρ i .emp) j) = true → mutSl (Mir.slot ρ j) = true := fun j h => by
    rw [slot_put] at h
    split at h
    · cases h
    · exact h
  refine ⟨r.gg, r.hh, r.gh, r.fr, fun j => ?_, fun a b l hab ha hb => r.ds a b l hab (key a ha) (key b hb), by rw [put_len]; exact r.ln, r.tb⟩
  rw [slot_put]
  split
  · trivial
  · exact r.sl j
/-- a slot holds a dict -/
theorem Rel.hold (r : Rel K G0 H0 G H σ ρ) {i : Nat} {l : Addr} {us : List (Key × V)} {kvs : List (Int × D)} (hl : σ[i]? = some (some (.ref l))) (n0 : H0 l = none) (gl : G l = none) (hd : H l = some (.dK us)) (kv : KvK K G us kvs) (ap : Apart σ ρ l) : Rel K G0 H0 G H σ (Mir.put ρ i (.dk kvs)) := by
  have key : ∀ j, j ≠ i → mutSl (Mir.slot (Mir.put ρ i (.dk kvs)) j) = true → mutSl (Mir.slot ρ j) = true := fun j hj h => by
    rw [slot_put, if_neg (fun z => hj z.1)] at h
    exact h
  refine ⟨r.gg, r.hh, r.gh, r.fr, fun j => ?_, fun a b m hab ha hb ea eb => ?_, by rw [put_len]; exact r.ln, r.tb⟩
  · rw [slot_put]
    split
    · rename_i h
      rw [h.1]
      exact ⟨l, us, hl, n0, gl, hd, kv⟩
    · exact r.sl j
  · by_cases h1 : a = i
    · subst h1
      rw [hl] at ea
      cases ea
      exact ap b (key b (Ne.symm hab) hb) eb
    · by_cases h2 : b = i
      · subst h2
        rw [hl] at eb
        cases eb
        exact ap a (key a h1 ha) ea
      · exact r.ds a b m hab (key a h1 ha) (key b h2 hb) ea eb
end
/-- what is stored holds nothing of its own -/
def PureT (is : List Nat) (g : Mir.GM) : Prop := ∀ d ρ ρ1, g d ρ = some ρ1 → (∀ j, mutSl (Mir.slot ρ1 j) = true → j ∉ is ∧ Mir.slot ρ1 j = Mir.slot ρ j) ∧ ∀ j, j ∉ is → Mir.slot ρ1 j = Mir.slot ρ j
section
variable {X : Cx} {c ke ee tg iter : Expr} {it : Mir.EL} {g : Mir.GM} {t : Mir.TM} {mk me : Mir.EM} {is : List Nat}
theorem ss_grp (i : Nat) {x : Str} {p ap cp lp ap2 cp2 sp ip pos : Pos} (hp : PassesOwn (model X.prog X.w) X.A X.env X.xe) (hc : X.calm = true) (hi : SI X tg iter it) (hg : SG X tg is g) (pg : PureT is g) (hni : i ∉ is) (ht : ET X c t) (hk : EB X ke mk) (he : EV X ee me)
    (hN : X.N[i]? = some x := by rfl) (hv : Vis X.env.scope x := by first | exact Or.inl rfl | exact Or.inr (Or.inl rfl))
    (m2 : M2 X (.Name x p) "setdefault" ap ke (.List [] lp) cp := by exact ⟨rfl, rfl, rfl, rfl⟩)
    (hbase : attributeBase (.Call (.Attribute (.Name x p) "setdefault" ap) [ke, .List [] lp] [] cp) "append" X.env (eval (.Call (.Attribute (.Name x p) "setdefault" ap) [ke, .List [] lp] [] cp) X.env) = eval (.Call (.Attribute (.Name x p) "setdefault" ap) [ke, .List [] lp] [] cp) X.env := by rfl)
    (hfew : ((backTo cp2 (starEach [ee] X.env)).all (fun x => !x.1) && (backToKw cp2 (keywordEach [] X.env)).all (fun x => x.1.isSome) && decide (([ee] : List Expr).length + ([] : List Keyword).length + (if ([] : List Keyword).isEmpty then 0 else 1) < 30)) = true := by rfl)
    (hline : (ap2.endLine == cp2.line) = true := by rfl) (hst : starEach [ee] X.env = (false, eval ee X.env) :: starEach [] X.env := by rfl)
    (hsw : swapsWith (.Call (.Attribute (.Call (.Attribute (.Name x p) "setdefault" ap) [ke, .List [] lp] [] cp) "append" ap2) [ee] [] cp2) none sp.line X.env = pure false := by rfl)
    (hd : (x == ("__debug__" : Str)) = false := by decide) (hcd : (x == ("__classdict__" : Str)) = false := by decide) (hs : ∀ x, foldedSetIterable iter X.env x = pure x := by intro _; rfl) :
    SS X (.For tg iter [.If c [.Expr (.Call (.Attribute (.Call (.Attribute (.Name x p) "setdefault" ap) [ke, .List [] lp] [] cp) "append" ap2) [ee] [] cp2) sp] [] ip] [] pos) (Mir.grpS i it g t mk me) := by
  have hb := pss_one (ps_if (pos := ip) ht (pss_one (ps_expr (pos := sp) (pe_bm PySem.F.plainAttrs_list PySem.F.slot_list_append PySem.F.type_list_append mt_append (pe_dsetd (pe_var hN hv hd hcd) hk (pe_lst (pos := lp) pa_nil) m2) (pa_cons he pa_nil hst) hbase hfew hline hst) hsw)) pss_nil)
  refine ps_imp (ps_for hp hc hi hg hb hs) fun _ _ σ H Dd _ ⟨G0, H0, G, ρ, o, r, hm, k⟩ => ?_
  unfold Mir.grpS at hm
  split at hm
  rotate_left
  · cases hm
  rename_i hsl
  simp only [Option.bind_eq_some_iff] at hm
  obtain ⟨ds, hds, ⟨ρf, mf⟩, hgo, hm⟩ := hm
  cases hm
  refine ⟨G0, H0, G, ρ, ds, r, hds, fun J G1 H1 st1 hJ => ?_⟩
  have r1 := r.stp st1
  obtain ⟨l, us, hl, n0, gl, hd', kv⟩ := r1.dk hsl
  cases kv
  have ap0 : Apart σ (Mir.put ρ i .emp) l := fun j hj e => by
    rw [slot_put] at hj
    split at hj
    · cases hj
    · rename_i hn
      by_cases hji : j = i
      · subst hji
        rw [slot_out ρ j (by omega)] at hj
        cases hj
      · exact r1.ds j i l hji hj (by rw [hsl]; rfl) e hl
  have e0 : Mir.slot (Mir.put ρ i .emp) i = .emp := by
    rw [slot_put]
    split
    · rfl
    · rename_i hn
      exact slot_out ρ i (by omega)
  refine ⟨fun n k σ' H' => k = ds.length - n ∧ n ≤ ds.length ∧ ∃ G' ρ' m as us, Rel X.K G1 H0 G' H' σ' ρ' ∧ Mir.slot ρ' i = .emp ∧ σ'[i]? = some (some (.ref l)) ∧ G' l = none ∧ H' l = some (.dK us) ∧ GrpL X.K H0 G' H' us m as ∧ (l :: as).Nodup ∧ (∀ a ∈ l :: as, Apart σ' ρ' a) ∧
    Mir.grpGo g t mk me (ds.drop n) ρ' m = some (ρf, mf), ⟨ds.length, by omega, Nat.zero_le _, G1, _, [], [], [], r1.hide i |>.rebase, e0, hl, gl, hd', .nil, by simp, fun a ha => by rw [List.mem_singleton.mp ha]; exact ap0, hgo⟩, ?_⟩
  rintro n kk σ' H' ⟨rfl, hn, G', ρ', m, as, us, r', hemp, hl', gl', hd2, gr, nd, ap, hgo⟩
  by_cases hlt : n < ds.length
  · refine .inr ?_
    have hdn := List.getElem?_eq_getElem hlt
    rw [List.drop_eq_getElem_cons hlt] at hgo
    generalize ds[n] = d at hdn hgo
    obtain ⟨g1, g2⟩ := hJ.go n d G' H' r'.gg r'.gh hdn
    simp only [Mir.grpGo, Option.bind_eq_some_iff] at hgo
    obtain ⟨ρ1, hρ1, b, hb', hgo⟩ := hgo
    refine ⟨g1, fun σ2 H2 => ∃ G' ρ' m as us, Rel X.K G1 H0 G' H2 σ2 ρ' ∧ Mir.slot ρ' i = .emp ∧ σ2[i]? = some (some (.ref l)) ∧ G' l = none ∧ H2 l = some (.dK us) ∧ GrpL X.K H0 G' H2 us m as ∧ (l :: as).Nodup ∧ (∀ a ∈ l :: as, Apart σ2 ρ' a) ∧
      Mir.grpGo g t mk me (ds.drop (n + 1)) ρ' m = some (ρf, mf), fun σ2 H2 h2 => ⟨ds.length - (n + 1), by omega, rfl, hlt, h2⟩, fun y Hx hy => ?_⟩
    obtain ⟨Gx, stx, ax⟩ := g2 y Hx hy
    refine ⟨G1, H0, Gx, ρ', d, ρ1, r'.stp stx, ax, hρ1, fun σ2 r2 hlen hsame => ?_⟩
    obtain ⟨pg1, pg2⟩ := pg d ρ' ρ1 hρ1
    have hl2 : σ2[i]? = some (some (.ref l)) := by rw [hsame i hni]; exact hl'
    have em2 : Mir.slot ρ1 i = .emp := by rw [pg2 i hni]; exact hemp
    have ap2 : ∀ a ∈ l :: as, Apart σ2 ρ1 a := fun a ha j hj e => by
      obtain ⟨q1, q2⟩ := pg1 j hj
      rw [q2] at hj
      rw [hsame j q1] at e
      exact ap a ha j hj e
    have glx : Gx l = none := by rw [stx.fr l (some_ne hd2), gl']
    have hdx : Hx l = some (.dK us) := stx.h.dk hd2
    have grx := gr.stp stx
    refine ⟨G1, H0, Gx, ρ1, b, r2, hb', fun G3 H3 st3 => ?_⟩
    have r3 := r2.stp st3
    have gl3 : G3 l = none := by rw [st3.fr l (some_ne hdx), glx]
    have hd3 : H3 l = some (.dK us) := st3.h.dk hdx
    have gr3 := grx.stp st3
    cases b with
    | false =>
      dsimp only
      rw [if_neg (by decide)]
      rw [if_neg (by decide)] at hgo
      exact ⟨G3, ρ1, m, as, us, r3, em2, hl2, gl3, hd3, gr3, nd, ap2, hgo⟩
    | true =>
      dsimp only
      rw [if_pos rfl]
      rw [if_pos rfl] at hgo
      simp only [Option.bind_eq_some_iff] at hgo
      obtain ⟨dk, hdk, nn, hnn, xx, hxx, hgo⟩ := hgo
      split at hgo
      rotate_left
      · cases hgo
      rename_i hz
      rw [Bool.and_eq_true] at hz
      cases dk <;> simp [Mir.asInt] at hnn
      subst hnn
      rename_i nn
      -- the dict, the key, a new list
      refine ⟨V.ref l, hl2, l, rfl, .inl ⟨us, .inl hd3⟩, G1, H0, G3, ρ1, _, r3, hdk, fun y4 G4 H4 st4 a4 => ?_⟩
      have r4 := r3.stp st4
      have gl4 : G4 l = none := by rw [st4.fr l (some_ne hd3), gl3]
      have hd4 : H4 l = some (.dK us) := st4.h.dk hd3
      have gr4 := gr3.stp st4
      have ey : y4 = .int nn := a4.int
      refine ⟨Nat.zero_le _, fun p hp => ?_⟩
      have st5 : Stp G4 H4 G4 (upd H4 p (.lst [])) := .own st4.gh hp
      have r5 := r4.stp st5
      have hpl : l ≠ p := fun q => by
        rw [← q, hd4] at hp
        cases hp
      have hd5 : upd H4 p (.lst []) l = some (.dK us) := by
        rw [upd_ne hpl]
        exact hd4
      have gr5 := gr4.stp st5
      have gp4 : G4 p = none := st4.gh.back hp
      have n0p : H0 p = none := r4.hh.back hp
      have hp5 : upd H4 p (.lst []) p = some (.lst []) := upd_same
      have app : Apart σ2 ρ1 p := fun j hj e => by
        have q := r4.sl j
        generalize Mir.slot ρ1 j = sj at q hj
        cases sj with
        | emp => cases hj
        | frz d => cases hj
        | own ds => obtain ⟨l', vs, e', _, _, a3, _⟩ := q; rw [e] at e'; cases e'; rw [hp] at a3; cases a3
        | dk ds => obtain ⟨l', vs, e', _, _, a3, _⟩ := q; rw [e] at e'; cases e'; rw [hp] at a3; cases a3
        | dt ds => obtain ⟨l', vs, e', _, _, a3, _⟩ := q; rw [e] at e'; cases e'; rw [hp] at a3; cases a3
      have lz : us.length < sizeLine := by rw [gr4.len]; exact fits_lt hz.1
      refine ⟨us, Sum.inl nn, hd5, ey, lz, fun v hv => ?_, fun hv => ?_⟩
      · -- the key stands there
        rcases gr5.find (List.nodup_cons.mp nd).2 nn with ⟨z, _⟩ | ⟨a, vs, es, j1, j2, j3, j4, j5, j6, j7, j8⟩
        · rw [hv] at z
          cases z
        · rw [hv] at j1
          cases j1
          refine ⟨.inl ⟨rfl, vs, SqL.of j5⟩, G1, H0, G4, ρ1, xx, r5, hxx, fun w G6 H6 st6 a6 => ?_⟩
          have gr6 := gr5.stp st6
          rcases gr6.find (List.nodup_cons.mp nd).2 nn with ⟨z, _⟩ | ⟨a', vs', es', k1, k2, k3, k4, k5, k6, k7, k8⟩
          · rw [hv] at z
            cases z
          · rw [hv] at k1
            cases k1
            have r6 := r5.stp st6
            have gl6 : G6 l = none := by rw [st6.fr l (some_ne hd5), gl4]
            have hd6 : H6 l = some (.dK us) := st6.h.dk hd5
            have hal : l ≠ a := fun q => (List.nodup_cons.mp nd).1 (q ▸ k2)
            have fz : Mir.fits es'.length = true := List.all_eq_true.mp hz.2 _ k7
            refine ⟨a, vs', w, rfl, rfl, k5, by rw [k6]; exact fits_lt fz, G6, ρ1, _, as, us, r6.poke k3 k4 k5 NoT.l (ap2 a (List.mem_cons_of_mem _ k2)), em2, hl2, gl6, by rw [upd_ne hal]; exact hd6, k8 w xx a6, nd, ap2, hgo⟩
      · -- a new key
        rcases gr5.find (List.nodup_cons.mp nd).2 nn with ⟨_, z, zz⟩ | ⟨a, vs, es, j1, _⟩
        rotate_left
        · rw [hv] at j1
          cases j1
        have pk : putK us (Sum.inl nn : Key) (.ref p) = us ++ [(Sum.inl nn, .ref p)] := by
          unfold putK
          rw [if_neg (by rw [z]; decide)]
        rw [pk]
        have hlp : p ≠ l := Ne.symm hpl
        have hp6 : upd (upd H4 p (.lst [])) l (.dK (us ++ [(Sum.inl nn, .ref p)])) p = some (.lst []) := by rw [upd_ne hlp]; exact hp5
        have hd6 : upd (upd H4 p (.lst [])) l (.dK (us ++ [(Sum.inl nn, .ref p)])) l = some (.dK (us ++ [(Sum.inl nn, .ref p)])) := upd_same
        have r6 : Rel X.K G1 H0 G4 (upd (upd H4 p (.lst [])) l (.dK (us ++ [(Sum.inl nn, .ref p)]))) σ2 ρ1 := r5.poke n0 gl4 hd5 NoT.dk (ap2 l List.mem_cons_self)
        have gr6 := gr5.poke (List.nodup_cons.mp nd).1 (.dK (us ++ [(Sum.inl nn, .ref p)]))
        generalize upd (upd H4 p (.lst [])) l (.dK (us ++ [(Sum.inl nn, .ref p)])) = H6 at *
        refine ⟨.inl ⟨rfl, [], SqL.of hp6⟩, G1, H0, G4, ρ1, xx, r6, hxx, fun w G7 H7 st7 a7 => ?_⟩
        have r7 := r6.stp st7
        have gr7 := gr6.stp st7
        have hp7 : H7 p = some (.lst []) := st7.h.l hp6
        have gp7 : G7 p = none := by rw [st7.fr p (some_ne hp6), gp4]
        have gl7 : G7 l = none := by rw [st7.fr l (some_ne hd6), gl4]
        have hd7 : H7 l = some (.dK (us ++ [(Sum.inl nn, .ref p)])) := st7.h.dk hd6
        have pas : p ∉ as := fun q => by
          have key : ∀ {us m as}, GrpL X.K H0 G4 H4 us m as → p ∈ as → False := fun {us m as} h hq => by
            induction h with
            | nil => simp at hq
            | cons b1 b2 b3 b4 _ ih =>
              rcases List.mem_cons.mp hq with rfl | hq
              · rw [hp] at b3
                cases b3
              · exact ih hq
          exact key gr4 q
        have gr8 : GrpL X.K H0 G7 (upd H7 p (.lst ([] ++ [w]))) (us ++ [(Sum.inl nn, .ref p)]) (m ++ [(nn, [xx])]) (as ++ [p]) := by
          rw [List.nil_append]
          exact (gr7.poke pas _).snoc n0p gp7 upd_same a7
        refine ⟨p, [], w, rfl, rfl, hp7, by show 0 < sizeLine; decide, G7, ρ1, m ++ [(nn, [xx])], as ++ [p], us ++ [(Sum.inl nn, .ref p)], r7.poke n0p gp7 hp7 NoT.l app, em2, hl2, gl7, by rw [upd_ne hpl]; exact hd7, gr8, ?_, ?_, ?_⟩
        · rw [← List.cons_append, List.nodup_append]
          refine ⟨nd, by simp, fun a ha b hb => ?_⟩
          rw [List.mem_singleton.mp hb]
          rcases List.mem_cons.mp ha with rfl | ha
          · exact hpl
          · exact fun q => pas (q ▸ ha)
        · intro a ha
          rcases List.mem_cons.mp ha with rfl | ha
          · exact ap2 _ List.mem_cons_self
          · rcases List.mem_append.mp ha with ha | ha
            · exact ap2 a (List.mem_cons_of_mem _ ha)
            · rw [List.mem_singleton.mp ha]
              exact app
        · rw [zz] at hgo
          exact hgo
  · refine .inl ⟨hJ.stop n G' H' r'.gg r'.gh (by omega), ?_⟩
    rw [List.drop_eq_nil_of_le (by omega)] at hgo
    cases hgo
    obtain ⟨nd1, nd2⟩ := List.nodup_cons.mp nd
    obtain ⟨G2, e1, e2, r2, kv⟩ := gr.hand nd2 r' fun a ha => ap a (List.mem_cons_of_mem _ ha)
    have gl2 : G2 l = none := by rw [e2 l nd1, gl']
    exact k σ' G2 H' ((r2.hold hl' n0 gl2 hd2 kv (ap l List.mem_cons_self)).unbase (r.gg.trans st1.g) r1.fr)
end
theorem pureT_name (i : Nat) : PureT [i] (Mir.gN i) := fun d ρ ρ1 h => by
  simp only [Mir.gN, Option.some.injEq] at h
  subst h
  have key : ∀ j, j ∉ [i] → Mir.slot (Mir.put ρ i (.frz d)) j = Mir.slot ρ j := fun j hj => by
    rw [slot_put, if_neg fun z => hj (by rw [z.1]; exact List.mem_singleton_self _)]
  refine ⟨fun j hj => ?_, key⟩
  have hn : j ∉ [i] := fun q => by
    rw [List.mem_singleton.mp q, slot_put] at hj
    split at hj
    · cases hj
    · rename_i h
      rw [slot_out ρ i (by simpa using h)] at hj
      cases hj
  exact ⟨hn, key j hn⟩
def PureTs (is : List Nat) (gs : List Mir.GM) : Prop := ∀ ds ρ ρ1, Mir.gTs gs ds ρ = some ρ1 → (∀ j, mutSl (Mir.slot ρ1 j) = true → j ∉ is ∧ Mir.slot ρ1 j = Mir.slot ρ j) ∧ ∀ j, j ∉ is → Mir.slot ρ1 j = Mir.slot ρ j
theorem pureTs_nil : PureTs [] [] := fun ds ρ ρ1 h => by
  cases ds <;> simp [Mir.gTs] at h
  subst h
  exact ⟨fun j hj => ⟨by simp, rfl⟩, fun _ _ => rfl⟩
theorem pureTs_cons {is js : List Nat} {g : Mir.GM} {gs : List Mir.GM} (h1 : PureT is g) (h2 : PureTs js gs) : PureTs (is ++ js) (g :: gs) := fun ds ρ ρ1 h => by
  cases ds with
  | nil => simp [Mir.gTs] at h
  | cons d ds =>
    simp only [Mir.gTs, Option.bind_eq_some_iff] at h
    obtain ⟨ρ2, e1, e2⟩ := h
    obtain ⟨a1, a2⟩ := h1 d ρ ρ2 e1
    obtain ⟨b1, b2⟩ := h2 ds ρ2 ρ1 e2
    refine ⟨fun j hj => ?_, fun j hj => ?_⟩
    · obtain ⟨q1, q2⟩ := b1 j hj
      rw [q2] at hj
      obtain ⟨q3, q4⟩ := a1 j hj
      exact ⟨fun z => (List.mem_append.mp z).elim q3 q1, q2.trans q4⟩
    · rw [b2 j fun z => hj (List.mem_append_right _ z), a2 j fun z => hj (List.mem_append_left _ z)]
theorem pureT_tup {is : List Nat} {gs : List Mir.GM} (h : PureTs is gs) : PureT is (Mir.gT gs) := fun d ρ ρ1 e => by
  cases d <;> simp [Mir.gT] at e
  exact h _ ρ ρ1 e
theorem perm_le : ∀ {m n : List Int}, m.Perm n → m.Pairwise (· ≤ ·) → n.Pairwise (· ≤ ·) → m = n := fun h p q => h.eq_of_pairwise (fun a b _ _ h1 h2 => Int.le_antisymm h1 h2) p q
section
variable {X : Cx}
theorem en_sortKs (i : Nat) {x : Str} {p p2 pos : Pos} (hc : X.calm = true) (h1 : X.mg "sorted" = none) (hN : X.N[i]? = some x := by rfl) (hv : Vis X.env.scope x := by first | exact Or.inl rfl | exact Or.inr (Or.inl rfl) | exact Or.inr (Or.inr rfl)) (hg1 : Gl X "sorted" := by rfl) (hv1 : bootBuiltins "sorted" = some (.builtin "sorted") := by decide +kernel)
    (hd : (x == ("__debug__" : Str)) = false := by decide) (hcd : (x == ("__classdict__" : Str)) = false := by decide) (he : starEach [.Name x p2] X.env = (false, eval (.Name x p2) X.env) :: starEach [] X.env := by rfl) :
    EN X (.Call (.Name "sorted" p) [.Name x p2] [] pos) (Mir.sortKs i) :=
  pe_imp (pe_callB (call_sortedDI hc) hg1 h1 hv1 (pa_cons (pe_var hN hv hd hcd) pa_nil he) (by decide) (by decide) he) fun _ _ σ H Q _ ⟨G0, H0, G, ρ, d, r, hm, k⟩ => by
    unfold Mir.sortKs at hm
    split at hm
    · rename_i kvs hs
      split at hm <;> cases hm
      rename_i hz
      obtain ⟨l, us, hl, n0, gl, hd', kv⟩ := r.dk hs
      have keys : us.map (·.1) = (kvs.map (·.1)).map Sum.inl := by
        clear hs hz hl n0 gl hd' r k
        induction kv with
        | nil => rfl
        | cons _ _ ih => simp [ih]
      refine ⟨.ref l, hl, l, us, kvs.map (·.1), rfl, .inl hd', keys, by simpa using hz, fun ys q hp hsrt hq => ?_⟩
      have e : ys = (kvs.map (·.1)).mergeSort fun a b => decide (a ≤ b) := perm_le (hp.trans (List.mergeSort_perm _ _).symm) hsrt ((List.pairwise_mergeSort (fun a b c h1 h2 => by simp at h1 h2 ⊢; omega) (fun a b => by simp; omega) _).imp fun h => by simpa using h)
      rw [e]
      exact newL r.gh hq (.ofInts _) fun v G' H' st a => k v G' H' st a
    · cases hm
theorem en_rev {a : Expr} {ma : Mir.EM} {k : Nat} {p1 p2 p3 pos : Pos} (ha : EB X a ma) : EN X (.Subscript a (.Slice none none (some (.UnaryOp .USub (.Constant (.int 1) k p1) p2)) p3) pos) (Mir.o1 Mir.revD ma) :=
  pe_imp (pe_revL ha) fun _ _ σ H Q _ ⟨G0, H0, G, ρ, d, r, hm, k⟩ => by
    simp only [Mir.o1, Option.bind_eq_some_iff] at hm
    obtain ⟨dx, hx, hf⟩ := hm
    refine ⟨G0, H0, G, ρ, dx, r, hx, fun x G1 H1 st1 ax => ?_⟩
    cases dx <;> simp [Mir.revD] at hf
    subst hf
    obtain ⟨l, vs, rfl, hl, al⟩ := ax.lst st1.gh
    exact ⟨l, vs, rfl, SqL.of hl, fun p hp => newL st1.gh hp al.rev fun v G' H' st a => k v G' H' (st1.trans st) (a.back st1.h)⟩
theorem ev_lend (is : List Nat) {a : Expr} {ma : Mir.EM} (ha : EV X a ma) : EV X a (Mir.lendE is ma) := pe_imp ha fun _ _ σ H Q _ ⟨G0, H0, G, ρ, d, r, hm, k⟩ => by
  simp only [Mir.lendE, Option.bind_eq_some_iff] at hm
  obtain ⟨dx, hx, hf⟩ := hm
  split at hf <;> cases hf
  rename_i hz
  obtain ⟨G', ex, r'⟩ := r.freeze is
  refine ⟨G0, H0, G', _, d, r', hx, fun v G1 H1 st a => k v G H1 ⟨Ex.refl G, st.h, r.gh.trans st.h, fun _ _ => rfl⟩ ?_⟩
  rcases At_nonref a hz with ⟨rfl, rfl⟩ | ⟨i, rfl, rfl⟩ | ⟨i, rfl, rfl⟩ | ⟨i, rfl, rfl⟩
  · exact .non
  · exact .bl _
  · exact .int _
  · exact .str _
end
end Snd
set_option Elab.async false
set_option linter.all false
set_option maxRecDepth 100000
set_option maxHeartbeats 4000000
/-! SndT: sorted(t), t a tuple. -/
namespace Snd
open PySem L2 LamX PySem.W PySem.Spec PySem.Calls PyProof.Rows
section
variable {P : Program} {w : World} {A : Around} {E : Value → Shared → Prop} {s : Shared}
/-- the items of a tuple, gathered -/
theorem collectT {p : Addr} {us : List Value} {R : List Value → Shared → Prop} (ht : IsTup s.heap p us.toArray) (hz : us.length ≤ sizeLine)
    (hR : R us { s with heap := (s.heap.push (seqObj "list" #[] 0)).update s.heap.objs.size (Obj.mapSeq (· ++ us.toArray)) }) : wpAny (model P w) A (collect (.ref p)) R E s := by
  obtain ⟨ob, e1, e2, m, e3⟩ := ht
  have e4 := Heap.get?_push_of_some (seqObj "list" #[] 0) e1
  have nw : (s.heap.push (seqObj "list" #[] 0)).get? s.heap.objs.size = some (seqObj "list" #[] 0) := Heap.get?_push_size _ rfl
  unfold collect; refine wpAny_bind (wpAny_runValue (codeAny_builtin entry_proto_collect' ?_))
  show wpAny _ _ ((newList []) >>= fun n => again (.builtin "list.__iadd__" ⟨[n, .ref p], []⟩)) _ _ s
  refine wpAny_bind (wpAny_newList (wpAny_pure ⟨Code.quiet_builtin _ (by decide +kernel), codeAny_builtin entry_list_iadd' ?_⟩)); show wpAny _ _ (Builtin.List.listExtendWith (.ref s.heap.objs.size) (.ref p) _) _ _ { s with heap := s.heap.push (seqObj "list" #[] 0) }
  unfold Builtin.List.listExtendWith; refine wpAny_bind (wpAny_typeOf (T := "tuple") ⟨ob, e4, e2⟩ ?_)
  have tt : (Value.type "tuple" == Value.type "tuple") = true := rfl
  rw [tt, Bool.or_true, if_pos rfl]
  refine wpAny_bind (listItems_at e4 e3 ?_); refine wpAny_bind (listItems_at (xs := #[]) (n := 0) nw rfl ?_)
  rw [if_neg (by simp)]
  refine wpAny_bind (listUpdate_at (xs := #[]) (n := 0) nw rfl ?_ (Nat.zero_le _) (by rw [Array.size_append]; simp only [List.size_toArray, List.length_nil]; omega))
  refine wpAny_pure ?_
  show wpAny (model P w) A (load s.heap.objs.size >>= fun o => match o.data with | .seq xs _ => pure xs.toList | _ => unsupported "internal:collect") R E _
  refine wpAny_bind (wpAny_load (get?_update_seq nw _) ?_)
  have ea : ((#[] : Array Value) ++ us.toArray).toList = us := by simp
  show wpAny _ _ (pure ((#[] : Array Value) ++ us.toArray).toList) R E _
  rw [ea]; exact wpAny_pure hR
variable {β : Type} {us : List Value} {bs : List β} {enc : β → PyData} {RR : Value → β → Prop}
/-- sorted of a tuple is list.sort on a new list of its items -/
theorem sortedT {p : Addr} {Q : Value → Shared → Prop} (ht : IsTup s.heap p us.toArray) (e : EachIs RR us bs) (er : EachIs (fun v b => ∃ as, Reads s.heap v (enc b) as) us bs) (hal : AllAlike (bs.map enc)) (hk : Sortable (bs.map enc)) (hL : bs.length ≤ sizeLine)
    (hu : ∀ b, b ∈ bs → A.units + 2 + (enc b).depth < cLine) (h : ∀ out, out.length = bs.length → EachIs RR out (bs.mergeSort (dataLe false enc)) → Q (.ref (s.heap.objs.size + 1)) { s with heap := sortedAll s.heap us (List.toArray out) }) : wpAny (model P w) A (call (.builtin "sorted") [.ref p]) Q E s := by
  have hz : us.length ≤ sizeLine := by rw [e.length]; exact hL
  have er2 : EachIs (fun v b => ∃ as, Reads (sortingHeap (copyHeap s.heap us) (s.heap.objs.size + 1) us) v (enc b) as) us bs := er.mono fun _ _ ⟨as, r⟩ => ⟨as, Reads.keeps (fun _ _ => sorting_copy_old) r⟩
  have S : SortsAt P w A.in1.in1 { s with heap := sortingHeap (copyHeap s.heap us) (s.heap.objs.size + 1) us } _ us := SortsAt.data (each_map (R := fun v d => ∃ as, Reads (sortingHeap (copyHeap s.heap us) (s.heap.objs.size + 1) us) v d as) enc er2) hal hk (bound_map hu)
  refine call_function_entry_kw (kw := []) kind_sorted plain_sorted entry_sorted (args_sorted1 _) ?_
  unfold Builtin.«sorted»; refine wpAny_bind (m := checkCount "sorted" 1 1 _) (wpAny_pure ?_)
  refine wpAny_bind (collectT ht hz ?_); refine wpAny_bind (wpAny_newList ?_ hz)
  have sz : ((s.heap.push (seqObj "list" #[] 0)).update s.heap.objs.size (Obj.mapSeq (· ++ us.toArray))).objs.size = s.heap.objs.size + 1 := (Heap.size_update ..).trans (size_push' ..)
  show wpAny _ _ _ _ _ { s with heap := copyHeap s.heap us }
  rw [sz]
  refine wpAny_bind (wpAny_holding (wpAny_call_entry_kw (kw := []) slot_list_sort ⟨_, copyHeap_at s.heap us, rfl⟩ entry_list_sort ?b (args_list_sort _)))
  case b =>
    show wpAny (model P w) A.in1.in1 (Builtin.«list.sort» ⟨[.ref (s.heap.objs.size + 1)], []⟩) _ _ _
    refine list_sort_vals (s := { s with heap := copyHeap s.heap us }) (copyHeap_at s.heap us) S hz ⟨_, rfl, wpAny_pure ⟨_, rfl, ?_⟩⟩
    exact h _ (by rw [sortVals_length false rfl]; exact e.length) (sortVals_data false e er2 hal)
end
section
variable [TC : TabCtx] {X : Cx}
theorem cm_sortedA (hu : X.A.units + 64 < cLine) : CallR X (.builtin "sorted") (rC1 X.K Mir.sortA) := by
  intro pins s σ H xs us Q I rx q
  obtain ⟨G, x, dx, d, rfl, e, ax, hf, k⟩ := q
  have other : Mir.sortD dx = some d → _ := fun hd => cm_sorted hu pins s σ H _ us Q I rx ⟨G, x, dx, d, rfl, e, ax, hd, k⟩
  cases dx with
  | tup ds =>
    change (if (Mir.sortable ds && Mir.okDs ds) = true then some (Mir.D.lst (ds.mergeSort Mir.ordD)) else none) = some d at hf
    split at hf <;> cases hf
    rename_i hz
    rw [Bool.and_eq_true] at hz
    obtain ⟨l, vs, rfl, hl, al⟩ := ax.tup e
    obtain rfl := Vals.ref1 rx
    obtain ⟨its, rv, pl, hsz⟩ := I.tuple (SqT.of hl)
    obtain ⟨h1, h2, h3, h4⟩ := alike_sort hz.1
    have ea := each_of rv al
    have er : EachIs (fun v b => ∃ as, Reads s.heap v (py b) as) its ds := EachIs.of_zip ea.length fun p hp => by
      obtain ⟨v, r, a⟩ := ea.zip p hp
      have hm : p.2 ∈ ds := (List.of_mem_zip hp).2
      exact Dp.reads I (py p.2) v p.1 ((a.mono e).dp (okDs_mem hz.2 _ hm)) r
    have hlen : ds.length ≤ sizeLine := by rw [← al.len]; exact hsz
    refine sortedT pl ea er (fun d hd d' hd' => ?_) h2 hlen (fun d hd => ?_) fun out hol eo => ?_
    · obtain ⟨b, hb, rfl⟩ := List.mem_map.mp hd
      obtain ⟨b', hb', rfl⟩ := List.mem_map.mp hd'
      exact h1 b hb b' hb'
    · have := h4 d hd
      omega
    · rw [sort_congr h3] at eo
      obtain ⟨ws, rw', aw⟩ := of_each eo
      obtain ⟨ep, he'⟩ := PyProof.Rows.sortedAll_at s.heap its out.toArray
      have hn : H (s.heap.objs.size + 1) = none := I.hok.fresh (Nat.le_succ _)
      refine ⟨.ref _, upd H (s.heap.objs.size + 1) (.lst ws), I.laid (t' := s.toks) (fun _ _ => PyProof.Rows.sortedAll_old) (Nat.le_succ _) ⟨?_, out, ep, rw', he'⟩, rfl, newL e hn aw k⟩
      rw [rw'.length, hol]
      exact hlen
  | non => exact other hf
  | bl _ => exact other hf
  | int _ => exact other hf
  | str _ => exact other hf
  | lst _ => exact other hf
  | fz _ => exact other hf
  | kt _ => exact other hf
end
end Snd
set_option linter.all false
namespace Snd
abbrev c_MOST_BOXES : Mir.D := .int 24
abbrev c_MOST_NEED : Mir.D := .int 2000
noncomputable def mb__law_cell_at : Mir.SM :=
  (Mir.seq (Mir.iff (Mir.tB (Mir.o2 Mir.ltD (Mir.vB 1) (Mir.o1 Mir.lenD (Mir.vB 0)))) (Mir.ret (Mir.o2 Mir.ixD (Mir.vB 0) (Mir.vB 1))) Mir.skip)
  (Mir.ret (Mir.cD (.int 0))))
noncomputable abbrev m__law_cell_at : List Mir.D → Option Mir.D := Mir.fn 2 0 mb__law_cell_at
noncomputable def mb_within : Mir.SM :=
  (Mir.ret (Mir.andV (Mir.o2 Mir.geD (Mir.o2 Mir.ixD (Mir.vB 2) (Mir.cD (.int 0))) (Mir.cD (.int 0))) (Mir.andV (Mir.o2 Mir.geD (Mir.o2 Mir.ixD (Mir.vB 2) (Mir.cD (.int 1))) (Mir.cD (.int 0))) (Mir.andV (Mir.o2 Mir.leD (Mir.o2 Mir.ixD (Mir.vB 2) (Mir.cD (.int 2))) (Mir.vB 0)) (Mir.o2 Mir.leD (Mir.o2 Mir.ixD (Mir.vB 2) (Mir.cD (.int 3))) (Mir.vB 1))))))
noncomputable abbrev m_within : List Mir.D → Option Mir.D := Mir.fn 3 0 mb_within
noncomputable def mb_meet : Mir.SM :=
  (Mir.seq (Mir.iff (Mir.tOr (Mir.tB (Mir.o2 Mir.geD (Mir.o2 Mir.ixD (Mir.vB 0) (Mir.cD (.int 0))) (Mir.o2 Mir.ixD (Mir.vB 1) (Mir.cD (.int 2))))) (Mir.tB (Mir.o2 Mir.geD (Mir.o2 Mir.ixD (Mir.vB 1) (Mir.cD (.int 0))) (Mir.o2 Mir.ixD (Mir.vB 0) (Mir.cD (.int 2)))))) (Mir.ret (Mir.cD (.bl false))) Mir.skip)
  (Mir.ret (Mir.andV (Mir.o2 Mir.ltD (Mir.o2 Mir.ixD (Mir.vB 0) (Mir.cD (.int 1))) (Mir.o2 Mir.ixD (Mir.vB 1) (Mir.cD (.int 3)))) (Mir.o2 Mir.ltD (Mir.o2 Mir.ixD (Mir.vB 1) (Mir.cD (.int 1))) (Mir.o2 Mir.ixD (Mir.vB 0) (Mir.cD (.int 3)))))))
noncomputable abbrev m_meet : List Mir.D → Option Mir.D := Mir.fn 2 0 mb_meet
noncomputable def lb_fill_0 : Mir.SM :=
  (Mir.iff (Mir.tB (Mir.call m_meet (Mir.eCons (Mir.o2 Mir.ixD (Mir.vB 2) (Mir.vB 4)) (Mir.eCons (Mir.o2 Mir.ixD (Mir.vB 2) (Mir.vB 5)) Mir.eNil)))) (Mir.ret (Mir.cD (.bl false))) Mir.skip)
noncomputable def lb_fill_1 : Mir.SM :=
  (Mir.seq (Mir.iff (Mir.tNot (Mir.tB (Mir.call m_within (Mir.eCons (Mir.vV 0) (Mir.eCons (Mir.vV 1) (Mir.eCons (Mir.o2 Mir.ixD (Mir.vB 2) (Mir.vB 4)) Mir.eNil)))))) (Mir.ret (Mir.cD (.bl false))) Mir.skip)
  (Mir.seq (Mir.forS (Mir.iR1 (Mir.vB 4)) (Mir.gN 5) lb_fill_0)
  (Mir.asg (Mir.gN 3) (Mir.o2 Mir.addI (Mir.vV 3) (Mir.o2 Mir.mulD (Mir.o2 Mir.subD (Mir.o2 Mir.ixD (Mir.o2 Mir.ixD (Mir.vB 2) (Mir.vB 4)) (Mir.cD (.int 2))) (Mir.o2 Mir.ixD (Mir.o2 Mir.ixD (Mir.vB 2) (Mir.vB 4)) (Mir.cD (.int 0)))) (Mir.o2 Mir.subD (Mir.o2 Mir.ixD (Mir.o2 Mir.ixD (Mir.vB 2) (Mir.vB 4)) (Mir.cD (.int 3))) (Mir.o2 Mir.ixD (Mir.o2 Mir.ixD (Mir.vB 2) (Mir.vB 4)) (Mir.cD (.int 1)))))))))
noncomputable def mb_fill : Mir.SM :=
  (Mir.seq (Mir.asg (Mir.gN 3) (Mir.cD (.int 0)))
  (Mir.seq (Mir.forS (Mir.iR1 (Mir.o1 Mir.lenD (Mir.vB 2))) (Mir.gN 4) lb_fill_1)
  (Mir.ret (Mir.o2 Mir.eqD (Mir.vB 3) (Mir.o2 Mir.mulD (Mir.vB 0) (Mir.vB 1))))))
noncomputable abbrev m_fill : List Mir.D → Option Mir.D := Mir.fn 3 3 mb_fill
noncomputable def mb_is_whole : Mir.SM :=
  (Mir.ret (Mir.andV (Mir.o1 Mir.isInt (Mir.vB 0)) (Mir.o1 Mir.notD (Mir.o1 Mir.isBool (Mir.vB 0)))))
noncomputable abbrev m_is_whole : List Mir.D → Option Mir.D := Mir.fn 1 0 mb_is_whole
noncomputable def lb_is_box_0 : Mir.SM :=
  (Mir.iff (Mir.tNot (Mir.tB (Mir.call m_is_whole (Mir.eCons (Mir.vV 1) Mir.eNil)))) (Mir.ret (Mir.cD (.bl false))) Mir.skip)
noncomputable def mb_is_box : Mir.SM :=
  (Mir.seq (Mir.iff (Mir.tOr (Mir.tNot (Mir.tB (Mir.o1 Mir.isTup (Mir.vB 0)))) (Mir.tB (Mir.o2 Mir.neD (Mir.o1 Mir.lenD (Mir.vB 0)) (Mir.cD (.int 4))))) (Mir.ret (Mir.cD (.bl false))) Mir.skip)
  (Mir.seq (Mir.forS (Mir.iL (Mir.vV 0)) (Mir.gN 1) lb_is_box_0)
  (Mir.ret (Mir.andV (Mir.o2 Mir.ltD (Mir.o2 Mir.ixD (Mir.vB 0) (Mir.cD (.int 0))) (Mir.o2 Mir.ixD (Mir.vB 0) (Mir.cD (.int 2)))) (Mir.o2 Mir.ltD (Mir.o2 Mir.ixD (Mir.vB 0) (Mir.cD (.int 1))) (Mir.o2 Mir.ixD (Mir.vB 0) (Mir.cD (.int 3))))))))
noncomputable abbrev m_is_box : List Mir.D → Option Mir.D := Mir.fn 1 1 mb_is_box
noncomputable def lb_make_page_0 : Mir.SM :=
  (Mir.iff (Mir.tNot (Mir.tB (Mir.call m_is_box (Mir.eCons (Mir.vV 3) Mir.eNil)))) Mir.never Mir.skip)
noncomputable def mb_make_page : Mir.SM :=
  (Mir.seq (Mir.iff (Mir.tOr (Mir.tNot (Mir.tB (Mir.call m_is_whole (Mir.eCons (Mir.vV 0) Mir.eNil)))) (Mir.tOr (Mir.tNot (Mir.tB (Mir.call m_is_whole (Mir.eCons (Mir.vV 1) Mir.eNil)))) (Mir.tOr (Mir.tB (Mir.o2 Mir.ltD (Mir.vB 0) (Mir.cD (.int 1)))) (Mir.tB (Mir.o2 Mir.ltD (Mir.vB 1) (Mir.cD (.int 1))))))) Mir.never Mir.skip)
  (Mir.seq (Mir.iff (Mir.tOr (Mir.tB (Mir.o2 Mir.ltD (Mir.o1 Mir.lenD (Mir.vB 2)) (Mir.cD (.int 1)))) (Mir.tB (Mir.o2 Mir.gtD (Mir.o1 Mir.lenD (Mir.vB 2)) (Mir.cD c_MOST_BOXES)))) Mir.never Mir.skip)
  (Mir.seq (Mir.forS (Mir.iL (Mir.vV 2)) (Mir.gN 3) lb_make_page_0)
  (Mir.seq (Mir.iff (Mir.tNot (Mir.tB (Mir.call m_fill (Mir.eCons (Mir.vV 0) (Mir.eCons (Mir.vV 1) (Mir.eCons (Mir.vV 2) Mir.eNil)))))) Mir.never Mir.skip)
  (Mir.ret (Mir.mkT (Mir.eCons (Mir.vV 0) (Mir.eCons (Mir.vV 1) (Mir.eCons (Mir.o1 Mir.tupleD (Mir.o1 (Mir.sortK Mir.kBox) (Mir.vB 2))) Mir.eNil)))))))))
noncomputable abbrev m_make_page : List Mir.D → Option Mir.D := Mir.fn 3 1 mb_make_page
noncomputable def mb__law_mixed : Mir.SM :=
  (Mir.seq (Mir.asg (Mir.gN 2) (Mir.o2 Mir.modD (Mir.o2 Mir.addD (Mir.o2 Mir.addD (Mir.o2 Mir.mulD (Mir.o2 Mir.modD (Mir.vB 0) (Mir.cD (.int 2147483629))) (Mir.o2 Mir.addD (Mir.o2 Mir.mulD (Mir.cD (.int 2)) (Mir.vB 1)) (Mir.cD (.int 51431)))) (Mir.o2 Mir.mulD (Mir.cD (.int 17)) (Mir.vB 1))) (Mir.cD (.int 3))) (Mir.cD (.int 2147483587))))
  (Mir.ret (Mir.o2 Mir.fdivD (Mir.o2 Mir.modD (Mir.o2 Mir.mulD (Mir.vB 2) (Mir.vB 2)) (Mir.cD (.int 2147483563))) (Mir.cD (.int 7)))))
noncomputable abbrev m__law_mixed : List Mir.D → Option Mir.D := Mir.fn 2 1 mb__law_mixed
noncomputable def mb__law_wheel : Mir.SM :=
  (Mir.seq (Mir.asg (Mir.gT [(Mir.gN 6), (Mir.gN 7), (Mir.gN 8), (Mir.gN 9)]) (Mir.vV 0))
  (Mir.seq (Mir.asg (Mir.gN 2) (Mir.o2 Mir.addD (Mir.o2 Mir.addD (Mir.vB 6) (Mir.cD (.int 1))) (Mir.o2 Mir.modD (Mir.call m__law_mixed (Mir.eCons (Mir.vV 1) (Mir.eCons (Mir.cD (.int 5)) Mir.eNil))) (Mir.o2 Mir.subD (Mir.o2 Mir.subD (Mir.vB 8) (Mir.vB 6)) (Mir.cD (.int 2))))))
  (Mir.seq (Mir.asg (Mir.gN 3) (Mir.o2 Mir.addD (Mir.o2 Mir.addD (Mir.vB 2) (Mir.cD (.int 1))) (Mir.o2 Mir.modD (Mir.call m__law_mixed (Mir.eCons (Mir.vV 1) (Mir.eCons (Mir.cD (.int 6)) Mir.eNil))) (Mir.o2 Mir.subD (Mir.o2 Mir.subD (Mir.vB 8) (Mir.vB 2)) (Mir.cD (.int 1))))))
  (Mir.seq (Mir.asg (Mir.gN 4) (Mir.o2 Mir.addD (Mir.o2 Mir.addD (Mir.vB 7) (Mir.cD (.int 1))) (Mir.o2 Mir.modD (Mir.call m__law_mixed (Mir.eCons (Mir.vV 1) (Mir.eCons (Mir.cD (.int 7)) Mir.eNil))) (Mir.o2 Mir.subD (Mir.o2 Mir.subD (Mir.vB 9) (Mir.vB 7)) (Mir.cD (.int 2))))))
  (Mir.seq (Mir.asg (Mir.gN 5) (Mir.o2 Mir.addD (Mir.o2 Mir.addD (Mir.vB 4) (Mir.cD (.int 1))) (Mir.o2 Mir.modD (Mir.call m__law_mixed (Mir.eCons (Mir.vV 1) (Mir.eCons (Mir.cD (.int 8)) Mir.eNil))) (Mir.o2 Mir.subD (Mir.o2 Mir.subD (Mir.vB 9) (Mir.vB 4)) (Mir.cD (.int 1))))))
  (Mir.seq (Mir.iff (Mir.tB (Mir.o2 Mir.eqD (Mir.o2 Mir.modD (Mir.call m__law_mixed (Mir.eCons (Mir.vV 1) (Mir.eCons (Mir.cD (.int 9)) Mir.eNil))) (Mir.cD (.int 2))) (Mir.cD (.int 0)))) (Mir.asg (Mir.gN 10) (Mir.mkL (Mir.eCons (Mir.mkT (Mir.eCons (Mir.vV 6) (Mir.eCons (Mir.vV 7) (Mir.eCons (Mir.vV 3) (Mir.eCons (Mir.vV 4) Mir.eNil))))) (Mir.eCons (Mir.mkT (Mir.eCons (Mir.vV 3) (Mir.eCons (Mir.vV 7) (Mir.eCons (Mir.vV 8) (Mir.eCons (Mir.vV 5) Mir.eNil))))) (Mir.eCons (Mir.mkT (Mir.eCons (Mir.vV 2) (Mir.eCons (Mir.vV 5) (Mir.eCons (Mir.vV 8) (Mir.eCons (Mir.vV 9) Mir.eNil))))) (Mir.eCons (Mir.mkT (Mir.eCons (Mir.vV 6) (Mir.eCons (Mir.vV 4) (Mir.eCons (Mir.vV 2) (Mir.eCons (Mir.vV 9) Mir.eNil))))) Mir.eNil)))))) (Mir.asg (Mir.gN 10) (Mir.mkL (Mir.eCons (Mir.mkT (Mir.eCons (Mir.vV 6) (Mir.eCons (Mir.vV 7) (Mir.eCons (Mir.vV 2) (Mir.eCons (Mir.vV 5) Mir.eNil))))) (Mir.eCons (Mir.mkT (Mir.eCons (Mir.vV 6) (Mir.eCons (Mir.vV 5) (Mir.eCons (Mir.vV 3) (Mir.eCons (Mir.vV 9) Mir.eNil))))) (Mir.eCons (Mir.mkT (Mir.eCons (Mir.vV 3) (Mir.eCons (Mir.vV 4) (Mir.eCons (Mir.vV 8) (Mir.eCons (Mir.vV 9) Mir.eNil))))) (Mir.eCons (Mir.mkT (Mir.eCons (Mir.vV 2) (Mir.eCons (Mir.vV 7) (Mir.eCons (Mir.vV 8) (Mir.eCons (Mir.vV 4) Mir.eNil))))) Mir.eNil)))))))
  (Mir.ret (Mir.o2 Mir.addD (Mir.vB 10) (Mir.mkL (Mir.eCons (Mir.mkT (Mir.eCons (Mir.vV 2) (Mir.eCons (Mir.vV 4) (Mir.eCons (Mir.vV 3) (Mir.eCons (Mir.vV 5) Mir.eNil))))) Mir.eNil))))))))))
noncomputable abbrev m__law_wheel : List Mir.D → Option Mir.D := Mir.fn 2 9 mb__law_wheel
noncomputable def mb__law_halves : Mir.SM :=
  (Mir.seq (Mir.asg (Mir.gT [(Mir.gN 3), (Mir.gN 4), (Mir.gN 5), (Mir.gN 6)]) (Mir.vV 0))
  (Mir.seq (Mir.iff (Mir.tAnd (Mir.tB (Mir.vB 2)) (Mir.tB (Mir.o2 Mir.gtD (Mir.o2 Mir.subD (Mir.vB 5) (Mir.vB 3)) (Mir.cD (.int 1))))) (Mir.seq (Mir.asg (Mir.gN 7) (Mir.o2 Mir.addD (Mir.o2 Mir.addD (Mir.vB 3) (Mir.cD (.int 1))) (Mir.o2 Mir.modD (Mir.call m__law_mixed (Mir.eCons (Mir.vV 1) (Mir.eCons (Mir.cD (.int 5)) Mir.eNil))) (Mir.o2 Mir.subD (Mir.o2 Mir.subD (Mir.vB 5) (Mir.vB 3)) (Mir.cD (.int 1))))))
  (Mir.ret (Mir.mkL (Mir.eCons (Mir.mkT (Mir.eCons (Mir.vV 3) (Mir.eCons (Mir.vV 4) (Mir.eCons (Mir.vV 7) (Mir.eCons (Mir.vV 6) Mir.eNil))))) (Mir.eCons (Mir.mkT (Mir.eCons (Mir.vV 7) (Mir.eCons (Mir.vV 4) (Mir.eCons (Mir.vV 5) (Mir.eCons (Mir.vV 6) Mir.eNil))))) Mir.eNil))))) Mir.skip)
  (Mir.seq (Mir.iff (Mir.tAnd (Mir.tNot (Mir.tB (Mir.vB 2))) (Mir.tB (Mir.o2 Mir.gtD (Mir.o2 Mir.subD (Mir.vB 6) (Mir.vB 4)) (Mir.cD (.int 1))))) (Mir.seq (Mir.asg (Mir.gN 8) (Mir.o2 Mir.addD (Mir.o2 Mir.addD (Mir.vB 4) (Mir.cD (.int 1))) (Mir.o2 Mir.modD (Mir.call m__law_mixed (Mir.eCons (Mir.vV 1) (Mir.eCons (Mir.cD (.int 5)) Mir.eNil))) (Mir.o2 Mir.subD (Mir.o2 Mir.subD (Mir.vB 6) (Mir.vB 4)) (Mir.cD (.int 1))))))
  (Mir.ret (Mir.mkL (Mir.eCons (Mir.mkT (Mir.eCons (Mir.vV 3) (Mir.eCons (Mir.vV 4) (Mir.eCons (Mir.vV 5) (Mir.eCons (Mir.vV 8) Mir.eNil))))) (Mir.eCons (Mir.mkT (Mir.eCons (Mir.vV 3) (Mir.eCons (Mir.vV 8) (Mir.eCons (Mir.vV 5) (Mir.eCons (Mir.vV 6) Mir.eNil))))) Mir.eNil))))) Mir.skip)
  (Mir.ret (Mir.mkL (Mir.eCons (Mir.vV 0) Mir.eNil))))))
noncomputable abbrev m__law_halves : List Mir.D → Option Mir.D := Mir.fn 3 6 mb__law_halves
noncomputable def lb__law_boxes_0 : Mir.SM :=
  (Mir.seq (Mir.asg (Mir.gN 5) (Mir.o2 Mir.modD (Mir.call m__law_mixed (Mir.eCons (Mir.vV 4) (Mir.eCons (Mir.cD (.int 3)) Mir.eNil))) (Mir.o1 Mir.lenD (Mir.vB 3))))
  (Mir.seq (Mir.asg (Mir.gN 6) (Mir.o2 Mir.ixD (Mir.vB 3) (Mir.vB 5)))
  (Mir.seq (Mir.asg (Mir.gN 7) (Mir.o2 Mir.modD (Mir.call m__law_mixed (Mir.eCons (Mir.vV 4) (Mir.eCons (Mir.cD (.int 4)) Mir.eNil))) (Mir.cD (.int 5))))
  (Mir.seq (Mir.asg (Mir.gN 8) (Mir.mkL (Mir.eCons (Mir.vV 6) Mir.eNil)))
  (Mir.seq (Mir.iff (Mir.tAnd (Mir.tB (Mir.o2 Mir.eqD (Mir.vB 7) (Mir.cD (.int 4)))) (Mir.tAnd (Mir.tB (Mir.o2 Mir.ltD (Mir.o1 Mir.lenD (Mir.vB 3)) (Mir.cD (.int 20)))) (Mir.tAnd (Mir.tB (Mir.o2 Mir.gtD (Mir.o2 Mir.subD (Mir.o2 Mir.ixD (Mir.vB 6) (Mir.cD (.int 2))) (Mir.o2 Mir.ixD (Mir.vB 6) (Mir.cD (.int 0)))) (Mir.cD (.int 2)))) (Mir.tB (Mir.o2 Mir.gtD (Mir.o2 Mir.subD (Mir.o2 Mir.ixD (Mir.vB 6) (Mir.cD (.int 3))) (Mir.o2 Mir.ixD (Mir.vB 6) (Mir.cD (.int 1)))) (Mir.cD (.int 2))))))) (Mir.asg (Mir.gN 8) (Mir.call m__law_wheel (Mir.eCons (Mir.vV 6) (Mir.eCons (Mir.vV 4) Mir.eNil)))) (Mir.iff (Mir.tAnd (Mir.tB (Mir.o2 Mir.ltD (Mir.vB 7) (Mir.cD (.int 4)))) (Mir.tB (Mir.o2 Mir.ltD (Mir.o1 Mir.lenD (Mir.vB 3)) (Mir.cD (.int 24))))) (Mir.asg (Mir.gN 8) (Mir.call m__law_halves (Mir.eCons (Mir.vV 6) (Mir.eCons (Mir.vV 4) (Mir.eCons (Mir.o2 Mir.eqD (Mir.o2 Mir.modD (Mir.vB 7) (Mir.cD (.int 2))) (Mir.cD (.int 0))) Mir.eNil))))) Mir.skip))
  (Mir.asg (Mir.gN 3) (Mir.o2 Mir.addD (Mir.o2 Mir.addD (Mir.sl (Mir.vB 3) Mir.oN (Mir.oS (Mir.vB 5))) (Mir.vB 8)) (Mir.sl (Mir.vB 3) (Mir.oS (Mir.o2 Mir.addD (Mir.vB 5) (Mir.cD (.int 1)))) Mir.oN))))))))
noncomputable def mb__law_boxes : Mir.SM :=
  (Mir.seq (Mir.asg (Mir.gN 3) (Mir.mkL (Mir.eCons (Mir.mkT (Mir.eCons (Mir.cD (.int 0)) (Mir.eCons (Mir.cD (.int 0)) (Mir.eCons (Mir.vV 1) (Mir.eCons (Mir.vV 2) Mir.eNil))))) Mir.eNil)))
  (Mir.seq (Mir.forS (Mir.iL (Mir.vV 0)) (Mir.gN 4) lb__law_boxes_0)
  (Mir.ret (Mir.vV 3))))
noncomputable abbrev m__law_boxes : List Mir.D → Option Mir.D := Mir.fn 3 6 mb__law_boxes
noncomputable def mb__law_page_of : Mir.SM :=
  (Mir.seq (Mir.asg (Mir.gN 1) (Mir.call m__law_cell_at (Mir.eCons (Mir.vV 0) (Mir.eCons (Mir.cD (.int 0)) Mir.eNil))))
  (Mir.seq (Mir.asg (Mir.gN 2) (Mir.o2 Mir.addD (Mir.cD (.int 1)) (Mir.o2 Mir.modD (Mir.call m__law_mixed (Mir.eCons (Mir.vV 1) (Mir.eCons (Mir.cD (.int 1)) Mir.eNil))) (Mir.cD (.int 40)))))
  (Mir.seq (Mir.asg (Mir.gN 3) (Mir.o2 Mir.addD (Mir.cD (.int 1)) (Mir.o2 Mir.modD (Mir.call m__law_mixed (Mir.eCons (Mir.vV 1) (Mir.eCons (Mir.cD (.int 2)) Mir.eNil))) (Mir.cD (.int 40)))))
  (Mir.ret (Mir.call m_make_page (Mir.eCons (Mir.vV 2) (Mir.eCons (Mir.vV 3) (Mir.eCons (Mir.call m__law_boxes (Mir.eCons (Mir.sl (Mir.vB 0) (Mir.oS (Mir.cD (.int 4))) (Mir.oS (Mir.cD (.int 62)))) (Mir.eCons (Mir.vV 2) (Mir.eCons (Mir.vV 3) Mir.eNil)))) Mir.eNil))))))))
noncomputable abbrev m__law_page_of : List Mir.D → Option Mir.D := Mir.fn 1 3 mb__law_page_of
noncomputable def lb__law_needs_0 : Mir.SM :=
  (Mir.app 3 (Mir.mkT (Mir.eCons (Mir.o2 Mir.addD (Mir.cD (.int 1)) (Mir.o2 Mir.modD (Mir.call m__law_mixed (Mir.eCons (Mir.vV 1) (Mir.eCons (Mir.o2 Mir.addD (Mir.cD (.int 100)) (Mir.o2 Mir.mulD (Mir.cD (.int 2)) (Mir.vB 4))) Mir.eNil))) (Mir.vB 2))) (Mir.eCons (Mir.o2 Mir.addD (Mir.cD (.int 1)) (Mir.o2 Mir.modD (Mir.call m__law_mixed (Mir.eCons (Mir.vV 1) (Mir.eCons (Mir.o2 Mir.addD (Mir.cD (.int 101)) (Mir.o2 Mir.mulD (Mir.cD (.int 2)) (Mir.vB 4))) Mir.eNil))) (Mir.vB 2))) Mir.eNil))))
noncomputable def mb__law_needs : Mir.SM :=
  (Mir.seq (Mir.asg (Mir.gN 2) (Mir.o2 Mir.ixD (Mir.mkL (Mir.eCons (Mir.cD (.int 9)) (Mir.eCons (Mir.cD (.int 9)) (Mir.eCons (Mir.cD (.int 2000)) Mir.eNil)))) (Mir.o2 Mir.modD (Mir.call m__law_mixed (Mir.eCons (Mir.vV 1) (Mir.eCons (Mir.cD (.int 3)) Mir.eNil))) (Mir.cD (.int 3)))))
  (Mir.seq (Mir.asgO 3 (Mir.mkL Mir.eNil))
  (Mir.seq (Mir.forS (Mir.iR1 (Mir.o1 Mir.lenD (Mir.o2 Mir.ixD (Mir.vB 0) (Mir.cD (.int 2))))) (Mir.gN 4) lb__law_needs_0)
  (Mir.frz [3] (Mir.ret (Mir.vV 3))))))
noncomputable abbrev m__law_needs : List Mir.D → Option Mir.D := Mir.fn 2 3 mb__law_needs
noncomputable def lb_is_need_0 : Mir.SM :=
  (Mir.iff (Mir.tOr (Mir.tNot (Mir.tB (Mir.o1 Mir.isInt (Mir.vB 1)))) (Mir.tOr (Mir.tB (Mir.o1 Mir.isBool (Mir.vB 1))) (Mir.tOr (Mir.tB (Mir.o2 Mir.ltD (Mir.vB 1) (Mir.cD (.int 1)))) (Mir.tB (Mir.o2 Mir.gtD (Mir.vB 1) (Mir.cD c_MOST_NEED)))))) (Mir.ret (Mir.cD (.bl false))) Mir.skip)
noncomputable def mb_is_need : Mir.SM :=
  (Mir.seq (Mir.iff (Mir.tOr (Mir.tNot (Mir.tB (Mir.o1 Mir.isTup (Mir.vB 0)))) (Mir.tB (Mir.o2 Mir.neD (Mir.o1 Mir.lenD (Mir.vB 0)) (Mir.cD (.int 2))))) (Mir.ret (Mir.cD (.bl false))) Mir.skip)
  (Mir.seq (Mir.forS (Mir.iL (Mir.vV 0)) (Mir.gN 1) lb_is_need_0)
  (Mir.ret (Mir.cD (.bl true)))))
noncomputable abbrev m_is_need : List Mir.D → Option Mir.D := Mir.fn 1 1 mb_is_need
noncomputable def lb_need_needs_0 : Mir.SM :=
  (Mir.iff (Mir.tNot (Mir.tB (Mir.call m_is_need (Mir.eCons (Mir.vV 2) Mir.eNil)))) Mir.never Mir.skip)
noncomputable def mb_need_needs : Mir.SM :=
  (Mir.seq (Mir.iff (Mir.tOr (Mir.tNot (Mir.tB (Mir.o1 Mir.isList (Mir.vB 1)))) (Mir.tB (Mir.o2 Mir.neD (Mir.o1 Mir.lenD (Mir.vB 1)) (Mir.o1 Mir.lenD (Mir.o2 Mir.ixD (Mir.vB 0) (Mir.cD (.int 2))))))) Mir.never Mir.skip)
  (Mir.forS (Mir.iL (Mir.vV 1)) (Mir.gN 2) lb_need_needs_0))
noncomputable abbrev m_need_needs : List Mir.D → Option Mir.D := Mir.fn 2 1 mb_need_needs
noncomputable def mb_place_of : Mir.SM :=
  (Mir.seq (Mir.iff (Mir.tB (Mir.o2 Mir.ltD (Mir.vB 1) (Mir.cD (.int 0)))) (Mir.ret (Mir.cD (.int 0))) Mir.skip)
  (Mir.ret (Mir.o2 Mir.ixD (Mir.vB 0) (Mir.vB 1))))
noncomputable abbrev m_place_of : List Mir.D → Option Mir.D := Mir.fn 2 0 mb_place_of
noncomputable def lb_farthest_0 : Mir.SM :=
  (Mir.seq (Mir.asg (Mir.gN 7) (Mir.o2 Mir.addD (Mir.lendE [2] (Mir.call m_place_of (Mir.eCons (Mir.vV 2) (Mir.eCons (Mir.vV 4) Mir.eNil)))) (Mir.vB 6)))
  (Mir.iff (Mir.tB (Mir.o2 Mir.gtD (Mir.vB 7) (Mir.o2 Mir.ixD (Mir.vB 2) (Mir.vB 5)))) (Mir.seq (Mir.setI 2 (Mir.vB 5) (Mir.vV 7))
  (Mir.asg (Mir.gN 3) (Mir.cD (.bl true)))) Mir.skip))
noncomputable def lb_farthest_1 : Mir.SM :=
  (Mir.seq (Mir.asg (Mir.gN 3) (Mir.cD (.bl false)))
  (Mir.forS (Mir.iL (Mir.vV 0)) (Mir.gT [(Mir.gN 4), (Mir.gN 5), (Mir.gN 6)]) lb_farthest_0))
noncomputable def mb_farthest : Mir.SM :=
  (Mir.seq (Mir.asgO 2 (Mir.o2 Mir.mulD (Mir.mkL (Mir.eCons (Mir.cD (.int 0)) Mir.eNil)) (Mir.o2 Mir.addD (Mir.vB 1) (Mir.cD (.int 1)))))
  (Mir.seq (Mir.asg (Mir.gN 3) (Mir.cD (.bl true)))
  (Mir.seq (Mir.whS (Mir.tB (Mir.vB 3)) lb_farthest_1)
  (Mir.frz [2] (Mir.ret (Mir.vV 2))))))
noncomputable abbrev m_farthest : List Mir.D → Option Mir.D := Mir.fn 2 6 mb_farthest
noncomputable def lb_joined_spans_0 : Mir.SM :=
  (Mir.iff (Mir.tAnd (Mir.tB (Mir.o2 Mir.neD (Mir.vB 1) (Mir.mkL Mir.eNil))) (Mir.tB (Mir.o2 Mir.eqD (Mir.o2 Mir.ixD (Mir.o2 Mir.ixD (Mir.vB 1) (Mir.o1 Mir.negD (Mir.cD (.int 1)))) (Mir.cD (.int 1))) (Mir.vB 2)))) (Mir.setI 1 (Mir.o1 Mir.negD (Mir.cD (.int 1))) (Mir.mkT (Mir.eCons (Mir.o2 Mir.ixD (Mir.o2 Mir.ixD (Mir.vB 1) (Mir.o1 Mir.negD (Mir.cD (.int 1)))) (Mir.cD (.int 0))) (Mir.eCons (Mir.vV 3) Mir.eNil)))) (Mir.app 1 (Mir.mkT (Mir.eCons (Mir.vV 2) (Mir.eCons (Mir.vV 3) Mir.eNil)))))
noncomputable def mb_joined_spans : Mir.SM :=
  (Mir.seq (Mir.asgO 1 (Mir.mkL Mir.eNil))
  (Mir.seq (Mir.forS (Mir.iL (Mir.o1 Mir.sortD (Mir.vB 0))) (Mir.gT [(Mir.gN 2), (Mir.gN 3)]) lb_joined_spans_0)
  (Mir.frz [1] (Mir.ret (Mir.vV 1)))))
noncomputable abbrev m_joined_spans : List Mir.D → Option Mir.D := Mir.fn 1 3 mb_joined_spans
noncomputable def lb_ends_joined_0 : Mir.SM :=
  (Mir.ext 3 (Mir.lc (Mir.iL (Mir.call m_joined_spans (Mir.eCons (Mir.getK 2 (Mir.vB 4)) Mir.eNil))) [5, 6] (Mir.gT [(Mir.gN 5), (Mir.gN 6)]) Mir.tYes (Mir.mkT (Mir.eCons (Mir.vV 4) (Mir.eCons (Mir.vV 5) (Mir.eCons (Mir.vV 6) Mir.eNil))))))
noncomputable def mb_ends_joined : Mir.SM :=
  (Mir.seq (Mir.newK 2)
  (Mir.seq (Mir.grpS 2 (Mir.iL (Mir.vV 0)) (Mir.gT [(Mir.gN 4), (Mir.gN 5), (Mir.gN 6)]) (Mir.tB (Mir.o2 Mir.neD (Mir.vB 4) (Mir.vB 1))) (Mir.vB 4) (Mir.mkT (Mir.eCons (Mir.vV 5) (Mir.eCons (Mir.vV 6) Mir.eNil))))
  (Mir.seq (Mir.asgO 3 (Mir.mkL Mir.eNil))
  (Mir.seq (Mir.forS (Mir.iL (Mir.sortKs 2)) (Mir.gN 4) lb_ends_joined_0)
  (Mir.frz [3] (Mir.ret (Mir.vV 3)))))))
noncomputable abbrev m_ends_joined : List Mir.D → Option Mir.D := Mir.fn 2 5 mb_ends_joined
noncomputable def mb_uprights : Mir.SM :=
  (Mir.ret (Mir.call m_ends_joined (Mir.eCons (Mir.lc (Mir.iL (Mir.o2 Mir.ixD (Mir.vB 0) (Mir.cD (.int 2)))) [1] (Mir.gN 1) Mir.tYes (Mir.mkT (Mir.eCons (Mir.o2 Mir.ixD (Mir.vB 1) (Mir.cD (.int 2))) (Mir.eCons (Mir.o2 Mir.ixD (Mir.vB 1) (Mir.cD (.int 1))) (Mir.eCons (Mir.o2 Mir.ixD (Mir.vB 1) (Mir.cD (.int 3))) Mir.eNil))))) (Mir.eCons (Mir.o2 Mir.ixD (Mir.vB 0) (Mir.cD (.int 0))) Mir.eNil))))
noncomputable abbrev m_uprights : List Mir.D → Option Mir.D := Mir.fn 1 1 mb_uprights
noncomputable def mb_levels : Mir.SM :=
  (Mir.ret (Mir.call m_ends_joined (Mir.eCons (Mir.lc (Mir.iL (Mir.o2 Mir.ixD (Mir.vB 0) (Mir.cD (.int 2)))) [1] (Mir.gN 1) Mir.tYes (Mir.mkT (Mir.eCons (Mir.o2 Mir.ixD (Mir.vB 1) (Mir.cD (.int 3))) (Mir.eCons (Mir.o2 Mir.ixD (Mir.vB 1) (Mir.cD (.int 0))) (Mir.eCons (Mir.o2 Mir.ixD (Mir.vB 1) (Mir.cD (.int 2))) Mir.eNil))))) (Mir.eCons (Mir.o2 Mir.ixD (Mir.vB 0) (Mir.cD (.int 1))) Mir.eNil))))
noncomputable abbrev m_levels : List Mir.D → Option Mir.D := Mir.fn 1 1 mb_levels
noncomputable def lb_wall_at_0 : Mir.SM :=
  (Mir.iff (Mir.tAnd (Mir.tB (Mir.o2 Mir.eqD (Mir.o2 Mir.ixD (Mir.vB 5) (Mir.cD (.int 0))) (Mir.vB 1))) (Mir.tB (Mir.chain2 Mir.leD Mir.ltD (Mir.o2 Mir.ixD (Mir.vB 5) (Mir.cD (.int 1))) (Mir.vB 2) (Mir.o2 Mir.ixD (Mir.vB 5) (Mir.cD (.int 2)))))) (Mir.ret (Mir.vV 4)) Mir.skip)
noncomputable def mb_wall_at : Mir.SM :=
  (Mir.seq (Mir.iff (Mir.tB (Mir.o2 Mir.eqD (Mir.vB 1) (Mir.cD (.int 0)))) (Mir.ret (Mir.o1 Mir.negD (Mir.cD (.int 1)))) Mir.skip)
  (Mir.seq (Mir.iff (Mir.tB (Mir.o2 Mir.eqD (Mir.vB 1) (Mir.vB 3))) (Mir.ret (Mir.o1 Mir.lenD (Mir.vB 0))) Mir.skip)
  (Mir.seq (Mir.forS (Mir.iEn (Mir.vV 0)) (Mir.gT [(Mir.gN 4), (Mir.gN 5)]) lb_wall_at_0)
  (Mir.ret (Mir.cD .non)))))
noncomputable abbrev m_wall_at : List Mir.D → Option Mir.D := Mir.fn 4 2 mb_wall_at
noncomputable def mb_sides : Mir.SM :=
  (Mir.seq (Mir.iff (Mir.tOr (Mir.tB (Mir.o2 Mir.ltD (Mir.vB 1) (Mir.cD (.int 0)))) (Mir.tB (Mir.o2 Mir.geD (Mir.vB 1) (Mir.o1 Mir.lenD (Mir.o2 Mir.ixD (Mir.vB 0) (Mir.cD (.int 2))))))) Mir.never Mir.skip)
  (Mir.seq (Mir.asg (Mir.gT [(Mir.gN 5), (Mir.gN 6), (Mir.gN 7), (Mir.gN 8)]) (Mir.o2 Mir.ixD (Mir.o2 Mir.ixD (Mir.vB 0) (Mir.cD (.int 2))) (Mir.vB 1)))
  (Mir.seq (Mir.asg (Mir.gN 2) (Mir.call m_uprights (Mir.eCons (Mir.vV 0) Mir.eNil)))
  (Mir.seq (Mir.asg (Mir.gN 3) (Mir.call m_levels (Mir.eCons (Mir.vV 0) Mir.eNil)))
  (Mir.seq (Mir.asg (Mir.gN 4) (Mir.mkT (Mir.eCons (Mir.call m_wall_at (Mir.eCons (Mir.vV 2) (Mir.eCons (Mir.vV 5) (Mir.eCons (Mir.vV 6) (Mir.eCons (Mir.o2 Mir.ixD (Mir.vB 0) (Mir.cD (.int 0))) Mir.eNil))))) (Mir.eCons (Mir.call m_wall_at (Mir.eCons (Mir.vV 2) (Mir.eCons (Mir.vV 7) (Mir.eCons (Mir.vV 6) (Mir.eCons (Mir.o2 Mir.ixD (Mir.vB 0) (Mir.cD (.int 0))) Mir.eNil))))) Mir.eNil))))
  (Mir.ret (Mir.o2 Mir.addD (Mir.vB 4) (Mir.mkT (Mir.eCons (Mir.call m_wall_at (Mir.eCons (Mir.vV 3) (Mir.eCons (Mir.vV 6) (Mir.eCons (Mir.vV 5) (Mir.eCons (Mir.o2 Mir.ixD (Mir.vB 0) (Mir.cD (.int 1))) Mir.eNil))))) (Mir.eCons (Mir.call m_wall_at (Mir.eCons (Mir.vV 3) (Mir.eCons (Mir.vV 8) (Mir.eCons (Mir.vV 5) (Mir.eCons (Mir.o2 Mir.ixD (Mir.vB 0) (Mir.cD (.int 1))) Mir.eNil))))) Mir.eNil))))))))))
noncomputable abbrev m_sides : List Mir.D → Option Mir.D := Mir.fn 2 7 mb_sides
noncomputable def lb_steps_of_0 : Mir.SM :=
  (Mir.seq (Mir.asg (Mir.gN 5) (Mir.call m_sides (Mir.eCons (Mir.vV 0) (Mir.eCons (Mir.vV 4) Mir.eNil))))
  (Mir.app 3 (Mir.mkT (Mir.eCons (Mir.o2 Mir.ixD (Mir.vB 5) (Mir.o2 Mir.mulD (Mir.cD (.int 2)) (Mir.vB 2))) (Mir.eCons (Mir.o2 Mir.ixD (Mir.vB 5) (Mir.o2 Mir.addD (Mir.o2 Mir.mulD (Mir.cD (.int 2)) (Mir.vB 2)) (Mir.cD (.int 1)))) (Mir.eCons (Mir.o2 Mir.ixD (Mir.o2 Mir.ixD (Mir.vB 1) (Mir.vB 4)) (Mir.vB 2)) Mir.eNil))))))
noncomputable def mb_steps_of : Mir.SM :=
  (Mir.seq (Mir.asgO 3 (Mir.mkL Mir.eNil))
  (Mir.seq (Mir.forS (Mir.iR1 (Mir.o1 Mir.lenD (Mir.vB 1))) (Mir.gN 4) lb_steps_of_0)
  (Mir.frz [3] (Mir.ret (Mir.vV 3)))))
noncomputable abbrev m_steps_of : List Mir.D → Option Mir.D := Mir.fn 3 3 mb_steps_of
noncomputable def mb_least_places : Mir.SM :=
  (Mir.seq (Mir.drop (Mir.call m_need_needs (Mir.eCons (Mir.vV 0) (Mir.eCons (Mir.vV 1) Mir.eNil))))
  (Mir.seq (Mir.asg (Mir.gN 2) (Mir.call m_farthest (Mir.eCons (Mir.call m_steps_of (Mir.eCons (Mir.vV 0) (Mir.eCons (Mir.vV 1) (Mir.eCons (Mir.cD (.int 0)) Mir.eNil)))) (Mir.eCons (Mir.o1 Mir.lenD (Mir.call m_uprights (Mir.eCons (Mir.vV 0) Mir.eNil))) Mir.eNil))))
  (Mir.seq (Mir.asg (Mir.gN 3) (Mir.call m_farthest (Mir.eCons (Mir.call m_steps_of (Mir.eCons (Mir.vV 0) (Mir.eCons (Mir.vV 1) (Mir.eCons (Mir.cD (.int 1)) Mir.eNil)))) (Mir.eCons (Mir.o1 Mir.lenD (Mir.call m_levels (Mir.eCons (Mir.vV 0) Mir.eNil))) Mir.eNil))))
  (Mir.ret (Mir.mkT (Mir.eCons (Mir.vV 2) (Mir.eCons (Mir.vV 3) Mir.eNil)))))))
noncomputable abbrev m_least_places : List Mir.D → Option Mir.D := Mir.fn 2 2 mb_least_places
noncomputable def lb__law_between_0 : Mir.SM :=
  (Mir.seq (Mir.asg (Mir.gN 7) (Mir.o2 Mir.addD (Mir.mkL (Mir.eCons (Mir.cD (.int 0)) Mir.eNil)) (Mir.o2 Mir.ixD (Mir.vB 1) (Mir.cD (.int 0)))))
  (Mir.seq (Mir.asg (Mir.gN 8) (Mir.o2 Mir.addD (Mir.mkL (Mir.eCons (Mir.cD (.int 0)) Mir.eNil)) (Mir.o2 Mir.ixD (Mir.vB 1) (Mir.cD (.int 1)))))
  (Mir.app 2 (Mir.mkT (Mir.eCons (Mir.o2 Mir.ixD (Mir.vB 7) (Mir.o2 Mir.addD (Mir.vB 3) (Mir.cD (.int 1)))) (Mir.eCons (Mir.o2 Mir.ixD (Mir.vB 8) (Mir.o2 Mir.addD (Mir.vB 5) (Mir.cD (.int 1)))) (Mir.eCons (Mir.o2 Mir.ixD (Mir.vB 7) (Mir.o2 Mir.addD (Mir.vB 4) (Mir.cD (.int 1)))) (Mir.eCons (Mir.o2 Mir.ixD (Mir.vB 8) (Mir.o2 Mir.addD (Mir.vB 6) (Mir.cD (.int 1)))) Mir.eNil))))))))
noncomputable def mb__law_between : Mir.SM :=
  (Mir.seq (Mir.asgO 2 (Mir.mkL Mir.eNil))
  (Mir.seq (Mir.forS (Mir.iL (Mir.vV 0)) (Mir.gT [(Mir.gN 3), (Mir.gN 4), (Mir.gN 5), (Mir.gN 6)]) lb__law_between_0)
  (Mir.frz [2] (Mir.ret (Mir.vV 2)))))
noncomputable abbrev m__law_between : List Mir.D → Option Mir.D := Mir.fn 2 7 mb__law_between
noncomputable def lb_pressed_0 : Mir.SM :=
  (Mir.seq (Mir.asg (Mir.gT [(Mir.gN 8), (Mir.gN 9), (Mir.gN 10), (Mir.gN 11)]) (Mir.call m_sides (Mir.eCons (Mir.vV 0) (Mir.eCons (Mir.vV 3) Mir.eNil))))
  (Mir.seq (Mir.asg (Mir.gN 6) (Mir.mkT (Mir.eCons (Mir.call m_place_of (Mir.eCons (Mir.vV 4) (Mir.eCons (Mir.vV 8) Mir.eNil))) (Mir.eCons (Mir.o2 Mir.ixD (Mir.vB 4) (Mir.vB 9)) Mir.eNil))))
  (Mir.seq (Mir.asg (Mir.gN 7) (Mir.mkT (Mir.eCons (Mir.call m_place_of (Mir.eCons (Mir.vV 5) (Mir.eCons (Mir.vV 10) Mir.eNil))) (Mir.eCons (Mir.o2 Mir.ixD (Mir.vB 5) (Mir.vB 11)) Mir.eNil))))
  (Mir.app 2 (Mir.mkT (Mir.eCons (Mir.o2 Mir.ixD (Mir.vB 6) (Mir.cD (.int 0))) (Mir.eCons (Mir.o2 Mir.ixD (Mir.vB 7) (Mir.cD (.int 0))) (Mir.eCons (Mir.o2 Mir.ixD (Mir.vB 6) (Mir.cD (.int 1))) (Mir.eCons (Mir.o2 Mir.ixD (Mir.vB 7) (Mir.cD (.int 1))) Mir.eNil)))))))))
noncomputable def mb_pressed : Mir.SM :=
  (Mir.seq (Mir.asg (Mir.gT [(Mir.gN 4), (Mir.gN 5)]) (Mir.call m_least_places (Mir.eCons (Mir.vV 0) (Mir.eCons (Mir.vV 1) Mir.eNil))))
  (Mir.seq (Mir.asgO 2 (Mir.mkL Mir.eNil))
  (Mir.seq (Mir.forS (Mir.iR1 (Mir.o1 Mir.lenD (Mir.vB 1))) (Mir.gN 3) lb_pressed_0)
  (Mir.frz [2] (Mir.ret (Mir.vV 2))))))
noncomputable abbrev m_pressed : List Mir.D → Option Mir.D := Mir.fn 2 10 mb_pressed
noncomputable def mb__law_whole : Mir.SM :=
  (Mir.ret (Mir.andV (Mir.o1 Mir.isInt (Mir.vB 0)) (Mir.o1 Mir.notD (Mir.o1 Mir.isBool (Mir.vB 0)))))
noncomputable abbrev m__law_whole : List Mir.D → Option Mir.D := Mir.fn 1 0 mb__law_whole
noncomputable def lb__law_chain_good_0 : Mir.SM :=
  (Mir.seq (Mir.iff (Mir.tB (Mir.o2 Mir.neD (Mir.o2 Mir.ixD (Mir.o2 Mir.ixD (Mir.vB 0) (Mir.vB 8)) (Mir.o2 Mir.mulD (Mir.cD (.int 2)) (Mir.vB 5))) (Mir.vB 6))) (Mir.ret (Mir.cD (.bl false))) Mir.skip)
  (Mir.seq (Mir.asg (Mir.gN 6) (Mir.o2 Mir.ixD (Mir.o2 Mir.ixD (Mir.vB 0) (Mir.vB 8)) (Mir.o2 Mir.addD (Mir.o2 Mir.mulD (Mir.cD (.int 2)) (Mir.vB 5)) (Mir.cD (.int 1)))))
  (Mir.asg (Mir.gN 7) (Mir.o2 Mir.addD (Mir.vB 7) (Mir.o2 Mir.ixD (Mir.o2 Mir.ixD (Mir.vB 2) (Mir.vB 8)) (Mir.vB 5))))))
noncomputable def mb__law_chain_good : Mir.SM :=
  (Mir.seq (Mir.iff (Mir.tOr (Mir.tNot (Mir.tB (Mir.o1 Mir.isList (Mir.vB 1)))) (Mir.tOr (Mir.tB (Mir.o2 Mir.eqD (Mir.vB 1) (Mir.mkL Mir.eNil))) (Mir.tNot (Mir.tB (Mir.o1 Mir.allD (Mir.lc (Mir.iL (Mir.vV 1)) [8] (Mir.gN 8) Mir.tYes (Mir.call m__law_whole (Mir.eCons (Mir.vV 8) Mir.eNil)))))))) (Mir.ret (Mir.cD (.bl false))) Mir.skip)
  (Mir.seq (Mir.iff (Mir.tOr (Mir.tB (Mir.o2 Mir.ltD (Mir.o1 Mir.minD (Mir.vB 1)) (Mir.cD (.int 0)))) (Mir.tB (Mir.o2 Mir.geD (Mir.o1 Mir.maxD (Mir.vB 1)) (Mir.o1 Mir.lenD (Mir.vB 0))))) (Mir.ret (Mir.cD (.bl false))) Mir.skip)
  (Mir.seq (Mir.asg (Mir.gN 6) (Mir.o1 Mir.negD (Mir.cD (.int 1))))
  (Mir.seq (Mir.asg (Mir.gN 7) (Mir.cD (.int 0)))
  (Mir.seq (Mir.forS (Mir.iL (Mir.vV 1)) (Mir.gN 8) lb__law_chain_good_0)
  (Mir.ret (Mir.andV (Mir.o2 Mir.eqD (Mir.vB 6) (Mir.o2 Mir.ixD (Mir.vB 3) (Mir.vB 5))) (Mir.o2 Mir.eqD (Mir.vB 7) (Mir.vB 4)))))))))
noncomputable abbrev m__law_chain_good : List Mir.D → Option Mir.D := Mir.fn 6 3 mb__law_chain_good
noncomputable def lb__law_moved_0 : Mir.SM :=
  (Mir.seq (Mir.asg (Mir.gN 9) (Mir.o2 Mir.addD (Mir.o2 Mir.ixD (Mir.o2 Mir.ixD (Mir.vB 0) (Mir.vB 8)) (Mir.o2 Mir.mulD (Mir.cD (.int 2)) (Mir.vB 2))) (Mir.cD (.int 1))))
  (Mir.seq (Mir.asg (Mir.gN 10) (Mir.o2 Mir.addD (Mir.o2 Mir.ixD (Mir.o2 Mir.ixD (Mir.vB 0) (Mir.vB 8)) (Mir.o2 Mir.addD (Mir.o2 Mir.mulD (Mir.cD (.int 2)) (Mir.vB 2)) (Mir.cD (.int 1)))) (Mir.cD (.int 1))))
  (Mir.seq (Mir.asg (Mir.gN 11) (Mir.o2 Mir.addD (Mir.o2 Mir.addD (Mir.o2 Mir.ixD (Mir.vB 6) (Mir.vB 9)) (Mir.o2 Mir.ixD (Mir.o2 Mir.ixD (Mir.vB 1) (Mir.vB 8)) (Mir.vB 2))) (Mir.o2 Mir.ixD (Mir.vB 5) (Mir.vB 8))))
  (Mir.setI 6 (Mir.vB 10) (Mir.o2 Mir.max2 (Mir.o2 Mir.ixD (Mir.vB 6) (Mir.vB 10)) (Mir.vB 11))))))
noncomputable def lb__law_moved_1 : Mir.SM :=
  (Mir.forS (Mir.iR1 (Mir.o1 Mir.lenD (Mir.vB 0))) (Mir.gN 8) lb__law_moved_0)
noncomputable def mb__law_moved : Mir.SM :=
  (Mir.seq (Mir.asg (Mir.gN 5) (Mir.lc (Mir.iR1 (Mir.o1 Mir.lenD (Mir.vB 0))) [8] (Mir.gN 8) Mir.tYes (Mir.o2 Mir.modD (Mir.call m__law_mixed (Mir.eCons (Mir.vV 4) (Mir.eCons (Mir.o2 Mir.addD (Mir.o2 Mir.addD (Mir.cD (.int 200)) (Mir.o2 Mir.mulD (Mir.cD (.int 24)) (Mir.vB 2))) (Mir.vB 8)) Mir.eNil))) (Mir.cD (.int 4)))))
  (Mir.seq (Mir.asgO 6 (Mir.lc (Mir.iR1 (Mir.o2 Mir.addD (Mir.vB 3) (Mir.cD (.int 2)))) [8] (Mir.gN 8) Mir.tYes (Mir.cD (.int 0))))
  (Mir.seq (Mir.forS (Mir.iR1 (Mir.o2 Mir.addD (Mir.vB 3) (Mir.cD (.int 2)))) (Mir.gN 7) lb__law_moved_1)
  (Mir.ret (Mir.sl (Mir.vB 6) (Mir.oS (Mir.cD (.int 1))) Mir.oN)))))
noncomputable abbrev m__law_moved : List Mir.D → Option Mir.D := Mir.fn 5 7 mb__law_moved
noncomputable def mb__law_places_good : Mir.SM :=
  (Mir.seq (Mir.iff (Mir.tOr (Mir.tNot (Mir.tB (Mir.o1 Mir.isList (Mir.vB 0)))) (Mir.tOr (Mir.tB (Mir.o2 Mir.neD (Mir.o1 Mir.lenD (Mir.vB 0)) (Mir.o2 Mir.addD (Mir.vB 1) (Mir.cD (.int 1))))) (Mir.tNot (Mir.tB (Mir.o1 Mir.allD (Mir.lc (Mir.iL (Mir.vV 0)) [2] (Mir.gN 2) Mir.tYes (Mir.call m__law_whole (Mir.eCons (Mir.vV 2) Mir.eNil)))))))) (Mir.ret (Mir.cD (.bl false))) Mir.skip)
  (Mir.ret (Mir.o2 Mir.gtD (Mir.o1 Mir.minD (Mir.vB 0)) (Mir.cD (.int 0)))))
noncomputable abbrev m__law_places_good : List Mir.D → Option Mir.D := Mir.fn 2 1 mb__law_places_good
noncomputable def lb_chain_0 : Mir.SM :=
  (Mir.seq (Mir.asg (Mir.gT [(Mir.gN 5), (Mir.gN 6), (Mir.gN 7)]) (Mir.o2 Mir.ixD (Mir.vB 0) (Mir.vB 4)))
  (Mir.iff (Mir.tAnd (Mir.tB (Mir.o2 Mir.eqD (Mir.vB 6) (Mir.vB 3))) (Mir.tB (Mir.o2 Mir.eqD (Mir.o2 Mir.addD (Mir.call m_place_of (Mir.eCons (Mir.vV 1) (Mir.eCons (Mir.vV 5) Mir.eNil))) (Mir.vB 7)) (Mir.o2 Mir.ixD (Mir.vB 1) (Mir.vB 3))))) (Mir.seq (Mir.app 2 (Mir.vV 4))
  (Mir.seq (Mir.asg (Mir.gN 3) (Mir.vV 5))
  Mir.brk)) Mir.skip))
noncomputable def lb_chain_1 : Mir.SM :=
  (Mir.forS (Mir.iR1 (Mir.o1 Mir.lenD (Mir.vB 0))) (Mir.gN 4) lb_chain_0)
noncomputable def mb_chain : Mir.SM :=
  (Mir.seq (Mir.asgO 2 (Mir.mkL Mir.eNil))
  (Mir.seq (Mir.asg (Mir.gN 3) (Mir.o2 Mir.subD (Mir.o1 Mir.lenD (Mir.vB 1)) (Mir.cD (.int 1))))
  (Mir.seq (Mir.whS (Mir.tB (Mir.o2 Mir.geD (Mir.vB 3) (Mir.cD (.int 0)))) lb_chain_1)
  (Mir.ret (Mir.o1 Mir.revD (Mir.vB 2))))))
noncomputable abbrev m_chain : List Mir.D → Option Mir.D := Mir.fn 2 6 mb_chain
noncomputable def mb_chain_across : Mir.SM :=
  (Mir.seq (Mir.asg (Mir.gN 2) (Mir.o2 Mir.ixD (Mir.call m_least_places (Mir.eCons (Mir.vV 0) (Mir.eCons (Mir.vV 1) Mir.eNil))) (Mir.cD (.int 0))))
  (Mir.ret (Mir.call m_chain (Mir.eCons (Mir.call m_steps_of (Mir.eCons (Mir.vV 0) (Mir.eCons (Mir.vV 1) (Mir.eCons (Mir.cD (.int 0)) Mir.eNil)))) (Mir.eCons (Mir.vV 2) Mir.eNil)))))
noncomputable abbrev m_chain_across : List Mir.D → Option Mir.D := Mir.fn 2 1 mb_chain_across
noncomputable def mb_chain_down : Mir.SM :=
  (Mir.seq (Mir.asg (Mir.gN 2) (Mir.o2 Mir.ixD (Mir.call m_least_places (Mir.eCons (Mir.vV 0) (Mir.eCons (Mir.vV 1) Mir.eNil))) (Mir.cD (.int 1))))
  (Mir.ret (Mir.call m_chain (Mir.eCons (Mir.call m_steps_of (Mir.eCons (Mir.vV 0) (Mir.eCons (Mir.vV 1) (Mir.eCons (Mir.cD (.int 1)) Mir.eNil)))) (Mir.eCons (Mir.vV 2) Mir.eNil)))))
noncomputable abbrev m_chain_down : List Mir.D → Option Mir.D := Mir.fn 2 1 mb_chain_down
noncomputable def lb_law_0 : Mir.SM :=
  (Mir.iff (Mir.tOr (Mir.tB (Mir.o2 Mir.ltD (Mir.o2 Mir.subD (Mir.o2 Mir.ixD (Mir.vB 11) (Mir.cD (.int 2))) (Mir.o2 Mir.ixD (Mir.vB 11) (Mir.cD (.int 0)))) (Mir.o2 Mir.ixD (Mir.vB 12) (Mir.cD (.int 0))))) (Mir.tB (Mir.o2 Mir.ltD (Mir.o2 Mir.subD (Mir.o2 Mir.ixD (Mir.vB 11) (Mir.cD (.int 3))) (Mir.o2 Mir.ixD (Mir.vB 11) (Mir.cD (.int 1)))) (Mir.o2 Mir.ixD (Mir.vB 12) (Mir.cD (.int 1)))))) (Mir.ret (Mir.cD (.bl false))) Mir.skip)
noncomputable def mb_law : Mir.SM :=
  (Mir.seq (Mir.asg (Mir.gN 1) (Mir.call m__law_page_of (Mir.eCons (Mir.vV 0) Mir.eNil)))
  (Mir.seq (Mir.asg (Mir.gN 2) (Mir.call m__law_needs (Mir.eCons (Mir.vV 1) (Mir.eCons (Mir.call m__law_cell_at (Mir.eCons (Mir.vV 0) (Mir.eCons (Mir.cD (.int 1)) Mir.eNil))) Mir.eNil))))
  (Mir.seq (Mir.asg (Mir.gN 3) (Mir.mkL (Mir.eCons (Mir.o1 Mir.lenD (Mir.call m_uprights (Mir.eCons (Mir.vV 1) Mir.eNil))) (Mir.eCons (Mir.o1 Mir.lenD (Mir.call m_levels (Mir.eCons (Mir.vV 1) Mir.eNil))) Mir.eNil))))
  (Mir.seq (Mir.asg (Mir.gN 4) (Mir.lc (Mir.iR1 (Mir.o1 Mir.lenD (Mir.o2 Mir.ixD (Mir.vB 1) (Mir.cD (.int 2))))) [13] (Mir.gN 13) Mir.tYes (Mir.call m_sides (Mir.eCons (Mir.vV 1) (Mir.eCons (Mir.vV 13) Mir.eNil)))))
  (Mir.seq (Mir.asg (Mir.gN 5) (Mir.call m_least_places (Mir.eCons (Mir.vV 1) (Mir.eCons (Mir.o1 Mir.listD (Mir.vB 2)) Mir.eNil))))
  (Mir.seq (Mir.iff (Mir.tOr (Mir.tNot (Mir.tB (Mir.o1 Mir.isTup (Mir.vB 5)))) (Mir.tB (Mir.o2 Mir.neD (Mir.o1 Mir.lenD (Mir.vB 5)) (Mir.cD (.int 2))))) (Mir.ret (Mir.cD (.bl false))) Mir.skip)
  (Mir.seq (Mir.iff (Mir.tOr (Mir.tNot (Mir.tB (Mir.call m__law_places_good (Mir.eCons (Mir.o2 Mir.ixD (Mir.vB 5) (Mir.cD (.int 0))) (Mir.eCons (Mir.o2 Mir.ixD (Mir.vB 3) (Mir.cD (.int 0))) Mir.eNil))))) (Mir.tNot (Mir.tB (Mir.call m__law_places_good (Mir.eCons (Mir.o2 Mir.ixD (Mir.vB 5) (Mir.cD (.int 1))) (Mir.eCons (Mir.o2 Mir.ixD (Mir.vB 3) (Mir.cD (.int 1))) Mir.eNil)))))) (Mir.ret (Mir.cD (.bl false))) Mir.skip)
  (Mir.seq (Mir.asg (Mir.gN 6) (Mir.call m__law_between (Mir.eCons (Mir.vV 4) (Mir.eCons (Mir.vV 5) Mir.eNil))))
  (Mir.seq (Mir.forS (Mir.iZp (Mir.vV 6) (Mir.vV 2)) (Mir.gT [(Mir.gN 11), (Mir.gN 12)]) lb_law_0)
  (Mir.seq (Mir.iff (Mir.tB (Mir.o2 Mir.neD (Mir.call m_pressed (Mir.eCons (Mir.vV 1) (Mir.eCons (Mir.o1 Mir.listD (Mir.vB 2)) Mir.eNil))) (Mir.vB 6))) (Mir.ret (Mir.cD (.bl false))) Mir.skip)
  (Mir.seq (Mir.asg (Mir.gN 7) (Mir.call m_make_page (Mir.eCons (Mir.o2 Mir.ixD (Mir.o2 Mir.ixD (Mir.vB 5) (Mir.cD (.int 0))) (Mir.o1 Mir.negD (Mir.cD (.int 1)))) (Mir.eCons (Mir.o2 Mir.ixD (Mir.o2 Mir.ixD (Mir.vB 5) (Mir.cD (.int 1))) (Mir.o1 Mir.negD (Mir.cD (.int 1)))) (Mir.eCons (Mir.o1 Mir.listD (Mir.vB 6)) Mir.eNil)))))
  (Mir.seq (Mir.iff (Mir.tB (Mir.o2 Mir.neD (Mir.o1 Mir.sortA (Mir.o2 Mir.ixD (Mir.vB 7) (Mir.cD (.int 2)))) (Mir.o1 Mir.sortD (Mir.vB 6)))) (Mir.ret (Mir.cD (.bl false))) Mir.skip)
  (Mir.seq (Mir.iff (Mir.tNot (Mir.tB (Mir.call m__law_chain_good (Mir.eCons (Mir.vV 4) (Mir.eCons (Mir.call m_chain_across (Mir.eCons (Mir.vV 1) (Mir.eCons (Mir.o1 Mir.listD (Mir.vB 2)) Mir.eNil))) (Mir.eCons (Mir.vV 2) (Mir.eCons (Mir.vV 3) (Mir.eCons (Mir.o2 Mir.ixD (Mir.o2 Mir.ixD (Mir.vB 5) (Mir.cD (.int 0))) (Mir.o1 Mir.negD (Mir.cD (.int 1)))) (Mir.eCons (Mir.cD (.int 0)) Mir.eNil))))))))) (Mir.ret (Mir.cD (.bl false))) Mir.skip)
  (Mir.seq (Mir.iff (Mir.tNot (Mir.tB (Mir.call m__law_chain_good (Mir.eCons (Mir.vV 4) (Mir.eCons (Mir.call m_chain_down (Mir.eCons (Mir.vV 1) (Mir.eCons (Mir.o1 Mir.listD (Mir.vB 2)) Mir.eNil))) (Mir.eCons (Mir.vV 2) (Mir.eCons (Mir.vV 3) (Mir.eCons (Mir.o2 Mir.ixD (Mir.o2 Mir.ixD (Mir.vB 5) (Mir.cD (.int 1))) (Mir.o1 Mir.negD (Mir.cD (.int 1)))) (Mir.eCons (Mir.cD (.int 1)) Mir.eNil))))))))) (Mir.ret (Mir.cD (.bl false))) Mir.skip)
  (Mir.seq (Mir.asg (Mir.gN 8) (Mir.call m__law_cell_at (Mir.eCons (Mir.vV 0) (Mir.eCons (Mir.cD (.int 2)) Mir.eNil))))
  (Mir.seq (Mir.asg (Mir.gN 9) (Mir.mkL (Mir.eCons (Mir.call m__law_moved (Mir.eCons (Mir.vV 4) (Mir.eCons (Mir.vV 2) (Mir.eCons (Mir.cD (.int 0)) (Mir.eCons (Mir.o2 Mir.ixD (Mir.vB 3) (Mir.cD (.int 0))) (Mir.eCons (Mir.vV 8) Mir.eNil)))))) (Mir.eCons (Mir.call m__law_moved (Mir.eCons (Mir.vV 4) (Mir.eCons (Mir.vV 2) (Mir.eCons (Mir.cD (.int 1)) (Mir.eCons (Mir.o2 Mir.ixD (Mir.vB 3) (Mir.cD (.int 1))) (Mir.eCons (Mir.vV 8) Mir.eNil)))))) Mir.eNil))))
  (Mir.seq (Mir.iff (Mir.tOr (Mir.tB (Mir.o2 Mir.ltD (Mir.o2 Mir.ixD (Mir.o2 Mir.ixD (Mir.vB 9) (Mir.cD (.int 0))) (Mir.o1 Mir.negD (Mir.cD (.int 1)))) (Mir.o2 Mir.ixD (Mir.o2 Mir.ixD (Mir.vB 5) (Mir.cD (.int 0))) (Mir.o1 Mir.negD (Mir.cD (.int 1)))))) (Mir.tB (Mir.o2 Mir.ltD (Mir.o2 Mir.ixD (Mir.o2 Mir.ixD (Mir.vB 9) (Mir.cD (.int 1))) (Mir.o1 Mir.negD (Mir.cD (.int 1)))) (Mir.o2 Mir.ixD (Mir.o2 Mir.ixD (Mir.vB 5) (Mir.cD (.int 1))) (Mir.o1 Mir.negD (Mir.cD (.int 1))))))) (Mir.ret (Mir.cD (.bl false))) Mir.skip)
  (Mir.seq (Mir.asg (Mir.gN 10) (Mir.call m__law_between (Mir.eCons (Mir.vV 4) (Mir.eCons (Mir.vV 9) Mir.eNil))))
  (Mir.ret (Mir.o2 Mir.eqD (Mir.o1 Mir.sortA (Mir.o2 Mir.ixD (Mir.call m_make_page (Mir.eCons (Mir.o2 Mir.ixD (Mir.o2 Mir.ixD (Mir.vB 9) (Mir.cD (.int 0))) (Mir.o1 Mir.negD (Mir.cD (.int 1)))) (Mir.eCons (Mir.o2 Mir.ixD (Mir.o2 Mir.ixD (Mir.vB 9) (Mir.cD (.int 1))) (Mir.o1 Mir.negD (Mir.cD (.int 1)))) (Mir.eCons (Mir.o1 Mir.listD (Mir.vB 10)) Mir.eNil)))) (Mir.cD (.int 2)))) (Mir.o1 Mir.sortD (Mir.vB 10))))))))))))))))))))))
noncomputable abbrev m_law : List Mir.D → Option Mir.D := Mir.fn 1 13 mb_law
end Snd
set_option Elab.async false
set_option linter.all false
set_option maxRecDepth 100000
set_option maxHeartbeats 4000000
namespace Snd
open PySem L2 LamX PySem.Spec PyProof.Rows
variable [TC : TabCtx]
/-! printed by gen.py: the walks of pagepart_k83_whole_pressed -/
abbrev top (i : Nat) : Stmt := PySem.Challenge.pw_pagepart_k83_whole_pressed.main.body.getD i (.Pass ⟨0, 0, 0, 0⟩)
theorem r_MOST_BOXES {t : Tok} : RelV (V.int 24) (Value.int 24 t) := ⟨t, rfl⟩
theorem a_MOST_BOXES {K : PySem.W.Frag} (G : Hp) : At K G (V.int 24) c_MOST_BOXES := .int _
theorem r_MOST_NEED {t : Tok} : RelV (V.int 2000) (Value.int 2000 t) := ⟨t, rfl⟩
theorem a_MOST_NEED {K : PySem.W.Frag} (G : Hp) : At K G (V.int 2000) c_MOST_NEED := .int _
structure GF (mg : Str → Option Value) : Prop where
  b_all : mg "all" = none
  b_bool : mg "bool" = none
  b_enumerate : mg "enumerate" = none
  b_int : mg "int" = none
  b_isinstance : mg "isinstance" = none
  b_len : mg "len" = none
  b_list : mg "list" = none
  b_max : mg "max" = none
  b_min : mg "min" = none
  b_range : mg "range" = none
  b_sorted : mg "sorted" = none
  b_tuple : mg "tuple" = none
  b_zip : mg "zip" = none
  k_MOST_BOXES : ∃ t, mg "MOST_BOXES" = some (Value.int 24 t)
  k_MOST_NEED : ∃ t, mg "MOST_NEED" = some (Value.int 2000 t)
section
variable {P : Program} {w : World} {K : PySem.W.Frag} {mg : Str → Option Value} {base : Heap}
/-! _law_cell_at -/
abbrev s__law_cell_at : Stmt := top 33
abbrev N__law_cell_at : List Str := ["script", "k"]
theorem sc__law_cell_at : FnScope N__law_cell_at ["script", "k"] (defScope s__law_cell_at) := ⟨rfl, rfl, rfl, by decide +kernel, rfl, by decide +kernel, by decide +kernel⟩
theorem w__law_cell_at (g : GF mg) {f : Addr} {cdv : Value} {A : Around} {outer : List Env} {s : Shared} {H : Hp} {E : XK} (hr : Room 0 (A.deeper (envOfC "_law_cell_at" (defScope s__law_cell_at) s.heap.objs.size f cdv))) :
    SSs (cxOf L2.CX0 P w K mg base N__law_cell_at "_law_cell_at" (defScope s__law_cell_at) f cdv A outer s H E).nox (defBody s__law_cell_at) mb__law_cell_at := by
  have nd : (N__law_cell_at).Nodup := sc__law_cell_at.nd
  have hu := room_u hr
  have hu1 := room_u1 hr
  unfold mb__law_cell_at
  exact (ss_cons (ss_if (et_cmp om_lt (eb_var 1) (en_b (en_b1 cm_len g.b_len (eb_var 0)))) (ss_one (ss_ret (ev_ix (eb_var 0) (eb_var 1)))) ss_nil)
  (ss_one (ss_ret ev_int)))
theorem fd__law_cell_at (g : GF mg) {f : Addr} {fd : FuncData} (F : FunD K "_law_cell_at" "_law_cell_at" (defArgs s__law_cell_at) (defBody s__law_cell_at) (defScope s__law_cell_at) [] [] f fd) (hmg : mg "_law_cell_at" = some (.ref f)) : Fd P w K mg base 1 "_law_cell_at" m__law_cell_at :=
  fd_mk F hmg sc__law_cell_at rfl rfl (F.bindsN (ps := ["script", "k"]) fun _ _ _ _ _ _ us hl => match us, hl with | [_, _], _ => rfl) fun cdv A outer s H E hc hr => w__law_cell_at g  hr
/-! within -/
abbrev s_within : Stmt := top 28
abbrev N_within : List Str := ["wide", "high", "box"]
theorem sc_within : FnScope N_within ["wide", "high", "box"] (defScope s_within) := ⟨rfl, rfl, rfl, by decide +kernel, rfl, by decide +kernel, by decide +kernel⟩
theorem w_within (g : GF mg) {f : Addr} {cdv : Value} {A : Around} {outer : List Env} {s : Shared} {H : Hp} {E : XK} (hr : Room 0 (A.deeper (envOfC "within" (defScope s_within) s.heap.objs.size f cdv))) :
    SSs (cxOf L2.CX0 P w K mg base N_within "within" (defScope s_within) f cdv A outer s H E).nox (defBody s_within) mb_within := by
  have nd : (N_within).Nodup := sc_within.nd
  have hu := room_u hr
  have hu1 := room_u1 hr
  unfold mb_within
  exact (ss_one (ss_ret (ev_and (ev_b (ev_cmp om_ge (ev_b (ev_ix (eb_var 2) (ev_b ev_int))) (ev_b ev_int))) (ev_and (ev_b (ev_cmp om_ge (ev_b (ev_ix (eb_var 2) (ev_b ev_int))) (ev_b ev_int))) (ev_and (ev_b (ev_cmp om_le (ev_b (ev_ix (eb_var 2) (ev_b ev_int))) (eb_var 0))) (ev_one (ev_cmp om_le (ev_b (ev_ix (eb_var 2) (ev_b ev_int))) (eb_var 1))))))))
theorem fd_within (g : GF mg) {f : Addr} {fd : FuncData} (F : FunD K "within" "within" (defArgs s_within) (defBody s_within) (defScope s_within) [] [] f fd) (hmg : mg "within" = some (.ref f)) : Fd P w K mg base 1 "within" m_within :=
  fd_mk F hmg sc_within rfl rfl (F.bindsN (ps := ["wide", "high", "box"]) fun _ _ _ _ _ _ us hl => match us, hl with | [_, _, _], _ => rfl) fun cdv A outer s H E hc hr => w_within g  hr
/-! meet -/
abbrev s_meet : Stmt := top 29
abbrev N_meet : List Str := ["one", "other"]
theorem sc_meet : FnScope N_meet ["one", "other"] (defScope s_meet) := ⟨rfl, rfl, rfl, by decide +kernel, rfl, by decide +kernel, by decide +kernel⟩
theorem w_meet (g : GF mg) {f : Addr} {cdv : Value} {A : Around} {outer : List Env} {s : Shared} {H : Hp} {E : XK} (hr : Room 0 (A.deeper (envOfC "meet" (defScope s_meet) s.heap.objs.size f cdv))) :
    SSs (cxOf L2.CX0 P w K mg base N_meet "meet" (defScope s_meet) f cdv A outer s H E).nox (defBody s_meet) mb_meet := by
  have nd : (N_meet).Nodup := sc_meet.nd
  have hu := room_u hr
  have hu1 := room_u1 hr
  unfold mb_meet
  exact (ss_cons (ss_if (ew_t (ew_or (et_cmp om_ge (ev_b (ev_ix (eb_var 0) (ev_b ev_int))) (ev_b (ev_ix (eb_var 1) (ev_b ev_int)))) (ew_or1 (et_cmp om_ge (ev_b (ev_ix (eb_var 1) (ev_b ev_int))) (ev_b (ev_ix (eb_var 0) (ev_b ev_int))))))) (ss_one (ss_ret ev_bl)) ss_nil)
  (ss_one (ss_ret (ev_and (ev_b (ev_cmp om_lt (ev_b (ev_ix (eb_var 0) (ev_b ev_int))) (ev_b (ev_ix (eb_var 1) (ev_b ev_int))))) (ev_one (ev_cmp om_lt (ev_b (ev_ix (eb_var 1) (ev_b ev_int))) (ev_b (ev_ix (eb_var 0) (ev_b ev_int)))))))))
theorem fd_meet (g : GF mg) {f : Addr} {fd : FuncData} (F : FunD K "meet" "meet" (defArgs s_meet) (defBody s_meet) (defScope s_meet) [] [] f fd) (hmg : mg "meet" = some (.ref f)) : Fd P w K mg base 1 "meet" m_meet :=
  fd_mk F hmg sc_meet rfl rfl (F.bindsN (ps := ["one", "other"]) fun _ _ _ _ _ _ us hl => match us, hl with | [_, _], _ => rfl) fun cdv A outer s H E hc hr => w_meet g  hr
/-! fill -/
abbrev s_fill : Stmt := top 30
abbrev N_fill : List Str := ["wide", "high", "boxes", "area", "k", "j"]
theorem sc_fill : FnScope N_fill ["wide", "high", "boxes"] (defScope s_fill) := ⟨rfl, rfl, rfl, by decide +kernel, rfl, by decide +kernel, by decide +kernel⟩
theorem w_fill (g : GF mg) (F_meet : Fd P w K mg base 1 "meet" m_meet) (F_within : Fd P w K mg base 1 "within" m_within) {f : Addr} {cdv : Value} {A : Around} {outer : List Env} {s : Shared} {H : Hp} {E : XK} (hr : Room 1 (A.deeper (envOfC "fill" (defScope s_fill) s.heap.objs.size f cdv))) :
    SSs (cxOf L2.CX0 P w K mg base N_fill "fill" (defScope s_fill) f cdv A outer s H E).nox (defBody s_fill) mb_fill := by
  have nd : (N_fill).Nodup := sc_fill.nd
  have hu := room_u hr
  have hu1 := room_u1 hr
  unfold mb_fill
  exact (ss_cons (ss_asg ev_int (sg_name 3 nd))
  (ss_cons (ss_for PassesOwn.never rfl (si_r1 g.b_range (en_b (en_b1 cm_len g.b_len (eb_var 2)))) (sg_name 4 nd) (ss_cons (ss_if (et_not (et_v (ev_b (ev_call F_within (hr.mono (by decide)) (ea_cons (ev_var 0) (ea_cons (ev_var 1) (ea_cons (ev_ix (eb_var 2) (eb_var 4)) ea_nil))))))) (ss_one (ss_ret ev_bl)) ss_nil)
  (ss_cons (ss_for PassesOwn.never rfl (si_r1 g.b_range (eb_var 4)) (sg_name 5 nd) (ss_one (ss_if (et_v (ev_b (ev_call F_meet (hr.mono (by decide)) (ea_cons (ev_ix (eb_var 2) (eb_var 4)) (ea_cons (ev_ix (eb_var 2) (eb_var 5)) ea_nil))))) (ss_one (ss_ret ev_bl)) ss_nil)))
  (ss_one (ss_aug 3 nd (en_v (en_bin om_mul (ev_b (ev_bin om_sub (ev_b (ev_ix (ev_b (ev_ix (eb_var 2) (eb_var 4))) (ev_b ev_int))) (ev_b (ev_ix (ev_b (ev_ix (eb_var 2) (eb_var 4))) (ev_b ev_int))))) (ev_b (ev_bin om_sub (ev_b (ev_ix (ev_b (ev_ix (eb_var 2) (eb_var 4))) (ev_b ev_int))) (ev_b (ev_ix (ev_b (ev_ix (eb_var 2) (eb_var 4))) (ev_b ev_int))))))))))))
  (ss_one (ss_ret (ev_cmp (om_eq hu) (eb_var 3) (en_b (en_bin om_mul (eb_var 0) (eb_var 1))))))))
theorem fd_fill (g : GF mg) (F_meet : Fd P w K mg base 1 "meet" m_meet) (F_within : Fd P w K mg base 1 "within" m_within) {f : Addr} {fd : FuncData} (F : FunD K "fill" "fill" (defArgs s_fill) (defBody s_fill) (defScope s_fill) [] [] f fd) (hmg : mg "fill" = some (.ref f)) : Fd P w K mg base 2 "fill" m_fill :=
  fd_mk F hmg sc_fill rfl rfl (F.bindsN (ps := ["wide", "high", "boxes"]) fun _ _ _ _ _ _ us hl => match us, hl with | [_, _, _], _ => rfl) fun cdv A outer s H E hc hr => w_fill g F_meet F_within hr
/-! is_whole -/
abbrev s_is_whole : Stmt := top 26
abbrev N_is_whole : List Str := ["thing"]
theorem sc_is_whole : FnScope N_is_whole ["thing"] (defScope s_is_whole) := ⟨rfl, rfl, rfl, by decide +kernel, rfl, by decide +kernel, by decide +kernel⟩
theorem w_is_whole (g : GF mg) {f : Addr} {cdv : Value} {A : Around} {outer : List Env} {s : Shared} {H : Hp} {E : XK} (hr : Room 0 (A.deeper (envOfC "is_whole" (defScope s_is_whole) s.heap.objs.size f cdv))) :
    SSs (cxOf L2.CX0 P w K mg base N_is_whole "is_whole" (defScope s_is_whole) f cdv A outer s H E).nox (defBody s_is_whole) mb_is_whole := by
  have nd : (N_is_whole).Nodup := sc_is_whole.nd
  have hu := room_u hr
  have hu1 := room_u1 hr
  unfold mb_is_whole
  exact (ss_one (ss_ret (ev_and (ev_b (ev_isi isi_int g.b_isinstance g.b_int (eb_var 0))) (ev_one (ev_not (ev_b (ev_isi isi_bool g.b_isinstance g.b_bool (eb_var 0))))))))
theorem fd_is_whole (g : GF mg) {f : Addr} {fd : FuncData} (F : FunD K "is_whole" "is_whole" (defArgs s_is_whole) (defBody s_is_whole) (defScope s_is_whole) [] [] f fd) (hmg : mg "is_whole" = some (.ref f)) : Fd P w K mg base 1 "is_whole" m_is_whole :=
  fd_mk F hmg sc_is_whole rfl rfl (F.bindsN (ps := ["thing"]) fun _ _ _ _ _ _ us hl => match us, hl with | [_], _ => rfl) fun cdv A outer s H E hc hr => w_is_whole g  hr
/-! is_box -/
abbrev s_is_box : Stmt := top 27
abbrev N_is_box : List Str := ["thing", "number"]
theorem sc_is_box : FnScope N_is_box ["thing"] (defScope s_is_box) := ⟨rfl, rfl, rfl, by decide +kernel, rfl, by decide +kernel, by decide +kernel⟩
theorem w_is_box (g : GF mg) (F_is_whole : Fd P w K mg base 1 "is_whole" m_is_whole) {f : Addr} {cdv : Value} {A : Around} {outer : List Env} {s : Shared} {H : Hp} {E : XK} (hr : Room 1 (A.deeper (envOfC "is_box" (defScope s_is_box) s.heap.objs.size f cdv))) :
    SSs (cxOf L2.CX0 P w K mg base N_is_box "is_box" (defScope s_is_box) f cdv A outer s H E).nox (defBody s_is_box) mb_is_box := by
  have nd : (N_is_box).Nodup := sc_is_box.nd
  have hu := room_u hr
  have hu1 := room_u1 hr
  unfold mb_is_box
  exact (ss_cons (ss_if (ew_t (ew_or (et_not (et_v (ev_b (ev_isi isi_tup g.b_isinstance g.b_tuple (eb_var 0))))) (ew_or1 (et_cmp (om_ne hu) (en_b (en_b1 cm_len g.b_len (eb_var 0))) (ev_b ev_int))))) (ss_one (ss_ret ev_bl)) ss_nil)
  (ss_cons (ss_for PassesOwn.never rfl (si_any (ev_var 0)) (sg_name 1 nd) (ss_one (ss_if (et_not (et_v (ev_b (ev_call F_is_whole (hr.mono (by decide)) (ea_cons (ev_var 1) ea_nil))))) (ss_one (ss_ret ev_bl)) ss_nil)))
  (ss_one (ss_ret (ev_and (ev_b (ev_cmp om_lt (ev_b (ev_ix (eb_var 0) (ev_b ev_int))) (ev_b (ev_ix (eb_var 0) (ev_b ev_int))))) (ev_one (ev_cmp om_lt (ev_b (ev_ix (eb_var 0) (ev_b ev_int))) (ev_b (ev_ix (eb_var 0) (ev_b ev_int))))))))))
theorem fd_is_box (g : GF mg) (F_is_whole : Fd P w K mg base 1 "is_whole" m_is_whole) {f : Addr} {fd : FuncData} (F : FunD K "is_box" "is_box" (defArgs s_is_box) (defBody s_is_box) (defScope s_is_box) [] [] f fd) (hmg : mg "is_box" = some (.ref f)) : Fd P w K mg base 2 "is_box" m_is_box :=
  fd_mk F hmg sc_is_box rfl rfl (F.bindsN (ps := ["thing"]) fun _ _ _ _ _ _ us hl => match us, hl with | [_], _ => rfl) fun cdv A outer s H E hc hr => w_is_box g F_is_whole hr
/-! make_page -/
abbrev s_make_page : Stmt := top 31
abbrev N_make_page : List Str := ["wide", "high", "boxes", "box"]
theorem sc_make_page : FnScope N_make_page ["wide", "high", "boxes"] (defScope s_make_page) := ⟨rfl, rfl, rfl, by decide +kernel, rfl, by decide +kernel, by decide +kernel⟩
theorem w_make_page (g : GF mg) (F_fill : Fd P w K mg base 2 "fill" m_fill) (F_is_box : Fd P w K mg base 2 "is_box" m_is_box) (F_is_whole : Fd P w K mg base 1 "is_whole" m_is_whole) {f : Addr} {cdv : Value} {c T : Addr} (TB : TabB base mg c T) (hT : (T, ((("make_page" : Str) ++ ".<locals>.") ++ "<lambda>" : Str)) ∈ TC.T) (hu0 : ∀ p ∈ TC.T, p.1 = T → p.2 = ((("make_page" : Str) ++ ".<locals>.") ++ "<lambda>" : Str)) (hcode : cdv = .ref c) {A : Around} {outer : List Env} {s : Shared} {H : Hp} {E : XK} (hr : Room 2 (A.deeper (envOfC "make_page" (defScope s_make_page) s.heap.objs.size f cdv))) :
    SSs (cxOf L2.CX0 P w K mg base N_make_page "make_page" (defScope s_make_page) f cdv A outer s H E).nox (defBody s_make_page) mb_make_page := by
  have nd : (N_make_page).Nodup := sc_make_page.nd
  have hu := room_u hr
  have hu1 := room_u1 hr
  unfold mb_make_page
  exact (ss_cons (ss_if (ew_t (ew_or (et_not (et_v (ev_b (ev_call F_is_whole (hr.mono (by decide)) (ea_cons (ev_var 0) ea_nil))))) (ew_or (et_not (et_v (ev_b (ev_call F_is_whole (hr.mono (by decide)) (ea_cons (ev_var 1) ea_nil))))) (ew_or (et_cmp om_lt (eb_var 0) (ev_b ev_int)) (ew_or1 (et_cmp om_lt (eb_var 1) (ev_b ev_int))))))) (ss_one ss_never) ss_nil)
  (ss_cons (ss_if (ew_t (ew_or (et_cmp om_lt (en_b (en_b1 cm_len g.b_len (eb_var 2))) (ev_b ev_int)) (ew_or1 (et_cmp om_gt (en_b (en_b1 cm_len g.b_len (eb_var 2))) (ev_b (ev_glob g.k_MOST_BOXES.choose_spec r_MOST_BOXES a_MOST_BOXES)))))) (ss_one ss_never) ss_nil)
  (ss_cons (ss_for PassesOwn.never rfl (si_any (ev_var 2)) (sg_name 3 nd) (ss_one (ss_if (et_not (et_v (ev_b (ev_call F_is_box (hr.mono (by decide)) (ea_cons (ev_var 3) ea_nil))))) (ss_one ss_never) ss_nil)))
  (ss_cons (ss_if (et_not (et_v (ev_b (ev_call F_fill (hr.mono (by decide)) (ea_cons (ev_var 0) (ea_cons (ev_var 1) (ea_cons (ev_var 2) ea_nil))))))) (ss_one ss_never) ss_nil)
  (ss_one (ss_ret (ev_tup (ea_cons (ev_var 0) (ea_cons (ev_var 1) (ea_cons (en_v (en_t1 cm_tuple g.b_tuple (en_b (en_sortKey hr TB hcode hT hu0 g.b_sorted (eb_var 2) (by decide) (fun _ _ _ _ _ _ => by rfl) (fun _ _ _ _ => by with_unfolding_all rfl))))) ea_nil))) (len_cons (len_cons (len_cons len_nil))))))))))
theorem fd_make_page (g : GF mg) (F_fill : Fd P w K mg base 2 "fill" m_fill) (F_is_box : Fd P w K mg base 2 "is_box" m_is_box) (F_is_whole : Fd P w K mg base 1 "is_whole" m_is_whole) {f : Addr} {fd : FuncData} {c T : Addr} (TB : TabB base mg c T) (hT : (T, ((("make_page" : Str) ++ ".<locals>.") ++ "<lambda>" : Str)) ∈ TC.T) (hu0 : ∀ p ∈ TC.T, p.1 = T → p.2 = ((("make_page" : Str) ++ ".<locals>.") ++ "<lambda>" : Str)) (hcd : fd.code = .ref c) (F : FunD K "make_page" "make_page" (defArgs s_make_page) (defBody s_make_page) (defScope s_make_page) [] [] f fd) (hmg : mg "make_page" = some (.ref f)) : Fd P w K mg base 3 "make_page" m_make_page :=
  fd_mk F hmg sc_make_page rfl rfl (F.bindsN (ps := ["wide", "high", "boxes"]) fun _ _ _ _ _ _ us hl => match us, hl with | [_, _, _], _ => rfl) fun cdv A outer s H E hc hr => w_make_page g F_fill F_is_box F_is_whole TB hT hu0 (hc.symm.trans hcd) hr
/-! _law_mixed -/
abbrev s__law_mixed : Stmt := top 34
abbrev N__law_mixed : List Str := ["cell", "k", "number"]
theorem sc__law_mixed : FnScope N__law_mixed ["cell", "k"] (defScope s__law_mixed) := ⟨rfl, rfl, rfl, by decide +kernel, rfl, by decide +kernel, by decide +kernel⟩
theorem w__law_mixed (g : GF mg) {f : Addr} {cdv : Value} {A : Around} {outer : List Env} {s : Shared} {H : Hp} {E : XK} (hr : Room 0 (A.deeper (envOfC "_law_mixed" (defScope s__law_mixed) s.heap.objs.size f cdv))) :
    SSs (cxOf L2.CX0 P w K mg base N__law_mixed "_law_mixed" (defScope s__law_mixed) f cdv A outer s H E).nox (defBody s__law_mixed) mb__law_mixed := by
  have nd : (N__law_mixed).Nodup := sc__law_mixed.nd
  have hu := room_u hr
  have hu1 := room_u1 hr
  unfold mb__law_mixed
  exact (ss_cons (ss_asg (ev_bin om_mod (en_b (en_bin om_add (en_b (en_bin om_add (en_b (en_bin om_mul (ev_b (ev_bin om_mod (eb_var 0) (ev_b ev_int))) (en_b (en_bin om_add (en_b (en_bin om_mul (ev_b ev_int) (eb_var 1))) (ev_b ev_int))))) (en_b (en_bin om_mul (ev_b ev_int) (eb_var 1))))) (ev_b ev_int))) (ev_b ev_int)) (sg_name 2 nd))
  (ss_one (ss_ret (ev_bin om_fdiv (ev_b (ev_bin om_mod (en_b (en_bin om_mul (eb_var 2) (eb_var 2))) (ev_b ev_int))) (ev_b ev_int)))))
theorem fd__law_mixed (g : GF mg) {f : Addr} {fd : FuncData} (F : FunD K "_law_mixed" "_law_mixed" (defArgs s__law_mixed) (defBody s__law_mixed) (defScope s__law_mixed) [] [] f fd) (hmg : mg "_law_mixed" = some (.ref f)) : Fd P w K mg base 1 "_law_mixed" m__law_mixed :=
  fd_mk F hmg sc__law_mixed rfl rfl (F.bindsN (ps := ["cell", "k"]) fun _ _ _ _ _ _ us hl => match us, hl with | [_, _], _ => rfl) fun cdv A outer s H E hc hr => w__law_mixed g  hr
/-! _law_wheel -/
abbrev s__law_wheel : Stmt := top 35
abbrev N__law_wheel : List Str := ["box", "cell", "x", "far", "y", "deep", "left", "top", "right", "below", "found"]
theorem sc__law_wheel : FnScope N__law_wheel ["box", "cell"] (defScope s__law_wheel) := ⟨rfl, rfl, rfl, by decide +kernel, rfl, by decide +kernel, by decide +kernel⟩
theorem w__law_wheel (g : GF mg) (F__law_mixed : Fd P w K mg base 1 "_law_mixed" m__law_mixed) {f : Addr} {cdv : Value} {A : Around} {outer : List Env} {s : Shared} {H : Hp} {E : XK} (hr : Room 1 (A.deeper (envOfC "_law_wheel" (defScope s__law_wheel) s.heap.objs.size f cdv))) :
    SSs (cxOf L2.CX0 P w K mg base N__law_wheel "_law_wheel" (defScope s__law_wheel) f cdv A outer s H E).nox (defBody s__law_wheel) mb__law_wheel := by
  have nd : (N__law_wheel).Nodup := sc__law_wheel.nd
  have hu := room_u hr
  have hu1 := room_u1 hr
  unfold mb__law_wheel
  exact (ss_cons (ss_asg (ev_var 0) (sg_tup rfl (sgs_cons (sg_name 6 nd) (sgs_cons (sg_name 7 nd) (sgs_cons (sg_name 8 nd) (sgs_cons (sg_name 9 nd) sgs_nil))))))
  (ss_cons (ss_asg (en_v (en_bin om_add (en_b (en_bin om_add (eb_var 6) (ev_b ev_int))) (ev_b (ev_bin om_mod (ev_b (ev_call F__law_mixed (hr.mono (by decide)) (ea_cons (ev_var 1) (ea_cons ev_int ea_nil)))) (ev_b (ev_bin om_sub (ev_b (ev_bin om_sub (eb_var 8) (eb_var 6))) (ev_b ev_int))))))) (sg_name 2 nd))
  (ss_cons (ss_asg (en_v (en_bin om_add (en_b (en_bin om_add (eb_var 2) (ev_b ev_int))) (ev_b (ev_bin om_mod (ev_b (ev_call F__law_mixed (hr.mono (by decide)) (ea_cons (ev_var 1) (ea_cons ev_int ea_nil)))) (ev_b (ev_bin om_sub (ev_b (ev_bin om_sub (eb_var 8) (eb_var 2))) (ev_b ev_int))))))) (sg_name 3 nd))
  (ss_cons (ss_asg (en_v (en_bin om_add (en_b (en_bin om_add (eb_var 7) (ev_b ev_int))) (ev_b (ev_bin om_mod (ev_b (ev_call F__law_mixed (hr.mono (by decide)) (ea_cons (ev_var 1) (ea_cons ev_int ea_nil)))) (ev_b (ev_bin om_sub (ev_b (ev_bin om_sub (eb_var 9) (eb_var 7))) (ev_b ev_int))))))) (sg_name 4 nd))
  (ss_cons (ss_asg (en_v (en_bin om_add (en_b (en_bin om_add (eb_var 4) (ev_b ev_int))) (ev_b (ev_bin om_mod (ev_b (ev_call F__law_mixed (hr.mono (by decide)) (ea_cons (ev_var 1) (ea_cons ev_int ea_nil)))) (ev_b (ev_bin om_sub (ev_b (ev_bin om_sub (eb_var 9) (eb_var 4))) (ev_b ev_int))))))) (sg_name 5 nd))
  (ss_cons (ss_if (et_cmp (om_eq hu) (ev_b (ev_bin om_mod (ev_b (ev_call F__law_mixed (hr.mono (by decide)) (ea_cons (ev_var 1) (ea_cons ev_int ea_nil)))) (ev_b ev_int))) (ev_b ev_int)) (ss_one (ss_asg (en_v (en_lst (ea_cons (ev_tup (ea_cons (ev_var 6) (ea_cons (ev_var 7) (ea_cons (ev_var 3) (ea_cons (ev_var 4) ea_nil)))) (len_cons (len_cons (len_cons (len_cons len_nil))))) (ea_cons (ev_tup (ea_cons (ev_var 3) (ea_cons (ev_var 7) (ea_cons (ev_var 8) (ea_cons (ev_var 5) ea_nil)))) (len_cons (len_cons (len_cons (len_cons len_nil))))) (ea_cons (ev_tup (ea_cons (ev_var 2) (ea_cons (ev_var 5) (ea_cons (ev_var 8) (ea_cons (ev_var 9) ea_nil)))) (len_cons (len_cons (len_cons (len_cons len_nil))))) (ea_cons (ev_tup (ea_cons (ev_var 6) (ea_cons (ev_var 4) (ea_cons (ev_var 2) (ea_cons (ev_var 9) ea_nil)))) (len_cons (len_cons (len_cons (len_cons len_nil))))) ea_nil)))) (len_cons (len_cons (len_cons (len_cons len_nil)))))) (sg_name 10 nd))) (ss_one (ss_asg (en_v (en_lst (ea_cons (ev_tup (ea_cons (ev_var 6) (ea_cons (ev_var 7) (ea_cons (ev_var 2) (ea_cons (ev_var 5) ea_nil)))) (len_cons (len_cons (len_cons (len_cons len_nil))))) (ea_cons (ev_tup (ea_cons (ev_var 6) (ea_cons (ev_var 5) (ea_cons (ev_var 3) (ea_cons (ev_var 9) ea_nil)))) (len_cons (len_cons (len_cons (len_cons len_nil))))) (ea_cons (ev_tup (ea_cons (ev_var 3) (ea_cons (ev_var 4) (ea_cons (ev_var 8) (ea_cons (ev_var 9) ea_nil)))) (len_cons (len_cons (len_cons (len_cons len_nil))))) (ea_cons (ev_tup (ea_cons (ev_var 2) (ea_cons (ev_var 7) (ea_cons (ev_var 8) (ea_cons (ev_var 4) ea_nil)))) (len_cons (len_cons (len_cons (len_cons len_nil))))) ea_nil)))) (len_cons (len_cons (len_cons (len_cons len_nil)))))) (sg_name 10 nd))))
  (ss_one (ss_ret (en_v (en_bin om_add (eb_var 10) (en_b (en_lst (ea_cons (ev_tup (ea_cons (ev_var 2) (ea_cons (ev_var 4) (ea_cons (ev_var 3) (ea_cons (ev_var 5) ea_nil)))) (len_cons (len_cons (len_cons (len_cons len_nil))))) ea_nil) (len_cons len_nil)))))))))))))
theorem fd__law_wheel (g : GF mg) (F__law_mixed : Fd P w K mg base 1 "_law_mixed" m__law_mixed) {f : Addr} {fd : FuncData} (F : FunD K "_law_wheel" "_law_wheel" (defArgs s__law_wheel) (defBody s__law_wheel) (defScope s__law_wheel) [] [] f fd) (hmg : mg "_law_wheel" = some (.ref f)) : Fd P w K mg base 2 "_law_wheel" m__law_wheel :=
  fd_mk F hmg sc__law_wheel rfl rfl (F.bindsN (ps := ["box", "cell"]) fun _ _ _ _ _ _ us hl => match us, hl with | [_, _], _ => rfl) fun cdv A outer s H E hc hr => w__law_wheel g F__law_mixed hr
/-! _law_halves -/
abbrev s__law_halves : Stmt := top 36
abbrev N__law_halves : List Str := ["box", "cell", "upright", "left", "top", "right", "below", "x", "y"]
theorem sc__law_halves : FnScope N__law_halves ["box", "cell", "upright"] (defScope s__law_halves) := ⟨rfl, rfl, rfl, by decide +kernel, rfl, by decide +kernel, by decide +kernel⟩
theorem w__law_halves (g : GF mg) (F__law_mixed : Fd P w K mg base 1 "_law_mixed" m__law_mixed) {f : Addr} {cdv : Value} {A : Around} {outer : List Env} {s : Shared} {H : Hp} {E : XK} (hr : Room 1 (A.deeper (envOfC "_law_halves" (defScope s__law_halves) s.heap.objs.size f cdv))) :
    SSs (cxOf L2.CX0 P w K mg base N__law_halves "_law_halves" (defScope s__law_halves) f cdv A outer s H E).nox (defBody s__law_halves) mb__law_halves := by
  have nd : (N__law_halves).Nodup := sc__law_halves.nd
  have hu := room_u hr
  have hu1 := room_u1 hr
  unfold mb__law_halves
  exact (ss_cons (ss_asg (ev_var 0) (sg_tup rfl (sgs_cons (sg_name 3 nd) (sgs_cons (sg_name 4 nd) (sgs_cons (sg_name 5 nd) (sgs_cons (sg_name 6 nd) sgs_nil))))))
  (ss_cons (ss_if (ew_t (ew_and (et_v (eb_var 2)) (ew_and1 (et_cmp om_gt (ev_b (ev_bin om_sub (eb_var 5) (eb_var 3))) (ev_b ev_int))))) (ss_cons (ss_asg (en_v (en_bin om_add (en_b (en_bin om_add (eb_var 3) (ev_b ev_int))) (ev_b (ev_bin om_mod (ev_b (ev_call F__law_mixed (hr.mono (by decide)) (ea_cons (ev_var 1) (ea_cons ev_int ea_nil)))) (ev_b (ev_bin om_sub (ev_b (ev_bin om_sub (eb_var 5) (eb_var 3))) (ev_b ev_int))))))) (sg_name 7 nd))
  (ss_one (ss_ret (en_v (en_lst (ea_cons (ev_tup (ea_cons (ev_var 3) (ea_cons (ev_var 4) (ea_cons (ev_var 7) (ea_cons (ev_var 6) ea_nil)))) (len_cons (len_cons (len_cons (len_cons len_nil))))) (ea_cons (ev_tup (ea_cons (ev_var 7) (ea_cons (ev_var 4) (ea_cons (ev_var 5) (ea_cons (ev_var 6) ea_nil)))) (len_cons (len_cons (len_cons (len_cons len_nil))))) ea_nil)) (len_cons (len_cons len_nil))))))) ss_nil)
  (ss_cons (ss_if (ew_t (ew_and (et_not (et_v (eb_var 2))) (ew_and1 (et_cmp om_gt (ev_b (ev_bin om_sub (eb_var 6) (eb_var 4))) (ev_b ev_int))))) (ss_cons (ss_asg (en_v (en_bin om_add (en_b (en_bin om_add (eb_var 4) (ev_b ev_int))) (ev_b (ev_bin om_mod (ev_b (ev_call F__law_mixed (hr.mono (by decide)) (ea_cons (ev_var 1) (ea_cons ev_int ea_nil)))) (ev_b (ev_bin om_sub (ev_b (ev_bin om_sub (eb_var 6) (eb_var 4))) (ev_b ev_int))))))) (sg_name 8 nd))
  (ss_one (ss_ret (en_v (en_lst (ea_cons (ev_tup (ea_cons (ev_var 3) (ea_cons (ev_var 4) (ea_cons (ev_var 5) (ea_cons (ev_var 8) ea_nil)))) (len_cons (len_cons (len_cons (len_cons len_nil))))) (ea_cons (ev_tup (ea_cons (ev_var 3) (ea_cons (ev_var 8) (ea_cons (ev_var 5) (ea_cons (ev_var 6) ea_nil)))) (len_cons (len_cons (len_cons (len_cons len_nil))))) ea_nil)) (len_cons (len_cons len_nil))))))) ss_nil)
  (ss_one (ss_ret (en_v (en_lst (ea_cons (ev_var 0) ea_nil) (len_cons len_nil))))))))
theorem fd__law_halves (g : GF mg) (F__law_mixed : Fd P w K mg base 1 "_law_mixed" m__law_mixed) {f : Addr} {fd : FuncData} (F : FunD K "_law_halves" "_law_halves" (defArgs s__law_halves) (defBody s__law_halves) (defScope s__law_halves) [] [] f fd) (hmg : mg "_law_halves" = some (.ref f)) : Fd P w K mg base 2 "_law_halves" m__law_halves :=
  fd_mk F hmg sc__law_halves rfl rfl (F.bindsN (ps := ["box", "cell", "upright"]) fun _ _ _ _ _ _ us hl => match us, hl with | [_, _, _], _ => rfl) fun cdv A outer s H E hc hr => w__law_halves g F__law_mixed hr
/-! _law_boxes -/
abbrev s__law_boxes : Stmt := top 37
abbrev N__law_boxes : List Str := ["cells", "wide", "high", "boxes", "cell", "at", "box", "way", "some"]
theorem sc__law_boxes : FnScope N__law_boxes ["cells", "wide", "high"] (defScope s__law_boxes) := ⟨rfl, rfl, rfl, by decide +kernel, rfl, by decide +kernel, by decide +kernel⟩
theorem w__law_boxes (g : GF mg) (F__law_wheel : Fd P w K mg base 2 "_law_wheel" m__law_wheel) (F__law_halves : Fd P w K mg base 2 "_law_halves" m__law_halves) (F__law_mixed : Fd P w K mg base 1 "_law_mixed" m__law_mixed) {f : Addr} {cdv : Value} {A : Around} {outer : List Env} {s : Shared} {H : Hp} {E : XK} (hr : Room 2 (A.deeper (envOfC "_law_boxes" (defScope s__law_boxes) s.heap.objs.size f cdv))) :
    SSs (cxOf L2.CX0 P w K mg base N__law_boxes "_law_boxes" (defScope s__law_boxes) f cdv A outer s H E).nox (defBody s__law_boxes) mb__law_boxes := by
  have nd : (N__law_boxes).Nodup := sc__law_boxes.nd
  have hu := room_u hr
  have hu1 := room_u1 hr
  unfold mb__law_boxes
  exact (ss_cons (ss_asg (en_v (en_lst (ea_cons (ev_tup (ea_cons ev_int (ea_cons ev_int (ea_cons (ev_var 1) (ea_cons (ev_var 2) ea_nil)))) (len_cons (len_cons (len_cons (len_cons len_nil))))) ea_nil) (len_cons len_nil))) (sg_name 3 nd))
  (ss_cons (ss_for PassesOwn.never rfl (si_any (ev_var 0)) (sg_name 4 nd) (ss_cons (ss_asg (ev_bin om_mod (ev_b (ev_call F__law_mixed (hr.mono (by decide)) (ea_cons (ev_var 4) (ea_cons ev_int ea_nil)))) (en_b (en_b1 cm_len g.b_len (eb_var 3)))) (sg_name 5 nd))
  (ss_cons (ss_asg (ev_ix (eb_var 3) (eb_var 5)) (sg_name 6 nd))
  (ss_cons (ss_asg (ev_bin om_mod (ev_b (ev_call F__law_mixed (hr.mono (by decide)) (ea_cons (ev_var 4) (ea_cons ev_int ea_nil)))) (ev_b ev_int)) (sg_name 7 nd))
  (ss_cons (ss_asg (en_v (en_lst (ea_cons (ev_var 6) ea_nil) (len_cons len_nil))) (sg_name 8 nd))
  (ss_cons (ss_if (ew_t (ew_and (et_cmp (om_eq hu) (eb_var 7) (ev_b ev_int)) (ew_and (et_cmp om_lt (en_b (en_b1 cm_len g.b_len (eb_var 3))) (ev_b ev_int)) (ew_and (et_cmp om_gt (ev_b (ev_bin om_sub (ev_b (ev_ix (eb_var 6) (ev_b ev_int))) (ev_b (ev_ix (eb_var 6) (ev_b ev_int))))) (ev_b ev_int)) (ew_and1 (et_cmp om_gt (ev_b (ev_bin om_sub (ev_b (ev_ix (eb_var 6) (ev_b ev_int))) (ev_b (ev_ix (eb_var 6) (ev_b ev_int))))) (ev_b ev_int))))))) (ss_one (ss_asg (ev_call F__law_wheel (hr.mono (by decide)) (ea_cons (ev_var 6) (ea_cons (ev_var 4) ea_nil))) (sg_name 8 nd))) (ss_one (ss_if (ew_t (ew_and (et_cmp om_lt (eb_var 7) (ev_b ev_int)) (ew_and1 (et_cmp om_lt (en_b (en_b1 cm_len g.b_len (eb_var 3))) (ev_b ev_int))))) (ss_one (ss_asg (ev_call F__law_halves (hr.mono (by decide)) (ea_cons (ev_var 6) (ea_cons (ev_var 4) (ea_cons (ev_cmp (om_eq hu) (ev_b (ev_bin om_mod (eb_var 7) (ev_b ev_int))) (ev_b ev_int)) ea_nil)))) (sg_name 8 nd))) ss_nil)))
  (ss_one (ss_asg (en_v (en_bin om_add (en_b (en_bin om_add (en_b (en_sl (eb_var 3) op_n (op_s (eb_var 5)))) (eb_var 8))) (en_b (en_sl (eb_var 3) (op_s (en_b (en_bin om_add (eb_var 5) (ev_b ev_int)))) op_n)))) (sg_name 3 nd)))))))))
  (ss_one (ss_ret (ev_var 3)))))
theorem fd__law_boxes (g : GF mg) (F__law_wheel : Fd P w K mg base 2 "_law_wheel" m__law_wheel) (F__law_halves : Fd P w K mg base 2 "_law_halves" m__law_halves) (F__law_mixed : Fd P w K mg base 1 "_law_mixed" m__law_mixed) {f : Addr} {fd : FuncData} (F : FunD K "_law_boxes" "_law_boxes" (defArgs s__law_boxes) (defBody s__law_boxes) (defScope s__law_boxes) [] [] f fd) (hmg : mg "_law_boxes" = some (.ref f)) : Fd P w K mg base 3 "_law_boxes" m__law_boxes :=
  fd_mk F hmg sc__law_boxes rfl rfl (F.bindsN (ps := ["cells", "wide", "high"]) fun _ _ _ _ _ _ us hl => match us, hl with | [_, _, _], _ => rfl) fun cdv A outer s H E hc hr => w__law_boxes g F__law_wheel F__law_halves F__law_mixed hr
/-! _law_page_of -/
abbrev s__law_page_of : Stmt := top 38
abbrev N__law_page_of : List Str := ["script", "head", "wide", "high"]
theorem sc__law_page_of : FnScope N__law_page_of ["script"] (defScope s__law_page_of) := ⟨rfl, rfl, rfl, by decide +kernel, rfl, by decide +kernel, by decide +kernel⟩
theorem w__law_page_of (g : GF mg) (F_make_page : Fd P w K mg base 3 "make_page" m_make_page) (F__law_boxes : Fd P w K mg base 3 "_law_boxes" m__law_boxes) (F__law_mixed : Fd P w K mg base 1 "_law_mixed" m__law_mixed) (F__law_cell_at : Fd P w K mg base 1 "_law_cell_at" m__law_cell_at) {f : Addr} {cdv : Value} {A : Around} {outer : List Env} {s : Shared} {H : Hp} {E : XK} (hr : Room 3 (A.deeper (envOfC "_law_page_of" (defScope s__law_page_of) s.heap.objs.size f cdv))) :
    SSs (cxOf L2.CX0 P w K mg base N__law_page_of "_law_page_of" (defScope s__law_page_of) f cdv A outer s H E).nox (defBody s__law_page_of) mb__law_page_of := by
  have nd : (N__law_page_of).Nodup := sc__law_page_of.nd
  have hu := room_u hr
  have hu1 := room_u1 hr
  unfold mb__law_page_of
  exact (ss_cons (ss_asg (ev_call F__law_cell_at (hr.mono (by decide)) (ea_cons (ev_var 0) (ea_cons ev_int ea_nil))) (sg_name 1 nd))
  (ss_cons (ss_asg (en_v (en_bin om_add (ev_b ev_int) (ev_b (ev_bin om_mod (ev_b (ev_call F__law_mixed (hr.mono (by decide)) (ea_cons (ev_var 1) (ea_cons ev_int ea_nil)))) (ev_b ev_int))))) (sg_name 2 nd))
  (ss_cons (ss_asg (en_v (en_bin om_add (ev_b ev_int) (ev_b (ev_bin om_mod (ev_b (ev_call F__law_mixed (hr.mono (by decide)) (ea_cons (ev_var 1) (ea_cons ev_int ea_nil)))) (ev_b ev_int))))) (sg_name 3 nd))
  (ss_one (ss_ret (ev_call F_make_page (hr.mono (by decide)) (ea_cons (ev_var 2) (ea_cons (ev_var 3) (ea_cons (ev_call F__law_boxes (hr.mono (by decide)) (ea_cons (en_v (en_sl (eb_var 0) (op_s (ev_b ev_int)) (op_s (ev_b ev_int)))) (ea_cons (ev_var 2) (ea_cons (ev_var 3) ea_nil)))) ea_nil)))))))))
theorem fd__law_page_of (g : GF mg) (F_make_page : Fd P w K mg base 3 "make_page" m_make_page) (F__law_boxes : Fd P w K mg base 3 "_law_boxes" m__law_boxes) (F__law_mixed : Fd P w K mg base 1 "_law_mixed" m__law_mixed) (F__law_cell_at : Fd P w K mg base 1 "_law_cell_at" m__law_cell_at) {f : Addr} {fd : FuncData} (F : FunD K "_law_page_of" "_law_page_of" (defArgs s__law_page_of) (defBody s__law_page_of) (defScope s__law_page_of) [] [] f fd) (hmg : mg "_law_page_of" = some (.ref f)) : Fd P w K mg base 4 "_law_page_of" m__law_page_of :=
  fd_mk F hmg sc__law_page_of rfl rfl (F.bindsN (ps := ["script"]) fun _ _ _ _ _ _ us hl => match us, hl with | [_], _ => rfl) fun cdv A outer s H E hc hr => w__law_page_of g F_make_page F__law_boxes F__law_mixed F__law_cell_at hr
/-! _law_needs -/
abbrev s__law_needs : Stmt := top 39
abbrev N__law_needs : List Str := ["page", "head", "most", "found", "k"]
theorem sc__law_needs : FnScope N__law_needs ["page", "head"] (defScope s__law_needs) := ⟨rfl, rfl, rfl, by decide +kernel, rfl, by decide +kernel, by decide +kernel⟩
theorem w__law_needs (g : GF mg) (F__law_mixed : Fd P w K mg base 1 "_law_mixed" m__law_mixed) {f : Addr} {cdv : Value} {A : Around} {outer : List Env} {s : Shared} {H : Hp} {E : XK} (hr : Room 1 (A.deeper (envOfC "_law_needs" (defScope s__law_needs) s.heap.objs.size f cdv))) :
    SSs (cxOf L2.CX0 P w K mg base N__law_needs "_law_needs" (defScope s__law_needs) f cdv A outer s H E).nox (defBody s__law_needs) mb__law_needs := by
  have nd : (N__law_needs).Nodup := sc__law_needs.nd
  have hu := room_u hr
  have hu1 := room_u1 hr
  unfold mb__law_needs
  exact (ss_cons (ss_asg (ev_ix (en_b (en_lst (ea_cons ev_int (ea_cons ev_int (ea_cons ev_int ea_nil))) (len_cons (len_cons (len_cons len_nil))))) (ev_b (ev_bin om_mod (ev_b (ev_call F__law_mixed (hr.mono (by decide)) (ea_cons (ev_var 1) (ea_cons ev_int ea_nil)))) (ev_b ev_int)))) (sg_name 2 nd))
  (ss_cons (ss_asgO 3 nd (en_lst ea_nil len_nil))
  (ss_cons (ss_for PassesOwn.never rfl (si_r1 g.b_range (en_b (en_b1 cm_len g.b_len (ev_b (ev_ix (eb_var 0) (ev_b ev_int)))))) (sg_name 4 nd) (ss_one (ss_app 3 (ev_tup (ea_cons (en_v (en_bin om_add (ev_b ev_int) (ev_b (ev_bin om_mod (ev_b (ev_call F__law_mixed (hr.mono (by decide)) (ea_cons (ev_var 1) (ea_cons (en_v (en_bin om_add (ev_b ev_int) (en_b (en_bin om_mul (ev_b ev_int) (eb_var 4))))) ea_nil)))) (eb_var 2))))) (ea_cons (en_v (en_bin om_add (ev_b ev_int) (ev_b (ev_bin om_mod (ev_b (ev_call F__law_mixed (hr.mono (by decide)) (ea_cons (ev_var 1) (ea_cons (en_v (en_bin om_add (ev_b ev_int) (en_b (en_bin om_mul (ev_b ev_int) (eb_var 4))))) ea_nil)))) (eb_var 2))))) ea_nil)) (len_cons (len_cons len_nil))))))
  (ss_one (ss_frz [3] (ss_ret (ev_var 3)))))))
theorem fd__law_needs (g : GF mg) (F__law_mixed : Fd P w K mg base 1 "_law_mixed" m__law_mixed) {f : Addr} {fd : FuncData} (F : FunD K "_law_needs" "_law_needs" (defArgs s__law_needs) (defBody s__law_needs) (defScope s__law_needs) [] [] f fd) (hmg : mg "_law_needs" = some (.ref f)) : Fd P w K mg base 2 "_law_needs" m__law_needs :=
  fd_mk F hmg sc__law_needs rfl rfl (F.bindsN (ps := ["page", "head"]) fun _ _ _ _ _ _ us hl => match us, hl with | [_, _], _ => rfl) fun cdv A outer s H E hc hr => w__law_needs g F__law_mixed hr
/-! is_need -/
abbrev s_is_need : Stmt := top 14
abbrev N_is_need : List Str := ["thing", "number"]
theorem sc_is_need : FnScope N_is_need ["thing"] (defScope s_is_need) := ⟨rfl, rfl, rfl, by decide +kernel, rfl, by decide +kernel, by decide +kernel⟩
theorem w_is_need (g : GF mg) {f : Addr} {cdv : Value} {A : Around} {outer : List Env} {s : Shared} {H : Hp} {E : XK} (hr : Room 0 (A.deeper (envOfC "is_need" (defScope s_is_need) s.heap.objs.size f cdv))) :
    SSs (cxOf L2.CX0 P w K mg base N_is_need "is_need" (defScope s_is_need) f cdv A outer s H E).nox (defBody s_is_need) mb_is_need := by
  have nd : (N_is_need).Nodup := sc_is_need.nd
  have hu := room_u hr
  have hu1 := room_u1 hr
  unfold mb_is_need
  exact (ss_cons (ss_if (ew_t (ew_or (et_not (et_v (ev_b (ev_isi isi_tup g.b_isinstance g.b_tuple (eb_var 0))))) (ew_or1 (et_cmp (om_ne hu) (en_b (en_b1 cm_len g.b_len (eb_var 0))) (ev_b ev_int))))) (ss_one (ss_ret ev_bl)) ss_nil)
  (ss_cons (ss_for PassesOwn.never rfl (si_any (ev_var 0)) (sg_name 1 nd) (ss_one (ss_if (ew_t (ew_or (et_not (et_v (ev_b (ev_isi isi_int g.b_isinstance g.b_int (eb_var 1))))) (ew_or (et_v (ev_b (ev_isi isi_bool g.b_isinstance g.b_bool (eb_var 1)))) (ew_or (et_cmp om_lt (eb_var 1) (ev_b ev_int)) (ew_or1 (et_cmp om_gt (eb_var 1) (ev_b (ev_glob g.k_MOST_NEED.choose_spec r_MOST_NEED a_MOST_NEED)))))))) (ss_one (ss_ret ev_bl)) ss_nil)))
  (ss_one (ss_ret ev_bl))))
theorem fd_is_need (g : GF mg) {f : Addr} {fd : FuncData} (F : FunD K "is_need" "is_need" (defArgs s_is_need) (defBody s_is_need) (defScope s_is_need) [] [] f fd) (hmg : mg "is_need" = some (.ref f)) : Fd P w K mg base 1 "is_need" m_is_need :=
  fd_mk F hmg sc_is_need rfl rfl (F.bindsN (ps := ["thing"]) fun _ _ _ _ _ _ us hl => match us, hl with | [_], _ => rfl) fun cdv A outer s H E hc hr => w_is_need g  hr
/-! need_needs -/
abbrev s_need_needs : Stmt := top 15
abbrev N_need_needs : List Str := ["page", "needs", "thing"]
theorem sc_need_needs : FnScope N_need_needs ["page", "needs"] (defScope s_need_needs) := ⟨rfl, rfl, rfl, by decide +kernel, rfl, by decide +kernel, by decide +kernel⟩
theorem w_need_needs (g : GF mg) (F_is_need : Fd P w K mg base 1 "is_need" m_is_need) {f : Addr} {cdv : Value} {A : Around} {outer : List Env} {s : Shared} {H : Hp} {E : XK} (hr : Room 1 (A.deeper (envOfC "need_needs" (defScope s_need_needs) s.heap.objs.size f cdv))) :
    SSs (cxOf L2.CX0 P w K mg base N_need_needs "need_needs" (defScope s_need_needs) f cdv A outer s H E).nox (defBody s_need_needs) mb_need_needs := by
  have nd : (N_need_needs).Nodup := sc_need_needs.nd
  have hu := room_u hr
  have hu1 := room_u1 hr
  unfold mb_need_needs
  exact (ss_cons (ss_if (ew_t (ew_or (et_not (et_v (ev_b (ev_isi isi_list g.b_isinstance g.b_list (eb_var 1))))) (ew_or1 (et_cmp (om_ne hu) (en_b (en_b1 cm_len g.b_len (eb_var 1))) (en_b (en_b1 cm_len g.b_len (ev_b (ev_ix (eb_var 0) (ev_b ev_int))))))))) (ss_one ss_never) ss_nil)
  (ss_one (ss_for PassesOwn.never rfl (si_any (ev_var 1)) (sg_name 2 nd) (ss_one (ss_if (et_not (et_v (ev_b (ev_call F_is_need (hr.mono (by decide)) (ea_cons (ev_var 2) ea_nil))))) (ss_one ss_never) ss_nil)))))
theorem fd_need_needs (g : GF mg) (F_is_need : Fd P w K mg base 1 "is_need" m_is_need) {f : Addr} {fd : FuncData} (F : FunD K "need_needs" "need_needs" (defArgs s_need_needs) (defBody s_need_needs) (defScope s_need_needs) [] [] f fd) (hmg : mg "need_needs" = some (.ref f)) : Fd P w K mg base 2 "need_needs" m_need_needs :=
  fd_mk F hmg sc_need_needs rfl rfl (F.bindsN (ps := ["page", "needs"]) fun _ _ _ _ _ _ us hl => match us, hl with | [_, _], _ => rfl) fun cdv A outer s H E hc hr => w_need_needs g F_is_need hr
/-! place_of -/
abbrev s_place_of : Stmt := top 17
abbrev N_place_of : List Str := ["places", "wall"]
theorem sc_place_of : FnScope N_place_of ["places", "wall"] (defScope s_place_of) := ⟨rfl, rfl, rfl, by decide +kernel, rfl, by decide +kernel, by decide +kernel⟩
theorem w_place_of (g : GF mg) {f : Addr} {cdv : Value} {A : Around} {outer : List Env} {s : Shared} {H : Hp} {E : XK} (hr : Room 0 (A.deeper (envOfC "place_of" (defScope s_place_of) s.heap.objs.size f cdv))) :
    SSs (cxOf L2.CX0 P w K mg base N_place_of "place_of" (defScope s_place_of) f cdv A outer s H E).nox (defBody s_place_of) mb_place_of := by
  have nd : (N_place_of).Nodup := sc_place_of.nd
  have hu := room_u hr
  have hu1 := room_u1 hr
  unfold mb_place_of
  exact (ss_cons (ss_if (et_cmp om_lt (eb_var 1) (ev_b ev_int)) (ss_one (ss_ret ev_int)) ss_nil)
  (ss_one (ss_ret (ev_ix (eb_var 0) (eb_var 1)))))
theorem fd_place_of (g : GF mg) {f : Addr} {fd : FuncData} (F : FunD K "place_of" "place_of" (defArgs s_place_of) (defBody s_place_of) (defScope s_place_of) [] [] f fd) (hmg : mg "place_of" = some (.ref f)) : Fd P w K mg base 1 "place_of" m_place_of :=
  fd_mk F hmg sc_place_of rfl rfl (F.bindsN (ps := ["places", "wall"]) fun _ _ _ _ _ _ us hl => match us, hl with | [_, _], _ => rfl) fun cdv A outer s H E hc hr => w_place_of g  hr
/-! farthest -/
abbrev s_farthest : Stmt := top 18
abbrev N_farthest : List Str := ["steps", "many", "places", "changed", "begin", "end", "need", "place"]
theorem sc_farthest : FnScope N_farthest ["steps", "many"] (defScope s_farthest) := ⟨rfl, rfl, rfl, by decide +kernel, rfl, by decide +kernel, by decide +kernel⟩
theorem w_farthest (g : GF mg) (F_place_of : Fd P w K mg base 1 "place_of" m_place_of) {f : Addr} {cdv : Value} {A : Around} {outer : List Env} {s : Shared} {H : Hp} {E : XK} (hr : Room 1 (A.deeper (envOfC "farthest" (defScope s_farthest) s.heap.objs.size f cdv))) :
    SSs (cxOf L2.CX0 P w K mg base N_farthest "farthest" (defScope s_farthest) f cdv A outer s H E).nox (defBody s_farthest) mb_farthest := by
  have nd : (N_farthest).Nodup := sc_farthest.nd
  have hu := room_u hr
  have hu1 := room_u1 hr
  unfold mb_farthest
  exact (ss_cons (ss_asgO 2 nd (en_bin om_mul (en_b (en_lst (ea_cons ev_int ea_nil) (len_cons len_nil))) (en_b (en_bin om_add (eb_var 1) (ev_b ev_int)))))
  (ss_cons (ss_asg ev_bl (sg_name 3 nd))
  (ss_cons (ss_while PassesOwn.never (et_v (eb_var 3)) (ss_cons (ss_asg ev_bl (sg_name 3 nd))
  (ss_one (ss_for PassesOwn.never rfl (si_any (ev_var 0)) (sg_tup rfl (sgs_cons (sg_name 4 nd) (sgs_cons (sg_name 5 nd) (sgs_cons (sg_name 6 nd) sgs_nil)))) (ss_cons (ss_asg (en_v (en_bin om_add (ev_b (ev_lend [2] (ev_call F_place_of (hr.mono (by decide)) (ea_cons (ev_var 2) (ea_cons (ev_var 4) ea_nil))))) (eb_var 6))) (sg_name 7 nd))
  (ss_one (ss_if (et_cmp om_gt (eb_var 7) (ev_b (ev_ix (eb_var 2) (eb_var 5)))) (ss_cons (ss_setI 2 (eb_var 5) (ev_var 7))
  (ss_one (ss_asg ev_bl (sg_name 3 nd)))) ss_nil)))))))
  (ss_one (ss_frz [2] (ss_ret (ev_var 2)))))))
theorem fd_farthest (g : GF mg) (F_place_of : Fd P w K mg base 1 "place_of" m_place_of) {f : Addr} {fd : FuncData} (F : FunD K "farthest" "farthest" (defArgs s_farthest) (defBody s_farthest) (defScope s_farthest) [] [] f fd) (hmg : mg "farthest" = some (.ref f)) : Fd P w K mg base 2 "farthest" m_farthest :=
  fd_mk F hmg sc_farthest rfl rfl (F.bindsN (ps := ["steps", "many"]) fun _ _ _ _ _ _ us hl => match us, hl with | [_, _], _ => rfl) fun cdv A outer s H E hc hr => w_farthest g F_place_of hr
/-! joined_spans -/
abbrev s_joined_spans : Stmt := top 6
abbrev N_joined_spans : List Str := ["spans", "found", "first", "last"]
theorem sc_joined_spans : FnScope N_joined_spans ["spans"] (defScope s_joined_spans) := ⟨rfl, rfl, rfl, by decide +kernel, rfl, by decide +kernel, by decide +kernel⟩
theorem w_joined_spans (g : GF mg) {f : Addr} {cdv : Value} {A : Around} {outer : List Env} {s : Shared} {H : Hp} {E : XK} (hr : Room 0 (A.deeper (envOfC "joined_spans" (defScope s_joined_spans) s.heap.objs.size f cdv))) :
    SSs (cxOf L2.CX0 P w K mg base N_joined_spans "joined_spans" (defScope s_joined_spans) f cdv A outer s H E).nox (defBody s_joined_spans) mb_joined_spans := by
  have nd : (N_joined_spans).Nodup := sc_joined_spans.nd
  have hu := room_u hr
  have hu1 := room_u1 hr
  unfold mb_joined_spans
  exact (ss_cons (ss_asgO 1 nd (en_lst ea_nil len_nil))
  (ss_cons (ss_for PassesOwn.never rfl (si_any (en_v (en_b1 (cm_sorted hu) g.b_sorted (eb_var 0)))) (sg_tup rfl (sgs_cons (sg_name 2 nd) (sgs_cons (sg_name 3 nd) sgs_nil))) (ss_one (ss_if (ew_t (ew_and (et_cmp (om_ne hu) (eb_var 1) (en_b (en_lst ea_nil len_nil))) (ew_and1 (et_cmp (om_eq hu) (ev_b (ev_ix (ev_b (ev_ix (eb_var 1) (ev_b (ev_neg (ev_b ev_int))))) (ev_b ev_int))) (eb_var 2))))) (ss_one (ss_setI 1 (ev_b (ev_neg (ev_b ev_int))) (ev_tup (ea_cons (ev_ix (ev_b (ev_ix (eb_var 1) (ev_b (ev_neg (ev_b ev_int))))) (ev_b ev_int)) (ea_cons (ev_var 3) ea_nil)) (len_cons (len_cons len_nil))))) (ss_one (ss_app 1 (ev_tup (ea_cons (ev_var 2) (ea_cons (ev_var 3) ea_nil)) (len_cons (len_cons len_nil))))))))
  (ss_one (ss_frz [1] (ss_ret (ev_var 1))))))
theorem fd_joined_spans (g : GF mg) {f : Addr} {fd : FuncData} (F : FunD K "joined_spans" "joined_spans" (defArgs s_joined_spans) (defBody s_joined_spans) (defScope s_joined_spans) [] [] f fd) (hmg : mg "joined_spans" = some (.ref f)) : Fd P w K mg base 1 "joined_spans" m_joined_spans :=
  fd_mk F hmg sc_joined_spans rfl rfl (F.bindsN (ps := ["spans"]) fun _ _ _ _ _ _ us hl => match us, hl with | [_], _ => rfl) fun cdv A outer s H E hc hr => w_joined_spans g  hr
/-! ends_joined -/
abbrev s_ends_joined : Stmt := top 7
abbrev N_ends_joined : List Str := ["ends", "border", "spans", "found", "place", "first", "last"]
theorem sc_ends_joined : FnScope N_ends_joined ["ends", "border"] (defScope s_ends_joined) := ⟨rfl, rfl, rfl, by decide +kernel, rfl, by decide +kernel, by decide +kernel⟩
theorem w_ends_joined (g : GF mg) (F_joined_spans : Fd P w K mg base 1 "joined_spans" m_joined_spans) {f : Addr} {cdv : Value} {A : Around} {outer : List Env} {s : Shared} {H : Hp} {E : XK} (hr : Room 1 (A.deeper (envOfC "ends_joined" (defScope s_ends_joined) s.heap.objs.size f cdv))) :
    SSs (cxOf L2.CX0 P w K mg base N_ends_joined "ends_joined" (defScope s_ends_joined) f cdv A outer s H E).nox (defBody s_ends_joined) mb_ends_joined := by
  have nd : (N_ends_joined).Nodup := sc_ends_joined.nd
  have hu := room_u hr
  have hu1 := room_u1 hr
  unfold mb_ends_joined
  exact (ss_cons (ss_newK 2 nd)
  (ss_cons (ss_grp 2 PassesOwn.never rfl (si_any (ev_var 0)) (sg_tup rfl (sgs_cons (sg_name 4 nd) (sgs_cons (sg_name 5 nd) (sgs_cons (sg_name 6 nd) sgs_nil)))) (pureT_tup (pureTs_cons (pureT_name 4) (pureTs_cons (pureT_name 5) (pureTs_cons (pureT_name 6) pureTs_nil)))) (by decide) (et_cmp (om_ne hu) (eb_var 4) (eb_var 1)) (eb_var 4) (ev_tup (ea_cons (ev_var 5) (ea_cons (ev_var 6) ea_nil)) (len_cons (len_cons len_nil))))
  (ss_cons (ss_asgO 3 nd (en_lst ea_nil len_nil))
  (ss_cons (ss_for PassesOwn.never rfl (si_any (en_v (en_sortKs 2 rfl g.b_sorted))) (sg_name 4 nd) (ss_one (ss_ext 3 (en_v (en_lc (own := [("first", 5), ("last", 6)]) rfl nd (blkOk_by (by first | kernel_rfl | rfl)) (si_any (ev_call F_joined_spans (hr.mono (by decide)) (ea_cons (ev_getK 2 hu1 (eb_var 4)) ea_nil))) (fun _ _ _ _ _ => (sg_tup rfl (sgs_cons (sg_name 5 nd) (sgs_cons (sg_name 6 nd) sgs_nil)))) (fun _ _ _ _ _ => sts_nil) (fun _ _ _ _ _ => (ev_tup (ea_cons (ev_var 4) (ea_cons (ev_var 5) (ea_cons (ev_var 6) ea_nil))) (len_cons (len_cons (len_cons len_nil))))))))))
  (ss_one (ss_frz [3] (ss_ret (ev_var 3))))))))
theorem fd_ends_joined (g : GF mg) (F_joined_spans : Fd P w K mg base 1 "joined_spans" m_joined_spans) {f : Addr} {fd : FuncData} (F : FunD K "ends_joined" "ends_joined" (defArgs s_ends_joined) (defBody s_ends_joined) (defScope s_ends_joined) [] [] f fd) (hmg : mg "ends_joined" = some (.ref f)) : Fd P w K mg base 2 "ends_joined" m_ends_joined :=
  fd_mk F hmg sc_ends_joined rfl rfl (F.bindsN (ps := ["ends", "border"]) fun _ _ _ _ _ _ us hl => match us, hl with | [_, _], _ => rfl) fun cdv A outer s H E hc hr => w_ends_joined g F_joined_spans hr
/-! uprights -/
abbrev s_uprights : Stmt := top 8
abbrev N_uprights : List Str := ["page", "box"]
theorem sc_uprights : FnScope N_uprights ["page"] (defScope s_uprights) := ⟨rfl, rfl, rfl, by decide +kernel, rfl, by decide +kernel, by decide +kernel⟩
theorem w_uprights (g : GF mg) (F_ends_joined : Fd P w K mg base 2 "ends_joined" m_ends_joined) {f : Addr} {cdv : Value} {A : Around} {outer : List Env} {s : Shared} {H : Hp} {E : XK} (hr : Room 2 (A.deeper (envOfC "uprights" (defScope s_uprights) s.heap.objs.size f cdv))) :
    SSs (cxOf L2.CX0 P w K mg base N_uprights "uprights" (defScope s_uprights) f cdv A outer s H E).nox (defBody s_uprights) mb_uprights := by
  have nd : (N_uprights).Nodup := sc_uprights.nd
  have hu := room_u hr
  have hu1 := room_u1 hr
  unfold mb_uprights
  exact (ss_one (ss_ret (ev_call F_ends_joined (hr.mono (by decide)) (ea_cons (en_v (en_lc (own := [("box", 1)]) rfl nd (blkOk_by (by first | kernel_rfl | rfl)) (si_any (ev_ix (eb_var 0) (ev_b ev_int))) (fun _ _ _ _ _ => (sg_name 1 nd)) (fun _ _ _ _ _ => sts_nil) (fun _ _ _ _ _ => (ev_tup (ea_cons (ev_ix (eb_var 1) (ev_b ev_int)) (ea_cons (ev_ix (eb_var 1) (ev_b ev_int)) (ea_cons (ev_ix (eb_var 1) (ev_b ev_int)) ea_nil))) (len_cons (len_cons (len_cons len_nil))))))) (ea_cons (ev_ix (eb_var 0) (ev_b ev_int)) ea_nil)))))
theorem fd_uprights (g : GF mg) (F_ends_joined : Fd P w K mg base 2 "ends_joined" m_ends_joined) {f : Addr} {fd : FuncData} (F : FunD K "uprights" "uprights" (defArgs s_uprights) (defBody s_uprights) (defScope s_uprights) [] [] f fd) (hmg : mg "uprights" = some (.ref f)) : Fd P w K mg base 3 "uprights" m_uprights :=
  fd_mk F hmg sc_uprights rfl rfl (F.bindsN (ps := ["page"]) fun _ _ _ _ _ _ us hl => match us, hl with | [_], _ => rfl) fun cdv A outer s H E hc hr => w_uprights g F_ends_joined hr
/-! levels -/
abbrev s_levels : Stmt := top 9
abbrev N_levels : List Str := ["page", "box"]
theorem sc_levels : FnScope N_levels ["page"] (defScope s_levels) := ⟨rfl, rfl, rfl, by decide +kernel, rfl, by decide +kernel, by decide +kernel⟩
theorem w_levels (g : GF mg) (F_ends_joined : Fd P w K mg base 2 "ends_joined" m_ends_joined) {f : Addr} {cdv : Value} {A : Around} {outer : List Env} {s : Shared} {H : Hp} {E : XK} (hr : Room 2 (A.deeper (envOfC "levels" (defScope s_levels) s.heap.objs.size f cdv))) :
    SSs (cxOf L2.CX0 P w K mg base N_levels "levels" (defScope s_levels) f cdv A outer s H E).nox (defBody s_levels) mb_levels := by
  have nd : (N_levels).Nodup := sc_levels.nd
  have hu := room_u hr
  have hu1 := room_u1 hr
  unfold mb_levels
  exact (ss_one (ss_ret (ev_call F_ends_joined (hr.mono (by decide)) (ea_cons (en_v (en_lc (own := [("box", 1)]) rfl nd (blkOk_by (by first | kernel_rfl | rfl)) (si_any (ev_ix (eb_var 0) (ev_b ev_int))) (fun _ _ _ _ _ => (sg_name 1 nd)) (fun _ _ _ _ _ => sts_nil) (fun _ _ _ _ _ => (ev_tup (ea_cons (ev_ix (eb_var 1) (ev_b ev_int)) (ea_cons (ev_ix (eb_var 1) (ev_b ev_int)) (ea_cons (ev_ix (eb_var 1) (ev_b ev_int)) ea_nil))) (len_cons (len_cons (len_cons len_nil))))))) (ea_cons (ev_ix (eb_var 0) (ev_b ev_int)) ea_nil)))))
theorem fd_levels (g : GF mg) (F_ends_joined : Fd P w K mg base 2 "ends_joined" m_ends_joined) {f : Addr} {fd : FuncData} (F : FunD K "levels" "levels" (defArgs s_levels) (defBody s_levels) (defScope s_levels) [] [] f fd) (hmg : mg "levels" = some (.ref f)) : Fd P w K mg base 3 "levels" m_levels :=
  fd_mk F hmg sc_levels rfl rfl (F.bindsN (ps := ["page"]) fun _ _ _ _ _ _ us hl => match us, hl with | [_], _ => rfl) fun cdv A outer s H E hc hr => w_levels g F_ends_joined hr
/-! wall_at -/
abbrev s_wall_at : Stmt := top 10
abbrev N_wall_at : List Str := ["some", "place", "first", "border", "number", "wall"]
theorem sc_wall_at : FnScope N_wall_at ["some", "place", "first", "border"] (defScope s_wall_at) := ⟨rfl, rfl, rfl, by decide +kernel, rfl, by decide +kernel, by decide +kernel⟩
theorem w_wall_at (g : GF mg) {f : Addr} {cdv : Value} {A : Around} {outer : List Env} {s : Shared} {H : Hp} {E : XK} (hr : Room 0 (A.deeper (envOfC "wall_at" (defScope s_wall_at) s.heap.objs.size f cdv))) :
    SSs (cxOf L2.CX0 P w K mg base N_wall_at "wall_at" (defScope s_wall_at) f cdv A outer s H E).nox (defBody s_wall_at) mb_wall_at := by
  have nd : (N_wall_at).Nodup := sc_wall_at.nd
  have hu := room_u hr
  have hu1 := room_u1 hr
  unfold mb_wall_at
  exact (ss_cons (ss_if (et_cmp (om_eq hu) (eb_var 1) (ev_b ev_int)) (ss_one (ss_ret (ev_neg (ev_b ev_int)))) ss_nil)
  (ss_cons (ss_if (et_cmp (om_eq hu) (eb_var 1) (eb_var 3)) (ss_one (ss_ret (en_v (en_b1 cm_len g.b_len (eb_var 0))))) ss_nil)
  (ss_cons (ss_for PassesOwn.never rfl (si_en g.b_enumerate (ev_var 0)) (sg_tup rfl (sgs_cons (sg_name 4 nd) (sgs_cons (sg_name 5 nd) sgs_nil))) (ss_one (ss_if (ew_t (ew_and (et_cmp (om_eq hu) (ev_b (ev_ix (eb_var 5) (ev_b ev_int))) (eb_var 1)) (ew_and1 (et_chain2 om_le om_lt (ev_b (ev_ix (eb_var 5) (ev_b ev_int))) (eb_var 2) (ev_b (ev_ix (eb_var 5) (ev_b ev_int))))))) (ss_one (ss_ret (ev_var 4))) ss_nil)))
  (ss_one (ss_ret ev_non)))))
theorem fd_wall_at (g : GF mg) {f : Addr} {fd : FuncData} (F : FunD K "wall_at" "wall_at" (defArgs s_wall_at) (defBody s_wall_at) (defScope s_wall_at) [] [] f fd) (hmg : mg "wall_at" = some (.ref f)) : Fd P w K mg base 1 "wall_at" m_wall_at :=
  fd_mk F hmg sc_wall_at rfl rfl (F.bindsN (ps := ["some", "place", "first", "border"]) fun _ _ _ _ _ _ us hl => match us, hl with | [_, _, _, _], _ => rfl) fun cdv A outer s H E hc hr => w_wall_at g  hr
/-! sides -/
abbrev s_sides : Stmt := top 11
abbrev N_sides : List Str := ["page", "box", "upright", "level", "across", "left", "top", "right", "below"]
theorem sc_sides : FnScope N_sides ["page", "box"] (defScope s_sides) := ⟨rfl, rfl, rfl, by decide +kernel, rfl, by decide +kernel, by decide +kernel⟩
theorem w_sides (g : GF mg) (F_wall_at : Fd P w K mg base 1 "wall_at" m_wall_at) (F_levels : Fd P w K mg base 3 "levels" m_levels) (F_uprights : Fd P w K mg base 3 "uprights" m_uprights) {f : Addr} {cdv : Value} {A : Around} {outer : List Env} {s : Shared} {H : Hp} {E : XK} (hr : Room 3 (A.deeper (envOfC "sides" (defScope s_sides) s.heap.objs.size f cdv))) :
    SSs (cxOf L2.CX0 P w K mg base N_sides "sides" (defScope s_sides) f cdv A outer s H E).nox (defBody s_sides) mb_sides := by
  have nd : (N_sides).Nodup := sc_sides.nd
  have hu := room_u hr
  have hu1 := room_u1 hr
  unfold mb_sides
  exact (ss_cons (ss_if (ew_t (ew_or (et_cmp om_lt (eb_var 1) (ev_b ev_int)) (ew_or1 (et_cmp om_ge (eb_var 1) (en_b (en_b1 cm_len g.b_len (ev_b (ev_ix (eb_var 0) (ev_b ev_int))))))))) (ss_one ss_never) ss_nil)
  (ss_cons (ss_asg (ev_ix (ev_b (ev_ix (eb_var 0) (ev_b ev_int))) (eb_var 1)) (sg_tup rfl (sgs_cons (sg_name 5 nd) (sgs_cons (sg_name 6 nd) (sgs_cons (sg_name 7 nd) (sgs_cons (sg_name 8 nd) sgs_nil))))))
  (ss_cons (ss_asg (ev_call F_uprights (hr.mono (by decide)) (ea_cons (ev_var 0) ea_nil)) (sg_name 2 nd))
  (ss_cons (ss_asg (ev_call F_levels (hr.mono (by decide)) (ea_cons (ev_var 0) ea_nil)) (sg_name 3 nd))
  (ss_cons (ss_asg (ev_tup (ea_cons (ev_call F_wall_at (hr.mono (by decide)) (ea_cons (ev_var 2) (ea_cons (ev_var 5) (ea_cons (ev_var 6) (ea_cons (ev_ix (eb_var 0) (ev_b ev_int)) ea_nil))))) (ea_cons (ev_call F_wall_at (hr.mono (by decide)) (ea_cons (ev_var 2) (ea_cons (ev_var 7) (ea_cons (ev_var 6) (ea_cons (ev_ix (eb_var 0) (ev_b ev_int)) ea_nil))))) ea_nil)) (len_cons (len_cons len_nil))) (sg_name 4 nd))
  (ss_one (ss_ret (en_v (en_bin om_add (eb_var 4) (ev_b (ev_tup (ea_cons (ev_call F_wall_at (hr.mono (by decide)) (ea_cons (ev_var 3) (ea_cons (ev_var 6) (ea_cons (ev_var 5) (ea_cons (ev_ix (eb_var 0) (ev_b ev_int)) ea_nil))))) (ea_cons (ev_call F_wall_at (hr.mono (by decide)) (ea_cons (ev_var 3) (ea_cons (ev_var 8) (ea_cons (ev_var 5) (ea_cons (ev_ix (eb_var 0) (ev_b ev_int)) ea_nil))))) ea_nil)) (len_cons (len_cons len_nil)))))))))))))
theorem fd_sides (g : GF mg) (F_wall_at : Fd P w K mg base 1 "wall_at" m_wall_at) (F_levels : Fd P w K mg base 3 "levels" m_levels) (F_uprights : Fd P w K mg base 3 "uprights" m_uprights) {f : Addr} {fd : FuncData} (F : FunD K "sides" "sides" (defArgs s_sides) (defBody s_sides) (defScope s_sides) [] [] f fd) (hmg : mg "sides" = some (.ref f)) : Fd P w K mg base 4 "sides" m_sides :=
  fd_mk F hmg sc_sides rfl rfl (F.bindsN (ps := ["page", "box"]) fun _ _ _ _ _ _ us hl => match us, hl with | [_, _], _ => rfl) fun cdv A outer s H E hc hr => w_sides g F_wall_at F_levels F_uprights hr
/-! steps_of -/
abbrev s_steps_of : Stmt := top 16
abbrev N_steps_of : List Str := ["page", "needs", "way", "found", "box", "own"]
theorem sc_steps_of : FnScope N_steps_of ["page", "needs", "way"] (defScope s_steps_of) := ⟨rfl, rfl, rfl, by decide +kernel, rfl, by decide +kernel, by decide +kernel⟩
theorem w_steps_of (g : GF mg) (F_sides : Fd P w K mg base 4 "sides" m_sides) {f : Addr} {cdv : Value} {A : Around} {outer : List Env} {s : Shared} {H : Hp} {E : XK} (hr : Room 4 (A.deeper (envOfC "steps_of" (defScope s_steps_of) s.heap.objs.size f cdv))) :
    SSs (cxOf L2.CX0 P w K mg base N_steps_of "steps_of" (defScope s_steps_of) f cdv A outer s H E).nox (defBody s_steps_of) mb_steps_of := by
  have nd : (N_steps_of).Nodup := sc_steps_of.nd
  have hu := room_u hr
  have hu1 := room_u1 hr
  unfold mb_steps_of
  exact (ss_cons (ss_asgO 3 nd (en_lst ea_nil len_nil))
  (ss_cons (ss_for PassesOwn.never rfl (si_r1 g.b_range (en_b (en_b1 cm_len g.b_len (eb_var 1)))) (sg_name 4 nd) (ss_cons (ss_asg (ev_call F_sides (hr.mono (by decide)) (ea_cons (ev_var 0) (ea_cons (ev_var 4) ea_nil))) (sg_name 5 nd))
  (ss_one (ss_app 3 (ev_tup (ea_cons (ev_ix (eb_var 5) (en_b (en_bin om_mul (ev_b ev_int) (eb_var 2)))) (ea_cons (ev_ix (eb_var 5) (en_b (en_bin om_add (en_b (en_bin om_mul (ev_b ev_int) (eb_var 2))) (ev_b ev_int)))) (ea_cons (ev_ix (ev_b (ev_ix (eb_var 1) (eb_var 4))) (eb_var 2)) ea_nil))) (len_cons (len_cons (len_cons len_nil))))))))
  (ss_one (ss_frz [3] (ss_ret (ev_var 3))))))
theorem fd_steps_of (g : GF mg) (F_sides : Fd P w K mg base 4 "sides" m_sides) {f : Addr} {fd : FuncData} (F : FunD K "steps_of" "steps_of" (defArgs s_steps_of) (defBody s_steps_of) (defScope s_steps_of) [] [] f fd) (hmg : mg "steps_of" = some (.ref f)) : Fd P w K mg base 5 "steps_of" m_steps_of :=
  fd_mk F hmg sc_steps_of rfl rfl (F.bindsN (ps := ["page", "needs", "way"]) fun _ _ _ _ _ _ us hl => match us, hl with | [_, _, _], _ => rfl) fun cdv A outer s H E hc hr => w_steps_of g F_sides hr
/-! least_places -/
abbrev s_least_places : Stmt := top 20
abbrev N_least_places : List Str := ["page", "needs", "upright", "level"]
theorem sc_least_places : FnScope N_least_places ["page", "needs"] (defScope s_least_places) := ⟨rfl, rfl, rfl, by decide +kernel, rfl, by decide +kernel, by decide +kernel⟩
theorem w_least_places (g : GF mg) (F_farthest : Fd P w K mg base 2 "farthest" m_farthest) (F_levels : Fd P w K mg base 3 "levels" m_levels) (F_steps_of : Fd P w K mg base 5 "steps_of" m_steps_of) (F_uprights : Fd P w K mg base 3 "uprights" m_uprights) (F_need_needs : Fd P w K mg base 2 "need_needs" m_need_needs) {f : Addr} {cdv : Value} {A : Around} {outer : List Env} {s : Shared} {H : Hp} {E : XK} (hr : Room 5 (A.deeper (envOfC "least_places" (defScope s_least_places) s.heap.objs.size f cdv))) :
    SSs (cxOf L2.CX0 P w K mg base N_least_places "least_places" (defScope s_least_places) f cdv A outer s H E).nox (defBody s_least_places) mb_least_places := by
  have nd : (N_least_places).Nodup := sc_least_places.nd
  have hu := room_u hr
  have hu1 := room_u1 hr
  unfold mb_least_places
  exact (ss_cons (ss_drop (ev_b (ev_call F_need_needs (hr.mono (by decide)) (ea_cons (ev_var 0) (ea_cons (ev_var 1) ea_nil)))))
  (ss_cons (ss_asg (ev_call F_farthest (hr.mono (by decide)) (ea_cons (ev_call F_steps_of (hr.mono (by decide)) (ea_cons (ev_var 0) (ea_cons (ev_var 1) (ea_cons ev_int ea_nil)))) (ea_cons (en_v (en_b1 cm_len g.b_len (ev_b (ev_call F_uprights (hr.mono (by decide)) (ea_cons (ev_var 0) ea_nil))))) ea_nil))) (sg_name 2 nd))
  (ss_cons (ss_asg (ev_call F_farthest (hr.mono (by decide)) (ea_cons (ev_call F_steps_of (hr.mono (by decide)) (ea_cons (ev_var 0) (ea_cons (ev_var 1) (ea_cons ev_int ea_nil)))) (ea_cons (en_v (en_b1 cm_len g.b_len (ev_b (ev_call F_levels (hr.mono (by decide)) (ea_cons (ev_var 0) ea_nil))))) ea_nil))) (sg_name 3 nd))
  (ss_one (ss_ret (ev_tup (ea_cons (ev_var 2) (ea_cons (ev_var 3) ea_nil)) (len_cons (len_cons len_nil))))))))
theorem fd_least_places (g : GF mg) (F_farthest : Fd P w K mg base 2 "farthest" m_farthest) (F_levels : Fd P w K mg base 3 "levels" m_levels) (F_steps_of : Fd P w K mg base 5 "steps_of" m_steps_of) (F_uprights : Fd P w K mg base 3 "uprights" m_uprights) (F_need_needs : Fd P w K mg base 2 "need_needs" m_need_needs) {f : Addr} {fd : FuncData} (F : FunD K "least_places" "least_places" (defArgs s_least_places) (defBody s_least_places) (defScope s_least_places) [] [] f fd) (hmg : mg "least_places" = some (.ref f)) : Fd P w K mg base 6 "least_places" m_least_places :=
  fd_mk F hmg sc_least_places rfl rfl (F.bindsN (ps := ["page", "needs"]) fun _ _ _ _ _ _ us hl => match us, hl with | [_, _], _ => rfl) fun cdv A outer s H E hc hr => w_least_places g F_farthest F_levels F_steps_of F_uprights F_need_needs hr
/-! _law_between -/
abbrev s__law_between : Stmt := top 42
abbrev N__law_between : List Str := ["lies", "places", "found", "left", "right", "upper", "lower", "across", "down"]
theorem sc__law_between : FnScope N__law_between ["lies", "places"] (defScope s__law_between) := ⟨rfl, rfl, rfl, by decide +kernel, rfl, by decide +kernel, by decide +kernel⟩
theorem w__law_between (g : GF mg) {f : Addr} {cdv : Value} {A : Around} {outer : List Env} {s : Shared} {H : Hp} {E : XK} (hr : Room 0 (A.deeper (envOfC "_law_between" (defScope s__law_between) s.heap.objs.size f cdv))) :
    SSs (cxOf L2.CX0 P w K mg base N__law_between "_law_between" (defScope s__law_between) f cdv A outer s H E).nox (defBody s__law_between) mb__law_between := by
  have nd : (N__law_between).Nodup := sc__law_between.nd
  have hu := room_u hr
  have hu1 := room_u1 hr
  unfold mb__law_between
  exact (ss_cons (ss_asgO 2 nd (en_lst ea_nil len_nil))
  (ss_cons (ss_for PassesOwn.never rfl (si_any (ev_var 0)) (sg_tup rfl (sgs_cons (sg_name 3 nd) (sgs_cons (sg_name 4 nd) (sgs_cons (sg_name 5 nd) (sgs_cons (sg_name 6 nd) sgs_nil))))) (ss_cons (ss_asg (en_v (en_bin om_add (en_b (en_lst (ea_cons ev_int ea_nil) (len_cons len_nil))) (ev_b (ev_ix (eb_var 1) (ev_b ev_int))))) (sg_name 7 nd))
  (ss_cons (ss_asg (en_v (en_bin om_add (en_b (en_lst (ea_cons ev_int ea_nil) (len_cons len_nil))) (ev_b (ev_ix (eb_var 1) (ev_b ev_int))))) (sg_name 8 nd))
  (ss_one (ss_app 2 (ev_tup (ea_cons (ev_ix (eb_var 7) (en_b (en_bin om_add (eb_var 3) (ev_b ev_int)))) (ea_cons (ev_ix (eb_var 8) (en_b (en_bin om_add (eb_var 5) (ev_b ev_int)))) (ea_cons (ev_ix (eb_var 7) (en_b (en_bin om_add (eb_var 4) (ev_b ev_int)))) (ea_cons (ev_ix (eb_var 8) (en_b (en_bin om_add (eb_var 6) (ev_b ev_int)))) ea_nil)))) (len_cons (len_cons (len_cons (len_cons len_nil))))))))))
  (ss_one (ss_frz [2] (ss_ret (ev_var 2))))))
theorem fd__law_between (g : GF mg) {f : Addr} {fd : FuncData} (F : FunD K "_law_between" "_law_between" (defArgs s__law_between) (defBody s__law_between) (defScope s__law_between) [] [] f fd) (hmg : mg "_law_between" = some (.ref f)) : Fd P w K mg base 1 "_law_between" m__law_between :=
  fd_mk F hmg sc__law_between rfl rfl (F.bindsN (ps := ["lies", "places"]) fun _ _ _ _ _ _ us hl => match us, hl with | [_, _], _ => rfl) fun cdv A outer s H E hc hr => w__law_between g  hr
/-! pressed -/
abbrev s_pressed : Stmt := top 21
abbrev N_pressed : List Str := ["page", "needs", "found", "box", "upright", "level", "across", "down", "left", "right", "upper", "lower"]
theorem sc_pressed : FnScope N_pressed ["page", "needs"] (defScope s_pressed) := ⟨rfl, rfl, rfl, by decide +kernel, rfl, by decide +kernel, by decide +kernel⟩
theorem w_pressed (g : GF mg) (F_place_of : Fd P w K mg base 1 "place_of" m_place_of) (F_sides : Fd P w K mg base 4 "sides" m_sides) (F_least_places : Fd P w K mg base 6 "least_places" m_least_places) {f : Addr} {cdv : Value} {A : Around} {outer : List Env} {s : Shared} {H : Hp} {E : XK} (hr : Room 6 (A.deeper (envOfC "pressed" (defScope s_pressed) s.heap.objs.size f cdv))) :
    SSs (cxOf L2.CX0 P w K mg base N_pressed "pressed" (defScope s_pressed) f cdv A outer s H E).nox (defBody s_pressed) mb_pressed := by
  have nd : (N_pressed).Nodup := sc_pressed.nd
  have hu := room_u hr
  have hu1 := room_u1 hr
  unfold mb_pressed
  exact (ss_cons (ss_asg (ev_call F_least_places (hr.mono (by decide)) (ea_cons (ev_var 0) (ea_cons (ev_var 1) ea_nil))) (sg_tup rfl (sgs_cons (sg_name 4 nd) (sgs_cons (sg_name 5 nd) sgs_nil))))
  (ss_cons (ss_asgO 2 nd (en_lst ea_nil len_nil))
  (ss_cons (ss_for PassesOwn.never rfl (si_r1 g.b_range (en_b (en_b1 cm_len g.b_len (eb_var 1)))) (sg_name 3 nd) (ss_cons (ss_asg (ev_call F_sides (hr.mono (by decide)) (ea_cons (ev_var 0) (ea_cons (ev_var 3) ea_nil))) (sg_tup rfl (sgs_cons (sg_name 8 nd) (sgs_cons (sg_name 9 nd) (sgs_cons (sg_name 10 nd) (sgs_cons (sg_name 11 nd) sgs_nil))))))
  (ss_cons (ss_asg (ev_tup (ea_cons (ev_call F_place_of (hr.mono (by decide)) (ea_cons (ev_var 4) (ea_cons (ev_var 8) ea_nil))) (ea_cons (ev_ix (eb_var 4) (eb_var 9)) ea_nil)) (len_cons (len_cons len_nil))) (sg_name 6 nd))
  (ss_cons (ss_asg (ev_tup (ea_cons (ev_call F_place_of (hr.mono (by decide)) (ea_cons (ev_var 5) (ea_cons (ev_var 10) ea_nil))) (ea_cons (ev_ix (eb_var 5) (eb_var 11)) ea_nil)) (len_cons (len_cons len_nil))) (sg_name 7 nd))
  (ss_one (ss_app 2 (ev_tup (ea_cons (ev_ix (eb_var 6) (ev_b ev_int)) (ea_cons (ev_ix (eb_var 7) (ev_b ev_int)) (ea_cons (ev_ix (eb_var 6) (ev_b ev_int)) (ea_cons (ev_ix (eb_var 7) (ev_b ev_int)) ea_nil)))) (len_cons (len_cons (len_cons (len_cons len_nil)))))))))))
  (ss_one (ss_frz [2] (ss_ret (ev_var 2)))))))
theorem fd_pressed (g : GF mg) (F_place_of : Fd P w K mg base 1 "place_of" m_place_of) (F_sides : Fd P w K mg base 4 "sides" m_sides) (F_least_places : Fd P w K mg base 6 "least_places" m_least_places) {f : Addr} {fd : FuncData} (F : FunD K "pressed" "pressed" (defArgs s_pressed) (defBody s_pressed) (defScope s_pressed) [] [] f fd) (hmg : mg "pressed" = some (.ref f)) : Fd P w K mg base 7 "pressed" m_pressed :=
  fd_mk F hmg sc_pressed rfl rfl (F.bindsN (ps := ["page", "needs"]) fun _ _ _ _ _ _ us hl => match us, hl with | [_, _], _ => rfl) fun cdv A outer s H E hc hr => w_pressed g F_place_of F_sides F_least_places hr
/-! _law_whole -/
abbrev s__law_whole : Stmt := top 40
abbrev N__law_whole : List Str := ["found"]
theorem sc__law_whole : FnScope N__law_whole ["found"] (defScope s__law_whole) := ⟨rfl, rfl, rfl, by decide +kernel, rfl, by decide +kernel, by decide +kernel⟩
theorem w__law_whole (g : GF mg) {f : Addr} {cdv : Value} {A : Around} {outer : List Env} {s : Shared} {H : Hp} {E : XK} (hr : Room 0 (A.deeper (envOfC "_law_whole" (defScope s__law_whole) s.heap.objs.size f cdv))) :
    SSs (cxOf L2.CX0 P w K mg base N__law_whole "_law_whole" (defScope s__law_whole) f cdv A outer s H E).nox (defBody s__law_whole) mb__law_whole := by
  have nd : (N__law_whole).Nodup := sc__law_whole.nd
  have hu := room_u hr
  have hu1 := room_u1 hr
  unfold mb__law_whole
  exact (ss_one (ss_ret (ev_and (ev_b (ev_isi isi_int g.b_isinstance g.b_int (eb_var 0))) (ev_one (ev_not (ev_b (ev_isi isi_bool g.b_isinstance g.b_bool (eb_var 0))))))))
theorem fd__law_whole (g : GF mg) {f : Addr} {fd : FuncData} (F : FunD K "_law_whole" "_law_whole" (defArgs s__law_whole) (defBody s__law_whole) (defScope s__law_whole) [] [] f fd) (hmg : mg "_law_whole" = some (.ref f)) : Fd P w K mg base 1 "_law_whole" m__law_whole :=
  fd_mk F hmg sc__law_whole rfl rfl (F.bindsN (ps := ["found"]) fun _ _ _ _ _ _ us hl => match us, hl with | [_], _ => rfl) fun cdv A outer s H E hc hr => w__law_whole g  hr
/-! _law_chain_good -/
abbrev s__law_chain_good : Stmt := top 43
abbrev N__law_chain_good : List Str := ["lies", "told", "needs", "many", "least", "way", "last", "total", "k"]
theorem sc__law_chain_good : FnScope N__law_chain_good ["lies", "told", "needs", "many", "least", "way"] (defScope s__law_chain_good) := ⟨rfl, rfl, rfl, by decide +kernel, rfl, by decide +kernel, by decide +kernel⟩
theorem w__law_chain_good (g : GF mg) (F__law_whole : Fd P w K mg base 1 "_law_whole" m__law_whole) {f : Addr} {cdv : Value} {A : Around} {outer : List Env} {s : Shared} {H : Hp} {E : XK} (hr : Room 1 (A.deeper (envOfC "_law_chain_good" (defScope s__law_chain_good) s.heap.objs.size f cdv))) :
    SSs (cxOf L2.CX0 P w K mg base N__law_chain_good "_law_chain_good" (defScope s__law_chain_good) f cdv A outer s H E).nox (defBody s__law_chain_good) mb__law_chain_good := by
  have nd : (N__law_chain_good).Nodup := sc__law_chain_good.nd
  have hu := room_u hr
  have hu1 := room_u1 hr
  unfold mb__law_chain_good
  exact (ss_cons (ss_if (ew_t (ew_or (et_not (et_v (ev_b (ev_isi isi_list g.b_isinstance g.b_list (eb_var 1))))) (ew_or (et_cmp (om_eq hu) (eb_var 1) (en_b (en_lst ea_nil len_nil))) (ew_or1 (et_not (et_v (en_b (en_b1 (cm_all rfl) g.b_all (en_b (en_lc (own := [("k", 8)]) rfl nd (blkOk_by (by first | kernel_rfl | rfl)) (si_any (ev_var 1)) (fun _ _ _ _ _ => (sg_name 8 nd)) (fun _ _ _ _ _ => sts_nil) (fun _ _ _ _ _ => (ev_call F__law_whole (hr.mono (by decide)) (ea_cons (ev_var 8) ea_nil))))))))))))) (ss_one (ss_ret ev_bl)) ss_nil)
  (ss_cons (ss_if (ew_t (ew_or (et_cmp om_lt (en_b (en_b1 (cm_min rfl) g.b_min (eb_var 1))) (ev_b ev_int)) (ew_or1 (et_cmp om_ge (en_b (en_b1 (cm_max rfl) g.b_max (eb_var 1))) (en_b (en_b1 cm_len g.b_len (eb_var 0))))))) (ss_one (ss_ret ev_bl)) ss_nil)
  (ss_cons (ss_asg (ev_neg (ev_b ev_int)) (sg_name 6 nd))
  (ss_cons (ss_asg ev_int (sg_name 7 nd))
  (ss_cons (ss_for PassesOwn.never rfl (si_any (ev_var 1)) (sg_name 8 nd) (ss_cons (ss_if (et_cmp (om_ne hu) (ev_b (ev_ix (ev_b (ev_ix (eb_var 0) (eb_var 8))) (en_b (en_bin om_mul (ev_b ev_int) (eb_var 5))))) (eb_var 6)) (ss_one (ss_ret ev_bl)) ss_nil)
  (ss_cons (ss_asg (ev_ix (ev_b (ev_ix (eb_var 0) (eb_var 8))) (en_b (en_bin om_add (en_b (en_bin om_mul (ev_b ev_int) (eb_var 5))) (ev_b ev_int)))) (sg_name 6 nd))
  (ss_one (ss_asg (en_v (en_bin om_add (eb_var 7) (ev_b (ev_ix (ev_b (ev_ix (eb_var 2) (eb_var 8))) (eb_var 5))))) (sg_name 7 nd))))))
  (ss_one (ss_ret (ev_and (ev_b (ev_cmp (om_eq hu) (eb_var 6) (ev_b (ev_ix (eb_var 3) (eb_var 5))))) (ev_one (ev_cmp (om_eq hu) (eb_var 7) (eb_var 4)))))))))))
theorem fd__law_chain_good (g : GF mg) (F__law_whole : Fd P w K mg base 1 "_law_whole" m__law_whole) {f : Addr} {fd : FuncData} (F : FunD K "_law_chain_good" "_law_chain_good" (defArgs s__law_chain_good) (defBody s__law_chain_good) (defScope s__law_chain_good) [] [] f fd) (hmg : mg "_law_chain_good" = some (.ref f)) : Fd P w K mg base 2 "_law_chain_good" m__law_chain_good :=
  fd_mk F hmg sc__law_chain_good rfl rfl (F.bindsN (ps := ["lies", "told", "needs", "many", "least", "way"]) fun _ _ _ _ _ _ us hl => match us, hl with | [_, _, _, _, _, _], _ => rfl) fun cdv A outer s H E hc hr => w__law_chain_good g F__law_whole hr
/-! _law_moved -/
abbrev s__law_moved : Stmt := top 44
abbrev N__law_moved : List Str := ["lies", "needs", "way", "many", "head", "more", "places", "turn", "k", "begin", "end", "least"]
theorem sc__law_moved : FnScope N__law_moved ["lies", "needs", "way", "many", "head"] (defScope s__law_moved) := ⟨rfl, rfl, rfl, by decide +kernel, rfl, by decide +kernel, by decide +kernel⟩
theorem w__law_moved (g : GF mg) (F__law_mixed : Fd P w K mg base 1 "_law_mixed" m__law_mixed) {f : Addr} {cdv : Value} {A : Around} {outer : List Env} {s : Shared} {H : Hp} {E : XK} (hr : Room 1 (A.deeper (envOfC "_law_moved" (defScope s__law_moved) s.heap.objs.size f cdv))) :
    SSs (cxOf L2.CX0 P w K mg base N__law_moved "_law_moved" (defScope s__law_moved) f cdv A outer s H E).nox (defBody s__law_moved) mb__law_moved := by
  have nd : (N__law_moved).Nodup := sc__law_moved.nd
  have hu := room_u hr
  have hu1 := room_u1 hr
  unfold mb__law_moved
  exact (ss_cons (ss_lc (own := [("k", 8)]) 5 rfl nd (blkOk_by (by first | kernel_rfl | rfl)) (si_r1 g.b_range (en_b (en_b1 cm_len g.b_len (eb_var 0)))) (fun _ _ _ _ _ => (sg_name 8 nd)) (fun _ _ _ _ _ => sts_nil) (fun _ _ _ _ _ => (ev_bin om_mod (ev_b (ev_call F__law_mixed (hr.mono (by decide)) (ea_cons (ev_var 4) (ea_cons (en_v (en_bin om_add (en_b (en_bin om_add (ev_b ev_int) (en_b (en_bin om_mul (ev_b ev_int) (eb_var 2))))) (eb_var 8))) ea_nil)))) (ev_b ev_int))))
  (ss_cons (ss_lcO (own := [("k", 8)]) 6 rfl nd (blkOk_by (by first | kernel_rfl | rfl)) (si_r1 g.b_range (en_b (en_bin om_add (eb_var 3) (ev_b ev_int)))) (fun _ _ _ _ _ => (sg_name 8 nd)) (fun _ _ _ _ _ => sts_nil) (fun _ _ _ _ _ => ev_int))
  (ss_cons (ss_for PassesOwn.never rfl (si_r1 g.b_range (en_b (en_bin om_add (eb_var 3) (ev_b ev_int)))) (sg_name 7 nd) (ss_one (ss_for PassesOwn.never rfl (si_r1 g.b_range (en_b (en_b1 cm_len g.b_len (eb_var 0)))) (sg_name 8 nd) (ss_cons (ss_asg (en_v (en_bin om_add (ev_b (ev_ix (ev_b (ev_ix (eb_var 0) (eb_var 8))) (en_b (en_bin om_mul (ev_b ev_int) (eb_var 2))))) (ev_b ev_int))) (sg_name 9 nd))
  (ss_cons (ss_asg (en_v (en_bin om_add (ev_b (ev_ix (ev_b (ev_ix (eb_var 0) (eb_var 8))) (en_b (en_bin om_add (en_b (en_bin om_mul (ev_b ev_int) (eb_var 2))) (ev_b ev_int))))) (ev_b ev_int))) (sg_name 10 nd))
  (ss_cons (ss_asg (en_v (en_bin om_add (en_b (en_bin om_add (ev_b (ev_ix (eb_var 6) (eb_var 9))) (ev_b (ev_ix (ev_b (ev_ix (eb_var 1) (eb_var 8))) (eb_var 2))))) (ev_b (ev_ix (eb_var 5) (eb_var 8))))) (sg_name 11 nd))
  (ss_one (ss_setI 6 (eb_var 10) (en_v (en_b2 (cm_max2 rfl) g.b_max (ev_b (ev_ix (eb_var 6) (eb_var 10))) (eb_var 11)))))))))))
  (ss_one (ss_ret (en_v (en_sl (eb_var 6) (op_s (ev_b ev_int)) op_n)))))))
theorem fd__law_moved (g : GF mg) (F__law_mixed : Fd P w K mg base 1 "_law_mixed" m__law_mixed) {f : Addr} {fd : FuncData} (F : FunD K "_law_moved" "_law_moved" (defArgs s__law_moved) (defBody s__law_moved) (defScope s__law_moved) [] [] f fd) (hmg : mg "_law_moved" = some (.ref f)) : Fd P w K mg base 2 "_law_moved" m__law_moved :=
  fd_mk F hmg sc__law_moved rfl rfl (F.bindsN (ps := ["lies", "needs", "way", "many", "head"]) fun _ _ _ _ _ _ us hl => match us, hl with | [_, _, _, _, _], _ => rfl) fun cdv A outer s H E hc hr => w__law_moved g F__law_mixed hr
/-! _law_places_good -/
abbrev s__law_places_good : Stmt := top 41
abbrev N__law_places_good : List Str := ["places", "many", "place"]
theorem sc__law_places_good : FnScope N__law_places_good ["places", "many"] (defScope s__law_places_good) := ⟨rfl, rfl, rfl, by decide +kernel, rfl, by decide +kernel, by decide +kernel⟩
theorem w__law_places_good (g : GF mg) (F__law_whole : Fd P w K mg base 1 "_law_whole" m__law_whole) {f : Addr} {cdv : Value} {A : Around} {outer : List Env} {s : Shared} {H : Hp} {E : XK} (hr : Room 1 (A.deeper (envOfC "_law_places_good" (defScope s__law_places_good) s.heap.objs.size f cdv))) :
    SSs (cxOf L2.CX0 P w K mg base N__law_places_good "_law_places_good" (defScope s__law_places_good) f cdv A outer s H E).nox (defBody s__law_places_good) mb__law_places_good := by
  have nd : (N__law_places_good).Nodup := sc__law_places_good.nd
  have hu := room_u hr
  have hu1 := room_u1 hr
  unfold mb__law_places_good
  exact (ss_cons (ss_if (ew_t (ew_or (et_not (et_v (ev_b (ev_isi isi_list g.b_isinstance g.b_list (eb_var 0))))) (ew_or (et_cmp (om_ne hu) (en_b (en_b1 cm_len g.b_len (eb_var 0))) (en_b (en_bin om_add (eb_var 1) (ev_b ev_int)))) (ew_or1 (et_not (et_v (en_b (en_b1 (cm_all rfl) g.b_all (en_b (en_lc (own := [("place", 2)]) rfl nd (blkOk_by (by first | kernel_rfl | rfl)) (si_any (ev_var 0)) (fun _ _ _ _ _ => (sg_name 2 nd)) (fun _ _ _ _ _ => sts_nil) (fun _ _ _ _ _ => (ev_call F__law_whole (hr.mono (by decide)) (ea_cons (ev_var 2) ea_nil))))))))))))) (ss_one (ss_ret ev_bl)) ss_nil)
  (ss_one (ss_ret (ev_cmp om_gt (en_b (en_b1 (cm_min rfl) g.b_min (eb_var 0))) (ev_b ev_int)))))
theorem fd__law_places_good (g : GF mg) (F__law_whole : Fd P w K mg base 1 "_law_whole" m__law_whole) {f : Addr} {fd : FuncData} (F : FunD K "_law_places_good" "_law_places_good" (defArgs s__law_places_good) (defBody s__law_places_good) (defScope s__law_places_good) [] [] f fd) (hmg : mg "_law_places_good" = some (.ref f)) : Fd P w K mg base 2 "_law_places_good" m__law_places_good :=
  fd_mk F hmg sc__law_places_good rfl rfl (F.bindsN (ps := ["places", "many"]) fun _ _ _ _ _ _ us hl => match us, hl with | [_, _], _ => rfl) fun cdv A outer s H E hc hr => w__law_places_good g F__law_whole hr
/-! chain -/
abbrev s_chain : Stmt := top 19
abbrev N_chain : List Str := ["steps", "places", "found", "wall", "box", "begin", "end", "need"]
theorem sc_chain : FnScope N_chain ["steps", "places"] (defScope s_chain) := ⟨rfl, rfl, rfl, by decide +kernel, rfl, by decide +kernel, by decide +kernel⟩
theorem w_chain (g : GF mg) (F_place_of : Fd P w K mg base 1 "place_of" m_place_of) {f : Addr} {cdv : Value} {A : Around} {outer : List Env} {s : Shared} {H : Hp} {E : XK} (hr : Room 1 (A.deeper (envOfC "chain" (defScope s_chain) s.heap.objs.size f cdv))) :
    SSs (cxOf L2.CX0 P w K mg base N_chain "chain" (defScope s_chain) f cdv A outer s H E).nox (defBody s_chain) mb_chain := by
  have nd : (N_chain).Nodup := sc_chain.nd
  have hu := room_u hr
  have hu1 := room_u1 hr
  unfold mb_chain
  exact (ss_cons (ss_asgO 2 nd (en_lst ea_nil len_nil))
  (ss_cons (ss_asg (ev_bin om_sub (en_b (en_b1 cm_len g.b_len (eb_var 1))) (ev_b ev_int)) (sg_name 3 nd))
  (ss_cons (ss_while PassesOwn.never (et_cmp om_ge (eb_var 3) (ev_b ev_int)) (ss_one (ss_for PassesOwn.never rfl (si_r1 g.b_range (en_b (en_b1 cm_len g.b_len (eb_var 0)))) (sg_name 4 nd) (ss_cons (ss_asg (ev_ix (eb_var 0) (eb_var 4)) (sg_tup rfl (sgs_cons (sg_name 5 nd) (sgs_cons (sg_name 6 nd) (sgs_cons (sg_name 7 nd) sgs_nil)))))
  (ss_one (ss_if (ew_t (ew_and (et_cmp (om_eq hu) (eb_var 6) (eb_var 3)) (ew_and1 (et_cmp (om_eq hu) (en_b (en_bin om_add (ev_b (ev_call F_place_of (hr.mono (by decide)) (ea_cons (ev_var 1) (ea_cons (ev_var 5) ea_nil)))) (eb_var 7))) (ev_b (ev_ix (eb_var 1) (eb_var 3))))))) (ss_cons (ss_app 2 (ev_var 4))
  (ss_cons (ss_asg (ev_var 5) (sg_name 3 nd))
  (ss_one ss_break))) ss_nil))))))
  (ss_one (ss_ret (en_v (en_rev (eb_var 2))))))))
theorem fd_chain (g : GF mg) (F_place_of : Fd P w K mg base 1 "place_of" m_place_of) {f : Addr} {fd : FuncData} (F : FunD K "chain" "chain" (defArgs s_chain) (defBody s_chain) (defScope s_chain) [] [] f fd) (hmg : mg "chain" = some (.ref f)) : Fd P w K mg base 2 "chain" m_chain :=
  fd_mk F hmg sc_chain rfl rfl (F.bindsN (ps := ["steps", "places"]) fun _ _ _ _ _ _ us hl => match us, hl with | [_, _], _ => rfl) fun cdv A outer s H E hc hr => w_chain g F_place_of hr
/-! chain_across -/
abbrev s_chain_across : Stmt := top 22
abbrev N_chain_across : List Str := ["page", "needs", "places"]
theorem sc_chain_across : FnScope N_chain_across ["page", "needs"] (defScope s_chain_across) := ⟨rfl, rfl, rfl, by decide +kernel, rfl, by decide +kernel, by decide +kernel⟩
theorem w_chain_across (g : GF mg) (F_chain : Fd P w K mg base 2 "chain" m_chain) (F_steps_of : Fd P w K mg base 5 "steps_of" m_steps_of) (F_least_places : Fd P w K mg base 6 "least_places" m_least_places) {f : Addr} {cdv : Value} {A : Around} {outer : List Env} {s : Shared} {H : Hp} {E : XK} (hr : Room 6 (A.deeper (envOfC "chain_across" (defScope s_chain_across) s.heap.objs.size f cdv))) :
    SSs (cxOf L2.CX0 P w K mg base N_chain_across "chain_across" (defScope s_chain_across) f cdv A outer s H E).nox (defBody s_chain_across) mb_chain_across := by
  have nd : (N_chain_across).Nodup := sc_chain_across.nd
  have hu := room_u hr
  have hu1 := room_u1 hr
  unfold mb_chain_across
  exact (ss_cons (ss_asg (ev_ix (ev_b (ev_call F_least_places (hr.mono (by decide)) (ea_cons (ev_var 0) (ea_cons (ev_var 1) ea_nil)))) (ev_b ev_int)) (sg_name 2 nd))
  (ss_one (ss_ret (ev_call F_chain (hr.mono (by decide)) (ea_cons (ev_call F_steps_of (hr.mono (by decide)) (ea_cons (ev_var 0) (ea_cons (ev_var 1) (ea_cons ev_int ea_nil)))) (ea_cons (ev_var 2) ea_nil))))))
theorem fd_chain_across (g : GF mg) (F_chain : Fd P w K mg base 2 "chain" m_chain) (F_steps_of : Fd P w K mg base 5 "steps_of" m_steps_of) (F_least_places : Fd P w K mg base 6 "least_places" m_least_places) {f : Addr} {fd : FuncData} (F : FunD K "chain_across" "chain_across" (defArgs s_chain_across) (defBody s_chain_across) (defScope s_chain_across) [] [] f fd) (hmg : mg "chain_across" = some (.ref f)) : Fd P w K mg base 7 "chain_across" m_chain_across :=
  fd_mk F hmg sc_chain_across rfl rfl (F.bindsN (ps := ["page", "needs"]) fun _ _ _ _ _ _ us hl => match us, hl with | [_, _], _ => rfl) fun cdv A outer s H E hc hr => w_chain_across g F_chain F_steps_of F_least_places hr
/-! chain_down -/
abbrev s_chain_down : Stmt := top 23
abbrev N_chain_down : List Str := ["page", "needs", "places"]
theorem sc_chain_down : FnScope N_chain_down ["page", "needs"] (defScope s_chain_down) := ⟨rfl, rfl, rfl, by decide +kernel, rfl, by decide +kernel, by decide +kernel⟩
theorem w_chain_down (g : GF mg) (F_chain : Fd P w K mg base 2 "chain" m_chain) (F_steps_of : Fd P w K mg base 5 "steps_of" m_steps_of) (F_least_places : Fd P w K mg base 6 "least_places" m_least_places) {f : Addr} {cdv : Value} {A : Around} {outer : List Env} {s : Shared} {H : Hp} {E : XK} (hr : Room 6 (A.deeper (envOfC "chain_down" (defScope s_chain_down) s.heap.objs.size f cdv))) :
    SSs (cxOf L2.CX0 P w K mg base N_chain_down "chain_down" (defScope s_chain_down) f cdv A outer s H E).nox (defBody s_chain_down) mb_chain_down := by
  have nd : (N_chain_down).Nodup := sc_chain_down.nd
  have hu := room_u hr
  have hu1 := room_u1 hr
  unfold mb_chain_down
  exact (ss_cons (ss_asg (ev_ix (ev_b (ev_call F_least_places (hr.mono (by decide)) (ea_cons (ev_var 0) (ea_cons (ev_var 1) ea_nil)))) (ev_b ev_int)) (sg_name 2 nd))
  (ss_one (ss_ret (ev_call F_chain (hr.mono (by decide)) (ea_cons (ev_call F_steps_of (hr.mono (by decide)) (ea_cons (ev_var 0) (ea_cons (ev_var 1) (ea_cons ev_int ea_nil)))) (ea_cons (ev_var 2) ea_nil))))))
theorem fd_chain_down (g : GF mg) (F_chain : Fd P w K mg base 2 "chain" m_chain) (F_steps_of : Fd P w K mg base 5 "steps_of" m_steps_of) (F_least_places : Fd P w K mg base 6 "least_places" m_least_places) {f : Addr} {fd : FuncData} (F : FunD K "chain_down" "chain_down" (defArgs s_chain_down) (defBody s_chain_down) (defScope s_chain_down) [] [] f fd) (hmg : mg "chain_down" = some (.ref f)) : Fd P w K mg base 7 "chain_down" m_chain_down :=
  fd_mk F hmg sc_chain_down rfl rfl (F.bindsN (ps := ["page", "needs"]) fun _ _ _ _ _ _ us hl => match us, hl with | [_, _], _ => rfl) fun cdv A outer s H E hc hr => w_chain_down g F_chain F_steps_of F_least_places hr
/-! law -/
abbrev s_law : Stmt := top 45
abbrev N_law : List Str := ["script", "page", "needs", "many", "lies", "places", "boxes", "made", "head", "moved", "other", "box", "need", "k"]
theorem sc_law : FnScope N_law ["script"] (defScope s_law) := ⟨rfl, rfl, rfl, by decide +kernel, rfl, by decide +kernel, by decide +kernel⟩
theorem w_law (g : GF mg) (F_make_page : Fd P w K mg base 3 "make_page" m_make_page) (F__law_between : Fd P w K mg base 1 "_law_between" m__law_between) (F__law_moved : Fd P w K mg base 2 "_law_moved" m__law_moved) (F__law_cell_at : Fd P w K mg base 1 "_law_cell_at" m__law_cell_at) (F__law_chain_good : Fd P w K mg base 2 "_law_chain_good" m__law_chain_good) (F_chain_down : Fd P w K mg base 7 "chain_down" m_chain_down) (F_chain_across : Fd P w K mg base 7 "chain_across" m_chain_across) (F_pressed : Fd P w K mg base 7 "pressed" m_pressed) (F__law_places_good : Fd P w K mg base 2 "_law_places_good" m__law_places_good) (F_least_places : Fd P w K mg base 6 "least_places" m_least_places) (F_sides : Fd P w K mg base 4 "sides" m_sides) (F_levels : Fd P w K mg base 3 "levels" m_levels) (F_uprights : Fd P w K mg base 3 "uprights" m_uprights) (F__law_needs : Fd P w K mg base 2 "_law_needs" m__law_needs) (F__law_page_of : Fd P w K mg base 4 "_law_page_of" m__law_page_of) {f : Addr} {cdv : Value} {A : Around} {outer : List Env} {s : Shared} {H : Hp} {E : XK} (hr : Room 7 (A.deeper (envOfC "law" (defScope s_law) s.heap.objs.size f cdv))) :
    SSs (cxOf L2.CX0 P w K mg base N_law "law" (defScope s_law) f cdv A outer s H E).nox (defBody s_law) mb_law := by
  have nd : (N_law).Nodup := sc_law.nd
  have hu := room_u hr
  have hu1 := room_u1 hr
  unfold mb_law
  exact (ss_cons (ss_asg (ev_call F__law_page_of (hr.mono (by decide)) (ea_cons (ev_var 0) ea_nil)) (sg_name 1 nd))
  (ss_cons (ss_asg (ev_call F__law_needs (hr.mono (by decide)) (ea_cons (ev_var 1) (ea_cons (ev_call F__law_cell_at (hr.mono (by decide)) (ea_cons (ev_var 0) (ea_cons ev_int ea_nil))) ea_nil))) (sg_name 2 nd))
  (ss_cons (ss_asg (en_v (en_lst (ea_cons (en_v (en_b1 cm_len g.b_len (ev_b (ev_call F_uprights (hr.mono (by decide)) (ea_cons (ev_var 1) ea_nil))))) (ea_cons (en_v (en_b1 cm_len g.b_len (ev_b (ev_call F_levels (hr.mono (by decide)) (ea_cons (ev_var 1) ea_nil))))) ea_nil)) (len_cons (len_cons len_nil)))) (sg_name 3 nd))
  (ss_cons (ss_lc (own := [("k", 13)]) 4 rfl nd (blkOk_by (by first | kernel_rfl | rfl)) (si_r1 g.b_range (en_b (en_b1 cm_len g.b_len (ev_b (ev_ix (eb_var 1) (ev_b ev_int)))))) (fun _ _ _ _ _ => (sg_name 13 nd)) (fun _ _ _ _ _ => sts_nil) (fun _ _ _ _ _ => (ev_call F_sides (hr.mono (by decide)) (ea_cons (ev_var 1) (ea_cons (ev_var 13) ea_nil)))))
  (ss_cons (ss_asg (ev_call F_least_places (hr.mono (by decide)) (ea_cons (ev_var 1) (ea_cons (en_v (en_t1 cm_list g.b_list (eb_var 2))) ea_nil))) (sg_name 5 nd))
  (ss_cons (ss_if (ew_t (ew_or (et_not (et_v (ev_b (ev_isi isi_tup g.b_isinstance g.b_tuple (eb_var 5))))) (ew_or1 (et_cmp (om_ne hu) (en_b (en_b1 cm_len g.b_len (eb_var 5))) (ev_b ev_int))))) (ss_one (ss_ret ev_bl)) ss_nil)
  (ss_cons (ss_if (ew_t (ew_or (et_not (et_v (ev_b (ev_call F__law_places_good (hr.mono (by decide)) (ea_cons (ev_ix (eb_var 5) (ev_b ev_int)) (ea_cons (ev_ix (eb_var 3) (ev_b ev_int)) ea_nil)))))) (ew_or1 (et_not (et_v (ev_b (ev_call F__law_places_good (hr.mono (by decide)) (ea_cons (ev_ix (eb_var 5) (ev_b ev_int)) (ea_cons (ev_ix (eb_var 3) (ev_b ev_int)) ea_nil))))))))) (ss_one (ss_ret ev_bl)) ss_nil)
  (ss_cons (ss_asg (ev_call F__law_between (hr.mono (by decide)) (ea_cons (ev_var 4) (ea_cons (ev_var 5) ea_nil))) (sg_name 6 nd))
  (ss_cons (ss_for PassesOwn.never rfl (si_zp g.b_zip (ev_var 6) (ev_var 2)) (sg_tup rfl (sgs_cons (sg_name 11 nd) (sgs_cons (sg_name 12 nd) sgs_nil))) (ss_one (ss_if (ew_t (ew_or (et_cmp om_lt (ev_b (ev_bin om_sub (ev_b (ev_ix (eb_var 11) (ev_b ev_int))) (ev_b (ev_ix (eb_var 11) (ev_b ev_int))))) (ev_b (ev_ix (eb_var 12) (ev_b ev_int)))) (ew_or1 (et_cmp om_lt (ev_b (ev_bin om_sub (ev_b (ev_ix (eb_var 11) (ev_b ev_int))) (ev_b (ev_ix (eb_var 11) (ev_b ev_int))))) (ev_b (ev_ix (eb_var 12) (ev_b ev_int))))))) (ss_one (ss_ret ev_bl)) ss_nil)))
  (ss_cons (ss_if (et_cmp (om_ne hu) (ev_b (ev_call F_pressed (hr.mono (by decide)) (ea_cons (ev_var 1) (ea_cons (en_v (en_t1 cm_list g.b_list (eb_var 2))) ea_nil)))) (eb_var 6)) (ss_one (ss_ret ev_bl)) ss_nil)
  (ss_cons (ss_asg (ev_call F_make_page (hr.mono (by decide)) (ea_cons (ev_ix (ev_b (ev_ix (eb_var 5) (ev_b ev_int))) (ev_b (ev_neg (ev_b ev_int)))) (ea_cons (ev_ix (ev_b (ev_ix (eb_var 5) (ev_b ev_int))) (ev_b (ev_neg (ev_b ev_int)))) (ea_cons (en_v (en_t1 cm_list g.b_list (eb_var 6))) ea_nil)))) (sg_name 7 nd))
  (ss_cons (ss_if (et_cmp (om_ne hu) (en_b (en_b1 (cm_sortedA hu) g.b_sorted (ev_b (ev_ix (eb_var 7) (ev_b ev_int))))) (en_b (en_b1 (cm_sorted hu) g.b_sorted (eb_var 6)))) (ss_one (ss_ret ev_bl)) ss_nil)
  (ss_cons (ss_if (et_not (et_v (ev_b (ev_call F__law_chain_good (hr.mono (by decide)) (ea_cons (ev_var 4) (ea_cons (ev_call F_chain_across (hr.mono (by decide)) (ea_cons (ev_var 1) (ea_cons (en_v (en_t1 cm_list g.b_list (eb_var 2))) ea_nil))) (ea_cons (ev_var 2) (ea_cons (ev_var 3) (ea_cons (ev_ix (ev_b (ev_ix (eb_var 5) (ev_b ev_int))) (ev_b (ev_neg (ev_b ev_int)))) (ea_cons ev_int ea_nil)))))))))) (ss_one (ss_ret ev_bl)) ss_nil)
  (ss_cons (ss_if (et_not (et_v (ev_b (ev_call F__law_chain_good (hr.mono (by decide)) (ea_cons (ev_var 4) (ea_cons (ev_call F_chain_down (hr.mono (by decide)) (ea_cons (ev_var 1) (ea_cons (en_v (en_t1 cm_list g.b_list (eb_var 2))) ea_nil))) (ea_cons (ev_var 2) (ea_cons (ev_var 3) (ea_cons (ev_ix (ev_b (ev_ix (eb_var 5) (ev_b ev_int))) (ev_b (ev_neg (ev_b ev_int)))) (ea_cons ev_int ea_nil)))))))))) (ss_one (ss_ret ev_bl)) ss_nil)
  (ss_cons (ss_asg (ev_call F__law_cell_at (hr.mono (by decide)) (ea_cons (ev_var 0) (ea_cons ev_int ea_nil))) (sg_name 8 nd))
  (ss_cons (ss_asg (en_v (en_lst (ea_cons (ev_call F__law_moved (hr.mono (by decide)) (ea_cons (ev_var 4) (ea_cons (ev_var 2) (ea_cons ev_int (ea_cons (ev_ix (eb_var 3) (ev_b ev_int)) (ea_cons (ev_var 8) ea_nil)))))) (ea_cons (ev_call F__law_moved (hr.mono (by decide)) (ea_cons (ev_var 4) (ea_cons (ev_var 2) (ea_cons ev_int (ea_cons (ev_ix (eb_var 3) (ev_b ev_int)) (ea_cons (ev_var 8) ea_nil)))))) ea_nil)) (len_cons (len_cons len_nil)))) (sg_name 9 nd))
  (ss_cons (ss_if (ew_t (ew_or (et_cmp om_lt (ev_b (ev_ix (ev_b (ev_ix (eb_var 9) (ev_b ev_int))) (ev_b (ev_neg (ev_b ev_int))))) (ev_b (ev_ix (ev_b (ev_ix (eb_var 5) (ev_b ev_int))) (ev_b (ev_neg (ev_b ev_int)))))) (ew_or1 (et_cmp om_lt (ev_b (ev_ix (ev_b (ev_ix (eb_var 9) (ev_b ev_int))) (ev_b (ev_neg (ev_b ev_int))))) (ev_b (ev_ix (ev_b (ev_ix (eb_var 5) (ev_b ev_int))) (ev_b (ev_neg (ev_b ev_int))))))))) (ss_one (ss_ret ev_bl)) ss_nil)
  (ss_cons (ss_asg (ev_call F__law_between (hr.mono (by decide)) (ea_cons (ev_var 4) (ea_cons (ev_var 9) ea_nil))) (sg_name 10 nd))
  (ss_one (ss_ret (ev_cmp (om_eq hu) (en_b (en_b1 (cm_sortedA hu) g.b_sorted (ev_b (ev_ix (ev_b (ev_call F_make_page (hr.mono (by decide)) (ea_cons (ev_ix (ev_b (ev_ix (eb_var 9) (ev_b ev_int))) (ev_b (ev_neg (ev_b ev_int)))) (ea_cons (ev_ix (ev_b (ev_ix (eb_var 9) (ev_b ev_int))) (ev_b (ev_neg (ev_b ev_int)))) (ea_cons (en_v (en_t1 cm_list g.b_list (eb_var 10))) ea_nil))))) (ev_b ev_int))))) (en_b (en_b1 (cm_sorted hu) g.b_sorted (eb_var 10))))))))))))))))))))))))
theorem fd_law (g : GF mg) (F_make_page : Fd P w K mg base 3 "make_page" m_make_page) (F__law_between : Fd P w K mg base 1 "_law_between" m__law_between) (F__law_moved : Fd P w K mg base 2 "_law_moved" m__law_moved) (F__law_cell_at : Fd P w K mg base 1 "_law_cell_at" m__law_cell_at) (F__law_chain_good : Fd P w K mg base 2 "_law_chain_good" m__law_chain_good) (F_chain_down : Fd P w K mg base 7 "chain_down" m_chain_down) (F_chain_across : Fd P w K mg base 7 "chain_across" m_chain_across) (F_pressed : Fd P w K mg base 7 "pressed" m_pressed) (F__law_places_good : Fd P w K mg base 2 "_law_places_good" m__law_places_good) (F_least_places : Fd P w K mg base 6 "least_places" m_least_places) (F_sides : Fd P w K mg base 4 "sides" m_sides) (F_levels : Fd P w K mg base 3 "levels" m_levels) (F_uprights : Fd P w K mg base 3 "uprights" m_uprights) (F__law_needs : Fd P w K mg base 2 "_law_needs" m__law_needs) (F__law_page_of : Fd P w K mg base 4 "_law_page_of" m__law_page_of) {f : Addr} {fd : FuncData} (F : FunD K "law" "law" (defArgs s_law) (defBody s_law) (defScope s_law) [] [] f fd) (hmg : mg "law" = some (.ref f)) : Fd P w K mg base 8 "law" m_law :=
  fd_mk F hmg sc_law rfl rfl (F.bindsN (ps := ["script"]) fun _ _ _ _ _ _ us hl => match us, hl with | [_], _ => rfl) fun cdv A outer s H E hc hr => w_law g F_make_page F__law_between F__law_moved F__law_cell_at F__law_chain_good F_chain_down F_chain_across F_pressed F__law_places_good F_least_places F_sides F_levels F_uprights F__law_needs F__law_page_of hr
theorem fo_law (g : GF mg) (F_make_page : Fd P w K mg base 3 "make_page" m_make_page) (F__law_between : Fd P w K mg base 1 "_law_between" m__law_between) (F__law_moved : Fd P w K mg base 2 "_law_moved" m__law_moved) (F__law_cell_at : Fd P w K mg base 1 "_law_cell_at" m__law_cell_at) (F__law_chain_good : Fd P w K mg base 2 "_law_chain_good" m__law_chain_good) (F_chain_down : Fd P w K mg base 7 "chain_down" m_chain_down) (F_chain_across : Fd P w K mg base 7 "chain_across" m_chain_across) (F_pressed : Fd P w K mg base 7 "pressed" m_pressed) (F__law_places_good : Fd P w K mg base 2 "_law_places_good" m__law_places_good) (F_least_places : Fd P w K mg base 6 "least_places" m_least_places) (F_sides : Fd P w K mg base 4 "sides" m_sides) (F_levels : Fd P w K mg base 3 "levels" m_levels) (F_uprights : Fd P w K mg base 3 "uprights" m_uprights) (F__law_needs : Fd P w K mg base 2 "_law_needs" m__law_needs) (F__law_page_of : Fd P w K mg base 4 "_law_page_of" m__law_page_of) {f : Addr} {fd : FuncData} (F : FunD K "law" "law" (defArgs s_law) (defBody s_law) (defScope s_law) [] [] f fd) : FnOk P w K mg base L2.CX0 8 f fd ["script"] (spD K m_law) :=
  fn_mk F sc_law rfl rfl fun cdv A outer s H E hc hr => w_law g F_make_page F__law_between F__law_moved F__law_cell_at F__law_chain_good F_chain_down F_chain_across F_pressed F__law_places_good F_least_places F_sides F_levels F_uprights F__law_needs F__law_page_of hr
end
-- levels: _law_cell_at=1, within=1, meet=1, fill=2, is_whole=1, is_box=2, make_page=3, _law_mixed=1, _law_wheel=2, _law_halves=2, _law_boxes=3, _law_page_of=4, _law_needs=2, is_need=1, need_needs=2, place_of=1, farthest=2, joined_spans=1, ends_joined=2, uprights=3, levels=3, wall_at=1, sides=4, steps_of=5, least_places=6, _law_between=1, pressed=7, _law_whole=1, _law_chain_good=2, _law_moved=2, _law_places_good=2, chain=2, chain_across=7, chain_down=7, law=8
end Snd
set_option linter.all false
/-! PL: plain lemmas on mirrors: how they compute. -/
namespace Mir
section
variable {f : D → D → Option D} {g : D → Option D} {a b c : EM} {r : EL} {ρ : Env} {i j : Nat} {d e : D} {s t : SM} {u v : TM} {G : GM}
@[simp] theorem s_slot0 {x : Sl} {r : Env} : slot (x :: r) 0 = x := rfl
@[simp] theorem s_slotS {x : Sl} {r : Env} {n : Nat} : slot (x :: r) (n + 1) = slot r n := rfl
@[simp] theorem s_put0 {x y : Sl} {r : Env} : put (x :: r) 0 y = y :: r := rfl
@[simp] theorem s_putS {x y : Sl} {r : Env} {n : Nat} : put (x :: r) (n + 1) y = x :: put r n y := rfl
@[simp] theorem s_frN : freeze ρ [] = ρ := rfl
@[simp] theorem s_frC {is : List Nat} : freeze ρ (i :: is) = freeze (put ρ i (slot ρ i).freeze) is := rfl
@[simp] theorem s_wpN : wipe ρ [] = ρ := rfl
@[simp] theorem s_wpC {is : List Nat} : wipe ρ (i :: is) = put (wipe ρ is) i .emp := rfl
@[simp] theorem s_fro {ds : List D} : (Sl.own ds).freeze = .frz (.lst ds) := rfl
@[simp] theorem s_frf : (Sl.frz d).freeze = .frz d := rfl
@[simp] theorem s_vV : vV i ρ = match slot ρ i with | .frz d => some d | _ => none := rfl
@[simp] theorem s_vB : vB i ρ = match slot ρ i with | .frz d => some d | .own ds => some (.lst ds) | _ => none := rfl
@[simp] theorem s_cD : cD d ρ = some d := rfl
@[simp] theorem s_o1 : o1 g a ρ = (a ρ).bind g := rfl
@[simp] theorem s_o2 : o2 f a b ρ = (a ρ).bind fun x => (b ρ).bind fun y => f x y := rfl
@[simp] theorem s_nil : eNil ρ = some [] := rfl
@[simp] theorem s_cons : eCons a r ρ = (a ρ).bind fun x => (r ρ).bind fun xs => some (x :: xs) := rfl
@[simp] theorem s_mkT : mkT r ρ = (r ρ).bind fun xs => some (.tup xs) := rfl
@[simp] theorem s_mkL : mkL r ρ = (r ρ).bind fun xs => some (.lst xs) := rfl
@[simp] theorem s_call {m : List D → Option D} : call m r ρ = (r ρ).bind m := rfl
@[simp] theorem s_oN : oN ρ = some none := rfl
@[simp] theorem s_oS : oS a ρ = (a ρ).bind fun x => (asInt x).map some := rfl
@[simp] theorem s_asInt {n : Int} : asInt (.int n) = some n := rfl
@[simp] theorem s_asB {n : Bool} : asB (.bl n) = some n := rfl
@[simp] theorem s_asL {n : List D} : asL (.lst n) = some n := rfl
@[simp] theorem s_sl {lo hi : Env → Option (Option Int)} : sl a lo hi ρ = (a ρ).bind fun x => (lo ρ).bind fun l => (hi ρ).bind fun h => slD x l h := rfl
@[simp] theorem s_andV : andV a b ρ = (a ρ).bind fun x => (asB x).bind fun c => if c then b ρ else some (.bl false) := rfl
@[simp] theorem s_orV : orV a b ρ = (a ρ).bind fun x => (asB x).bind fun c => if c then some (.bl true) else b ρ := rfl
@[simp] theorem s_ch2 {g h : D → D → Option D} : chain2 g h a b c ρ = (a ρ).bind fun x => (b ρ).bind fun y => (g x y).bind fun z => (asB z).bind fun k => if k then (c ρ).bind fun w => h y w else some (.bl false) := rfl
@[simp] theorem s_ch3 {f g h : D → D → Option D} {d : EM} : chain3 f g h a b c d ρ = (a ρ).bind fun x => (b ρ).bind fun y => (f x y).bind fun z => (asB z).bind fun k =>
  if k then (c ρ).bind fun w => (g y w).bind fun z2 => (asB z2).bind fun k2 => if k2 then (d ρ).bind fun u => h w u else some (.bl false) else some (.bl false) := rfl
@[simp] theorem s_tB : tB a ρ = (a ρ).bind asB := rfl
@[simp] theorem s_tNot : tNot u ρ = (u ρ).bind fun c => some (!c) := rfl
@[simp] theorem s_tAnd : tAnd u v ρ = (u ρ).bind fun c => if c then v ρ else some false := rfl
@[simp] theorem s_tOr : tOr u v ρ = (u ρ).bind fun c => if c then some true else v ρ := rfl
@[simp] theorem s_ifE : ifE u a b ρ = (u ρ).bind fun c => if c then a ρ else b ρ := rfl
@[simp] theorem s_tYes : tYes ρ = some true := rfl
@[simp] theorem s_iL : iL a ρ = (a ρ).bind itOf := rfl
@[simp] theorem s_itL {xs : List D} : itOf (.lst xs) = some xs := rfl
@[simp] theorem s_itT {xs : List D} : itOf (.tup xs) = some xs := rfl
@[simp] theorem s_gN : gN i d ρ = some (put ρ i (.frz d)) := rfl
@[simp] theorem s_gTsN : gTs [] [] ρ = some ρ := rfl
@[simp] theorem s_gTsC {gs : List GM} {ds : List D} : gTs (G :: gs) (d :: ds) ρ = (G d ρ).bind fun ρ' => gTs gs ds ρ' := rfl
@[simp] theorem s_gT {gs : List GM} {xs : List D} : gT gs (.tup xs) ρ = gTs gs xs ρ := rfl
@[simp] theorem s_skip : skip ρ = some (.next ρ) := rfl
@[simp] theorem s_seq : seq s t ρ = (s ρ).bind fun o => match o with | .next ρ' => t ρ' | o => some o := rfl
@[simp] theorem s_asg : asg G a ρ = (a ρ).bind fun d => (G d ρ).bind fun ρ' => some (.next ρ') := rfl
@[simp] theorem s_asgO : asgO i a ρ = (a ρ).bind fun d => some (.next (put ρ i (asOwn d))) := rfl
@[simp] theorem s_asOwn {xs : List D} : asOwn (.lst xs) = .own xs := rfl
@[simp] theorem s_frz {is : List Nat} : frz is s ρ = s (freeze ρ is) := rfl
@[simp] theorem s_ret : ret a ρ = (a ρ).bind fun d => some (.ret d) := rfl
@[simp] theorem s_retN : retN ρ = some (.ret .non) := rfl
@[simp] theorem s_iff : iff u s t ρ = (u ρ).bind fun c => if c then s ρ else t ρ := rfl
@[simp] theorem s_brk : brk ρ = some (.brk ρ) := rfl
@[simp] theorem s_cont : cont ρ = some (.cont ρ) := rfl
@[simp] theorem s_drop : drop a ρ = (a ρ).bind fun _ => some (.next ρ) := rfl
@[simp] theorem s_forS : forS r G s ρ = (r ρ).bind fun ds => forGo G s ds ρ := rfl
@[simp] theorem s_app : app i a ρ = (a ρ).bind fun d => match slot ρ i with
  | .own ds => if fits ds.length then some (.next (put ρ i (.own (ds ++ [d])))) else none
  | _ => none := rfl
@[simp] theorem s_ext : ext i a ρ = (a ρ).bind fun d => match slot ρ i, d with
  | .own ds, .lst es => if fits (ds.length + es.length) then some (.next (put ρ i (.own (ds ++ es)))) else none
  | _, _ => none := rfl
@[simp] theorem s_lc {vs : List Nat} : lc r vs G u a ρ = (r ρ).bind fun ds => (lcGo G u a (wipe ρ vs) ds).bind fun ys => some (.lst ys) := rfl
end
/-! ### operators -/
@[simp] theorem addD_i {i j : Int} : addD (.int i) (.int j) = some (.int (i + j)) := rfl
@[simp] theorem addI_i {i j : Int} : addI (.int i) (.int j) = some (.int (i + j)) := rfl
@[simp] theorem subD_i {i j : Int} : subD (.int i) (.int j) = some (.int (i - j)) := rfl
@[simp] theorem ltD_i {i j : Int} : ltD (.int i) (.int j) = some (.bl (decide (i < j))) := rfl
@[simp] theorem leD_i {i j : Int} : leD (.int i) (.int j) = some (.bl (decide (i ≤ j))) := rfl
@[simp] theorem gtD_i {i j : Int} : gtD (.int i) (.int j) = some (.bl (decide (j < i))) := rfl
@[simp] theorem geD_i {i j : Int} : geD (.int i) (.int j) = some (.bl (decide (j ≤ i))) := rfl
@[simp] theorem eqD_i {i j : Int} : eqD (.int i) (.int j) = some (.bl (decide (i = j))) := by
  simp only [eqD, scal, eqv, Bool.true_or, if_true, Option.some.injEq, D.bl.injEq]
  rw [Bool.eq_iff_iff]
  simp
@[simp] theorem neD_i {i j : Int} : neD (.int i) (.int j) = some (.bl (decide (i ≠ j))) := by
  simp only [neD, scal, eqv, Bool.true_or, if_true, Option.some.injEq, D.bl.injEq]
  rw [Bool.eq_iff_iff]
  simp
@[simp] theorem eqD_s {x y : List Nat} : eqD (.str x) (.str y) = some (.bl (decide (x = y))) := by
  simp only [eqD, scal, eqv, Bool.true_or, if_true, Option.some.injEq, D.bl.injEq]
  rw [Bool.eq_iff_iff]
  simp
@[simp] theorem negD_i {i : Int} : negD (.int i) = some (.int (-i)) := rfl
@[simp] theorem notD_b {b : Bool} : notD (.bl b) = some (.bl (!b)) := rfl
@[simp] theorem int1_b {b : Bool} : int1 (.bl b) = some (.int (if b then 1 else 0)) := rfl
theorem mulD_i {i j : Int} (h1 : -18446744073709551616 < i) (h2 : i < 18446744073709551616) : mulD (.int i) (.int j) = some (.int (i * j)) := by
  simp only [mulD]
  exact if_pos (cl_iff.mpr ⟨h1, h2⟩)
theorem modD_i {i j : Int} (h : 0 < j) : modD (.int i) (.int j) = some (.int (i % j)) := by
  simp only [modD]
  rw [if_pos (by omega), Int.fmod_eq_emod_of_nonneg i (by omega)]
theorem fdivD_i {i j : Int} (h : 0 < j) (h2 : j < 1073741824) : fdivD (.int i) (.int j) = some (.int (i / j)) := by
  simp only [fdivD]
  rw [if_pos (cl_iff.mpr (by omega)), Int.fdiv_eq_ediv_of_nonneg i (by omega)]
@[simp] theorem lenD_l {xs : List D} : lenD (.lst xs) = some (.int xs.length) := rfl
@[simp] theorem lenD_t {xs : List D} : lenD (.tup xs) = some (.int xs.length) := rfl
@[simp] theorem lenD_f {xs : List Int} : lenD (.fz xs) = some (.int xs.length) := rfl
@[simp] theorem tupleD_l {xs : List D} : tupleD (.lst xs) = some (.tup xs) := rfl
@[simp] theorem isTup_t {xs : List D} : isTup (.tup xs) = some (.bl true) := rfl
@[simp] theorem isTup_i {i : Int} : isTup (.int i) = some (.bl false) := rfl
@[simp] theorem isInt_i {i : Int} : isInt (.int i) = some (.bl true) := rfl
@[simp] theorem isBool_i {i : Int} : isBool (.int i) = some (.bl false) := rfl
theorem atI_p {α : Type} {xs : List α} {i : Int} (h : 0 ≤ i) : atI xs i = xs[i.toNat]? := by
  unfold atI ixN
  rw [if_pos h]
  by_cases q : i < xs.length
  · rw [if_pos q]
    rfl
  · rw [if_neg q]
    symm
    simp
    omega
theorem atI_m {α : Type} {xs : List α} {i : Int} (h : i < 0) (h2 : -(xs.length : Int) ≤ i) : atI xs i = xs[(i + xs.length).toNat]? := by
  unfold atI ixN
  rw [if_neg (by omega), if_pos h2]
  rfl
theorem ix_t {xs : List D} {i : Int} (h : 0 ≤ i) : ixD (.tup xs) (.int i) = xs[i.toNat]? := atI_p h
theorem ix_l {xs : List D} {i : Int} (h : 0 ≤ i) : ixD (.lst xs) (.int i) = xs[i.toNat]? := atI_p h
theorem ix_f {xs : List Int} {i : Int} (h : 0 ≤ i) : ixD (.fz xs) (.int i) = xs[i.toNat]?.map D.int := by
  show (atI xs i).map D.int = _
  rw [atI_p h]
@[simp] theorem ix_t0 {a : D} {xs : List D} : ixD (.tup (a :: xs)) (.int 0) = some a := by rw [ix_t (by decide)]; rfl
@[simp] theorem ix_t1 {a b : D} {xs : List D} : ixD (.tup (a :: b :: xs)) (.int 1) = some b := by rw [ix_t (by decide)]; rfl
@[simp] theorem ix_t2 {a b c : D} {xs : List D} : ixD (.tup (a :: b :: c :: xs)) (.int 2) = some c := by rw [ix_t (by decide)]; rfl
@[simp] theorem ix_t3 {a b c d : D} {xs : List D} : ixD (.tup (a :: b :: c :: d :: xs)) (.int 3) = some d := by rw [ix_t (by decide)]; rfl
@[simp] theorem ix_l0 {a : D} {xs : List D} : ixD (.lst (a :: xs)) (.int 0) = some a := by rw [ix_l (by decide)]; rfl
@[simp] theorem ix_l1 {a b : D} {xs : List D} : ixD (.lst (a :: b :: xs)) (.int 1) = some b := by rw [ix_l (by decide)]; rfl
@[simp] theorem ix_l2 {a b c : D} {xs : List D} : ixD (.lst (a :: b :: c :: xs)) (.int 2) = some c := by rw [ix_l (by decide)]; rfl
theorem fits_of {n : Nat} (h : n ≤ 16000000) : fits n = true := cl_iff.mpr h
theorem rangeL_map : ∀ (n : Nat) (lo : Int), rangeL lo n = (List.range n).map fun i => D.int (lo + (i : Nat))
  | 0, lo => rfl
  | n + 1, lo => by
    rw [List.range_succ_eq_map, List.map_cons, List.map_map]
    unfold rangeL
    rw [rangeL_map n (lo + 1)]
    simp only [Int.natCast_zero, Int.add_zero, List.cons.injEq, true_and]
    refine List.map_congr_left fun i _ => ?_
    simp only [Function.comp_apply, Nat.succ_eq_add_one, Int.natCast_add, Int.natCast_one]
    congr 1
    omega
theorem range0 (n : Nat) : rangeL 0 n = (List.range n).map fun i : Nat => D.int i := by
  rw [rangeL_map]
  exact List.map_congr_left fun i _ => by simp
theorem iR1_i {a : EM} {ρ : Env} {n : Int} (h : a ρ = some (.int n)) (h1 : n ≤ 1000000) (h0 : 0 ≤ n) : iR1 a ρ = some ((List.range n.toNat).map fun i : Nat => D.int i) := by
  simp only [iR1, h, Option.bind_some, s_asInt]
  rw [if_pos, range0]
  simp only [small, Bool.and_eq_true, cl_iff]
  exact ⟨⟨by omega, by omega⟩, fits_of (by omega)⟩
theorem rangeD_i {n : Nat} (h1 : n ≤ 1000000) : rangeD (.int n) = some (.lst ((List.range n).map fun i : Nat => D.int i)) := by
  simp only [rangeD]
  rw [if_pos, range0, Int.toNat_natCast]
  simp only [small, Bool.and_eq_true, cl_iff]
  exact ⟨⟨by omega, by omega⟩, fits_of (by omega)⟩
theorem ints_map (ns : List Int) : intsD (ns.map .int) = some ns := by
  induction ns with
  | nil => rfl
  | cons n r ih => simp only [List.map_cons, intsD, ih, Option.map_some]
/-! ### comprehensions -/
theorem lcGo_map {α : Type} {G : GM} {c : TM} {e : EM} {ρ : Env} {enc : α → D} (p : α → Bool) (q : α → D) : ∀ (l : List α), (∀ a ∈ l, ∃ ρ1, G (enc a) ρ = some ρ1 ∧ c ρ1 = some (p a) ∧ (p a = true → e ρ1 = some (q a))) →
    lcGo G c e ρ (l.map enc) = some ((l.filter p).map q)
  | [], _ => rfl
  | a :: r, h => by
    obtain ⟨ρ1, h1, h2, h3⟩ := h a List.mem_cons_self
    have ih := lcGo_map (G := G) (c := c) (e := e) (ρ := ρ) p q r fun b hb => h b (List.mem_cons_of_mem _ hb)
    simp only [List.map_cons, lcGo, h1, Option.bind_some, h2]
    cases hp : p a with
    | true => rw [if_pos rfl, h3 hp, ih, List.filter_cons, if_pos hp]; rfl
    | false => rw [if_neg (by decide), ih, List.filter_cons, if_neg (by simp [hp])]
/-- without a test -/
theorem lcGo_all {α : Type} {G : GM} {e : EM} {ρ : Env} {enc : α → D} (q : α → D) (l : List α) (h : ∀ a ∈ l, ∃ ρ1, G (enc a) ρ = some ρ1 ∧ e ρ1 = some (q a)) : lcGo G tYes e ρ (l.map enc) = some (l.map q) := by
  rw [lcGo_map (fun _ => true) q l fun a ha => by
    obtain ⟨ρ1, h1, h2⟩ := h a ha
    exact ⟨ρ1, h1, rfl, fun _ => h2⟩]
  rw [List.filter_eq_self.mpr fun _ _ => rfl]
end Mir
namespace Mir
/-! ### loops -/
theorem forGo_fold {α σ : Type} {g : GM} {body : SM} {enc : α → D} (step : σ → α → σ) (R : σ → Env → Prop) : ∀ (l : List α) (s : σ) (ρ : Env), R s ρ →
    (∀ a ∈ l, ∀ s ρ, R s ρ → ∃ ρ1 ρ2, g (enc a) ρ = some ρ1 ∧ body ρ1 = some (.next ρ2) ∧ R (step s a) ρ2) → ∃ ρ', forGo g body (l.map enc) ρ = some (.next ρ') ∧ R (l.foldl step s) ρ'
  | [], s, ρ, h, _ => ⟨ρ, rfl, h⟩
  | a :: r, s, ρ, h, k => by
    obtain ⟨ρ1, ρ2, h1, h2, h3⟩ := k a List.mem_cons_self s ρ h
    obtain ⟨ρ', e, q⟩ := forGo_fold (g := g) (body := body) (enc := enc) step R r (step s a) ρ2 h3 fun b hb => k b (List.mem_cons_of_mem _ hb)
    refine ⟨ρ', ?_, q⟩
    simp only [List.map_cons, forGo, h1, Option.bind_some, h2]
    exact e
/-- the loop's state is told by the place -/
theorem forGo_all {α : Type} {g : GM} {body : SM} {enc : α → D} (R : Env → Prop) (l : List α) (ρ : Env) (h : R ρ)
    (k : ∀ a ∈ l, ∀ ρ, R ρ → ∃ ρ1 ρ2, g (enc a) ρ = some ρ1 ∧ body ρ1 = some (.next ρ2) ∧ R ρ2) : ∃ ρ', forGo g body (l.map enc) ρ = some (.next ρ') ∧ R ρ' := by
  obtain ⟨ρ', e, q⟩ := forGo_fold (g := g) (body := body) (enc := enc) (σ := Unit) (fun _ _ => ()) (fun _ => R) l () ρ h fun a ha _ ρ r => k a ha ρ r
  exact ⟨ρ', e, q⟩
theorem take_k {α : Type} (xs : List α) {k : Int} (h : 0 ≤ k) : cut xs none (some k) = xs.take k.toNat := by
  simp only [cut, sIx, Nat.sub_zero, List.drop_zero]
  rw [if_neg (by omega)]
  by_cases q : k.toNat ≤ xs.length
  · rw [Nat.min_eq_left q]
  · rw [Nat.min_eq_right (by omega), List.take_of_length_le (Nat.le_refl _), List.take_of_length_le (by omega)]
theorem drop_k {α : Type} (xs : List α) {k : Int} (h : 0 ≤ k) : cut xs (some k) none = xs.drop k.toNat := by
  simp only [cut, sIx]
  rw [if_neg (by omega)]
  by_cases q : k.toNat ≤ xs.length
  · rw [Nat.min_eq_left q, List.take_of_length_le (by simp)]
  · rw [Nat.min_eq_right (by omega), Nat.sub_self, List.take_zero, List.drop_eq_nil_of_le (by omega)]
theorem cut_k {α : Type} (xs : List α) {j k : Int} (h : 0 ≤ j) (h2 : 0 ≤ k) : cut xs (some j) (some k) = (xs.take k.toNat).drop j.toNat := by
  simp only [cut, sIx]
  rw [if_neg (by omega), if_neg (by omega), List.drop_take]
  by_cases q : j.toNat ≤ xs.length
  · rw [Nat.min_eq_left q]
    by_cases q2 : k.toNat ≤ xs.length
    · rw [Nat.min_eq_left q2]
    · rw [Nat.min_eq_right (by omega), List.take_of_length_le (by simp), List.take_of_length_le (by simp; omega)]
  · have q' : xs.length ≤ j.toNat := by omega
    rw [Nat.min_eq_right q', List.drop_eq_nil_of_le (Nat.le_refl _), List.drop_eq_nil_of_le q', List.take_nil, List.take_nil]
end Mir
namespace Mir
theorem forGo_ix {α σ : Type} {g : GM} {body : SM} {enc : α → D} (step : σ → α → σ) (R : Nat → σ → Env → Prop) : ∀ (l : List α) (n : Nat) (s : σ) (ρ : Env), R n s ρ →
    (∀ i a, l[i]? = some a → ∀ s ρ, R (n + i) s ρ → ∃ ρ1 ρ2, g (enc a) ρ = some ρ1 ∧ body ρ1 = some (.next ρ2) ∧ R (n + i + 1) (step s a) ρ2) → ∃ ρ', forGo g body (l.map enc) ρ = some (.next ρ') ∧ R (n + l.length) (l.foldl step s) ρ'
  | [], n, s, ρ, h, _ => ⟨ρ, rfl, h⟩
  | a :: r, n, s, ρ, h, k => by
    obtain ⟨ρ1, ρ2, h1, h2, h3⟩ := k 0 a rfl s ρ h
    obtain ⟨ρ', e, q⟩ := forGo_ix (g := g) (body := body) (enc := enc) step R r (n + 1) (step s a) ρ2 h3 fun i b hb s ρ hr => by
      have := k (i + 1) b hb s ρ (by rw [show n + (i + 1) = n + 1 + i by omega]; exact hr)
      rw [show n + (i + 1) + 1 = n + 1 + i + 1 by omega] at this
      exact this
    refine ⟨ρ', ?_, ?_⟩
    · simp only [List.map_cons, forGo, h1, Option.bind_some, h2]
      exact e
    · rw [List.length_cons, show n + (r.length + 1) = n + 1 + r.length by omega]
      exact q
theorem foldl_filter {α : Type} (p : α → Bool) : ∀ (l acc : List α), l.foldl (fun acc a => if p a = true then acc ++ [a] else acc) acc = acc ++ l.filter p
  | [], acc => by simp
  | a :: r, acc => by
    rw [List.foldl_cons, foldl_filter p r, List.filter_cons]
    by_cases h : p a = true
    · rw [if_pos h, if_pos h, List.append_assoc, List.singleton_append]
    · rw [if_neg h, if_neg h]
theorem foldl_map {α β : Type} (f : α → β) : ∀ (l : List α) (acc : List β), l.foldl (fun acc a => acc ++ [f a]) acc = acc ++ l.map f
  | [], acc => by simp
  | a :: r, acc => by
    rw [List.foldl_cons, foldl_map f r, List.map_cons, List.append_assoc, List.singleton_append]
theorem bools_map (bs : List Bool) : bools (bs.map .bl) = some bs := by
  induction bs with
  | nil => rfl
  | cons b r ih => simp only [List.map_cons, bools, ih, Option.map_some]
/-! ### sorted(set(..)) -/
theorem mem_dedup : ∀ (l : List Int) (x : Int), x ∈ dedup l ↔ x ∈ l
  | [], x => by simp [dedup]
  | y :: r, x => by
    unfold dedup
    split
    · rename_i h
      rw [mem_dedup r x, List.mem_cons]
      exact ⟨.inr, fun h' => h'.elim (fun e => e ▸ h) id⟩
    · rw [List.mem_cons, List.mem_cons, mem_dedup r x]
theorem nodup_dedup : ∀ l : List Int, (dedup l).Nodup
  | [] => List.nodup_nil
  | y :: r => by
    unfold dedup
    split
    · exact nodup_dedup r
    · rename_i h
      exact List.nodup_cons.mpr ⟨fun q => h ((mem_dedup r y).mp q), nodup_dedup r⟩
def starts (l : List Int) : List Int := (dedup l).mergeSort fun a b => decide (a ≤ b)
theorem mem_starts (l : List Int) (x : Int) : x ∈ starts l ↔ x ∈ l := by
  unfold starts
  rw [List.mem_mergeSort, mem_dedup]
theorem starts_lt (l : List Int) : (starts l).Pairwise (· < ·) := by
  have p := List.pairwise_mergeSort (le := fun a b : Int => decide (a ≤ b)) (fun a b c h1 h2 => by simp only [decide_eq_true_eq] at *; omega) (fun a b => by simp only [Bool.or_eq_true, decide_eq_true_eq]; omega) (dedup l)
  have nd : ((dedup l).mergeSort fun a b => decide (a ≤ b)).Nodup := ((List.mergeSort_perm _ _).nodup_iff).mpr (nodup_dedup l)
  exact (p.and nd).imp fun ⟨h1, h2⟩ => by
    simp only [decide_eq_true_eq] at h1
    omega
theorem dedup_len : ∀ l : List Int, (dedup l).length ≤ l.length
  | [] => Nat.le_refl _
  | y :: r => by
    unfold dedup
    have := dedup_len r
    split
    · simp; omega
    · simp; omega
theorem starts_len (l : List Int) : (starts l).length ≤ l.length := by
  unfold starts
  rw [List.length_mergeSort]
  exact dedup_len l
theorem sortSet_i {l : List Int} (h : l.length < 64) : sortSet (.lst (l.map .int)) = some (.lst ((starts l).map .int)) := by
  simp only [sortSet, ints_map, Option.bind_some, if_pos h]
  rfl
end Mir
namespace Mir
/-! ### least, greatest -/
theorem minL_spec : ∀ (r : List Int) (a : Int), minL a r ∈ a :: r ∧ ∀ x ∈ a :: r, minL a r ≤ x
  | [], a => ⟨List.mem_cons_self, fun x hx => by
    rcases List.mem_cons.mp hx with rfl | h
    · exact Int.le_refl _
    · simp at h⟩
  | b :: r, a => by
    unfold minL
    obtain ⟨h1, h2⟩ := minL_spec r (if b < a then b else a)
    by_cases q : b < a
    · rw [if_pos q] at h1 h2 ⊢
      refine ⟨List.mem_cons_of_mem _ h1, fun x hx => ?_⟩
      rcases List.mem_cons.mp hx with rfl | hx
      · have := h2 b List.mem_cons_self
        omega
      · exact h2 x hx
    · rw [if_neg q] at h1 h2 ⊢
      have ha := h2 a List.mem_cons_self
      refine ⟨?_, fun x hx => ?_⟩
      · rcases List.mem_cons.mp h1 with e | e
        · rw [e]; exact List.mem_cons_self
        · exact List.mem_cons_of_mem _ (List.mem_cons_of_mem _ e)
      · rcases List.mem_cons.mp hx with rfl | hx
        · exact ha
        · rcases List.mem_cons.mp hx with rfl | hx
          · omega
          · exact h2 x (List.mem_cons_of_mem _ hx)
theorem maxL_spec : ∀ (r : List Int) (a : Int), maxL a r ∈ a :: r ∧ ∀ x ∈ a :: r, x ≤ maxL a r
  | [], a => ⟨List.mem_cons_self, fun x hx => by
    rcases List.mem_cons.mp hx with rfl | h
    · exact Int.le_refl _
    · simp at h⟩
  | b :: r, a => by
    unfold maxL
    obtain ⟨h1, h2⟩ := maxL_spec r (if a < b then b else a)
    by_cases q : a < b
    · rw [if_pos q] at h1 h2 ⊢
      refine ⟨List.mem_cons_of_mem _ h1, fun x hx => ?_⟩
      rcases List.mem_cons.mp hx with rfl | hx
      · have := h2 b List.mem_cons_self
        omega
      · exact h2 x hx
    · rw [if_neg q] at h1 h2 ⊢
      have ha := h2 a List.mem_cons_self
      refine ⟨?_, fun x hx => ?_⟩
      · rcases List.mem_cons.mp h1 with e | e
        · rw [e]; exact List.mem_cons_self
        · exact List.mem_cons_of_mem _ (List.mem_cons_of_mem _ e)
      · rcases List.mem_cons.mp hx with rfl | hx
        · exact ha
        · rcases List.mem_cons.mp hx with rfl | hx
          · omega
          · exact h2 x (List.mem_cons_of_mem _ hx)
theorem minD_of {l : List Int} {m : Int} (h1 : m ∈ l) (h2 : ∀ x ∈ l, m ≤ x) : minD (.lst (l.map .int)) = some (.int m) := by
  cases l with
  | nil => simp at h1
  | cons a r =>
    simp only [minD, ints_map, Option.bind_some]
    obtain ⟨h3, h4⟩ := minL_spec r a
    have e : minL a r = m := by
      have := h2 _ h3
      have := h4 _ h1
      omega
    rw [e]
theorem maxD_of {l : List Int} {m : Int} (h1 : m ∈ l) (h2 : ∀ x ∈ l, x ≤ m) : maxD (.lst (l.map .int)) = some (.int m) := by
  cases l with
  | nil => simp at h1
  | cons a r =>
    simp only [maxD, ints_map, Option.bind_some]
    obtain ⟨h3, h4⟩ := maxL_spec r a
    have e : maxL a r = m := by
      have := h2 _ h3
      have := h4 _ h1
      omega
    rw [e]
/-! ### == of lists -/
theorem okDs_all : ∀ {ds : List D}, okDs ds = true ↔ ∀ d ∈ ds, okD d = true
  | [] => by simp [okDs]
  | d :: r => by simp [okDs, okDs_all (ds := r)]
theorem deps_le {n : Nat} : ∀ {ds : List D}, deps ds ≤ n ↔ ∀ d ∈ ds, dep d ≤ n
  | [] => by simp [deps]
  | d :: r => by
    simp only [deps, List.mem_cons, forall_eq_or_imp]
    rw [← deps_le (ds := r)]
    omega
theorem shp_lst {n : Nat} {ds : List D} (h : ∀ d ∈ ds, okD d = true ∧ dep d ≤ n) (hn : n ≤ 63) : shp (.lst ds) = true := by
  have h2 : deps ds ≤ n := deps_le.mpr fun d hd => (h d hd).2
  have h3 : okD (.lst ds) = true := by
    rw [okD]
    exact okDs_all.mpr fun d hd => (h d hd).1
  have h4 : dep (.lst ds) = deps ds + 1 := by rw [dep]
  simp only [shp, h3, h4, Bool.true_and, decide_eq_true_eq]
  omega
theorem eqD_nil {ds : List D} (h : shp (.lst ds) = true) : eqD (.lst ds) (.lst []) = some (.bl ds.isEmpty) := by
  have e : shp (.lst []) = true := by simp [shp, okD, okDs, dep, deps]
  simp only [eqD, h, e, Bool.and_self, Bool.or_true, if_true]
  cases ds <;> simp [eqv, eqvs]
theorem neD_nil {ds : List D} (h : shp (.lst ds) = true) : neD (.lst ds) (.lst []) = some (.bl (!ds.isEmpty)) := by
  have e : shp (.lst []) = true := by simp [shp, okD, okDs, dep, deps]
  simp only [neD, h, e, Bool.and_self, Bool.or_true, if_true]
  cases ds <;> simp [eqv, eqvs]
end Mir
namespace Mir
theorem zipL_map {α β : Type} (f : α → D) (g : β → D) : ∀ (xs : List α) (ys : List β), zipL (xs.map f) (ys.map g) = (xs.zip ys).map fun p => .tup [f p.1, g p.2]
  | [], _ => by simp [zipL]
  | _ :: _, [] => by simp [zipL]
  | x :: xs, y :: ys => by simp [zipL, zipL_map f g xs ys]
theorem iZp_l {a b : EM} {ρ : Env} {xs ys : List D} (ha : a ρ = some (.lst xs)) (hb : b ρ = some (.lst ys)) : iZp a b ρ = some (zipL xs ys) := by
  simp [iZp, ha, hb]
theorem s_iZp {a b : EM} {ρ : Env} : iZp a b ρ = (a ρ).bind fun x => (b ρ).bind fun y => (asL x).bind fun xs => (asL y).bind fun ys => some (zipL xs ys) := rfl
end Mir
namespace Mir
/-- a loop that may end by a return -/
theorem forGo_ret {α σ : Type} {g : GM} {body : SM} {enc : α → D} {d : D} (bad : α → Prop) (step : σ → α → σ) (R : Nat → σ → Env → Prop) : ∀ (l : List α) (n : Nat) (s : σ) (ρ : Env), R n s ρ →
    (∀ i a, l[i]? = some a → ∀ s ρ, R (n + i) s ρ → ∃ ρ1, g (enc a) ρ = some ρ1 ∧ ((bad a ∧ body ρ1 = some (.ret d)) ∨ (¬ bad a ∧ ∃ ρ2, body ρ1 = some (.next ρ2) ∧ R (n + i + 1) (step s a) ρ2))) →
    ((∃ a ∈ l, bad a) ∧ forGo g body (l.map enc) ρ = some (.ret d)) ∨ ((∀ a ∈ l, ¬ bad a) ∧ ∃ ρ', forGo g body (l.map enc) ρ = some (.next ρ') ∧ R (n + l.length) (l.foldl step s) ρ')
  | [], n, s, ρ, h, _ => .inr ⟨fun a ha => by simp at ha, ρ, rfl, h⟩
  | a :: r, n, s, ρ, h, k => by
    obtain ⟨ρ1, h1, h2 | ⟨h2, ρ2, h3, h4⟩⟩ := k 0 a rfl s ρ h
    · refine .inl ⟨⟨a, List.mem_cons_self, h2.1⟩, ?_⟩
      simp only [List.map_cons, forGo, h1, Option.bind_some, h2.2]
    · have e0 : forGo g body ((a :: r).map enc) ρ = forGo g body (r.map enc) ρ2 := by
        simp only [List.map_cons, forGo, h1, Option.bind_some, h3]
      rcases forGo_ret (g := g) (body := body) (enc := enc) (d := d) bad step R r (n + 1) (step s a) ρ2 h4 (fun i b hb s ρ hr => by
        have := k (i + 1) b hb s ρ (by rw [show n + (i + 1) = n + 1 + i by omega]; exact hr)
        rw [show n + (i + 1) + 1 = n + 1 + i + 1 by omega] at this
        exact this) with ⟨⟨b, hb, q⟩, e⟩ | ⟨q, ρ', e, q2⟩
      · exact .inl ⟨⟨b, List.mem_cons_of_mem _ hb, q⟩, e0.trans e⟩
      · refine .inr ⟨fun b hb => ?_, ρ', e0.trans e, ?_⟩
        · rcases List.mem_cons.mp hb with rfl | hb
          · exact h2
          · exact q b hb
        · rw [List.length_cons, show n + (r.length + 1) = n + 1 + r.length by omega]
          exact q2
/-! ### while -/
theorem whGo_succ {t : TM} {body : SM} : ∀ {n : Nat} {ρ : Env} {o : Out}, whGo t body n ρ = some o → whGo t body (n + 1) ρ = some o
  | 0, ρ, o, h => by simp [whGo] at h
  | n + 1, ρ, o, h => by
    rw [whGo] at h ⊢
    rw [Option.bind_eq_some_iff] at h ⊢
    obtain ⟨c, hc, h⟩ := h
    refine ⟨c, hc, ?_⟩
    cases c with
    | false => exact h
    | true =>
      rw [if_pos rfl, Option.bind_eq_some_iff] at h ⊢
      obtain ⟨x, hx, h⟩ := h
      refine ⟨x, hx, ?_⟩
      cases x with
      | next ρ' => exact whGo_succ h
      | cont ρ' => exact whGo_succ h
      | brk ρ' => exact h
      | ret d => exact h
theorem whGo_add {t : TM} {body : SM} {n : Nat} {ρ : Env} {o : Out} (h : whGo t body n ρ = some o) : ∀ k, whGo t body (n + k) ρ = some o
  | 0 => h
  | k + 1 => whGo_succ (whGo_add h k)
theorem whS_of {t : TM} {body : SM} {n : Nat} {ρ : Env} {o : Out} (h : whGo t body n ρ = some o) : whS t body ρ = some o := by
  have hx : ∃ n o, whGo t body n ρ = some o := ⟨n, o, h⟩
  unfold whS
  rw [dif_pos hx]
  have h2 := Classical.choose_spec (Classical.choose_spec hx)
  have a := whGo_add h2 n
  have b := whGo_add h (Classical.choose hx)
  rw [Nat.add_comm] at b
  exact a.symm.trans b
theorem whGo_step {t : TM} {body : SM} {n : Nat} {ρ ρ' : Env} {o : Out} (ht : t ρ = some true) (hb : body ρ = some (.next ρ')) (h : whGo t body n ρ' = some o) : whGo t body (n + 1) ρ = some o := by
  rw [whGo, ht, Option.bind_some, if_pos rfl, hb]
  exact h
theorem whGo_end {t : TM} {body : SM} {ρ : Env} (ht : t ρ = some false) : whGo t body 1 ρ = some (.next ρ) := by
  rw [whGo, ht, Option.bind_some, if_neg (by decide)]
theorem whGo_ret {t : TM} {body : SM} {ρ : Env} {d : D} (ht : t ρ = some true) (hb : body ρ = some (.ret d)) : whGo t body 1 ρ = some (.ret d) := by
  rw [whGo, ht, Option.bind_some, if_pos rfl, hb]
  rfl
end Mir
namespace Mir
@[simp] theorem s_popS {i : Nat} {g : GM} {ρ : Env} : popS i g ρ = match slot ρ i with
  | .own ds => (ds[ds.length - 1]?).bind fun d => (g d (put ρ i (.own ds.dropLast))).bind fun ρ' => some (.next ρ')
  | _ => none := rfl
theorem iR2_i {a b : EM} {ρ : Env} {i j : Int} (h : a ρ = some (.int i)) (h' : b ρ = some (.int j)) (h1 : j ≤ 1000000) (h0 : 0 ≤ i) (hij : i ≤ j) : iR2 a b ρ = some (rangeL i (j - i).toNat) := by
  simp only [iR2, h, h', Option.bind_some, s_asInt]
  rw [if_pos]
  simp only [small, Bool.and_eq_true, cl_iff]
  exact ⟨⟨⟨by omega, by omega⟩, ⟨by omega, by omega⟩⟩, fits_of (by omega)⟩
end Mir
set_option linter.all false
/-! PG: boxes that fill a rectangle. -/
namespace PG
structure Bx where
  l : Int
  t : Int
  r : Int
  b : Int
deriving DecidableEq
def Bx.ok (b : Bx) : Prop := b.l < b.r ∧ b.t < b.b
def Bx.has (b : Bx) (x y : Int) : Prop := b.l ≤ x ∧ x < b.r ∧ b.t ≤ y ∧ y < b.b
instance (b : Bx) (x y : Int) : Decidable (b.has x y) := by unfold Bx.has; infer_instance
def ind (b : Bx) (x y : Int) : Int := if b.has x y then 1 else 0
def cov (bs : List Bx) (x y : Int) : Int := (bs.map fun b => ind b x y).sum
structure Til (R : Bx) (bs : List Bx) : Prop where
  ok : ∀ b ∈ bs, b.ok
  cov : ∀ x y, cov bs x y = ind R x y
theorem ind_nn (b : Bx) (x y : Int) : 0 ≤ ind b x y := by unfold ind; split <;> decide
theorem ind_le (b : Bx) (x y : Int) : ind b x y ≤ 1 := by unfold ind; split <;> decide
theorem ind_1 {b : Bx} {x y : Int} : ind b x y = 1 ↔ b.has x y := by
  unfold ind
  split <;> simp_all
theorem cov_nil (x y : Int) : cov [] x y = 0 := rfl
theorem cov_cons (b : Bx) (bs : List Bx) (x y : Int) : cov (b :: bs) x y = ind b x y + cov bs x y := by simp [cov]
theorem cov_app (as bs : List Bx) (x y : Int) : cov (as ++ bs) x y = cov as x y + cov bs x y := by simp [cov]
theorem cov_nn (bs : List Bx) (x y : Int) : 0 ≤ cov bs x y := by
  induction bs with
  | nil => exact Int.le_refl 0
  | cons b r ih =>
    rw [cov_cons]
    have := ind_nn b x y
    omega
theorem ind_y {b : Bx} {x y : Int} (h : b.has x y) : ind b x y = 1 := if_pos h
theorem ind_n {b : Bx} {x y : Int} (h : ¬ b.has x y) : ind b x y = 0 := if_neg h
theorem ind_eq (b : Bx) (x y : Int) : ind b x y = if b.l ≤ x ∧ x < b.r ∧ b.t ≤ y ∧ y < b.b then 1 else 0 := by
  by_cases h : b.has x y
  · rw [ind_y h]
    exact (if_pos h).symm
  · rw [ind_n h]
    exact (if_neg h).symm
theorem cov_perm {as bs : List Bx} (h : as.Perm bs) (x y : Int) : cov as x y = cov bs x y := by
  induction h with
  | nil => rfl
  | cons b _ ih => rw [cov_cons, cov_cons, ih]
  | swap a b r =>
    rw [cov_cons, cov_cons, cov_cons, cov_cons]
    omega
  | trans _ _ h1 h2 => exact h1.trans h2
theorem cov_mem {bs : List Bx} {b : Bx} {x y : Int} (hb : b ∈ bs) (h : b.has x y) : 1 ≤ cov bs x y := by
  induction bs with
  | nil => exact absurd hb (by simp)
  | cons c r ih =>
    rw [cov_cons]
    rcases List.mem_cons.mp hb with rfl | hb
    · have := ind_1.mpr h
      have := cov_nn r x y
      omega
    · have := ih hb
      have := ind_nn c x y
      omega
theorem cov_ex {bs : List Bx} {x y : Int} (h : 1 ≤ cov bs x y) : ∃ b ∈ bs, b.has x y := by
  induction bs with
  | nil =>
    rw [cov_nil] at h
    omega
  | cons c r ih =>
    by_cases q : c.has x y
    · exact ⟨c, List.mem_cons_self, q⟩
    · rw [cov_cons] at h
      have : ind c x y = 0 := by
        unfold ind
        rw [if_neg q]
      obtain ⟨b, hb, hq⟩ := ih (by omega)
      exact ⟨b, List.mem_cons_of_mem _ hb, hq⟩
theorem Til.perm {R : Bx} {as bs : List Bx} (h : as.Perm bs) (t : Til R as) : Til R bs :=
  ⟨fun b hb => t.ok b (h.mem_iff.mpr hb), fun x y => by rw [← cov_perm h]; exact t.cov x y⟩
theorem Til.one {R : Bx} (h : R.ok) : Til R [R] := ⟨fun b hb => by
  rw [List.mem_singleton.mp hb]
  exact h, fun x y => by
  rw [cov_cons, cov_nil]
  omega⟩
theorem Til.sub {R b : Bx} {as cs some : List Bx} (t : Til R (as ++ [b] ++ cs)) (s : Til b some) : Til R (as ++ some ++ cs) := by
  refine ⟨fun c hc => ?_, fun x y => ?_⟩
  · rcases List.mem_append.mp hc with hc | hc
    · rcases List.mem_append.mp hc with hc | hc
      · exact t.ok c (by simp [hc])
      · exact s.ok c hc
    · exact t.ok c (by simp [hc])
  · have h1 := t.cov x y
    have h2 := s.cov x y
    rw [cov_app, cov_app, cov_cons, cov_nil] at h1
    rw [cov_app, cov_app]
    omega
theorem Til.within {R : Bx} {bs : List Bx} (t : Til R bs) {b : Bx} (hb : b ∈ bs) : R.l ≤ b.l ∧ R.t ≤ b.t ∧ b.r ≤ R.r ∧ b.b ≤ R.b := by
  obtain ⟨h1, h2⟩ := t.ok b hb
  have k : ∀ x y, b.has x y → R.has x y := fun x y h => by
    have h3 := cov_mem hb h
    rw [t.cov] at h3
    have := ind_le R x y
    exact ind_1.mp (by omega)
  have k1 := k b.l b.t ⟨by omega, by omega, by omega, by omega⟩
  have k2 := k (b.r - 1) (b.b - 1) ⟨by omega, by omega, by omega, by omega⟩
  unfold Bx.has at k1 k2
  omega
theorem Til.ex {R : Bx} {bs : List Bx} (t : Til R bs) {x y : Int} (h : R.has x y) : ∃ b ∈ bs, b.has x y := cov_ex (by
  rw [t.cov, ind_1.mpr h]
  decide)
theorem Til.le {R : Bx} {bs : List Bx} (t : Til R bs) (x y : Int) : PG.cov bs x y ≤ 1 := by
  rw [t.cov]
  exact ind_le R x y
theorem apart : ∀ {bs : List Bx}, (∀ x y, cov bs x y ≤ 1) → bs.Pairwise fun a b => ∀ x y, a.has x y → ¬ b.has x y
  | [], _ => .nil
  | c :: r, h => by
    refine .cons (fun b hb x y h1 h2 => ?_) (apart fun x y => ?_)
    · have := h x y
      rw [cov_cons, ind_1.mpr h1] at this
      have := cov_mem hb h2
      omega
    · have := h x y
      rw [cov_cons] at this
      have := ind_nn c x y
      omega
/-- two boxes that share a place are one -/
theorem Til.same {R : Bx} {bs : List Bx} (t : Til R bs) {a b : Bx} (ha : a ∈ bs) (hb : b ∈ bs) {x y : Int} (h1 : a.has x y) (h2 : b.has x y) : a = b := by
  have p := apart t.le
  induction bs with
  | nil => exact absurd ha (by simp)
  | cons c r _ =>
    have key : ∀ {l : List Bx}, l.Pairwise (fun a b => ∀ x y, a.has x y → ¬ b.has x y) → a ∈ l → b ∈ l → a = b := by
      intro l p
      induction p with
      | nil => intro h _; exact absurd h (by simp)
      | cons hd _ ih =>
        intro ha hb
        rcases List.mem_cons.mp ha with e | ha'
        · rcases List.mem_cons.mp hb with e' | hb'
          · exact e.trans e'.symm
          · exact absurd h2 (hd b hb' x y (e ▸ h1))
        · rcases List.mem_cons.mp hb with e' | hb'
          · exact absurd h1 (hd a ha' x y (e' ▸ h2))
          · exact ih ha' hb'
    exact key p ha hb
/-- the rectangle's sides are the outermost -/
theorem Til.ext {R : Bx} {bs : List Bx} (t : Til R bs) (h : R.ok) : (∃ b ∈ bs, b.l = R.l) ∧ (∃ b ∈ bs, b.t = R.t) ∧ (∃ b ∈ bs, b.r = R.r) ∧ ∃ b ∈ bs, b.b = R.b := by
  obtain ⟨h1, h2⟩ := h
  obtain ⟨a, ha, ka⟩ := t.ex (x := R.l) (y := R.t) ⟨by omega, by omega, by omega, by omega⟩
  obtain ⟨c, hc, kc⟩ := t.ex (x := R.r - 1) (y := R.b - 1) ⟨by omega, by omega, by omega, by omega⟩
  have wa := t.within ha
  have wc := t.within hc
  unfold Bx.has at ka kc
  exact ⟨⟨a, ha, by omega⟩, ⟨a, ha, by omega⟩, ⟨c, hc, by omega⟩, ⟨c, hc, by omega⟩⟩
/-! ### sums over the places -/
def sumN : Nat → (Int → Int) → Int
  | 0, _ => 0
  | n + 1, g => sumN n g + g n
theorem sumN_congr : ∀ {n : Nat} {g h : Int → Int}, (∀ x : Int, 0 ≤ x → x < n → g x = h x) → sumN n g = sumN n h
  | 0, _, _, _ => rfl
  | n + 1, g, h, e => by
    unfold sumN
    rw [sumN_congr fun x h1 h2 => e x h1 (by omega), e n (by omega) (by omega)]
theorem sumN_add (n : Nat) (g h : Int → Int) : sumN n (fun x => g x + h x) = sumN n g + sumN n h := by
  induction n with
  | zero => rfl
  | succ n ih =>
    simp only [sumN, ih]
    omega
theorem sumN_zero (n : Nat) : sumN n (fun _ => 0) = 0 := by
  induction n with
  | zero => rfl
  | succ n ih => simp only [sumN, ih]; rfl
theorem tele (h : Int → Int) {l r : Int} (h0 : 0 ≤ l) (hr : l ≤ r) : ∀ n : Nat, sumN n (fun x => if l ≤ x ∧ x < r then h (x + 1) - h x else 0) = h (min r n) - h (min l n)
  | 0 => by
    have e1 : min r (0 : Nat) = 0 := by omega
    have e2 : min l (0 : Nat) = 0 := by omega
    simp only [sumN]
    rw [e1, e2]
    omega
  | n + 1 => by
    simp only [sumN, tele h h0 hr n]
    by_cases q1 : l ≤ n
    · by_cases q2 : (n : Int) < r
      · rw [if_pos ⟨q1, q2⟩]
        have e1 : min r (n : Nat) = n := by omega
        have e2 : min l (n : Nat) = l := by omega
        have e3 : min r ((n + 1 : Nat) : Int) = n + 1 := by omega
        have e4 : min l ((n + 1 : Nat) : Int) = l := by omega
        rw [e1, e2, e3, e4]
        omega
      · rw [if_neg (by omega)]
        have e1 : min r (n : Nat) = r := by omega
        have e2 : min l (n : Nat) = l := by omega
        have e3 : min r ((n + 1 : Nat) : Int) = r := by omega
        have e4 : min l ((n + 1 : Nat) : Int) = l := by omega
        rw [e1, e2, e3, e4]
        omega
    · rw [if_neg (by omega)]
      have e1 : min r (n : Nat) = n := by omega
      have e2 : min l (n : Nat) = n := by omega
      have e3 : min r ((n + 1 : Nat) : Int) = n + 1 := by omega
      have e4 : min l ((n + 1 : Nat) : Int) = n + 1 := by omega
      rw [e1, e2, e3, e4]
      omega
/-- the corners' sum of f -/
def dl (f : Int → Int → Int) (b : Bx) : Int := f b.l b.t - f b.r b.t - f b.l b.b + f b.r b.b
def dd (f : Int → Int → Int) (x y : Int) : Int := f (x + 1) (y + 1) - f x (y + 1) - (f (x + 1) y - f x y)
def gr (n : Nat) (f : Int → Int → Int) (c : Int → Int → Int) : Int := sumN n fun x => sumN n fun y => c x y * dd f x y
theorem gr_box (n : Nat) (f : Int → Int → Int) {b : Bx} (h : b.ok) (h1 : 0 ≤ b.l) (h2 : 0 ≤ b.t) (h3 : b.r ≤ n) (h4 : b.b ≤ n) : gr n f (ind b) = dl f b := by
  obtain ⟨o1, o2⟩ := h
  unfold gr
  have e : ∀ x, sumN n (fun y => ind b x y * dd f x y) = if b.l ≤ x ∧ x < b.r then (f (x + 1) b.b - f (x + 1) b.t) - (f x b.b - f x b.t) else 0 := fun x => by
    by_cases q : b.l ≤ x ∧ x < b.r
    · rw [if_pos q]
      have e2 := tele (fun y => f (x + 1) y - f x y) h2 (Int.le_of_lt o2) n
      rw [show min b.b (n : Int) = b.b by omega, show min b.t (n : Int) = b.t by omega] at e2
      rw [show (f (x + 1) b.b - f (x + 1) b.t) - (f x b.b - f x b.t) = (f (x + 1) b.b - f x b.b) - (f (x + 1) b.t - f x b.t) by omega, ← e2]
      refine sumN_congr fun y _ _ => ?_
      by_cases z : b.t ≤ y ∧ y < b.b
      · rw [ind_y ⟨q.1, q.2, z.1, z.2⟩, if_pos z]
        unfold dd
        omega
      · rw [ind_n (fun w => z ⟨w.2.2.1, w.2.2.2⟩), if_neg z]
        omega
    · rw [if_neg q]
      refine (sumN_congr fun y _ _ => ?_).trans (sumN_zero n)
      rw [ind_n (fun w => q ⟨w.1, w.2.1⟩)]
      omega
  rw [sumN_congr fun x _ _ => e x]
  have e2 := tele (fun x => f x b.b - f x b.t) h1 (Int.le_of_lt o1) n
  rw [show min b.r (n : Int) = b.r by omega, show min b.l (n : Int) = b.l by omega] at e2
  rw [e2]
  unfold dl
  omega
theorem gr_add (n : Nat) (f c d : Int → Int → Int) : gr n f (fun x y => c x y + d x y) = gr n f c + gr n f d := by
  unfold gr
  rw [← sumN_add]
  refine sumN_congr fun x _ _ => ?_
  rw [← sumN_add]
  exact sumN_congr fun y _ _ => Int.add_mul _ _ _
theorem gr_zero (n : Nat) (f : Int → Int → Int) : gr n f (fun _ _ => 0) = 0 := by
  unfold gr
  refine (sumN_congr fun x _ _ => ?_).trans (sumN_zero n)
  exact (sumN_congr fun y _ _ => Int.zero_mul _).trans (sumN_zero n)
theorem gr_cov (n : Nat) (f : Int → Int → Int) : ∀ bs : List Bx, (∀ b ∈ bs, b.ok ∧ 0 ≤ b.l ∧ 0 ≤ b.t ∧ b.r ≤ n ∧ b.b ≤ n) → gr n f (cov bs) = (bs.map (dl f)).sum
  | [], _ => gr_zero n f
  | b :: r, h => by
    obtain ⟨h1, h2, h3, h4, h5⟩ := h b List.mem_cons_self
    rw [List.map_cons, List.sum_cons, ← gr_cov n f r fun c hc => h c (List.mem_cons_of_mem _ hc), ← gr_box n f h1 h2 h3 h4 h5, ← gr_add]
    rfl
/-- the corners of the boxes and of the rectangle -/
theorem Til.tel {R : Bx} {bs : List Bx} (t : Til R bs) (hR : R.ok) (h1 : 0 ≤ R.l) (h2 : 0 ≤ R.t) (f : Int → Int → Int) : (bs.map (dl f)).sum = dl f R := by
  have hn : R.r ≤ (R.r + R.b).toNat ∧ R.b ≤ (R.r + R.b).toNat := by
    obtain ⟨_, _⟩ := hR
    omega
  have e : gr (R.r + R.b).toNat f (PG.cov bs) = gr (R.r + R.b).toNat f (ind R) := congrArg _ (funext fun x => funext fun y => t.cov x y)
  rw [← gr_box (R.r + R.b).toNat f hR h1 h2 hn.1 hn.2, ← e]
  refine (gr_cov (R.r + R.b).toNat f bs fun b hb => ?_).symm
  have w := t.within hb
  exact ⟨t.ok b hb, by omega, by omega, by omega, by omega⟩
def area (b : Bx) : Int := (b.r - b.l) * (b.b - b.t)
theorem dl_area (b : Bx) : dl (fun x y => x * y) b = area b := by
  unfold dl area
  grind
theorem Til.area {R : Bx} {bs : List Bx} (t : Til R bs) (hR : R.ok) (h1 : 0 ≤ R.l) (h2 : 0 ≤ R.t) : (bs.map PG.area).sum = PG.area R := by
  rw [← dl_area, ← t.tel hR h1 h2]
  congr 1
  exact List.map_congr_left fun b _ => (dl_area b).symm
end PG
set_option linter.all false
/-! PB: the law's pages are pages. -/
namespace Snd
open _root_.Mir PG
@[irreducible] def mixed (c k : Int) : Int := ((((c % 2147483629 * (2 * k + 51431) + 17 * k + 3) % 2147483587) * ((c % 2147483629 * (2 * k + 51431) + 17 * k + 3) % 2147483587)) % 2147483563) / 7
theorem m_mixed (c k : Int) : m__law_mixed [.int c, .int k] = some (.int (mixed c k)) := by
  have e1 : 0 ≤ c % 2147483629 := Int.emod_nonneg _ (by decide)
  have e2 : c % 2147483629 < 2147483629 := Int.emod_lt_of_pos _ (by decide)
  have e3 : 0 ≤ (c % 2147483629 * (2 * k + 51431) + 17 * k + 3) % 2147483587 := Int.emod_nonneg _ (by decide)
  have e4 : (c % 2147483629 * (2 * k + 51431) + 17 * k + 3) % 2147483587 < 2147483587 := Int.emod_lt_of_pos _ (by decide)
  simp (disch := omega) [Mir.fn, mb__law_mixed, modD_i, mulD_i, fdivD_i, mixed]
theorem mixed_nn (c k : Int) : 0 ≤ mixed c k := by
  rw [mixed]
  exact Int.ediv_nonneg (Int.emod_nonneg _ (by decide)) (by decide)
theorem mixed_lt (c k : Int) : mixed c k < 306783367 := by
  have : ((((c % 2147483629 * (2 * k + 51431) + 17 * k + 3) % 2147483587) * ((c % 2147483629 * (2 * k + 51431) + 17 * k + 3) % 2147483587)) % 2147483563) < 2147483563 := Int.emod_lt_of_pos _ (by decide)
  unfold mixed
  omega
theorem mixed_mod (c k : Int) {n : Int} (h : 0 < n) : 0 ≤ mixed c k % n ∧ mixed c k % n < n := ⟨Int.emod_nonneg _ (by omega), Int.emod_lt_of_pos _ h⟩
def cellAt (ns : List Int) (k : Int) : Int := if k < ns.length then ns.getD k.toNat 0 else 0
theorem m_cell (ns : List Int) {k : Int} (h : 0 ≤ k) : m__law_cell_at [.fz ns, .int k] = some (.int (cellAt ns k)) := by
  unfold cellAt
  by_cases q : k < ns.length
  · have h2 : k.toNat < ns.length := by omega
    simp [Mir.fn, mb__law_cell_at, q, ix_f h, h2]
  · simp [Mir.fn, mb__law_cell_at, q]
/-! ### boxes -/
def eB (b : Bx) : D := .tup [.int b.l, .int b.t, .int b.r, .int b.b]
@[simp] theorem eB0 (b : Bx) : ixD (eB b) (.int 0) = some (.int b.l) := ix_t0
@[simp] theorem eB1 (b : Bx) : ixD (eB b) (.int 1) = some (.int b.t) := ix_t1
@[simp] theorem eB2 (b : Bx) : ixD (eB b) (.int 2) = some (.int b.r) := ix_t2
@[simp] theorem eB3 (b : Bx) : ixD (eB b) (.int 3) = some (.int b.b) := ix_t3
@[simp] theorem eBg (b : Bx) (gs : List GM) (ρ : Env) : gT gs (eB b) ρ = gTs gs [.int b.l, .int b.t, .int b.r, .int b.b] ρ := rfl
@[irreducible] def wX (l r m : Int) : Int := l + 1 + m % (r - l - 2)
@[irreducible] def wF (x r m : Int) : Int := x + 1 + m % (r - x - 1)
theorem wX_f (l r m : Int) : l + 1 + m % (r - l - 2) = wX l r m := by rw [wX]
theorem wF_f (l r m : Int) : l + 1 + m % (r - l - 1) = wF l r m := by rw [wF]
theorem wX_in {l r : Int} (m : Int) (h : 2 < r - l) : l < wX l r m ∧ wX l r m < r - 1 := by
  have h1 : 0 ≤ m % (r - l - 2) := Int.emod_nonneg _ (by omega)
  have h2 : m % (r - l - 2) < r - l - 2 := Int.emod_lt_of_pos _ (by omega)
  rw [wX]
  omega
theorem wF_in {l r : Int} (m : Int) (h : 1 < r - l) : l < wF l r m ∧ wF l r m < r := by
  have h1 : 0 ≤ m % (r - l - 1) := Int.emod_nonneg _ (by omega)
  have h2 : m % (r - l - 1) < r - l - 1 := Int.emod_lt_of_pos _ (by omega)
  rw [wF]
  omega
def wheel5 (b : Bx) (x far y deep : Int) (z : Bool) : List Bx := (if z then [⟨b.l, b.t, far, y⟩, ⟨far, b.t, b.r, deep⟩, ⟨x, deep, b.r, b.b⟩, ⟨b.l, y, x, b.b⟩] else [⟨b.l, b.t, x, deep⟩, ⟨b.l, deep, far, b.b⟩, ⟨far, y, b.r, b.b⟩, ⟨x, b.t, b.r, y⟩]) ++ [⟨x, y, far, deep⟩]
def wheelB (b : Bx) (c : Int) : List Bx := wheel5 b (wX b.l b.r (mixed c 5)) (wF (wX b.l b.r (mixed c 5)) b.r (mixed c 6)) (wX b.t b.b (mixed c 7)) (wF (wX b.t b.b (mixed c 7)) b.b (mixed c 8)) (decide (mixed c 9 % 2 = 0))
theorem m_wheel (b : Bx) (c : Int) (h1 : 2 < b.r - b.l) (h2 : 2 < b.b - b.t) : m__law_wheel [eB b, .int c] = some (.lst ((wheelB b c).map eB)) := by
  have k1 := wX_in (mixed c 5) h1
  have k2 := wX_in (mixed c 7) h2
  have m5 := modD_i (i := mixed c 5) (j := b.r - b.l - 2) (by omega)
  have m6 := modD_i (i := mixed c 6) (j := b.r - wX b.l b.r (mixed c 5) - 1) (by omega)
  have m7 := modD_i (i := mixed c 7) (j := b.b - b.t - 2) (by omega)
  have m8 := modD_i (i := mixed c 8) (j := b.b - wX b.t b.b (mixed c 7) - 1) (by omega)
  have m9 := modD_i (i := mixed c 9) (j := 2) (by omega)
  have a1 : ∀ xs ys : List D, xs.length + ys.length ≤ 100 → addD (.lst xs) (.lst ys) = some (.lst (xs ++ ys)) := fun xs ys h => by
    simp only [addD, fits_of (Nat.le_trans h (by decide)), if_true]
  unfold wheelB
  by_cases q : mixed c 9 % 2 = 0
  · simp [Mir.fn, mb__law_wheel, m_mixed, m5, m6, m7, m8, m9, wX_f, wF_f, wheel5, q, a1, eB]
  · simp [Mir.fn, mb__law_wheel, m_mixed, m5, m6, m7, m8, m9, wX_f, wF_f, wheel5, q, a1, eB]
theorem wheel_til {b : Bx} {x far y deep : Int} {z : Bool} (h1 : b.l < x) (h2 : x < far) (h3 : far < b.r) (h4 : b.t < y) (h5 : y < deep) (h6 : deep < b.b) : Til b (wheel5 b x far y deep z) := by
  refine ⟨fun c hc => ?_, fun u v => ?_⟩
  · unfold wheel5 at hc
    cases z <;> simp at hc <;> rcases hc with rfl | rfl | rfl | rfl | rfl <;> simp only [Bx.ok] <;> omega
  · unfold wheel5
    have hu : u < b.l ∨ (b.l ≤ u ∧ u < x) ∨ (x ≤ u ∧ u < far) ∨ (far ≤ u ∧ u < b.r) ∨ b.r ≤ u := by omega
    have hv : v < b.t ∨ (b.t ≤ v ∧ v < y) ∨ (y ≤ v ∧ v < deep) ∨ (deep ≤ v ∧ v < b.b) ∨ b.b ≤ v := by omega
    cases z <;> simp only [cov, ind_eq, if_true, if_false, Bool.false_eq_true, List.cons_append, List.nil_append, List.map_cons, List.map_nil, List.sum_cons, List.sum_nil] <;>
      rcases hu with hu | hu | hu | hu | hu <;> rcases hv with hv | hv | hv | hv | hv <;> simp (disch := omega) only [if_pos, if_neg] <;> rfl
theorem wheelB_til {b : Bx} (c : Int) (h1 : 2 < b.r - b.l) (h2 : 2 < b.b - b.t) : Til b (wheelB b c) := by
  have k1 := wX_in (mixed c 5) h1
  have k2 := wX_in (mixed c 7) h2
  have k3 := wF_in (l := wX b.l b.r (mixed c 5)) (r := b.r) (mixed c 6) (by omega)
  have k4 := wF_in (l := wX b.t b.b (mixed c 7)) (r := b.b) (mixed c 8) (by omega)
  exact wheel_til (by omega) (by omega) (by omega) (by omega) (by omega) (by omega)
theorem wheelB_len (b : Bx) (c : Int) : (wheelB b c).length = 5 := by
  unfold wheelB wheel5
  split <;> rfl
def halvesB (b : Bx) (c : Int) (up : Bool) : List Bx :=
  if up = true ∧ 1 < b.r - b.l then [⟨b.l, b.t, wF b.l b.r (mixed c 5), b.b⟩, ⟨wF b.l b.r (mixed c 5), b.t, b.r, b.b⟩]
  else if up = false ∧ 1 < b.b - b.t then [⟨b.l, b.t, b.r, wF b.t b.b (mixed c 5)⟩, ⟨b.l, wF b.t b.b (mixed c 5), b.r, b.b⟩]
  else [b]
theorem m_halves (b : Bx) (c : Int) (up : Bool) : m__law_halves [eB b, .int c, .bl up] = some (.lst ((halvesB b c up).map eB)) := by
  unfold halvesB
  cases up
  · by_cases q : 1 < b.b - b.t
    · have m5 := modD_i (i := mixed c 5) (j := b.b - b.t - 1) (by omega)
      simp [Mir.fn, mb__law_halves, m_mixed, m5, wF_f, q]
      simp [eB]
    · simp [Mir.fn, mb__law_halves, q]
  · by_cases q : 1 < b.r - b.l
    · have m5 := modD_i (i := mixed c 5) (j := b.r - b.l - 1) (by omega)
      simp [Mir.fn, mb__law_halves, m_mixed, m5, wF_f, q]
      simp [eB]
    · simp [Mir.fn, mb__law_halves, q]
theorem cutU_til {b : Bx} {x : Int} (h : b.ok) (h1 : b.l < x) (h2 : x < b.r) : Til b [⟨b.l, b.t, x, b.b⟩, ⟨x, b.t, b.r, b.b⟩] := by
  refine ⟨fun c hc => ?_, fun u v => ?_⟩
  · obtain ⟨h3, h4⟩ := h
    simp at hc
    rcases hc with rfl | rfl <;> exact ⟨by assumption, by assumption⟩
  · have hu : u < b.l ∨ (b.l ≤ u ∧ u < x) ∨ (x ≤ u ∧ u < b.r) ∨ b.r ≤ u := by omega
    have hv : v < b.t ∨ (b.t ≤ v ∧ v < b.b) ∨ b.b ≤ v := by omega
    simp only [cov, ind_eq, List.map_cons, List.map_nil, List.sum_cons, List.sum_nil]
    rcases hu with hu | hu | hu | hu <;> rcases hv with hv | hv | hv <;> simp (disch := omega) only [if_pos, if_neg] <;> rfl
theorem cutL_til {b : Bx} {x : Int} (h : b.ok) (h1 : b.t < x) (h2 : x < b.b) : Til b [⟨b.l, b.t, b.r, x⟩, ⟨b.l, x, b.r, b.b⟩] := by
  refine ⟨fun c hc => ?_, fun u v => ?_⟩
  · obtain ⟨h3, h4⟩ := h
    simp at hc
    rcases hc with rfl | rfl <;> exact ⟨by assumption, by assumption⟩
  · have hv : v < b.t ∨ (b.t ≤ v ∧ v < x) ∨ (x ≤ v ∧ v < b.b) ∨ b.b ≤ v := by omega
    have hu : u < b.l ∨ (b.l ≤ u ∧ u < b.r) ∨ b.r ≤ u := by omega
    simp only [cov, ind_eq, List.map_cons, List.map_nil, List.sum_cons, List.sum_nil]
    rcases hu with hu | hu | hu <;> rcases hv with hv | hv | hv | hv <;> simp (disch := omega) only [if_pos, if_neg] <;> rfl
theorem halvesB_til {b : Bx} (c : Int) (up : Bool) (h : b.ok) : Til b (halvesB b c up) := by
  unfold halvesB
  split
  · rename_i q
    have k := wF_in (mixed c 5) q.2
    exact cutU_til h k.1 k.2
  · split
    · rename_i q
      have k := wF_in (mixed c 5) q.2
      exact cutL_til h k.1 k.2
    · exact .one h
theorem halvesB_len (b : Bx) (c : Int) (up : Bool) : 1 ≤ (halvesB b c up).length ∧ (halvesB b c up).length ≤ 2 := by
  unfold halvesB
  split
  · simp
  · split <;> simp
/-! ### the law's boxes -/
def someB (bs : List Bx) (b : Bx) (c : Int) : List Bx :=
  if mixed c 4 % 5 = 4 ∧ bs.length < 20 ∧ 2 < b.r - b.l ∧ 2 < b.b - b.t then wheelB b c else if mixed c 4 % 5 < 4 ∧ bs.length < 24 then halvesB b c (decide (mixed c 4 % 5 % 2 = 0)) else [b]
def atB (bs : List Bx) (c : Int) : Nat := (mixed c 3 % bs.length).toNat
def stepB (bs : List Bx) (c : Int) : List Bx := bs.take (atB bs c) ++ someB bs (bs.getD (atB bs c) ⟨0, 0, 0, 0⟩) c ++ bs.drop (atB bs c + 1)
def PgB (R : Bx) (bs : List Bx) : Prop := Til R bs ∧ 1 ≤ bs.length ∧ bs.length ≤ 24
theorem someB_til {bs : List Bx} {b : Bx} (c : Int) (h : b.ok) : Til b (someB bs b c) := by
  unfold someB
  split
  · rename_i q
    exact wheelB_til c q.2.2.1 q.2.2.2
  · split
    · exact halvesB_til c _ h
    · exact .one h
theorem someB_len (bs : List Bx) (b : Bx) (c : Int) (h : bs.length ≤ 24) : 1 ≤ (someB bs b c).length ∧ bs.length + (someB bs b c).length ≤ 25 := by
  unfold someB
  split
  · rename_i q
    rw [wheelB_len]
    omega
  · split
    · rename_i q
      have := halvesB_len b c (decide (mixed c 4 % 5 % 2 = 0))
      omega
    · simp
      omega
theorem atB_lt {bs : List Bx} (c : Int) (h : 1 ≤ bs.length) : atB bs c < bs.length := by
  have k := mixed_mod c 3 (n := bs.length) (by omega)
  unfold atB
  omega
theorem split_at {α : Type} (xs : List α) (n : Nat) (h : n < xs.length) (d : α) : xs = xs.take n ++ [xs.getD n d] ++ xs.drop (n + 1) := by
  rw [List.append_assoc, List.singleton_append]
  have e : xs.getD n d = xs[n] := by simp [List.getD, h]
  rw [e, ← List.drop_eq_getElem_cons h, List.take_append_drop]
theorem stepB_ok {R : Bx} {bs : List Bx} (c : Int) (h : PgB R bs) : PgB R (stepB bs c) := by
  obtain ⟨t, h1, h2⟩ := h
  have ha := atB_lt c h1
  have e := split_at bs (atB bs c) ha ⟨0, 0, 0, 0⟩
  have hb : (bs.getD (atB bs c) ⟨0, 0, 0, 0⟩) ∈ bs := by
    simp only [List.getD, List.getElem?_eq_getElem ha, Option.getD_some]
    exact List.getElem_mem ha
  have l := someB_len bs (bs.getD (atB bs c) ⟨0, 0, 0, 0⟩) c h2
  refine ⟨Til.sub (b := bs.getD (atB bs c) ⟨0, 0, 0, 0⟩) (by rw [← e]; exact t) (someB_til c (t.ok _ hb)), ?_, ?_⟩
  · simp only [stepB, List.length_append]
    omega
  · simp only [stepB, List.length_append, List.length_take, List.length_drop]
    omega
theorem fold_ok {R : Bx} : ∀ (cs : List Int) {bs : List Bx}, PgB R bs → PgB R (cs.foldl stepB bs)
  | [], _, h => h
  | c :: r, _, h => fold_ok r (stepB_ok c h)
theorem addD_l {xs ys : List D} (h : xs.length + ys.length ≤ 16000000) : addD (.lst xs) (.lst ys) = some (.lst (xs ++ ys)) := by
  simp only [addD, fits_of h, if_true]
theorem m_boxes (cs : List Int) (w h : Int) (hw : 0 < w) (hh : 0 < h) : m__law_boxes [.lst (cs.map .int), .int w, .int h] = some (.lst ((cs.foldl stepB [⟨0, 0, w, h⟩]).map eB)) := by
  have key := forGo_fold (g := gN 4) (body := lb__law_boxes_0) (enc := D.int) stepB
    (fun bs ρ => PgB ⟨0, 0, w, h⟩ bs ∧ ∃ a b c d e f g k, ρ = [a, b, c, .frz (.lst (bs.map eB)), d, e, f, g, k]) cs [⟨0, 0, w, h⟩]
    [.frz (.lst (cs.map .int)), .frz (.int w), .frz (.int h), .frz (.lst [eB ⟨0, 0, w, h⟩]), .emp, .emp, .emp, .emp, .emp] ⟨⟨.one ⟨hw, hh⟩, by simp, by simp⟩, _, _, _, _, _, _, _, _, rfl⟩ ?_
  · obtain ⟨ρ', e1, _, a, b, c, d, e, f, g, k, rfl⟩ := key
    simp only [eB] at e1
    simp [Mir.fn, mb__law_boxes, e1]
  · rintro cell _ bs ρ ⟨hp, a, b, c, d, e, f, g, k, rfl⟩
    refine ⟨_, _, rfl, ?_, stepB_ok cell hp, a, b, c, .frz (.int cell), .frz (.int (mixed cell 3 % bs.length)), .frz (eB (bs.getD (atB bs cell) ⟨0, 0, 0, 0⟩)), .frz (.int (mixed cell 4 % 5)), .frz (.lst ((someB bs (bs.getD (atB bs cell) ⟨0, 0, 0, 0⟩) cell).map eB)), rfl⟩
    have ha := atB_lt cell hp.2.1
    have m3 := modD_i (i := mixed cell 3) (j := bs.length) (by have := hp.2.1; omega)
    have m4 := modD_i (i := mixed cell 4) (j := 5) (by omega)
    have m2 := modD_i (i := mixed cell 4 % 5) (j := 2) (by omega)
    have k3 := mixed_mod cell 3 (n := bs.length) (by have := hp.2.1; omega)
    have i3 : ixD (.lst (bs.map eB)) (.int (mixed cell 3 % bs.length)) = some (eB (bs.getD (atB bs cell) ⟨0, 0, 0, 0⟩)) := by
      rw [ix_l k3.1, List.getElem?_map]
      show (bs[atB bs cell]?).map eB = _
      rw [List.getElem?_eq_getElem ha]
      simp [List.getD, ha]
    have l1 := someB_len bs (bs.getD (atB bs cell) ⟨0, 0, 0, 0⟩) cell hp.2.2
    have l2 := hp.2.2
    have s1 : slD (.lst (bs.map eB)) none (some (mixed cell 3 % bs.length)) = some (.lst ((bs.map eB).take (atB bs cell))) := by
      rw [slD, take_k _ k3.1]
      rfl
    have s2 : slD (.lst (bs.map eB)) (some (mixed cell 3 % bs.length + 1)) none = some (.lst ((bs.map eB).drop (atB bs cell + 1))) := by
      rw [slD, drop_k _ (show 0 ≤ mixed cell 3 % bs.length + 1 by omega)]
      rw [show (mixed cell 3 % bs.length + 1).toNat = atB bs cell + 1 by unfold atB; omega]
    unfold stepB
    generalize hb : bs.getD (atB bs cell) ⟨0, 0, 0, 0⟩ = box at *
    have a1 : addD (.lst ((bs.map eB).take (atB bs cell))) (.lst ((someB bs box cell).map eB)) = some (.lst ((bs.map eB).take (atB bs cell) ++ (someB bs box cell).map eB)) := by
      rw [addD_l]
      simp only [List.length_map, List.length_take]
      omega
    have a2 : addD (.lst ((bs.map eB).take (atB bs cell) ++ (someB bs box cell).map eB)) (.lst ((bs.map eB).drop (atB bs cell + 1))) = some (.lst ((bs.map eB).take (atB bs cell) ++ ((someB bs box cell).map eB ++ (bs.map eB).drop (atB bs cell + 1)))) := by
      rw [addD_l, List.append_assoc]
      simp only [List.length_map, List.length_append, List.length_take, List.length_drop]
      omega
    have hs : ∃ sm, someB bs box cell = sm := ⟨_, rfl⟩
    obtain ⟨sm, hs⟩ := hs
    rw [hs] at a1 a2 ⊢
    unfold someB at hs
    by_cases q4 : mixed cell 4 % 5 = 4
    · by_cases q5 : bs.length < 20 ∧ 2 < box.r - box.l ∧ 2 < box.b - box.t
      · rw [if_pos ⟨q4, q5⟩] at hs
        obtain ⟨z1, z2, z3⟩ := q5
        have z1' : (bs.length : Int) < 20 := by omega
        subst hs
        simp [lb__law_boxes_0, m_mixed, m3, m4, i3, s1, s2, q4, z1', z2, z3, m_wheel box cell z2 z3, a1, a2]
      · rw [if_neg (by rintro ⟨_, z⟩; exact q5 z), if_neg (by rintro ⟨z, _⟩; omega)] at hs
        subst hs
        have q6 : (bs.length : Int) < 20 → 2 < box.r - box.l → ¬ 2 < box.b - box.t := by omega
        by_cases z1 : (bs.length : Int) < 20
        · by_cases z2 : 2 < box.r - box.l
          · have z3 := q6 z1 z2
            simp only [List.map_cons, List.map_nil] at a1 a2
            simp [lb__law_boxes_0, m_mixed, m3, m4, i3, s1, s2, q4, z1, z2, z3, a1, a2]
          · simp only [List.map_cons, List.map_nil] at a1 a2
            simp [lb__law_boxes_0, m_mixed, m3, m4, i3, s1, s2, q4, z1, z2, a1, a2]
        · simp only [List.map_cons, List.map_nil] at a1 a2
          simp [lb__law_boxes_0, m_mixed, m3, m4, i3, s1, s2, q4, z1, a1, a2]
    · have q4' : mixed cell 4 % 5 < 4 := by
        have := mixed_mod cell 4 (n := 5) (by decide)
        omega
      by_cases q5 : bs.length < 24
      · rw [if_neg (by rintro ⟨z, _⟩; exact q4 z), if_pos ⟨q4', q5⟩] at hs
        subst hs
        have z1' : (bs.length : Int) < 24 := by omega
        simp [lb__law_boxes_0, m_mixed, m3, m4, i3, s1, s2, q4, q4', z1', m2, m_halves, a1, a2]
      · rw [if_neg (by rintro ⟨z, _⟩; exact q4 z), if_neg (by rintro ⟨_, z⟩; exact q5 z)] at hs
        subst hs
        have z1' : ¬ (bs.length : Int) < 24 := by omega
        simp only [List.map_cons, List.map_nil] at a1 a2
        simp [lb__law_boxes_0, m_mixed, m3, m4, i3, s1, s2, q4, q4', z1', a1, a2]
end Snd
set_option linter.all false
/-! PC: make_page. -/
namespace Snd
open _root_.Mir PG
theorem x_whole (i : Int) : m_is_whole [.int i] = some (.bl true) := by simp [Mir.fn, mb_is_whole]
theorem x_isbox {b : Bx} (h : b.ok) : m_is_box [eB b] = some (.bl true) := by
  obtain ⟨h1, h2⟩ := h
  have l : lenD (eB b) = some (.int 4) := rfl
  have i : isTup (eB b) = some (.bl true) := rfl
  have it : itOf (eB b) = some [.int b.l, .int b.t, .int b.r, .int b.b] := rfl
  simp [Mir.fn, mb_is_box, l, i, it, forGo, lb_is_box_0, x_whole, h1, h2]
theorem x_within {w h : Int} {b : Bx} (h1 : 0 ≤ b.l) (h2 : 0 ≤ b.t) (h3 : b.r ≤ w) (h4 : b.b ≤ h) : Snd.m_within [.int w, .int h, eB b] = some (.bl true) := by
  simp [Mir.fn, mb_within, h1, h2, h3, h4]
theorem x_meet {a b : Bx} (ha : a.ok) (hb : b.ok) (h : ∀ x y, a.has x y → ¬ b.has x y) : Snd.m_meet [eB a, eB b] = some (.bl false) := by
  obtain ⟨a1, a2⟩ := ha
  obtain ⟨b1, b2⟩ := hb
  have k := h (max a.l b.l) (max a.t b.t)
  unfold Bx.has at k
  by_cases q : b.r ≤ a.l ∨ a.r ≤ b.l
  · rcases q with q | q
    · simp [Mir.fn, mb_meet, q]
    · by_cases q2 : b.r ≤ a.l
      · simp [Mir.fn, mb_meet, q2]
      · simp [Mir.fn, mb_meet, q, q2]
  · have q1 : ¬ b.r ≤ a.l := by omega
    have q2 : ¬ a.r ≤ b.l := by omega
    by_cases q3 : a.t < b.b
    · have q4 : ¬ b.t < a.b := by omega
      simp [Mir.fn, mb_meet, q1, q2, q3, q4]
    · simp [Mir.fn, mb_meet, q1, q2, q3]
def nth (bs : List Bx) (k : Nat) : Bx := bs.getD k ⟨0, 0, 0, 0⟩
theorem nth_eq {bs : List Bx} {k : Nat} (h : k < bs.length) : nth bs k = bs[k] := by simp [nth, List.getD, h]
theorem nth_mem {bs : List Bx} {k : Nat} (h : k < bs.length) : nth bs k ∈ bs := by
  rw [nth_eq h]
  exact List.getElem_mem h
theorem sum_fold (f : Bx → Int) : ∀ (bs : List Bx) (s : Int), (List.range bs.length).foldl (fun s k => s + f (nth bs k)) s = s + (bs.map f).sum
  | [], s => by simp
  | b :: r, s => by
    have ih := sum_fold f r (s + f b)
    rw [List.length_cons, List.range_succ_eq_map, List.foldl_cons, List.foldl_map]
    have e : ∀ k, nth (b :: r) (k + 1) = nth r k := fun k => rfl
    simp only [e, Nat.succ_eq_add_one, List.map_cons, List.sum_cons]
    show (List.range r.length).foldl (fun s k => s + f (nth r k)) (s + f b) = _
    rw [ih]
    omega
theorem ix_b {bs : List Bx} {k : Nat} (h : k < bs.length) : ixD (.lst (bs.map eB)) (.int k) = some (eB (nth bs k)) := by
  rw [ix_l (by omega), List.getElem?_map, Int.toNat_natCast, List.getElem?_eq_getElem h, nth_eq h]
  rfl
theorem ix_bt {bs : List Bx} {k : Nat} (h : k < bs.length) : ixD (.tup (bs.map eB)) (.int k) = some (eB (nth bs k)) := by
  rw [ix_t (by omega), List.getElem?_map, Int.toNat_natCast, List.getElem?_eq_getElem h, nth_eq h]
  rfl
theorem x_fill {w h : Int} {bs : List Bx} (hw : 0 < w) (hh : 0 < h) (hw2 : w ≤ 1000000) (t : Til ⟨0, 0, w, h⟩ bs) (hl : bs.length ≤ 24) : Snd.m_fill [.int w, .int h, .lst (bs.map eB)] = some (.bl true) := by
  have key := forGo_fold (g := gN 4) (body := lb_fill_1) (enc := fun i : Nat => D.int i) (fun s k => s + area (nth bs k))
    (fun s ρ => ∃ a b, ρ = [.frz (.int w), .frz (.int h), .frz (.lst (bs.map eB)), .frz (.int s), a, b]) (List.range bs.length) 0
    [.frz (.int w), .frz (.int h), .frz (.lst (bs.map eB)), .frz (.int 0), .emp, .emp] ⟨_, _, rfl⟩ ?_
  · obtain ⟨ρ', e1, a, b, rfl⟩ := key
    have r := iR1_i (a := Mir.o1 Mir.lenD (Mir.vB 2)) (ρ := [.frz (.int w), .frz (.int h), .frz (.lst (bs.map eB)), .frz (.int 0), .emp, .emp]) (n := bs.length) (by simp) (by omega) (by omega)
    rw [Int.toNat_natCast] at r
    have m := mulD_i (i := w) (j := h) (by omega) (by omega)
    have ar := t.area ⟨hw, hh⟩ (Int.le_refl _) (Int.le_refl _)
    rw [sum_fold area] at e1
    simp [Mir.fn, mb_fill, r, e1, m, ar, area]
  · intro k hk s ρ ⟨a, b, e⟩
    subst e
    have hk' := List.mem_range.mp hk
    have i1 := ix_b hk'
    have hb := nth_mem hk'
    have w1 := t.within hb
    obtain ⟨o1, o2⟩ := t.ok _ hb
    have wi := x_within (w := w) (h := h) (b := nth bs k) w1.1 w1.2.1 w1.2.2.1 w1.2.2.2
    have ap := List.pairwise_iff_getElem.mp (apart t.le)
    have inner := forGo_all (g := gN 5) (body := lb_fill_0) (enc := fun i : Nat => D.int i)
      (fun ρ => ∃ b, ρ = [.frz (.int w), .frz (.int h), .frz (.lst (bs.map eB)), .frz (.int s), .frz (.int k), b]) (List.range k)
      [.frz (.int w), .frz (.int h), .frz (.lst (bs.map eB)), .frz (.int s), .frz (.int k), b] ⟨_, rfl⟩ ?_
    · obtain ⟨ρ', e2, b', rfl⟩ := inner
      have r := iR1_i (a := Mir.vB 4) (ρ := [.frz (.int w), .frz (.int h), .frz (.lst (bs.map eB)), .frz (.int s), .frz (.int k), b]) (n := k) (by simp) (by omega) (by omega)
      rw [Int.toNat_natCast] at r
      generalize hbx : nth bs k = box at *
      have m := mulD_i (i := box.r - box.l) (j := box.b - box.t) (by omega) (by have := w1.2.2.1; have := w1.1; simp only at *; omega)
      refine ⟨_, _, rfl, ?_, .frz (.int k), b', rfl⟩
      simp [lb_fill_1, i1, wi, r, e2, m, area]
    · intro j hj ρ ⟨b, e⟩
      subst e
      have hj' := List.mem_range.mp hj
      have hj2 : j < bs.length := by omega
      have i2 := ix_b hj2
      have mt := x_meet (a := nth bs k) (b := nth bs j) (t.ok _ hb) (t.ok _ (nth_mem hj2)) fun x y h1 h2 => by
        have := ap j k hj2 hk' hj'
        refine this x y ?_ ?_
        · exact (nth_eq hj2) ▸ h2
        · exact (nth_eq hk') ▸ h1
      refine ⟨_, _, rfl, ?_, .frz (.int j), rfl⟩
      simp [lb_fill_0, i1, i2, mt]
end Snd
set_option linter.all false
/-! PD: make_page, the law's page. -/
namespace Snd
open _root_.Mir PG
def keyB (b : Bx) : D := .tup [.int b.t, .int b.l]
theorem kBox_eB (b : Bx) : kBox (eB b) = some (keyB b) := rfl
theorem allSome_map {α : Type} {f : D → Option D} {g : α → D} {h : α → D} : ∀ (l : List α), (∀ a, f (g a) = some (h a)) → allSome f (l.map g) = some (l.map h)
  | [], _ => rfl
  | a :: r, k => by
    simp only [List.map_cons, allSome, k a, allSome_map r k, Option.bind_some]
theorem sort_page (bs : List Bx) : sortK kBox (.lst (bs.map eB)) = some (.lst ((bs.mergeSort fun a b => ordD (keyB a) (keyB b)).map eB)) := by
  simp only [sortK, allSome_map bs kBox_eB, Option.bind_some]
  have hs : sortable (bs.map keyB) = true := by
    simp only [sortable, Bool.or_eq_true]
    right
    rw [List.all_eq_true]
    intro d hd
    obtain ⟨b, _, rfl⟩ := List.mem_map.mp hd
    rfl
  rw [if_pos hs]
  congr 2
  exact (List.map_mergeSort fun a _ b _ => by simp only [kBox_eB, Option.getD_some]).symm
theorem x_page {w h : Int} {bs : List Bx} (hw : 0 < w) (hh : 0 < h) (hw2 : w ≤ 1000000) (t : Til ⟨0, 0, w, h⟩ bs) (h1 : 1 ≤ bs.length) (hl : bs.length ≤ 24) :
    m_make_page [.int w, .int h, .lst (bs.map eB)] = some (.tup [.int w, .int h, .tup ((bs.mergeSort fun a b => ordD (keyB a) (keyB b)).map eB)]) := by
  have key := forGo_all (g := gN 3) (body := lb_make_page_0) (enc := eB) (fun ρ => ∃ b, ρ = [.frz (.int w), .frz (.int h), .frz (.lst (bs.map eB)), b]) bs
    [.frz (.int w), .frz (.int h), .frz (.lst (bs.map eB)), .emp] ⟨_, rfl⟩ fun b hb ρ ⟨a, e⟩ => by
      subst e
      refine ⟨_, _, rfl, ?_, .frz (eB b), rfl⟩
      simp [lb_make_page_0, x_isbox (t.ok b hb)]
  obtain ⟨ρ', e1, b, rfl⟩ := key
  have n1 : ¬ w < 1 := by omega
  have n2 : ¬ h < 1 := by omega
  have n3 : ¬ (bs.length : Int) < 1 := by omega
  have n4 : ¬ (24 : Int) < (bs.length : Int) := by omega
  simp [Mir.fn, mb_make_page, x_whole, n1, n2, n3, n4, e1, x_fill hw hh hw2 t hl, sort_page]
def scB (x y : Int) (b : Bx) : Bx := ⟨b.l * x, b.t * y, b.r * x, b.b * y⟩
theorem sc_til {x y : Int} (hx : 0 < x) (hy : 0 < y) {R : Bx} {bs : List Bx} (t : Til R bs) : Til (scB x y R) (bs.map (scB x y)) := by
  have mono : ∀ {k a b : Int}, 0 < k → (a * k ≤ b ↔ a ≤ b / k) := fun {k a b} hk => (Int.le_ediv_iff_mul_le hk).symm
  have lt : ∀ {k a b : Int}, 0 < k → (b < a * k ↔ b / k < a) := fun {k a b} hk => (Int.ediv_lt_iff_lt_mul hk).symm
  have has : ∀ (b : Bx) (u v : Int), ind (scB x y b) u v = ind b (u / x) (v / y) := fun b u v => by
    rw [ind_eq, ind_eq]
    simp only [scB, mono hx, mono hy, lt hx, lt hy]
  refine ⟨fun c hc => ?_, fun u v => ?_⟩
  · obtain ⟨b, hb, rfl⟩ := List.mem_map.mp hc
    obtain ⟨o1, o2⟩ := t.ok b hb
    exact ⟨Int.mul_lt_mul_of_pos_right o1 hx, Int.mul_lt_mul_of_pos_right o2 hy⟩
  · rw [has, ← t.cov, cov, cov, List.map_map]
    congr 1
    exact List.map_congr_left fun b _ => has b u v
end Snd
set_option linter.all false
/-! TA: stretches, put together; walls. -/
namespace PG
abbrev Sp := Int × Int
def joinStep (acc : List Sp) (s : Sp) : List Sp := match acc.getLast? with
  | some q => if q.2 = s.1 then acc.dropLast ++ [(q.1, s.2)] else acc ++ [s]
  | none => [s]
def joinR (cur : Sp) : List Sp → List Sp
  | [] => [cur]
  | s :: r => if cur.2 = s.1 then joinR (cur.1, s.2) r else cur :: joinR s r
def joinS : List Sp → List Sp
  | [] => []
  | s :: r => joinR s r
theorem join_fold : ∀ (l : List Sp) (acc : List Sp) (cur : Sp), l.foldl joinStep (acc ++ [cur]) = acc ++ joinR cur l
  | [], acc, cur => rfl
  | s :: r, acc, cur => by
    rw [List.foldl_cons, joinR]
    have e : joinStep (acc ++ [cur]) s = if cur.2 = s.1 then acc ++ [(cur.1, s.2)] else (acc ++ [cur]) ++ [s] := by
      simp [joinStep]
    rw [e]
    by_cases q : cur.2 = s.1
    · rw [if_pos q, if_pos q, join_fold r]
    · rw [if_neg q, if_neg q, join_fold r, List.append_assoc, List.singleton_append]
theorem joinS_fold (l : List Sp) : l.foldl joinStep [] = joinS l := by
  cases l with
  | nil => rfl
  | cons s r =>
    rw [List.foldl_cons]
    have e : joinStep [] s = [] ++ [s] := rfl
    rw [e, join_fold, List.nil_append, joinS]
def inSp (y : Int) (s : Sp) : Prop := s.1 ≤ y ∧ y < s.2
theorem ex_cons {α : Type} {p : α → Prop} {a : α} {l : List α} : (∃ x ∈ a :: l, p x) ↔ p a ∨ ∃ x ∈ l, p x := by
  constructor
  · rintro ⟨x, hx, h⟩
    rcases List.mem_cons.mp hx with rfl | hx
    · exact .inl h
    · exact .inr ⟨x, hx, h⟩
  · rintro (h | ⟨x, hx, h⟩)
    · exact ⟨a, List.mem_cons_self, h⟩
    · exact ⟨x, List.mem_cons_of_mem _ hx, h⟩
/-- what is put together: rising, with gaps, the same places -/
structure Joined (l out : List Sp) : Prop where
  ne : ∀ p ∈ out, p.1 < p.2
  gap : out.Pairwise fun p q => p.2 < q.1
  cov : ∀ y, (∃ s ∈ l, inSp y s) ↔ ∃ p ∈ out, inSp y p
  st : ∀ p ∈ out, ∃ s ∈ l, s.1 = p.1
theorem joinR_ok : ∀ (l : List Sp) (cur : Sp), cur.1 < cur.2 → (∀ s ∈ l, s.1 < s.2 ∧ cur.2 ≤ s.1) → l.Pairwise (fun s t => s.2 ≤ t.1) →
    Joined (cur :: l) (joinR cur l) ∧ ∀ p ∈ joinR cur l, cur.1 ≤ p.1
  | [], cur, h, _, _ => ⟨⟨fun p hp => by rw [List.mem_singleton.mp hp]; exact h, List.pairwise_singleton _ _, fun y => Iff.rfl, fun p hp => ⟨p, hp, rfl⟩⟩, fun p hp => by rw [List.mem_singleton.mp hp]; exact Int.le_refl _⟩
  | s :: r, cur, h, hs, hp => by
    obtain ⟨p1, p2⟩ := List.pairwise_cons.mp hp
    obtain ⟨s1, s2⟩ := hs s List.mem_cons_self
    have hr : ∀ t ∈ r, t.1 < t.2 ∧ s.2 ≤ t.1 := fun t ht => ⟨(hs t (List.mem_cons_of_mem _ ht)).1, p1 t ht⟩
    rw [joinR]
    by_cases q : cur.2 = s.1
    · rw [if_pos q]
      obtain ⟨j, k⟩ := joinR_ok r (cur.1, s.2) (by simp only; omega) hr p2
      refine ⟨⟨j.ne, j.gap, fun y => ?_, fun p hp => ?_⟩, k⟩
      · rw [← j.cov y]
        rw [ex_cons, ex_cons, ex_cons]
        simp only [inSp]
        constructor
        · rintro (z | z | z)
          · exact .inl (by omega)
          · exact .inl (by omega)
          · exact .inr z
        · rintro (z | z)
          · by_cases w : y < cur.2
            · exact .inl (by omega)
            · exact .inr (.inl (by omega))
          · exact .inr (.inr z)
      · obtain ⟨t, ht, e⟩ := j.st p hp
        rcases List.mem_cons.mp ht with rfl | ht
        · exact ⟨cur, List.mem_cons_self, e⟩
        · exact ⟨t, List.mem_cons_of_mem _ (List.mem_cons_of_mem _ ht), e⟩
    · rw [if_neg q]
      obtain ⟨j, k⟩ := joinR_ok r s s1 hr p2
      refine ⟨⟨fun p hp => ?_, List.pairwise_cons.mpr ⟨fun p hp => ?_, j.gap⟩, fun y => ?_, fun p hp => ?_⟩, fun p hp => ?_⟩
      · rcases List.mem_cons.mp hp with rfl | hp
        · exact h
        · exact j.ne p hp
      · have := k p hp
        omega
      · rw [ex_cons, ex_cons (l := joinR s r), j.cov y]
      · rcases List.mem_cons.mp hp with rfl | hp
        · exact ⟨p, List.mem_cons_self, rfl⟩
        · obtain ⟨t, ht, e⟩ := j.st p hp
          exact ⟨t, List.mem_cons_of_mem _ ht, e⟩
      · rcases List.mem_cons.mp hp with rfl | hp
        · exact Int.le_refl _
        · have := k p hp
          omega
theorem joinS_ok {l : List Sp} (h : ∀ s ∈ l, s.1 < s.2) (hp : l.Pairwise fun s t => s.2 ≤ t.1) : Joined l (joinS l) := by
  cases l with
  | nil => exact ⟨fun p hp => absurd hp (by simp [joinS]), .nil, fun y => Iff.rfl, fun p hp => absurd hp (by simp [joinS])⟩
  | cons s r =>
    obtain ⟨p1, p2⟩ := List.pairwise_cons.mp hp
    exact (joinR_ok r s (h s List.mem_cons_self) (fun t ht => ⟨h t (List.mem_cons_of_mem _ ht), p1 t ht⟩) p2).1
theorem Joined.perm {l m out : List Sp} (p : l.Perm m) (j : Joined m out) : Joined l out := ⟨j.ne, j.gap, fun y => by
  rw [← j.cov y]
  constructor
  · rintro ⟨s, h1, h2⟩
    exact ⟨s, p.mem_iff.mp h1, h2⟩
  · rintro ⟨s, h1, h2⟩
    exact ⟨s, p.mem_iff.mpr h1, h2⟩, fun q hq => by
  obtain ⟨s, h1, h2⟩ := j.st q hq
  exact ⟨s, p.mem_iff.mpr h1, h2⟩⟩
/-! ### sorted -/
def leS (a b : Sp) : Bool := decide ([a.1, a.2] ≤ [b.1, b.2])
theorem leS_iff {a b : Sp} : leS a b = true ↔ a.1 < b.1 ∨ (a.1 = b.1 ∧ a.2 ≤ b.2) := by
  unfold leS
  rw [decide_eq_true_eq]
  simp [List.le_iff_lt_or_eq, List.cons_lt_cons_iff]
  omega
def sortS (l : List Sp) : List Sp := l.mergeSort leS
theorem sortS_pw (l : List Sp) : (sortS l).Pairwise fun a b => leS a b = true := List.pairwise_mergeSort (fun a b c h1 h2 => by rw [leS_iff] at *; omega) (fun a b => by rw [Bool.or_eq_true, leS_iff, leS_iff]; omega) l
theorem joined_sort {l : List Sp} (h : ∀ s ∈ l, s.1 < s.2) (hp : l.Pairwise fun s t => s.2 ≤ t.1 ∨ t.2 ≤ s.1) : Joined l (joinS (sortS l)) := by
  have pm := List.mergeSort_perm l leS
  refine Joined.perm pm.symm (joinS_ok (fun s hs => h s (pm.mem_iff.mp hs)) ?_)
  have hp2 : (sortS l).Pairwise fun s t => s.2 ≤ t.1 ∨ t.2 ≤ s.1 := (pm.pairwise_iff fun {a b} z => z.symm).mpr hp
  have h3 := ((sortS_pw l).and hp2)
  have key : ∀ a ∈ sortS l, ∀ b ∈ sortS l, (leS a b = true ∧ (a.2 ≤ b.1 ∨ b.2 ≤ a.1)) → a.2 ≤ b.1 := fun a ha b hb ⟨z1, z2⟩ => by
    have a1 := h a (pm.mem_iff.mp ha)
    have b1 := h b (pm.mem_iff.mp hb)
    rw [leS_iff] at z1
    omega
  exact List.Pairwise.imp_of_mem (fun ha hb z => key _ ha _ hb z) h3
end PG
set_option linter.all false
/-! TB: the walls at which things end. -/
namespace PG
abbrev Wl := Int × Sp
def addS : List (Int × List Sp) → Int → Sp → List (Int × List Sp)
  | [], n, x => [(n, [x])]
  | (k, xs) :: r, n, x => if k = n then (k, xs ++ [x]) :: r else (k, xs) :: addS r n x
def valS : List (Int × List Sp) → Int → List Sp
  | [], _ => []
  | (k, xs) :: r, n => if k = n then xs else valS r n
def keyS (m : List (Int × List Sp)) : List Int := m.map (·.1)
theorem valS_add : ∀ (m : List (Int × List Sp)) (x y : Int) (s : Sp), valS (addS m x s) y = if y = x then valS m x ++ [s] else valS m y
  | [], x, y, s => by
    simp only [addS, valS]
    by_cases q : y = x
    · rw [if_pos q, if_pos q.symm, List.nil_append]
    · rw [if_neg q, if_neg fun z => q z.symm]
  | (k, xs) :: r, x, y, s => by
    simp only [addS, valS]
    by_cases q : k = x
    · rw [if_pos q, if_pos q]
      simp only [valS]
      by_cases z : y = x
      · rw [if_pos z, if_pos (q.trans z.symm)]
      · rw [if_neg z, if_neg fun w => z (w.symm.trans q), if_neg fun w => z (w.symm.trans q)]
    · rw [if_neg q, if_neg q]
      simp only [valS, valS_add r]
      by_cases z : y = x
      · rw [if_pos z, if_neg fun w => q (w.trans z), if_pos z]
      · rw [if_neg z, if_neg z]
theorem keyS_add : ∀ (m : List (Int × List Sp)) (x : Int) (s : Sp), keyS (addS m x s) = if x ∈ keyS m then keyS m else keyS m ++ [x]
  | [], x, s => by simp [addS, keyS]
  | (k, xs) :: r, x, s => by
    have ih := keyS_add r x s
    simp only [addS]
    by_cases q : k = x
    · rw [if_pos q, if_pos (by simp [keyS, q])]
      rfl
    · rw [if_neg q]
      show k :: keyS (addS r x s) = _
      rw [ih]
      have e : (x ∈ keyS ((k, xs) :: r)) ↔ x ∈ keyS r := by
        show x ∈ k :: keyS r ↔ _
        rw [List.mem_cons]
        exact ⟨fun z => z.resolve_left fun w => q w.symm, .inr⟩
      by_cases z : x ∈ keyS r
      · rw [if_pos z, if_pos (e.mpr z)]
        rfl
      · rw [if_neg z, if_neg fun w => z (e.mp w)]
        rfl
def stepG (border : Int) (m : List (Int × List Sp)) (e : Wl) : List (Int × List Sp) := if e.1 ≠ border then addS m e.1 e.2 else m
def grpF (ends : List Wl) (border : Int) : List (Int × List Sp) := ends.foldl (stepG border) []
structure Grp (border : Int) (done : List Wl) (m : List (Int × List Sp)) : Prop where
  nd : (keyS m).Nodup
  val : ∀ x, x ≠ border → valS m x = (done.filter fun e => decide (e.1 = x)).map (·.2)
  key : ∀ x, x ∈ keyS m ↔ x ≠ border ∧ ∃ e ∈ done, e.1 = x
theorem grp_step {border : Int} {done : List Wl} {m : List (Int × List Sp)} (g : Grp border done m) (e : Wl) : Grp border (done ++ [e]) (stepG border m e) := by
  unfold stepG
  by_cases q : e.1 = border
  · rw [if_neg (by simpa using q)]
    refine ⟨g.nd, fun x hx => ?_, fun x => ?_⟩
    · rw [g.val x hx, List.filter_append, List.filter_cons, List.filter_nil]
      have : decide (e.1 = x) = false := decide_eq_false fun z => hx (z.symm.trans q)
      rw [this]
      simp
    · rw [g.key x]
      constructor
      · rintro ⟨h, f, hf, e1⟩
        exact ⟨h, f, List.mem_append_left _ hf, e1⟩
      · rintro ⟨h, f, hf, e1⟩
        rcases List.mem_append.mp hf with hf | hf
        · exact ⟨h, f, hf, e1⟩
        · rw [List.mem_singleton.mp hf] at e1
          exact absurd (e1.symm.trans q) h
  · rw [if_pos (by simpa using q)]
    refine ⟨?_, fun x hx => ?_, fun x => ?_⟩
    · rw [keyS_add]
      split
      · exact g.nd
      · rename_i h
        rw [List.nodup_append]
        refine ⟨g.nd, by simp, fun a ha b hb => ?_⟩
        rw [List.mem_singleton.mp hb]
        exact fun z => h (z ▸ ha)
    · rw [valS_add, List.filter_append, List.filter_cons, List.filter_nil, List.map_append]
      by_cases z : x = e.1
      · rw [if_pos z, g.val _ q]
        rw [z]
        simp
      · rw [if_neg z, g.val x hx]
        have : decide (e.1 = x) = false := decide_eq_false fun w => z w.symm
        rw [this]
        simp
    · rw [keyS_add]
      have k := g.key x
      have k2 := g.key e.1
      constructor
      · intro h
        split at h
        · obtain ⟨h1, f, hf, e1⟩ := k.mp h
          exact ⟨h1, f, List.mem_append_left _ hf, e1⟩
        · rcases List.mem_append.mp h with h | h
          · obtain ⟨h1, f, hf, e1⟩ := k.mp h
            exact ⟨h1, f, List.mem_append_left _ hf, e1⟩
          · rw [List.mem_singleton.mp h]
            exact ⟨q, e, by simp, rfl⟩
      · rintro ⟨h, f, hf, e1⟩
        rcases List.mem_append.mp hf with hf | hf
        · have := k.mpr ⟨h, f, hf, e1⟩
          split
          · exact this
          · exact List.mem_append_left _ this
        · rw [List.mem_singleton.mp hf] at e1
          subst e1
          split
          · assumption
          · simp
theorem grp_fold {border : Int} : ∀ (l done : List Wl) {m : List (Int × List Sp)}, Grp border done m → Grp border (done ++ l) (l.foldl (stepG border) m)
  | [], done, m, g => by simpa using g
  | e :: r, done, m, g => by
    rw [List.foldl_cons, show done ++ e :: r = (done ++ [e]) ++ r by simp]
    exact grp_fold r (done ++ [e]) (grp_step g e)
theorem grpF_ok (ends : List Wl) (border : Int) : Grp border ends (grpF ends border) := by
  have := grp_fold (border := border) ends [] (m := []) ⟨List.nodup_nil, fun x _ => rfl, fun x => by simp [keyS]⟩
  rw [List.nil_append] at this
  exact this
def kyL (m : List (Int × List Sp)) : List Int := (keyS m).mergeSort fun a b => decide (a ≤ b)
theorem kyL_mem {m : List (Int × List Sp)} {x : Int} : x ∈ kyL m ↔ x ∈ keyS m := List.mem_mergeSort
theorem kyL_lt {m : List (Int × List Sp)} (nd : (keyS m).Nodup) : (kyL m).Pairwise (· < ·) := by
  have p := List.pairwise_mergeSort (le := fun a b : Int => decide (a ≤ b)) (fun a b c h1 h2 => by simp only [decide_eq_true_eq] at *; omega) (fun a b => by simp only [Bool.or_eq_true, decide_eq_true_eq]; omega) (keyS m)
  have nd : ((keyS m).mergeSort fun a b => decide (a ≤ b)).Nodup := ((List.mergeSort_perm _ _).nodup_iff).mpr nd
  exact (p.and nd).imp fun ⟨h1, h2⟩ => by
    simp only [decide_eq_true_eq] at h1
    omega
def wallsAt (m : List (Int × List Sp)) (x : Int) : List Wl := (joinS (sortS (valS m x))).map fun s => (x, s)
def endsJ (ends : List Wl) (border : Int) : List Wl := (kyL (grpF ends border)).flatMap (wallsAt (grpF ends border))
structure Walls (ends : List Wl) (border : Int) (ws : List Wl) : Prop where
  ord : ws.Pairwise fun p q => p.1 < q.1 ∨ (p.1 = q.1 ∧ p.2.2 < q.2.1)
  ne : ∀ w ∈ ws, w.1 ≠ border ∧ w.2.1 < w.2.2
  cov : ∀ x y, x ≠ border → ((∃ e ∈ ends, e.1 = x ∧ inSp y e.2) ↔ ∃ w ∈ ws, w.1 = x ∧ inSp y w.2)
  st : ∀ w ∈ ws, ∃ e ∈ ends, e.1 = w.1 ∧ e.2.1 = w.2.1
theorem endsJ_ok {ends : List Wl} (border : Int) (h1 : ∀ e ∈ ends, e.2.1 < e.2.2) (h2 : ends.Pairwise fun e f => e.1 = f.1 → e.2.2 ≤ f.2.1 ∨ f.2.2 ≤ e.2.1) : Walls ends border (endsJ ends border) := by
  have g := grpF_ok ends border
  unfold endsJ
  generalize grpF ends border = m at *
  have jn : ∀ x, x ≠ border → Joined (valS m x) (joinS (sortS (valS m x))) := fun x hx => by
    rw [g.val x hx]
    refine joined_sort (fun s hs => ?_) ?_
    · obtain ⟨e, he, rfl⟩ := List.mem_map.mp hs
      exact h1 e (List.mem_filter.mp he).1
    · rw [List.pairwise_map]
      refine List.Pairwise.imp_of_mem (fun ha hb z => z ?_) (h2.sublist List.filter_sublist)
      have a := (List.mem_filter.mp ha).2
      have b := (List.mem_filter.mp hb).2
      simp only [decide_eq_true_eq] at a b
      exact a.trans b.symm
  have nb : ∀ x ∈ kyL m, x ≠ border := fun x hx => ((g.key x).mp (kyL_mem.mp hx)).1
  have mw : ∀ w, w ∈ (kyL m).flatMap (wallsAt m) ↔ w.1 ∈ kyL m ∧ w.2 ∈ joinS (sortS (valS m w.1)) := fun w => by
    rw [List.mem_flatMap]
    constructor
    · rintro ⟨x, hx, hw⟩
      obtain ⟨s, hs, rfl⟩ := List.mem_map.mp hw
      exact ⟨hx, hs⟩
    · rintro ⟨a, b⟩
      exact ⟨w.1, a, List.mem_map.mpr ⟨w.2, b, rfl⟩⟩
  have mv : ∀ x, x ≠ border → ∀ s, s ∈ valS m x ↔ ∃ e ∈ ends, e.1 = x ∧ e.2 = s := fun x hx s => by
    rw [g.val x hx, List.mem_map]
    constructor
    · rintro ⟨e, he, rfl⟩
      have := List.mem_filter.mp he
      exact ⟨e, this.1, by simpa using this.2, rfl⟩
    · rintro ⟨e, he, e1, e2⟩
      exact ⟨e, List.mem_filter.mpr ⟨he, by simpa using e1⟩, e2⟩
  refine ⟨?_, fun w hw => ?_, fun x y hx => ?_, fun w hw => ?_⟩
  · rw [List.pairwise_flatMap]
    refine ⟨fun x hx => ?_, (kyL_lt g.nd).imp fun hlt p hp q hq => ?_⟩
    · unfold wallsAt
      rw [List.pairwise_map]
      exact (jn x (nb x hx)).gap.imp fun h => .inr ⟨rfl, h⟩
    · obtain ⟨s, _, rfl⟩ := List.mem_map.mp hp
      obtain ⟨t, _, rfl⟩ := List.mem_map.mp hq
      exact .inl hlt
  · obtain ⟨a, b⟩ := (mw w).mp hw
    exact ⟨nb _ a, (jn _ (nb _ a)).ne _ b⟩
  · have c := (jn x hx).cov y
    constructor
    · rintro ⟨e, he, rfl, hy⟩
      obtain ⟨p, hp, hy2⟩ := c.mp ⟨e.2, (mv _ hx _).mpr ⟨e, he, rfl, rfl⟩, hy⟩
      exact ⟨(e.1, p), (mw _).mpr ⟨kyL_mem.mpr ((g.key _).mpr ⟨hx, e, he, rfl⟩), hp⟩, rfl, hy2⟩
    · rintro ⟨w, hw, rfl, hy⟩
      obtain ⟨a, b⟩ := (mw w).mp hw
      obtain ⟨s, hs, hy2⟩ := c.mpr ⟨w.2, b, hy⟩
      obtain ⟨e, he, e1, e2⟩ := (mv _ hx s).mp hs
      exact ⟨e, he, e1, e2 ▸ hy2⟩
  · obtain ⟨a, b⟩ := (mw w).mp hw
    obtain ⟨s, hs, e1⟩ := (jn _ (nb _ a)).st _ b
    obtain ⟨e, he, e2, e3⟩ := (mv _ (nb _ a) s).mp hs
    exact ⟨e, he, e2, by rw [e3]; exact e1⟩
end PG
set_option linter.all false
/-! TC: boxes between walls that are moved. -/
namespace PG
def tr (b : Bx) : Bx := ⟨b.t, b.l, b.b, b.r⟩
theorem tr_has (b : Bx) (x y : Int) : (tr b).has x y ↔ b.has y x := by
  unfold tr Bx.has
  simp only
  omega
theorem tr_ind (b : Bx) (x y : Int) : ind (tr b) x y = ind b y x := by
  by_cases h : b.has y x
  · rw [ind_y h, ind_y ((tr_has b x y).mpr h)]
  · rw [ind_n h, ind_n fun z => h ((tr_has b x y).mp z)]
theorem tr_cov (bs : List Bx) (x y : Int) : cov (bs.map tr) x y = cov bs y x := by
  induction bs with
  | nil => rfl
  | cons b r ih => rw [List.map_cons, cov_cons, cov_cons, ih, tr_ind]
theorem tr_ok {b : Bx} (h : b.ok) : (tr b).ok := ⟨h.2, h.1⟩
theorem tr_til {R : Bx} {bs : List Bx} (t : Til R bs) : Til (tr R) (bs.map tr) := ⟨fun b hb => by
  obtain ⟨c, hc, rfl⟩ := List.mem_map.mp hb
  exact tr_ok (t.ok c hc), fun x y => by rw [tr_cov, t.cov, tr_ind]⟩
def endOf (b : Bx) : Wl := (b.r, b.t, b.b)
def ups (bs : List Bx) (W : Int) : List Wl := endsJ (bs.map endOf) W
def un (ws : List Wl) (W x y : Int) : Int := if x = 0 then -1 else if x = W then ws.length else (ws.findIdx fun w => decide (w.1 = x) && (decide (w.2.1 ≤ y) && decide (y ≤ w.2.2)) : Nat)
theorem ups_ok {W H : Int} {bs : List Bx} (t : Til ⟨0, 0, W, H⟩ bs) : Walls (bs.map endOf) W (ups bs W) := by
  refine endsJ_ok W (fun e he => ?_) ?_
  · obtain ⟨b, hb, rfl⟩ := List.mem_map.mp he
    exact (t.ok b hb).2
  · rw [List.pairwise_map]
    refine List.Pairwise.imp_of_mem (fun {a b} ha hb h e => ?_) (apart t.le)
    obtain ⟨a1, a2⟩ := t.ok a ha
    obtain ⟨b1, b2⟩ := t.ok b hb
    simp only [endOf] at *
    have q := h (a.r - 1) (max a.t b.t)
    unfold Bx.has at q
    by_cases z : a.b ≤ b.t
    · exact .inl z
    · refine .inr (Int.not_lt.mp fun z2 => q ⟨by omega, by omega, by omega, by omega⟩ ⟨by omega, by omega, by omega, by omega⟩)
/-- the wall on which a whole side lies -/
theorem on_wall {ends : List Wl} {W : Int} {ws : List Wl} (k : Walls ends W ws) {x t b : Int} (hx : x ≠ W) (h : t < b) (c : ∀ y, t ≤ y → y < b → ∃ e ∈ ends, e.1 = x ∧ inSp y e.2) :
    ∃ (i : Nat) (w : Wl), ws[i]? = some w ∧ w.1 = x ∧ w.2.1 ≤ t ∧ b ≤ w.2.2 := by
  obtain ⟨w, hw, e1, e2, e3⟩ := (k.cov x t hx).mp (c t (Int.le_refl _) h)
  obtain ⟨i, hi⟩ := List.mem_iff_getElem?.mp hw
  refine ⟨i, w, hi, e1, e2, Int.not_lt.mp fun z => ?_⟩
  have wne := (k.ne w hw).2
  obtain ⟨v, hv, f1, f2, f3⟩ := (k.cov x w.2.2 hx).mp (c w.2.2 (by omega) z)
  have vne := (k.ne v hv).2
  have key : ∀ {l : List Wl}, l.Pairwise (fun p q => p.1 < q.1 ∨ (p.1 = q.1 ∧ p.2.2 < q.2.1)) → w ∈ l → v ∈ l → v = w ∨ (w.1 < v.1 ∨ (w.1 = v.1 ∧ w.2.2 < v.2.1)) ∨ (v.1 < w.1 ∨ (v.1 = w.1 ∧ v.2.2 < w.2.1)) := by
    intro l p
    induction p with
    | nil => intro h _; exact absurd h (by simp)
    | cons hd _ ih =>
      intro ha hb
      rcases List.mem_cons.mp ha with ea | ha'
      · rcases List.mem_cons.mp hb with eb | hb'
        · exact .inl (eb.trans ea.symm)
        · exact .inr (.inl (ea ▸ hd v hb'))
      · rcases List.mem_cons.mp hb with eb | hb'
        · exact .inr (.inr (eb ▸ hd w ha'))
        · exact ih ha' hb'
  rcases key k.ord hw hv with e | e | e
  · rw [e] at f3
    omega
  · omega
  · omega
theorem wall_one {ends : List Wl} {W : Int} {ws : List Wl} (k : Walls ends W ws) {t b : Int} {i j : Nat} {w v : Wl} (hi : ws[i]? = some w) (hj : ws[j]? = some v) (e : v.1 = w.1) (h1 : w.2.1 ≤ t) (h2 : b ≤ w.2.2) {y : Int} (y1 : t ≤ y) (y2 : y ≤ b) (v1 : v.2.1 ≤ y) (v2 : y ≤ v.2.2) : j = i := by
  have p := List.pairwise_iff_getElem.mp k.ord
  obtain ⟨li, ei⟩ := List.getElem?_eq_some_iff.mp hi
  obtain ⟨lj, ej⟩ := List.getElem?_eq_some_iff.mp hj
  rcases Nat.lt_trichotomy i j with q | q | q
  · have := p i j li lj q
    rw [ei, ej] at this
    omega
  · exact q.symm
  · have := p j i lj li q
    rw [ei, ej] at this
    omega
theorem un_eq {ends : List Wl} {W : Int} {ws : List Wl} (k : Walls ends W ws) {x t b : Int} {i : Nat} {w : Wl} (h0 : x ≠ 0) (hx : x ≠ W) (hi : ws[i]? = some w) (e : w.1 = x) (h1 : w.2.1 ≤ t) (h2 : b ≤ w.2.2) {y : Int} (y1 : t ≤ y) (y2 : y ≤ b) : un ws W x y = i := by
  unfold un
  rw [if_neg h0, if_neg hx]
  obtain ⟨li, ei⟩ := List.getElem?_eq_some_iff.mp hi
  congr 1
  rw [List.findIdx_eq li, ei]
  refine ⟨?_, fun j hj => ?_⟩
  · simp only [Bool.and_eq_true, decide_eq_true_eq]
    exact ⟨e, by omega, by omega⟩
  · rw [Bool.eq_false_iff]
    intro z
    simp only [Bool.and_eq_true, decide_eq_true_eq] at z
    have := wall_one k hi (List.getElem?_eq_getElem (Nat.lt_trans hj li)) (z.1.trans e.symm) h1 h2 y1 y2 z.2.1 z.2.2
    omega
/-- walls by number: what is needed of them -/
structure Way (bs : List Bx) (W : Int) (ws : List Wl) : Prop where
  cl : ∀ b ∈ bs, un ws W b.l b.b = un ws W b.l b.t
  cr : ∀ b ∈ bs, un ws W b.r b.b = un ws W b.r b.t
  lt : ∀ b ∈ bs, -1 ≤ un ws W b.l b.t ∧ un ws W b.l b.t < un ws W b.r b.t ∧ un ws W b.r b.t ≤ ws.length
  hit : ∀ j : Nat, j ≤ ws.length → ∃ b ∈ bs, un ws W b.r b.t = j
  /-- the wall at which a side lies, as the program seeks it -/
  sl : ∀ b ∈ bs, b.l ≠ 0 → ∃ (i : Nat) (w : Wl), ws[i]? = some w ∧ un ws W b.l b.t = i ∧ w.1 = b.l ∧ w.2.1 ≤ b.t ∧ b.t < w.2.2 ∧ ∀ (j : Nat) (v : Wl), ws[j]? = some v → v.1 = b.l → v.2.1 ≤ b.t → b.t < v.2.2 → j = i
  sr : ∀ b ∈ bs, b.r ≠ W → ∃ (i : Nat) (w : Wl), ws[i]? = some w ∧ un ws W b.r b.t = i ∧ w.1 = b.r ∧ w.2.1 ≤ b.t ∧ b.t < w.2.2 ∧ ∀ (j : Nat) (v : Wl), ws[j]? = some v → v.1 = b.r → v.2.1 ≤ b.t → b.t < v.2.2 → j = i
theorem way_ok {W H : Int} {bs : List Bx} (h0 : 0 < W) (t : Til ⟨0, 0, W, H⟩ bs) (hH : 0 < H) : Way bs W (ups bs W) := by
  have k := ups_ok t
  generalize ups bs W = ws at *
  have ins : ∀ b ∈ bs, 0 ≤ b.l ∧ 0 ≤ b.t ∧ b.r ≤ W ∧ b.b ≤ H := fun b hb => t.within hb
  have R : ∀ b ∈ bs, b.r ≠ W → ∃ (i : Nat) (w : Wl), ws[i]? = some w ∧ w.1 = b.r ∧ w.2.1 ≤ b.t ∧ b.b ≤ w.2.2 := fun b hb hr => by
    refine on_wall k hr (t.ok b hb).2 fun y h1 h2 => ⟨endOf b, List.mem_map_of_mem hb, rfl, h1, h2⟩
  have L : ∀ b ∈ bs, b.l ≠ 0 → ∃ (i : Nat) (w : Wl), ws[i]? = some w ∧ w.1 = b.l ∧ w.2.1 ≤ b.t ∧ b.b ≤ w.2.2 := fun b hb hl => by
    have i1 := ins b hb
    obtain ⟨o1, o2⟩ := t.ok b hb
    refine on_wall k (by omega) o2 fun y h1 h2 => ?_
    obtain ⟨c, hc, q⟩ := t.ex (x := b.l - 1) (y := y) ⟨by simp only; omega, by simp only; omega, by simp only; omega, by simp only; omega⟩
    refine ⟨endOf c, List.mem_map_of_mem hc, ?_, q.2.2.1, q.2.2.2⟩
    unfold Bx.has at q
    show c.r = b.l
    refine Classical.byContradiction fun z => ?_
    have := t.same hb hc (x := b.l) (y := y) ⟨by omega, by omega, by omega, by omega⟩ ⟨by omega, by omega, by omega, by omega⟩
    rw [← this] at q
    omega
  have un0 : ∀ y, un ws W 0 y = -1 := fun y => if_pos rfl
  have unW : ∀ y, un ws W W y = ws.length := fun y => by
    unfold un
    rw [if_neg (by omega), if_pos rfl]
  have LL : ∀ b ∈ bs, b.l ≠ 0 → ∃ (i : Nat) (w : Wl), ws[i]? = some w ∧ w.1 = b.l ∧ (∀ y, b.t ≤ y → y ≤ b.b → un ws W b.l y = i) ∧ w.2.1 ≤ b.t ∧ b.b ≤ w.2.2 := fun b hb hl => by
    obtain ⟨i, w, hi, e, h1, h2⟩ := L b hb hl
    have i1 := ins b hb
    obtain ⟨o1, o2⟩ := t.ok b hb
    exact ⟨i, w, hi, e, fun y y1 y2 => un_eq k hl (by omega) hi e h1 h2 y1 y2, h1, h2⟩
  have RR : ∀ b ∈ bs, b.r ≠ W → ∃ (i : Nat) (w : Wl), ws[i]? = some w ∧ w.1 = b.r ∧ (∀ y, b.t ≤ y → y ≤ b.b → un ws W b.r y = i) ∧ w.2.1 ≤ b.t ∧ b.b ≤ w.2.2 := fun b hb hr => by
    obtain ⟨i, w, hi, e, h1, h2⟩ := R b hb hr
    have i1 := ins b hb
    obtain ⟨o1, o2⟩ := t.ok b hb
    exact ⟨i, w, hi, e, fun y y1 y2 => un_eq k (by omega) hr hi e h1 h2 y1 y2, h1, h2⟩
  refine ⟨fun b hb => ?_, fun b hb => ?_, fun b hb => ?_, fun j hj => ?_, fun b hb hl => ?_, fun b hb hr => ?_⟩
  · obtain ⟨o1, o2⟩ := t.ok b hb
    by_cases q : b.l = 0
    · rw [q, un0, un0]
    · obtain ⟨i, w, _, _, h, _⟩ := LL b hb q
      rw [h _ (by omega) (by omega), h _ (by omega) (by omega)]
  · obtain ⟨o1, o2⟩ := t.ok b hb
    by_cases q : b.r = W
    · rw [q, unW, unW]
    · obtain ⟨i, w, _, _, h, _⟩ := RR b hb q
      rw [h _ (by omega) (by omega), h _ (by omega) (by omega)]
  · obtain ⟨o1, o2⟩ := t.ok b hb
    have i1 := ins b hb
    by_cases q : b.l = 0
    · rw [q, un0]
      by_cases q2 : b.r = W
      · rw [q2, unW]
        omega
      · obtain ⟨i, w, hi, _, h, _⟩ := RR b hb q2
        obtain ⟨li, _⟩ := List.getElem?_eq_some_iff.mp hi
        rw [h _ (by omega) (by omega)]
        omega
    · obtain ⟨i, w, hi, e, h, h1, h2⟩ := LL b hb q
      obtain ⟨li, ei⟩ := List.getElem?_eq_some_iff.mp hi
      rw [h _ (by omega) (by omega)]
      by_cases q2 : b.r = W
      · rw [q2, unW]
        omega
      · obtain ⟨j, v, hj, e', h', h1', h2'⟩ := RR b hb q2
        obtain ⟨lj, ej⟩ := List.getElem?_eq_some_iff.mp hj
        rw [h' _ (by omega) (by omega)]
        refine ⟨by omega, ?_, by omega⟩
        have p := List.pairwise_iff_getElem.mp k.ord
        rcases Nat.lt_trichotomy i j with z | z | z
        · omega
        · subst z
          rw [ei] at ej
          rw [ej] at e
          omega
        · have := p j i lj li z
          rw [ei, ej] at this
          omega
  · by_cases q : j = ws.length
    · subst q
      obtain ⟨_, _, ⟨b, hb, e⟩, _⟩ := t.ext ⟨h0, hH⟩
      refine ⟨b, hb, ?_⟩
      rw [e]
      exact unW _
    · have lj : j < ws.length := by omega
      obtain ⟨e, he, e1, e2⟩ := k.st ws[j] (List.getElem_mem lj)
      obtain ⟨b, hb, rfl⟩ := List.mem_map.mp he
      have ne := k.ne ws[j] (List.getElem_mem lj)
      simp only [endOf] at e1 e2
      obtain ⟨o1, o2⟩ := t.ok b hb
      obtain ⟨i, w, hi, e', h, h1, h2⟩ := RR b hb (by rw [e1]; exact ne.1)
      refine ⟨b, hb, ?_⟩
      rw [h _ (by omega) (by omega)]
      congr 1
      exact (wall_one k hi (List.getElem?_eq_getElem lj) (by omega) h1 h2 (y := b.t) (by omega) (by omega) (by omega) (by omega)).symm
  · obtain ⟨o1, o2⟩ := t.ok b hb
    obtain ⟨i, w, hi, e, h, h1, h2⟩ := LL b hb hl
    exact ⟨i, w, hi, h _ (by omega) (by omega), e, h1, by omega, fun j v hj e1 v1 v2 => wall_one k hi hj (e1.trans e.symm) h1 h2 (y := b.t) (by omega) (by omega) v1 (by omega)⟩
  · obtain ⟨o1, o2⟩ := t.ok b hb
    obtain ⟨i, w, hi, e, h, h1, h2⟩ := RR b hb hr
    exact ⟨i, w, hi, h _ (by omega) (by omega), e, h1, by omega, fun j v hj e1 v1 v2 => wall_one k hi hj (e1.trans e.symm) h1 h2 (y := b.t) (by omega) (by omega) v1 (by omega)⟩
def mv (us vs : List Wl) (W H : Int) (A B : Int → Int) (b : Bx) : Bx := ⟨A (un us W b.l b.t), B (un vs H b.t b.l), A (un us W b.r b.t), B (un vs H b.b b.l)⟩
def stp (X a : Int) : Int := if X < a then 1 else 0
theorem stp_box {a b c d X Y : Int} (h1 : a < b) (h2 : c < d) : ind ⟨a, c, b, d⟩ X Y = stp X a * stp Y c - stp X b * stp Y c - stp X a * stp Y d + stp X b * stp Y d := by
  rw [ind_eq]
  simp only [stp]
  by_cases q1 : X < a <;> by_cases q2 : X < b <;> by_cases q3 : Y < c <;> by_cases q4 : Y < d <;> simp [q1, q2, q3, q4] <;> omega
theorem moved_til {W H : Int} {bs : List Bx} {us vs : List Wl} (hW : 0 < W) (hH : 0 < H) (t : Til ⟨0, 0, W, H⟩ bs) (u : Way bs W us) (v : Way (bs.map tr) H vs) {A B : Int → Int} (a0 : A (-1) = 0) (b0 : B (-1) = 0)
    (ha : ∀ b ∈ bs, A (un us W b.l b.t) < A (un us W b.r b.t)) (hb : ∀ b ∈ bs, B (un vs H b.t b.l) < B (un vs H b.b b.l)) (wA : 0 < A us.length) (wB : 0 < B vs.length) :
    Til ⟨0, 0, A us.length, B vs.length⟩ (bs.map (mv us vs W H A B)) := by
  refine ⟨fun c hc => ?_, fun X Y => ?_⟩
  · obtain ⟨b, hb', rfl⟩ := List.mem_map.mp hc
    exact ⟨ha b hb', hb b hb'⟩
  · have e := t.tel ⟨hW, hH⟩ (Int.le_refl _) (Int.le_refl _) fun x y => stp X (A (un us W x y)) * stp Y (B (un vs H y x))
    have e1 : dl (fun x y => stp X (A (un us W x y)) * stp Y (B (un vs H y x))) ⟨0, 0, W, H⟩ = ind ⟨0, 0, A us.length, B vs.length⟩ X Y := by
      rw [stp_box wA wB]
      have un0 : ∀ (ws : List Wl) (V y : Int), un ws V 0 y = -1 := fun ws V y => if_pos rfl
      have unW : ∀ (ws : List Wl) (V y : Int), 0 < V → un ws V V y = ws.length := fun ws V y h => by
        unfold un
        rw [if_neg (by omega), if_pos rfl]
      simp only [dl, un0, unW us W _ hW, unW vs H _ hH, a0, b0]
    rw [e1] at e
    rw [← e, cov, List.map_map]
    congr 1
    refine List.map_congr_left fun b hb' => ?_
    have q1 := u.cl b hb'
    have q2 := u.cr b hb'
    have q3 := v.cl (tr b) (List.mem_map_of_mem hb')
    have q4 := v.cr (tr b) (List.mem_map_of_mem hb')
    simp only [tr] at q3 q4
    simp only [Function.comp_apply, mv, dl]
    rw [stp_box (ha b hb') (hb b hb'), q1, q2, q3, q4]
end PG
set_option linter.all false
/-! TD: the least places of walls. -/
namespace PG
/-- a box: the wall at which it begins, the one at which it ends, what it needs -/
structure Sq where
  b : Int
  e : Int
  n : Int
/-- steps between so many walls and the border -/
structure Steps (B : Int) (ss : List Sq) (n : Nat) : Prop where
  lo : ∀ s ∈ ss, -1 ≤ s.b ∧ s.b < s.e ∧ s.e ≤ n
  nd : ∀ s ∈ ss, 1 ≤ s.n ∧ s.n ≤ B
  hit : ∀ j : Nat, j ≤ n → ∃ s ∈ ss, s.e = j
def pl (ps : List Int) (w : Int) : Int := if w < 0 then 0 else ps.getD w.toNat 0
theorem pl_neg (ps : List Int) : pl ps (-1) = 0 := if_pos (by decide)
theorem pl_nat (ps : List Int) (j : Nat) : pl ps j = ps.getD j 0 := by
  unfold pl
  rw [if_neg (by omega), Int.toNat_natCast]
theorem pl_set {ps : List Int} {j : Nat} (h : j < ps.length) (v : Int) (w : Int) : pl (ps.set j v) w = if w = j then v else pl ps w := by
  unfold pl
  by_cases q : w < 0
  · rw [if_pos q, if_pos q, if_neg (by omega)]
  · rw [if_neg q, if_neg q]
    simp only [List.getD, List.getElem?_set]
    by_cases z : j = w.toNat
    · rw [if_pos z, if_pos (by omega), if_pos (by omega)]
      rfl
    · rw [if_neg z, if_neg (by omega)]
def cst (ps : List Int) (s : Sq) : Int := pl ps s.b + s.n
/-- one turn for one box -/
def far1 (st : List Int × Bool) (s : Sq) : List Int × Bool := if cst st.1 s > pl st.1 s.e then (st.1.set s.e.toNat (cst st.1 s), true) else st
def tot (ps : List Int) : Int := ps.sum
structure Far (B : Int) (ss : List Sq) (n : Nat) (ps : List Int) : Prop where
  len : ps.length = n + 1
  lo : ∀ j : Nat, j ≤ n → 0 ≤ pl ps j ∧ pl ps j ≤ (j + 1) * B
  tight : ∀ j : Nat, j ≤ n → 0 < pl ps j → ∃ s ∈ ss, s.e = j ∧ pl ps j ≤ cst ps s
  least : ∀ q : Int → Int, q (-1) = 0 → (∀ j : Nat, 0 ≤ q j) → (∀ s ∈ ss, q s.b + s.n ≤ q s.e) → ∀ j : Nat, j ≤ n → pl ps j ≤ q j
theorem far_start {B : Int} {ss : List Sq} {n : Nat} (hB : 0 ≤ B) : Far B ss n (List.replicate (n + 1) 0) := by
  have e : ∀ j : Nat, pl (List.replicate (n + 1) 0) j = 0 := fun j => by
    rw [pl_nat]
    simp only [List.getD, List.getElem?_replicate]
    split <;> rfl
  refine ⟨by simp, fun j hj => ?_, fun j hj h => ?_, fun q h1 h2 h3 j hj => ?_⟩
  · rw [e]
    exact ⟨Int.le_refl _, Int.mul_nonneg (by omega) hB⟩
  · rw [e] at h
    omega
  · rw [e]
    exact h2 j
theorem sum_set : ∀ (ps : List Int) (j : Nat) (v : Int), j < ps.length → (ps.set j v).sum = ps.sum - ps.getD j 0 + v
  | [], _, _, h => absurd h (by simp)
  | p :: r, 0, v, _ => by simp; omega
  | p :: r, j + 1, v, h => by
    rw [List.set_cons_succ, List.sum_cons, List.sum_cons, sum_set r j v (by simpa using h)]
    simp only [List.getD_cons_succ]
    omega
section
variable {B : Int} {ss : List Sq} {n : Nat}
/-- a turn: what stands stays, places rise -/
theorem far1_ok (S : Steps B ss n) {st : List Int × Bool} (F : Far B ss n st.1) {s : Sq} (hs : s ∈ ss) : Far B ss n (far1 st s).1 ∧ (∀ w, pl st.1 w ≤ pl (far1 st s).1 w) ∧ tot st.1 ≤ tot (far1 st s).1 ∧
    ((far1 st s = st ∧ cst st.1 s ≤ pl st.1 s.e) ∨ ((far1 st s).2 = true ∧ tot st.1 < tot (far1 st s).1)) := by
  obtain ⟨h1, h2, h3⟩ := S.lo s hs
  obtain ⟨n1, n2⟩ := S.nd s hs
  unfold far1
  by_cases q : cst st.1 s > pl st.1 s.e
  · rw [if_pos q]
    have lj : s.e.toNat < st.1.length := by rw [F.len]; omega
    have ps : ∀ w, pl (st.1.set s.e.toNat (cst st.1 s)) w = if w = s.e then cst st.1 s else pl st.1 w := fun w => by
      rw [pl_set lj, Int.toNat_of_nonneg (by omega)]
    have mono : ∀ w, pl st.1 w ≤ pl (st.1.set s.e.toNat (cst st.1 s)) w := fun w => by
      rw [ps]
      by_cases z : w = s.e
      · rw [if_pos z, z]
        omega
      · rw [if_neg z]
        exact Int.le_refl _
    have be : s.b ≠ s.e := by omega
    have b0 : 0 ≤ pl st.1 s.b ∧ pl st.1 s.b ≤ (s.b + 1) * B := by
      by_cases z : s.b = -1
      · rw [z, pl_neg]
        simp
      · have := F.lo s.b.toNat (by omega)
        rw [Int.toNat_of_nonneg (by omega)] at this
        exact this
    have e0 := (F.lo s.e.toNat (by omega)).1
    rw [Int.toNat_of_nonneg (by omega)] at e0
    have tt : tot st.1 < tot (st.1.set s.e.toNat (cst st.1 s)) := by
      unfold tot
      rw [sum_set _ _ _ lj]
      have : pl st.1 s.e = st.1.getD s.e.toNat 0 := by
        rw [← pl_nat, Int.toNat_of_nonneg (by omega)]
      omega
    refine ⟨⟨?_, fun j hj => ?_, fun j hj h => ?_, fun f f1 f2 f3 j hj => ?_⟩, mono, by simp only; omega, .inr ⟨rfl, tt⟩⟩
    · rw [List.length_set]
      exact F.len
    · rw [ps]
      by_cases z : (j : Int) = s.e
      · rw [if_pos z]
        have k := b0.2
        unfold cst at *
        have : (s.b + 1) * B + B ≤ (j + 1) * B := by
          have w : (s.b + 1 + 1) * B ≤ (j + 1) * B := Int.mul_le_mul_of_nonneg_right (by omega) (by omega)
          rw [Int.add_mul (s.b + 1) 1 B, Int.one_mul] at w
          exact w
        exact ⟨by omega, by omega⟩
      · rw [if_neg z]
        exact F.lo j hj
    · by_cases z : (j : Int) = s.e
      · refine ⟨s, hs, z.symm, ?_⟩
        show _ ≤ pl (st.1.set s.e.toNat (cst st.1 s)) s.b + s.n
        rw [ps, if_pos z, ps, if_neg be]
        exact Int.le_refl _
      · rw [ps, if_neg z] at h ⊢
        obtain ⟨r, hr, e1, e2⟩ := F.tight j hj h
        refine ⟨r, hr, e1, ?_⟩
        show _ ≤ pl (st.1.set s.e.toNat (cst st.1 s)) r.b + r.n
        have m := mono r.b
        have e3 : pl st.1 j ≤ pl st.1 r.b + r.n := e2
        omega
    · rw [ps]
      by_cases z : (j : Int) = s.e
      · rw [if_pos z]
        have k := f3 s hs
        have kb : pl st.1 s.b ≤ f s.b := by
          by_cases y : s.b = -1
          · rw [y, pl_neg, f1]
            exact Int.le_refl _
          · have := F.least f f1 f2 f3 s.b.toNat (by omega)
            rw [Int.toNat_of_nonneg (by omega)] at this
            exact this
        rw [z]
        unfold cst
        omega
      · rw [if_neg z]
        exact F.least f f1 f2 f3 j hj
  · rw [if_neg q]
    exact ⟨F, fun w => Int.le_refl _, Int.le_refl _, .inl ⟨rfl, by omega⟩⟩
theorem far_fold (S : Steps B ss n) : ∀ (l : List Sq), (∀ s ∈ l, s ∈ ss) → ∀ st : List Int × Bool, Far B ss n st.1 → Far B ss n (l.foldl far1 st).1 ∧ (∀ w, pl st.1 w ≤ pl (l.foldl far1 st).1 w) ∧ tot st.1 ≤ tot (l.foldl far1 st).1 ∧
    (st.2 = true → (l.foldl far1 st).2 = true) ∧ (st.2 = false → (((l.foldl far1 st).2 = true ∧ tot st.1 < tot (l.foldl far1 st).1) ∨ (l.foldl far1 st = st ∧ ∀ s ∈ l, cst st.1 s ≤ pl st.1 s.e)))
  | [], _, st, F => ⟨F, fun _ => Int.le_refl _, Int.le_refl _, id, fun _ => .inr ⟨rfl, fun s hs => absurd hs (by simp)⟩⟩
  | s :: r, hl, st, F => by
    rw [List.foldl_cons]
    obtain ⟨F1, m1, t1, c1⟩ := far1_ok S F (hl s List.mem_cons_self)
    obtain ⟨F2, m2, t2, k2, c2⟩ := far_fold S r (fun x hx => hl x (List.mem_cons_of_mem _ hx)) _ F1
    refine ⟨F2, fun w => Int.le_trans (m1 w) (m2 w), Int.le_trans t1 t2, fun h => ?_, fun h => ?_⟩
    · rcases c1 with ⟨e, _⟩ | ⟨e, _⟩
      · exact k2 (by rw [e]; exact h)
      · exact k2 e
    · rcases c1 with ⟨e, q⟩ | ⟨e, q⟩
      · rw [e] at c2 ⊢
        rcases c2 h with ⟨a, b⟩ | ⟨a, b⟩
        · exact .inl ⟨a, b⟩
        · refine .inr ⟨a, fun x hx => ?_⟩
          rcases List.mem_cons.mp hx with rfl | hx
          · exact q
          · exact b x hx
      · exact .inl ⟨k2 e, by omega⟩
theorem sum_le {f : Nat → Int} : ∀ (ps : List Int) (k : Nat), (∀ j, j < ps.length → ps.getD j 0 ≤ f (k + j)) → ps.sum ≤ ((List.range' k ps.length).map f).sum
  | [], k, _ => Int.le_refl _
  | p :: r, k, h => by
    have h0 := h 0 (by simp)
    have ih := sum_le r (k + 1) fun j hj => by
      have := h (j + 1) (by simpa using hj)
      rw [List.getD_cons_succ, show k + (j + 1) = k + 1 + j by omega] at this
      exact this
    simp only [List.getD_cons_zero, Nat.add_zero] at h0
    rw [List.length_cons, List.range'_succ, List.map_cons, List.sum_cons, List.sum_cons]
    omega
/-- no total is beyond this -/
def most (B : Int) (n : Nat) : Int := ((List.range' 0 (n + 1)).map fun j : Nat => ((j : Int) + 1) * B).sum
theorem tot_most {ps : List Int} (F : Far B ss n ps) : tot ps ≤ most B n := by
  unfold tot most
  rw [← F.len]
  refine sum_le ps 0 fun j hj => ?_
  rw [Nat.zero_add, ← pl_nat]
  exact (F.lo j (by rw [F.len] at hj; omega)).2
/-- the least places: no box asks for more -/
structure Done (B : Int) (ss : List Sq) (n : Nat) (ps : List Int) : Prop extends Far B ss n ps where
  sol : ∀ s ∈ ss, cst ps s ≤ pl ps s.e
theorem Done.pos {ps : List Int} (S : Steps B ss n) (D : Done B ss n ps) {j : Nat} (hj : j ≤ n) : 0 < pl ps j := by
  obtain ⟨s, hs, e⟩ := S.hit j hj
  obtain ⟨h1, h2, h3⟩ := S.lo s hs
  have k := D.sol s hs
  have n1 := (S.nd s hs).1
  rw [e] at k
  unfold cst at k
  have : 0 ≤ pl ps s.b := by
    by_cases z : s.b = -1
    · rw [z, pl_neg]
      exact Int.le_refl _
    · have := (D.lo s.b.toNat (by omega)).1
      rw [Int.toNat_of_nonneg (by omega)] at this
      exact this
  omega
theorem Done.tgt {ps : List Int} (S : Steps B ss n) (D : Done B ss n ps) {j : Nat} (hj : j ≤ n) : ∃ s ∈ ss, s.e = j ∧ cst ps s = pl ps j := by
  obtain ⟨s, hs, e, k⟩ := D.tight j hj (D.pos S hj)
  have := D.sol s hs
  rw [e] at this
  exact ⟨s, hs, e, by omega⟩
/-- boxes from a wall back to the border, by number -/
inductive Back (ss : List Sq) (ps : List Int) : Int → List Nat → Prop
  | nil : Back ss ps (-1) []
  | cons {k : Nat} {s : Sq} {ks : List Nat} : ss[k]? = some s → cst ps s = pl ps s.e → 0 ≤ s.e → Back ss ps s.b ks → Back ss ps s.e (k :: ks)
end
/-! ### walls moved farther -/
def mov1 (ps : List Int) (s : Sq) : List Int := ps.set s.e.toNat (max (pl ps s.e) (cst ps s))
structure Mov (B : Int) (n : Nat) (ps : List Int) : Prop where
  len : ps.length = n + 1
  lo : ∀ j : Nat, j ≤ n → 0 ≤ pl ps j ∧ pl ps j ≤ (j + 1) * B
section
variable {B : Int} {ss : List Sq} {n : Nat}
theorem mov1_ok (S : Steps B ss n) {ps : List Int} (F : Mov B n ps) {s : Sq} (hs : s ∈ ss) : Mov B n (mov1 ps s) ∧ (∀ w, pl (mov1 ps s) w = if w = s.e then max (pl ps s.e) (cst ps s) else pl ps w) := by
  obtain ⟨h1, h2, h3⟩ := S.lo s hs
  obtain ⟨n1, n2⟩ := S.nd s hs
  have lj : s.e.toNat < ps.length := by rw [F.len]; omega
  have pse : ∀ w, pl (mov1 ps s) w = if w = s.e then max (pl ps s.e) (cst ps s) else pl ps w := fun w => by
    rw [mov1, pl_set lj, Int.toNat_of_nonneg (by omega)]
  have b0 : 0 ≤ pl ps s.b ∧ pl ps s.b ≤ (s.b + 1) * B := by
    by_cases z : s.b = -1
    · rw [z, pl_neg]
      simp
    · have := F.lo s.b.toNat (by omega)
      rw [Int.toNat_of_nonneg (by omega)] at this
      exact this
  refine ⟨⟨?_, fun j hj => ?_⟩, pse⟩
  · rw [mov1, List.length_set]
    exact F.len
  · rw [pse]
    by_cases z : (j : Int) = s.e
    · rw [if_pos z, ← z]
      have k := F.lo j hj
      have w : (s.b + 1 + 1) * B ≤ (j + 1) * B := Int.mul_le_mul_of_nonneg_right (by omega) (by omega)
      rw [Int.add_mul (s.b + 1) 1 B, Int.one_mul] at w
      unfold cst
      omega
    · rw [if_neg z]
      exact F.lo j hj
/-- boxes that end ahead of a wall have what they need -/
def Upto (ss : List Sq) (ps : List Int) (m : Int) : Prop := ∀ s ∈ ss, s.e < m → cst ps s ≤ pl ps s.e
theorem mov_fold (S : Steps B ss n) (m : Int) : ∀ (l : List Sq), (∀ s ∈ l, s ∈ ss) → ∀ ps, Mov B n ps → Upto ss ps m →
    Mov B n (l.foldl mov1 ps) ∧ (∀ w, w < m → pl (l.foldl mov1 ps) w = pl ps w) ∧ (∀ w, pl ps w ≤ pl (l.foldl mov1 ps) w) ∧ ∀ s ∈ l, s.e = m → cst ps s ≤ pl (l.foldl mov1 ps) s.e
  | [], _, ps, F, _ => ⟨F, fun _ _ => rfl, fun _ => Int.le_refl _, fun s hs => absurd hs (by simp)⟩
  | s :: r, hl, ps, F, U => by
    rw [List.foldl_cons]
    have hs := hl s List.mem_cons_self
    obtain ⟨h1, h2, h3⟩ := S.lo s hs
    obtain ⟨F1, e1⟩ := mov1_ok S F hs
    have lowS : ∀ w, w < m → pl (mov1 ps s) w = pl ps w := fun w hw => by
      rw [e1]
      by_cases z : w = s.e
      · rw [if_pos z, z]
        have := U s hs (by omega)
        omega
      · rw [if_neg z]
    have up1 : ∀ w, pl ps w ≤ pl (mov1 ps s) w := fun w => by
      rw [e1]
      by_cases z : w = s.e
      · rw [if_pos z, z]
        omega
      · rw [if_neg z]
        exact Int.le_refl _
    have U1 : Upto ss (mov1 ps s) m := fun x hx hxm => by
      have := U x hx hxm
      have xl := S.lo x hx
      unfold cst at *
      rw [lowS _ hxm, lowS _ (by omega)]
      exact this
    obtain ⟨F2, l2, u2, k2⟩ := mov_fold S m r (fun x hx => hl x (List.mem_cons_of_mem _ hx)) _ F1 U1
    refine ⟨F2, fun w hw => (l2 w hw).trans (lowS w hw), fun w => Int.le_trans (up1 w) (u2 w), fun x hx hxm => ?_⟩
    rcases List.mem_cons.mp hx with rfl | hx
    · refine Int.le_trans ?_ (u2 _)
      rw [e1, if_pos rfl]
      omega
    · have := k2 x hx hxm
      have xl := S.lo x (hl x (List.mem_cons_of_mem _ hx))
      unfold cst at *
      rw [lowS _ (by omega)] at this
      exact this
theorem mov_turn (S : Steps B ss n) {m : Int} {ps : List Int} (F : Mov B n ps) (U : Upto ss ps m) : Mov B n (ss.foldl mov1 ps) ∧ Upto ss (ss.foldl mov1 ps) (m + 1) := by
  obtain ⟨F2, l2, u2, k2⟩ := mov_fold S m ss (fun _ h => h) ps F U
  refine ⟨F2, fun s hs h => ?_⟩
  have sl := S.lo s hs
  by_cases q : s.e < m
  · have := U s hs q
    unfold cst at *
    rw [l2 _ q, l2 _ (by omega)]
    exact this
  · have := k2 s hs (by omega)
    unfold cst at *
    rw [l2 _ (by omega)]
    exact this
def movN (ss : List Sq) : Nat → List Int → List Int
  | 0, ps => ps
  | k + 1, ps => movN ss k (ss.foldl mov1 ps)
theorem movN_ok (S : Steps B ss n) : ∀ (k : Nat) (m : Int) (ps : List Int), Mov B n ps → Upto ss ps m → Mov B n (movN ss k ps) ∧ Upto ss (movN ss k ps) (m + k)
  | 0, m, ps, F, U => ⟨F, by
    rw [show m + ((0 : Nat) : Int) = m by omega]
    exact U⟩
  | k + 1, m, ps, F, U => by
    obtain ⟨F1, U1⟩ := mov_turn S F U
    have := movN_ok S k (m + 1) _ F1 U1
    rw [show m + 1 + (k : Int) = m + ((k + 1 : Nat) : Int) by omega] at this
    exact this
theorem mov_start (hB : 0 ≤ B) : Mov B n (List.replicate (n + 1) 0) := ⟨(far_start (ss := []) hB).len, (far_start (ss := []) hB).lo⟩
/-- moved places: what all boxes need and more -/
theorem moved_ok (S : Steps B ss n) (hB : 0 ≤ B) : Mov B n (movN ss (n + 2) (List.replicate (n + 1) 0)) ∧ ∀ s ∈ ss, cst (movN ss (n + 2) (List.replicate (n + 1) 0)) s ≤ pl (movN ss (n + 2) (List.replicate (n + 1) 0)) s.e := by
  obtain ⟨F, U⟩ := movN_ok S (n + 2) 0 _ (mov_start hB) fun s hs h => by
    have := S.lo s hs
    omega
  refine ⟨F, fun s hs => U s hs ?_⟩
  have := S.lo s hs
  omega
end
end PG
set_option linter.all false
/-! TE: walls, by their mirror. -/
namespace Snd
open _root_.Mir PG
def eS (s : Sp) : D := .tup [.int s.1, .int s.2]
def eW (w : Wl) : D := .tup [.int w.1, .int w.2.1, .int w.2.2]
@[simp] theorem eS0 (s : Sp) : ixD (eS s) (.int 0) = some (.int s.1) := ix_t0
@[simp] theorem eS1 (s : Sp) : ixD (eS s) (.int 1) = some (.int s.2) := ix_t1
@[simp] theorem eSg (s : Sp) (gs : List GM) (ρ : Env) : gT gs (eS s) ρ = gTs gs [.int s.1, .int s.2] ρ := rfl
@[simp] theorem eW0 (s : Wl) : ixD (eW s) (.int 0) = some (.int s.1) := ix_t0
@[simp] theorem eW1 (s : Wl) : ixD (eW s) (.int 1) = some (.int s.2.1) := ix_t1
@[simp] theorem eW2 (s : Wl) : ixD (eW s) (.int 2) = some (.int s.2.2) := ix_t2
@[simp] theorem eWg (s : Wl) (gs : List GM) (ρ : Env) : gT gs (eW s) ρ = gTs gs [.int s.1, .int s.2.1, .int s.2.2] ρ := rfl
theorem eS_ok (s : Sp) : okD (eS s) = true ∧ dep (eS s) ≤ 1 := by simp [eS, okD, okDs, dep, deps]
theorem shp_eS (l : List Sp) : shp (.lst (l.map eS)) = true := shp_lst (n := 1) (fun d hd => by
  obtain ⟨s, _, rfl⟩ := List.mem_map.mp hd
  exact eS_ok s) (by decide)
theorem ord_eS (a b : Sp) : ordD (eS a) (eS b) = leS a b := by simp [ordD, eS, intsD, leS]
theorem sort_eS (l : List Sp) : sortD (.lst (l.map eS)) = some (.lst ((sortS l).map eS)) := by
  have s : sortable (l.map eS) = true := by
    have : (l.map eS).all isTi = true := List.all_eq_true.mpr fun d hd => by
      obtain ⟨s, _, rfl⟩ := List.mem_map.mp hd
      rfl
    simp [sortable, this]
  have o : okDs (l.map eS) = true := okDs_all.mpr fun d hd => by
    obtain ⟨s, _, rfl⟩ := List.mem_map.mp hd
    exact (eS_ok s).1
  have e1 : (l.map eS).mergeSort ordD = (l.mergeSort leS).map eS := (List.map_mergeSort fun a _ b _ => (ord_eS a b).symm).symm
  simp only [sortD, s, o, Bool.and_self, if_true, e1]
  rfl
theorem ix_last (acc : List D) (q : D) : ixD (.lst (acc ++ [q])) (.int (-1)) = some q := by
  show atI (acc ++ [q]) (-1) = _
  rw [atI_m (by decide) (by simp only [List.length_append, List.length_singleton]; omega)]
  have : ((-1 : Int) + ((acc ++ [q]).length : Nat)).toNat = acc.length := by simp only [List.length_append, List.length_singleton]; omega
  rw [this]
  simp
theorem joinStep_len (acc : List Sp) (s : Sp) : (joinStep acc s).length ≤ acc.length + 1 := by
  unfold joinStep
  split
  · split
    · simp
    · simp
  · simp
theorem x_joined {l : List Sp} (hl : l.length ≤ 1000) : m_joined_spans [.lst (l.map eS)] = some (.lst ((joinS (sortS l)).map eS)) := by
  have so := sort_eS l
  have hl2 : (sortS l).length ≤ 1000 := by rw [sortS, List.length_mergeSort]; exact hl
  generalize sortS l = m at *
  rw [← joinS_fold]
  have key := forGo_ix (g := gT [gN 2, gN 3]) (body := lb_joined_spans_0) (enc := eS) joinStep
    (fun n acc ρ => acc.length ≤ n ∧ ∃ s2 s3, ρ = [.frz (.lst (l.map eS)), .own (acc.map eS), s2, s3]) m 0 []
    [.frz (.lst (l.map eS)), .own [], .emp, .emp] ⟨by simp, _, _, rfl⟩ ?_
  · obtain ⟨ρ', e, _, s2, s3, rfl⟩ := key
    simp [Mir.fn, mb_joined_spans, so, e]
  · rintro i s hs acc ρ ⟨h1, s2, s3, rfl⟩
    have hi : i < m.length := (List.getElem?_eq_some_iff.mp hs).1
    refine ⟨_, _, rfl, ?_, by have := joinStep_len acc s; omega, .frz (.int s.1), .frz (.int s.2), rfl⟩
    have f1 := fits_of (n := acc.length) (by omega)
    have n1 := neD_nil (shp_eS acc)
    rcases List.eq_nil_or_concat acc with rfl | ⟨acc', q, rfl⟩
    · have n2 : neD (.lst []) (.lst []) = some (.bl false) := n1
      have f2 : fits ([] : List D).length = true := f1
      simp only [List.map_nil] at *
      simp [lb_joined_spans_0, n2, joinStep]
      exact ⟨f2, rfl⟩
    · rw [List.concat_eq_append] at *
      have il := ix_last (acc'.map eS) (eS q)
      have e1 : (acc' ++ [q]).map eS = acc'.map eS ++ [eS q] := by simp
      have j : (joinStep (acc' ++ [q]) s).map eS = if q.2 = s.1 then acc'.map eS ++ [.tup [.int q.1, .int s.2]] else (acc'.map eS ++ [eS q]) ++ [.tup [.int s.1, .int s.2]] := by
        simp only [joinStep, List.getLast?_append, List.getLast?_singleton, Option.or_some, Option.some_or, List.dropLast_concat]
        split
        · rw [List.map_append]
          rfl
        · rw [List.map_append, List.map_append]
          rfl
      rw [e1] at n1
      have ne2 : (acc'.map eS ++ [eS q]).isEmpty = false := by cases acc' <;> rfl
      rw [ne2] at n1
      rw [e1, j]
      have ix : ixN (acc'.map eS ++ [eS q]).length (-1) = some (acc'.map eS).length := by
        unfold ixN
        simp only [List.length_append, List.length_singleton]
        rw [if_neg (by decide), if_pos (by omega)]
        congr 1
        omega
      have st : ∀ d, (acc'.map eS ++ [eS q]).set (acc'.map eS).length d = acc'.map eS ++ [d] := fun d => by simp
      have f2 : fits (acc'.map eS ++ [eS q]).length = true := by
        rw [← e1, List.length_map]
        exact f1
      have q0 := eS0 q
      have q1 := eS1 q
      generalize acc'.map eS ++ [eS q] = B at *
      generalize acc'.map eS = A at *
      generalize eS q = Q at *
      by_cases z : q.2 = s.1
      · simp [lb_joined_spans_0, n1, il, z, setI, ix, q0, q1, st]
      · simp [lb_joined_spans_0, n1, il, z, f2, q0, q1]
end Snd
set_option linter.all false
/-! TF: the walls at which things end, by their mirror. -/
namespace Snd
open _root_.Mir PG
def eK (kv : Int × List Sp) : Int × List D := (kv.1, kv.2.map eS)
theorem addG_e : ∀ (m : List (Int × List Sp)) (x : Int) (s : Sp), addG (m.map eK) x (eS s) = (addS m x s).map eK
  | [], x, s => rfl
  | (k, xs) :: r, x, s => by
    simp only [List.map_cons, eK, addG, addS]
    by_cases q : k = x
    · rw [if_pos q, if_pos q]
      simp [eK]
    · rw [if_neg q, if_neg q, List.map_cons, addG_e r]
      rfl
theorem addS_small {n : Nat} : ∀ {m : List (Int × List Sp)} (x : Int) (s : Sp), (m.length ≤ n ∧ ∀ kv ∈ m, kv.2.length ≤ n) → (addS m x s).length ≤ n + 1 ∧ ∀ kv ∈ addS m x s, kv.2.length ≤ n + 1
  | [], x, s, _ => by simp [addS]
  | (k, xs) :: r, x, s, h => by
    obtain ⟨h1, h2⟩ := h
    simp only [List.length_cons] at h1
    have hx := h2 (k, xs) List.mem_cons_self
    simp only [addS]
    by_cases q : k = x
    · rw [if_pos q]
      refine ⟨by simp only [List.length_cons]; omega, fun kv hkv => ?_⟩
      rcases List.mem_cons.mp hkv with rfl | hkv
      · simp at hx ⊢
        omega
      · have := h2 kv (List.mem_cons_of_mem _ hkv)
        omega
    · rw [if_neg q]
      obtain ⟨n', rfl⟩ : ∃ n', n = n' + 1 := ⟨n - 1, by omega⟩
      have ih := addS_small (n := n' + 1) (m := r) x s ⟨by omega, fun kv hkv => h2 kv (List.mem_cons_of_mem _ hkv)⟩
      have len : (addS r x s).length ≤ r.length + 1 := by
        have key : ∀ (r : List (Int × List Sp)), (addS r x s).length ≤ r.length + 1 := fun r => by
          induction r with
          | nil => simp [addS]
          | cons kv r ih =>
            obtain ⟨k, xs⟩ := kv
            simp only [addS]
            split
            · simp
            · simp only [List.length_cons]
              omega
        exact key r
      refine ⟨by simp only [List.length_cons]; omega, fun kv hkv => ?_⟩
      rcases List.mem_cons.mp hkv with rfl | hkv
      · simp only at hx ⊢
        omega
      · exact ih.2 kv hkv
theorem stepG_small {n : Nat} {m : List (Int × List Sp)} (b : Int) (e : Wl) (h : m.length ≤ n ∧ ∀ kv ∈ m, kv.2.length ≤ n) : (stepG b m e).length ≤ n + 1 ∧ ∀ kv ∈ stepG b m e, kv.2.length ≤ n + 1 := by
  unfold stepG
  split
  · exact addS_small _ _ h
  · exact ⟨by omega, fun kv hkv => by have := h.2 kv hkv; omega⟩
theorem foldG_small (b : Int) : ∀ (l : List Wl) {n : Nat} {m : List (Int × List Sp)}, (m.length ≤ n ∧ ∀ kv ∈ m, kv.2.length ≤ n) → (l.foldl (stepG b) m).length ≤ n + l.length ∧ ∀ kv ∈ l.foldl (stepG b) m, kv.2.length ≤ n + l.length
  | [], n, m, h => h
  | e :: r, n, m, h => by
    rw [List.foldl_cons, List.length_cons, show n + (r.length + 1) = n + 1 + r.length by omega]
    exact foldG_small b r (stepG_small b e h)
/-- the loop that groups -/
theorem grp_run (b : Int) (a0 : Sl) : ∀ (l : List Wl) (n : Nat) (m : List (Int × List Sp)) (s3 s4 s5 s6 : Sl), n + l.length ≤ 1000 → (m.length ≤ n ∧ ∀ kv ∈ m, kv.2.length ≤ n) →
    ∃ t4 t5 t6, grpGo (gT [gN 4, gN 5, gN 6]) (tB (o2 neD (vB 4) (vB 1))) (vB 4) (mkT (eCons (vV 5) (eCons (vV 6) eNil))) (l.map eW) [a0, .frz (.int b), .emp, s3, s4, s5, s6] (m.map eK) =
      some ([a0, .frz (.int b), .emp, s3, t4, t5, t6], (l.foldl (stepG b) m).map eK)
  | [], n, m, s3, s4, s5, s6, _, _ => ⟨s4, s5, s6, rfl⟩
  | e :: r, n, m, s3, s4, s5, s6, hn, h => by
    rw [List.length_cons] at hn
    obtain ⟨t4, t5, t6, ih⟩ := grp_run b a0 r (n + 1) (stepG b m e) s3 (.frz (.int e.1)) (.frz (.int e.2.1)) (.frz (.int e.2.2)) (by omega) (stepG_small b e h)
    refine ⟨t4, t5, t6, ?_⟩
    rw [List.foldl_cons, ← ih]
    have f1 : fits (m.map eK).length = true := fits_of (by rw [List.length_map]; omega)
    have f2 : ((m.map eK).all fun kv => fits kv.2.length) = true := List.all_eq_true.mpr fun kv hkv => by
      obtain ⟨q, hq, rfl⟩ := List.mem_map.mp hkv
      have := h.2 q hq
      exact fits_of (by simp only [eK, List.length_map]; omega)
    have ag := addG_e m e.1 e.2
    unfold stepG
    generalize hM : m.map eK = M at *
    by_cases q : e.1 = b
    · simp [grpGo, q, hM]
    · have e2 : (D.tup [.int e.2.1, .int e.2.2]) = eS e.2 := rfl
      simp [grpGo, q, f1, f2, e2, ag]
theorem val_find : ∀ {m : List (Int × List Sp)} {x : Int}, x ∈ keyS m → kGet ((m.map eK).map fun kv => (kv.1, D.lst kv.2)) x = some (.lst ((valS m x).map eS))
  | [], x, h => by simp [keyS] at h
  | (k, xs) :: r, x, h => by
    simp only [List.map_cons, eK, kGet, List.find?_cons, valS]
    by_cases q : k = x
    · simp [q]
    · have : x ∈ keyS r := by
        rcases List.mem_cons.mp h with h | h
        · exact absurd h.symm q
        · exact h
      have ih := val_find this
      simp only [kGet] at ih
      simp only [q, decide_false, if_false]
      exact ih
theorem valS_len {n : Nat} : ∀ {m : List (Int × List Sp)} {x : Int}, (∀ kv ∈ m, kv.2.length ≤ n) → (valS m x).length ≤ n
  | [], x, _ => by simp [valS]
  | (k, xs) :: r, x, h => by
    simp only [valS]
    split
    · exact h (k, xs) List.mem_cons_self
    · exact valS_len fun kv hkv => h kv (List.mem_cons_of_mem _ hkv)
theorem joinR_len : ∀ (l : List Sp) (c : Sp), (joinR c l).length ≤ l.length + 1
  | [], c => by simp [joinR]
  | s :: r, c => by
    simp only [joinR, List.length_cons]
    split
    · have := joinR_len r (c.1, s.2)
      omega
    · have := joinR_len r s
      simp only [List.length_cons]
      omega
theorem joinS_len (l : List Sp) : (joinS l).length ≤ l.length := by
  cases l with
  | nil => simp [joinS]
  | cons s r => exact joinR_len r s
theorem foldl_flat {α β : Type} (f : α → List β) : ∀ (l : List α) (acc : List β), l.foldl (fun acc a => acc ++ f a) acc = acc ++ l.flatMap f
  | [], acc => by simp
  | a :: r, acc => by rw [List.foldl_cons, foldl_flat f r, List.flatMap_cons, List.append_assoc]
theorem x_ends {ends : List Wl} (b : Int) (hl : ends.length < 64) : m_ends_joined [.lst (ends.map eW), .int b] = some (.lst ((endsJ ends b).map eW)) := by
  obtain ⟨t4, t5, t6, e1⟩ := grp_run b (.frz (.lst (ends.map eW))) ends 0 [] .emp .emp .emp .emp (by omega) (by simp)
  have sm := foldG_small b ends (n := 0) (m := []) (by simp)
  rw [Nat.zero_add] at sm
  have gm : ends.foldl (stepG b) [] = grpF ends b := rfl
  rw [gm] at e1 sm
  unfold endsJ
  generalize grpF ends b = m at *
  have ks : sortKs 2 [.frz (.lst (ends.map eW)), .frz (.int b), .dk ((m.map eK).map fun kv => (kv.1, D.lst kv.2)), .own [], t4, t5, t6] = some (.lst ((kyL m).map .int)) := by
    have e : ((m.map eK).map fun kv => (kv.1, D.lst kv.2)).map (·.1) = keyS m := by
      simp only [List.map_map, keyS]
      rfl
    simp only [sortKs, s_slotS, s_slot0, e]
    rw [if_pos (by simp only [List.length_map]; omega)]
    rfl
  have vf : ∀ x ∈ kyL m, kGet ((m.map eK).map fun kv => (kv.1, D.lst kv.2)) x = some (.lst ((valS m x).map eS)) := fun x hx => val_find (kyL_mem.mp hx)
  have lk : (kyL m).length ≤ 64 := by
    rw [kyL, List.length_mergeSort, keyS, List.length_map]
    omega
  have key := forGo_ix (g := gN 4) (body := lb_ends_joined_0) (enc := D.int) (fun acc x => acc ++ wallsAt m x)
    (fun n acc ρ => acc.length ≤ n * 64 ∧ ∃ s4 s5 s6, ρ = [.frz (.lst (ends.map eW)), .frz (.int b), .dk ((m.map eK).map fun kv => (kv.1, D.lst kv.2)), .own (acc.map eW), s4, s5, s6]) (kyL m) 0 []
    [.frz (.lst (ends.map eW)), .frz (.int b), .dk ((m.map eK).map fun kv => (kv.1, D.lst kv.2)), .own [], t4, t5, t6] ⟨by simp, _, _, _, rfl⟩ ?_
  · obtain ⟨ρ', e, _, s4, s5, s6, rfl⟩ := key
    rw [foldl_flat, List.nil_append] at e
    simp only [List.map_nil] at e1
    simp [-List.map_map, Mir.fn, mb_ends_joined, newK, grpS, e1, ks, e]
  · rintro i x hx acc ρ ⟨h1, s4, s5, s6, rfl⟩
    have hi : i < (kyL m).length := (List.getElem?_eq_some_iff.mp hx).1
    have hm := List.mem_of_getElem? hx
    have v := vf x hm
    have vl := valS_len (x := x) sm.2
    have jl := joinS_len (sortS (valS m x))
    rw [sortS, List.length_mergeSort] at jl
    have xj := x_joined (l := valS m x) (by omega)
    have wl : (wallsAt m x).length ≤ 64 := by
      rw [wallsAt, List.length_map]
      unfold sortS
      omega
    have f : fits ((acc.map eW).length + (wallsAt m x).length) = true := fits_of (by rw [List.length_map]; omega)
    have lg : ∀ s0 s1 s2 s3, lcGo (gT [gN 5, gN 6]) tYes (mkT (eCons (vV 4) (eCons (vV 5) (eCons (vV 6) eNil)))) [s0, s1, s2, s3, .frz (.int x), .emp, .emp] ((joinS (sortS (valS m x))).map eS) = some ((wallsAt m x).map eW) := fun s0 s1 s2 s3 => by
      rw [lcGo_all (fun s => eW (x, s)) _ fun s _ => ⟨_, rfl, by simp; rfl⟩, wallsAt, List.map_map]
      rfl
    generalize wallsAt m x = W at *
    generalize (m.map eK).map (fun kv => (kv.1, D.lst kv.2)) = M at *
    refine ⟨_, _, rfl, ?_, by rw [List.length_append, Nat.add_mul]; simp; omega, .frz (.int x), s5, s6, rfl⟩
    rw [List.length_map] at f
    simp [lb_ends_joined_0, getK, dLook, v, xj, lg, f]
end Snd
set_option linter.all false
/-! TG: the walls of a page, the sides of a box, by their mirrors. -/
namespace Snd
open _root_.Mir PG
/-- a page of the law -/
structure Pg (w h : Int) (bs : List Bx) : Prop where
  w0 : 0 < w
  h0 : 0 < h
  w1 : w ≤ 40
  h1 : h ≤ 40
  t : Til ⟨0, 0, w, h⟩ bs
  l0 : 1 ≤ bs.length
  l1 : bs.length ≤ 24
def eP (w h : Int) (bs : List Bx) : D := .tup [.int w, .int h, .tup (bs.map eB)]
@[simp] theorem eP0 (w h : Int) (bs : List Bx) : ixD (eP w h bs) (.int 0) = some (.int w) := ix_t0
@[simp] theorem eP1 (w h : Int) (bs : List Bx) : ixD (eP w h bs) (.int 1) = some (.int h) := ix_t1
@[simp] theorem eP2 (w h : Int) (bs : List Bx) : ixD (eP w h bs) (.int 2) = some (.tup (bs.map eB)) := ix_t2
theorem cut_eq {α : Type} (xs : List α) : cut xs (some 4) (some 62) = (xs.take 62).drop 4 := cut_k xs (by decide) (by decide)
theorem x_lawpage (ns : List Int) : ∃ w h bs, Pg w h bs ∧ m__law_page_of [.fz ns] = some (eP w h bs) := by
  generalize hc : cellAt ns 0 = c
  have k1 := mixed_mod c 1 (n := 40) (by decide)
  have k2 := mixed_mod c 2 (n := 40) (by decide)
  have m1 := modD_i (i := mixed c 1) (j := 40) (by decide)
  have m2 := modD_i (i := mixed c 2) (j := 40) (by decide)
  generalize hw : 1 + mixed c 1 % 40 = w at *
  generalize hh : 1 + mixed c 2 % 40 = h at *
  have w0 : 0 < w ∧ w ≤ 40 := by omega
  have h0 : 0 < h ∧ h ≤ 40 := by omega
  obtain ⟨bs, hbs⟩ : ∃ bs, (cut ns (some 4) (some 62)).foldl stepB [⟨0, 0, w, h⟩] = bs := ⟨_, rfl⟩
  have pb : PgB ⟨0, 0, w, h⟩ bs := by
    rw [← hbs]
    exact fold_ok _ ⟨.one ⟨w0.1, h0.1⟩, by simp, by simp⟩
  have eb := m_boxes (cut ns (some 4) (some 62)) w h w0.1 h0.1
  rw [hbs] at eb
  have e0 := m_cell ns (k := 0) (by decide)
  rw [hc] at e0
  have slice : slD (.fz ns) (some 4) (some 62) = some (.lst ((cut ns (some 4) (some 62)).map .int)) := rfl
  have xp := x_page w0.1 h0.1 (by omega) pb.1 pb.2.1 pb.2.2
  refine ⟨w, h, bs.mergeSort fun a b => ordD (keyB a) (keyB b), ⟨w0.1, h0.1, w0.2, h0.2, pb.1.perm (List.mergeSort_perm _ _).symm, ?_, ?_⟩, ?_⟩
  · rw [List.length_mergeSort]
    exact pb.2.1
  · rw [List.length_mergeSort]
    exact pb.2.2
  · simp [Mir.fn, mb__law_page_of, e0, m_mixed, m1, m2, hw, hh, slice, eb, xp]
    rfl
theorem x_uprights {w h : Int} {bs : List Bx} (g : Pg w h bs) : m_uprights [eP w h bs] = some (.lst ((ups bs w).map eW)) := by
  have lg : ∀ s0, lcGo (gN 1) tYes (mkT (eCons (o2 ixD (vB 1) (cD (.int 2))) (eCons (o2 ixD (vB 1) (cD (.int 1))) (eCons (o2 ixD (vB 1) (cD (.int 3))) eNil)))) [s0, .emp] (bs.map eB) = some ((bs.map endOf).map eW) := fun s0 => by
    rw [lcGo_all (fun b => eW (endOf b)) bs fun b _ => ⟨_, rfl, by simp; rfl⟩, List.map_map]
    rfl
  have xe := x_ends (ends := bs.map endOf) w (by rw [List.length_map]; have := g.l1; omega)
  unfold ups
  generalize bs.map endOf = E at *
  simp [Mir.fn, mb_uprights, lg, xe]
theorem x_levels {w h : Int} {bs : List Bx} (g : Pg w h bs) : m_levels [eP w h bs] = some (.lst ((ups (bs.map tr) h).map eW)) := by
  have lg : ∀ s0, lcGo (gN 1) tYes (mkT (eCons (o2 ixD (vB 1) (cD (.int 3))) (eCons (o2 ixD (vB 1) (cD (.int 0))) (eCons (o2 ixD (vB 1) (cD (.int 2))) eNil)))) [s0, .emp] (bs.map eB) = some (((bs.map tr).map endOf).map eW) := fun s0 => by
    rw [lcGo_all (fun b => eW (endOf (tr b))) bs fun b _ => ⟨_, rfl, by simp; rfl⟩, List.map_map, List.map_map]
    rfl
  have xe := x_ends (ends := (bs.map tr).map endOf) h (by rw [List.length_map, List.length_map]; have := g.l1; omega)
  unfold ups
  generalize (bs.map tr).map endOf = E at *
  simp [Mir.fn, mb_levels, lg, xe]
theorem enum_zip (f : Wl → D) : ∀ (l : List Wl) (k : Nat), enumL k (l.map f) = (l.zipIdx k).map fun p => D.tup [.int p.2, f p.1]
  | [], _ => rfl
  | w :: r, k => by
    rw [List.map_cons, enumL, enum_zip f r (k + 1)]
    rfl
theorem x_wall {ws : List Wl} {x y b : Int} {i : Nat} {w : Wl} (h0 : x ≠ 0) (hb : x ≠ b) (hi : ws[i]? = some w) (e : w.1 = x) (h1 : w.2.1 ≤ y) (h2 : y < w.2.2)
    (one : ∀ (j : Nat) (v : Wl), ws[j]? = some v → v.1 = x → v.2.1 ≤ y → y < v.2.2 → j = i) : m_wall_at [.lst (ws.map eW), .int x, .int y, .int b] = some (.int i) := by
  have key := forGo_ret (g := gT [gN 4, gN 5]) (body := lb_wall_at_0) (enc := fun p : Wl × Nat => D.tup [.int p.2, eW p.1]) (d := .int i) (fun p => p.1.1 = x ∧ p.1.2.1 ≤ y ∧ y < p.1.2.2) (fun (_ : Unit) _ => ())
    (fun _ _ ρ => ∃ s4 s5, ρ = [.frz (.lst (ws.map eW)), .frz (.int x), .frz (.int y), .frz (.int b), s4, s5]) (ws.zipIdx 0) 0 ()
    [.frz (.lst (ws.map eW)), .frz (.int x), .frz (.int y), .frz (.int b), .emp, .emp] ⟨_, _, rfl⟩ ?_
  · rw [← enum_zip] at key
    rcases key with ⟨_, r⟩ | ⟨no, _⟩
    · simp [Mir.fn, mb_wall_at, h0, hb, iEn, r]
    · exact absurd ⟨e, h1, h2⟩ (no (w, i) (List.mk_mem_zipIdx_iff_getElem?.mpr hi))
  · rintro j ⟨v, k⟩ hv s ρ ⟨s4, s5, rfl⟩
    have hk : ws[k]? = some v := List.mk_mem_zipIdx_iff_getElem?.mp (List.mem_of_getElem? hv)
    refine ⟨_, rfl, ?_⟩
    by_cases q1 : v.1 = x
    · by_cases q2 : v.2.1 ≤ y
      · by_cases q3 : y < v.2.2
        · refine .inl ⟨⟨q1, q2, q3⟩, ?_⟩
          have := one k v hk q1 q2 q3
          subst this
          simp [lb_wall_at_0, q1, q2, q3]
        · exact .inr ⟨fun z => q3 z.2.2, [.frz (.lst (ws.map eW)), .frz (.int x), .frz (.int y), .frz (.int b), .frz (.int k), .frz (eW v)], by simp [lb_wall_at_0, q1, q2, q3], _, _, rfl⟩
      · exact .inr ⟨fun z => q2 z.2.1, [.frz (.lst (ws.map eW)), .frz (.int x), .frz (.int y), .frz (.int b), .frz (.int k), .frz (eW v)], by simp [lb_wall_at_0, q1, q2], _, _, rfl⟩
    · exact .inr ⟨fun z => q1 z.1, [.frz (.lst (ws.map eW)), .frz (.int x), .frz (.int y), .frz (.int b), .frz (.int k), .frz (eW v)], by simp [lb_wall_at_0, q1], _, _, rfl⟩
theorem x_wall0 {ws : List Wl} {y b : Int} : m_wall_at [.lst (ws.map eW), .int 0, .int y, .int b] = some (.int (-1)) := by
  simp [Mir.fn, mb_wall_at]
theorem x_wallB {ws : List Wl} {y b : Int} (h : b ≠ 0) : m_wall_at [.lst (ws.map eW), .int b, .int y, .int b] = some (.int ws.length) := by
  simp [Mir.fn, mb_wall_at, h]
theorem x_sideL {bs : List Bx} {W : Int} {ws : List Wl} (wy : Way bs W ws) {b : Bx} (hb : b ∈ bs) (hW : b.l ≠ W) : m_wall_at [.lst (ws.map eW), .int b.l, .int b.t, .int W] = some (.int (un ws W b.l b.t)) := by
  by_cases q : b.l = 0
  · rw [q, x_wall0]
    rfl
  · obtain ⟨i, w, hi, e, h1, h2, h3, h4⟩ := wy.sl b hb q
    rw [e]
    exact x_wall q hW hi h1 h2 h3 h4
theorem x_sideR {bs : List Bx} {W : Int} {ws : List Wl} (wy : Way bs W ws) {b : Bx} (hb : b ∈ bs) (h0 : b.r ≠ 0) : m_wall_at [.lst (ws.map eW), .int b.r, .int b.t, .int W] = some (.int (un ws W b.r b.t)) := by
  by_cases q : b.r = W
  · subst q
    rw [x_wallB h0]
    unfold un
    rw [if_neg h0, if_pos rfl]
  · obtain ⟨i, w, hi, e, h1, h2, h3, h4⟩ := wy.sr b hb q
    rw [e]
    exact x_wall h0 q hi h1 h2 h3 h4
/-- the sides of a box -/
structure Sd where
  l : Int
  r : Int
  t : Int
  b : Int
def sdOf (w h : Int) (bs : List Bx) (b : Bx) : Sd := ⟨un (ups bs w) w b.l b.t, un (ups bs w) w b.r b.t, un (ups (bs.map tr) h) h b.t b.l, un (ups (bs.map tr) h) h b.b b.l⟩
def eD (s : Sd) : D := .tup [.int s.l, .int s.r, .int s.t, .int s.b]
@[simp] theorem eD0 (s : Sd) : ixD (eD s) (.int 0) = some (.int s.l) := ix_t0
@[simp] theorem eD1 (s : Sd) : ixD (eD s) (.int 1) = some (.int s.r) := ix_t1
@[simp] theorem eD2 (s : Sd) : ixD (eD s) (.int 2) = some (.int s.t) := ix_t2
@[simp] theorem eD3 (s : Sd) : ixD (eD s) (.int 3) = some (.int s.b) := ix_t3
@[simp] theorem eDg (s : Sd) (gs : List GM) (ρ : Env) : gT gs (eD s) ρ = gTs gs [.int s.l, .int s.r, .int s.t, .int s.b] ρ := rfl
theorem Pg.wayU {w h : Int} {bs : List Bx} (g : Pg w h bs) : Way bs w (ups bs w) := way_ok g.w0 g.t g.h0
theorem Pg.wayL {w h : Int} {bs : List Bx} (g : Pg w h bs) : Way (bs.map tr) h (ups (bs.map tr) h) := way_ok (H := w) g.h0 (tr_til g.t) g.w0
theorem x_sides {w h : Int} {bs : List Bx} (g : Pg w h bs) {k : Nat} (hk : k < bs.length) : m_sides [eP w h bs, .int k] = some (eD (sdOf w h bs (nth bs k))) := by
  have xu := x_uprights g
  have xl := x_levels g
  have hb := nth_mem hk
  have ib := ix_bt hk
  have wi := g.t.within hb
  obtain ⟨o1, o2⟩ := g.t.ok _ hb
  simp only at wi
  have hbt : tr (nth bs k) ∈ bs.map tr := List.mem_map_of_mem hb
  have s1 := x_sideL g.wayU hb (by omega)
  have s2 := x_sideR g.wayU hb (by omega)
  have s3 := x_sideL g.wayL hbt (by simp only [tr]; omega)
  have s4 := x_sideR g.wayL hbt (by simp only [tr]; omega)
  simp only [tr] at s3 s4
  have lk : ¬ ((bs.length : Int) ≤ k) := by omega
  have lk0 : ¬ ((k : Int) < 0) := by omega
  have at4 : ∀ a b c d, addD (.tup [.int a, .int b]) (.tup [.int c, .int d]) = some (.tup [.int a, .int b, .int c, .int d]) := fun a b c d => by
    simp only [addD]
    rw [if_pos (fits_of (by simp))]
    rfl
  unfold sdOf
  generalize nth bs k = b at *
  change m_sides [eP w h bs, .int k] = some (.tup [.int (un (ups bs w) w b.l b.t), .int (un (ups bs w) w b.r b.t), .int (un (ups (bs.map tr) h) h b.t b.l), .int (un (ups (bs.map tr) h) h b.b b.l)])
  generalize (ups bs w).map eW = U at *
  generalize (ups (bs.map tr) h).map eW = L at *
  generalize un (ups bs w) w b.l b.t = u1 at *
  generalize un (ups bs w) w b.r b.t = u2 at *
  generalize un (ups (bs.map tr) h) h b.t b.l = u3 at *
  generalize un (ups (bs.map tr) h) h b.b b.l = u4 at *
  simp [Mir.fn, mb_sides, lk0, lk, ib, xu, xl, s1, s2, s3, s4, at4]
end Snd
set_option linter.all false
/-! TH: needs, steps, by their mirrors. -/
namespace Snd
open _root_.Mir PG
structure Nds (bs : List Bx) (nd : List Sp) : Prop where
  len : nd.length = bs.length
  ok : ∀ p ∈ nd, 1 ≤ p.1 ∧ p.1 ≤ 2000 ∧ 1 ≤ p.2 ∧ p.2 ≤ 2000
def needOf (h m : Int) (k : Nat) : Sp := (1 + mixed h (100 + 2 * k) % m, 1 + mixed h (101 + 2 * k) % m)
theorem lenD_P {w h : Int} {bs : List Bx} : lenD (.tup (bs.map eB)) = some (.int bs.length) := by rw [lenD_t, List.length_map]
theorem x_lawneeds {w h : Int} {bs : List Bx} (g : Pg w h bs) (hd : Int) : ∃ nd, Nds bs nd ∧ m__law_needs [eP w h bs, .int hd] = some (.lst (nd.map eS)) := by
  have m3 := modD_i (i := mixed hd 3) (j := 3) (by decide)
  have k3 := mixed_mod hd 3 (n := 3) (by decide)
  obtain ⟨m, hm, hm2, ix⟩ : ∃ m, 0 < m ∧ m ≤ 2000 ∧ ixD (.lst [.int 9, .int 9, .int 2000]) (.int (mixed hd 3 % 3)) = some (.int m) := by
    have : mixed hd 3 % 3 = 0 ∨ mixed hd 3 % 3 = 1 ∨ mixed hd 3 % 3 = 2 := by omega
    rcases this with e | e | e <;> rw [e]
    · exact ⟨9, by decide, by decide, ix_l0⟩
    · exact ⟨9, by decide, by decide, ix_l1⟩
    · exact ⟨2000, by decide, by decide, ix_l2⟩
  have r1 : ∀ ρ : Env, slot ρ 0 = .frz (eP w h bs) → iR1 (o1 lenD (o2 ixD (vB 0) (cD (.int 2)))) ρ = some ((List.range bs.length).map fun i : Nat => D.int i) := fun ρ hρ => by
    have := iR1_i (a := o1 lenD (o2 ixD (vB 0) (cD (.int 2)))) (ρ := ρ) (n := bs.length) (by simp [hρ]) (by have := g.l1; omega) (by omega)
    rwa [Int.toNat_natCast] at this
  have key := forGo_ix (g := gN 4) (body := lb__law_needs_0) (enc := fun i : Nat => D.int i) (fun acc k => acc ++ [needOf hd m k])
    (fun n acc ρ => acc.length = n ∧ ∃ s4, ρ = [.frz (eP w h bs), .frz (.int hd), .frz (.int m), .own (acc.map eS), s4]) (List.range bs.length) 0 []
    [.frz (eP w h bs), .frz (.int hd), .frz (.int m), .own [], .emp] ⟨by simp, _, rfl⟩ ?_
  · obtain ⟨ρ', e, hl, s4, rfl⟩ := key
    rw [foldl_map, List.nil_append] at *
    refine ⟨(List.range bs.length).map (needOf hd m), ⟨by simp, fun p hp => ?_⟩, ?_⟩
    · obtain ⟨k, _, rfl⟩ := List.mem_map.mp hp
      have a := mixed_mod hd (100 + 2 * k) hm
      have b := mixed_mod hd (101 + 2 * k) hm
      simp only [needOf]
      omega
    · have r2 := r1 [.frz (eP w h bs), .frz (.int hd), .frz (.int m), .own [], .emp] rfl
      simp [Mir.fn, mb__law_needs, m_mixed, m3, ix, r2, e]
  · rintro i k hk acc ρ ⟨h1, s4, rfl⟩
    have hi : i < (List.range bs.length).length := (List.getElem?_eq_some_iff.mp hk).1
    rw [List.length_range] at hi
    have ek : k = i := by
      have := (List.getElem?_eq_some_iff.mp hk).2
      simpa using this.symm
    subst ek
    have f := fits_of (n := acc.length) (by have := g.l1; omega)
    have mu := mulD_i (i := 2) (j := k) (by decide) (by decide)
    have n1 := modD_i (i := mixed hd (100 + 2 * k)) (j := m) hm
    have n2 := modD_i (i := mixed hd (101 + 2 * k)) (j := m) hm
    refine ⟨_, _, rfl, ?_, by simp; omega, .frz (.int k), rfl⟩
    simp [lb__law_needs_0, m_mixed, mu, n1, n2, f, needOf, eS]
theorem x_isneed {p : Sp} (h : 1 ≤ p.1 ∧ p.1 ≤ 2000 ∧ 1 ≤ p.2 ∧ p.2 ≤ 2000) : m_is_need [eS p] = some (.bl true) := by
  obtain ⟨a, b⟩ := p
  simp only at h
  have h1 : ¬ a < 1 := by omega
  have h2 : ¬ 2000 < a := by omega
  have h3 : ¬ b < 1 := by omega
  have h4 : ¬ 2000 < b := by omega
  simp [Mir.fn, mb_is_need, eS, forGo, lb_is_need_0, h1, h2, h3, h4]
theorem isList_l {xs : List D} : isList (.lst xs) = some (.bl true) := rfl
theorem x_needneeds {w h : Int} {bs : List Bx} {nd : List Sp} (n : Nds bs nd) : m_need_needs [eP w h bs, .lst (nd.map eS)] = some .non := by
  have key := forGo_all (g := gN 2) (body := lb_need_needs_0) (enc := eS) (fun ρ => ∃ s2, ρ = [.frz (eP w h bs), .frz (.lst (nd.map eS)), s2]) nd
    [.frz (eP w h bs), .frz (.lst (nd.map eS)), .emp] ⟨_, rfl⟩ ?_
  · obtain ⟨ρ', e, s2, rfl⟩ := key
    have l := n.len
    simp [Mir.fn, mb_need_needs, isList_l, e, l]
  · rintro p hp ρ ⟨s2, rfl⟩
    have := x_isneed (n.ok p hp)
    refine ⟨_, _, rfl, ?_, .frz (eS p), rfl⟩
    simp [lb_need_needs_0, this]
/-! ### ways -/
def wI (up : Bool) : Int := if up then 0 else 1
def Sd.lo (up : Bool) (s : Sd) : Int := if up then s.l else s.t
def Sd.hi (up : Bool) (s : Sd) : Int := if up then s.r else s.b
def nOf (up : Bool) (p : Sp) : Int := if up then p.1 else p.2
theorem ix_lo (up : Bool) (s : Sd) : ixD (eD s) (.int (2 * wI up)) = some (.int (s.lo up)) := by
  cases up
  · exact eD2 s
  · exact eD0 s
theorem ix_hi (up : Bool) (s : Sd) : ixD (eD s) (.int (2 * wI up + 1)) = some (.int (s.hi up)) := by
  cases up
  · exact eD3 s
  · exact eD1 s
theorem ix_n (up : Bool) (p : Sp) : ixD (eS p) (.int (wI up)) = some (.int (nOf up p)) := by
  cases up
  · exact eS1 p
  · exact eS0 p
theorem mul_wI (up : Bool) : mulD (.int 2) (.int (wI up)) = some (.int (2 * wI up)) := mulD_i (by decide) (by decide)
def stA (w h : Int) (bs : List Bx) (nd : List Sp) (up : Bool) (k : Nat) : Sq := ⟨(sdOf w h bs (nth bs k)).lo up, (sdOf w h bs (nth bs k)).hi up, nOf up (nd.getD k (0, 0))⟩
def stps (w h : Int) (bs : List Bx) (nd : List Sp) (up : Bool) : List Sq := (List.range bs.length).map (stA w h bs nd up)
def eT (s : Sq) : D := .tup [.int s.b, .int s.e, .int s.n]
@[simp] theorem eTg (s : Sq) (gs : List GM) (ρ : Env) : gT gs (eT s) ρ = gTs gs [.int s.b, .int s.e, .int s.n] ρ := rfl
theorem ix_nd {nd : List Sp} {k : Nat} (h : k < nd.length) : ixD (.lst (nd.map eS)) (.int k) = some (eS (nd.getD k (0, 0))) := by
  rw [ix_l (by omega), Int.toNat_natCast, List.getElem?_map, List.getD, List.getElem?_eq_getElem h]
  rfl
theorem x_steps {w h : Int} {bs : List Bx} {nd : List Sp} (g : Pg w h bs) (n : Nds bs nd) (up : Bool) : m_steps_of [eP w h bs, .lst (nd.map eS), .int (wI up)] = some (.lst ((stps w h bs nd up).map eT)) := by
  have key := forGo_ix (g := gN 4) (body := lb_steps_of_0) (enc := fun i : Nat => D.int i) (fun acc k => acc ++ [stA w h bs nd up k])
    (fun n acc ρ => acc.length = n ∧ ∃ s4 s5, ρ = [.frz (eP w h bs), .frz (.lst (nd.map eS)), .frz (.int (wI up)), .own (acc.map eT), s4, s5]) (List.range bs.length) 0 []
    [.frz (eP w h bs), .frz (.lst (nd.map eS)), .frz (.int (wI up)), .own [], .emp, .emp] ⟨by simp, _, _, rfl⟩ ?_
  · obtain ⟨ρ', e, hl, s4, s5, rfl⟩ := key
    rw [foldl_map, List.nil_append] at *
    have r1 := iR1_i (a := o1 lenD (vB 1)) (ρ := [.frz (eP w h bs), .frz (.lst (nd.map eS)), .frz (.int (wI up)), .own [], .emp, .emp]) (n := bs.length) (by simp [n.len]) (by have := g.l1; omega) (by omega)
    rw [Int.toNat_natCast] at r1
    have e0 : (List.range bs.length).map (stA w h bs nd up) = stps w h bs nd up := rfl
    rw [e0] at e
    generalize stps w h bs nd up = SS at *
    simp [Mir.fn, mb_steps_of, r1, e]
  · rintro i k hk acc ρ ⟨h1, s4, s5, rfl⟩
    have hi : i < (List.range bs.length).length := (List.getElem?_eq_some_iff.mp hk).1
    rw [List.length_range] at hi
    have ek : k = i := by
      have := (List.getElem?_eq_some_iff.mp hk).2
      simpa using this.symm
    subst ek
    have f := fits_of (n := acc.length) (by have := g.l1; omega)
    have sd := x_sides g hi
    have i1 := ix_nd (nd := nd) (k := k) (by rw [n.len]; exact hi)
    have es : (acc ++ [stA w h bs nd up k]).map eT = acc.map eT ++ [.tup [.int ((sdOf w h bs (nth bs k)).lo up), .int ((sdOf w h bs (nth bs k)).hi up), .int (nOf up (nd.getD k (0, 0)))]] := by simp [eT, stA]
    rw [es]
    have q1 := ix_lo up (sdOf w h bs (nth bs k))
    have q2 := ix_hi up (sdOf w h bs (nth bs k))
    have q3 := ix_n up (nd.getD k (0, 0))
    have mu := mul_wI up
    generalize wI up = W at *
    refine ⟨_, _, rfl, ?_, by simp; omega, .frz (.int k), .frz (eD (sdOf w h bs (nth bs k))), rfl⟩
    generalize (sdOf w h bs (nth bs k)).lo up = a1 at *
    generalize (sdOf w h bs (nth bs k)).hi up = a2 at *
    generalize nOf up (nd.getD k (0, 0)) = a3 at *
    generalize sdOf w h bs (nth bs k) = sdd at *
    generalize nd.getD k (0, 0) = ndd at *
    simp [lb_steps_of_0, sd, mu, q1, q2, i1, q3, f]
theorem steps_ok {w h : Int} {bs : List Bx} {nd : List Sp} (g : Pg w h bs) (n : Nds bs nd) (up : Bool) : Steps 2000 (stps w h bs nd up) (if up then (ups bs w).length else (ups (bs.map tr) h).length) := by
  have mem : ∀ s ∈ stps w h bs nd up, ∃ k, k < bs.length ∧ s = stA w h bs nd up k := fun s hs => by
    obtain ⟨k, hk, rfl⟩ := List.mem_map.mp hs
    exact ⟨k, List.mem_range.mp hk, rfl⟩
  have back : ∀ b ∈ bs, ∃ k, k < bs.length ∧ nth bs k = b := fun b hb => by
    obtain ⟨k, hk, e⟩ := List.mem_iff_getElem.mp hb
    exact ⟨k, hk, (nth_eq hk).trans e⟩
  refine ⟨fun s hs => ?_, fun s hs => ?_, fun j hj => ?_⟩
  · obtain ⟨k, hk, rfl⟩ := mem s hs
    have hb := nth_mem hk
    cases up
    · exact g.wayL.lt (tr (nth bs k)) (List.mem_map_of_mem hb)
    · exact g.wayU.lt (nth bs k) hb
  · obtain ⟨k, hk, rfl⟩ := mem s hs
    have hk' : k < nd.length := by rw [n.len]; exact hk
    have e : nd.getD k (0, 0) = nd[k] := by simp [List.getD, hk']
    have := n.ok _ (List.getElem_mem hk')
    simp only [stA, e]
    cases up
    · exact ⟨this.2.2.1, this.2.2.2⟩
    · exact ⟨this.1, this.2.1⟩
  · cases up
    · obtain ⟨c, hc, e⟩ := g.wayL.hit j (by simpa using hj)
      obtain ⟨b, hb, rfl⟩ := List.mem_map.mp hc
      obtain ⟨k, hk, rfl⟩ := back b hb
      exact ⟨_, List.mem_map_of_mem (List.mem_range.mpr hk), e⟩
    · obtain ⟨b, hb, e⟩ := g.wayU.hit j (by simpa using hj)
      obtain ⟨k, hk, rfl⟩ := back b hb
      exact ⟨_, List.mem_map_of_mem (List.mem_range.mpr hk), e⟩
end Snd
set_option linter.all false
/-! TI: the least places, a chain, by their mirrors. -/
namespace Snd
open _root_.Mir PG
@[simp] theorem s_lendE {is : List Nat} {m : EM} {ρ : Env} : lendE is m ρ = (m (freeze ρ is)).bind fun d => if flat d then some d else none := rfl
@[simp] theorem flat_int {i : Int} : flat (.int i) = true := rfl
theorem ix_pl {ps : List Int} {w : Int} (h0 : 0 ≤ w) (h : w < ps.length) : ixD (.lst (ps.map .int)) (.int w) = some (.int (pl ps w)) := by
  rw [ix_l h0, List.getElem?_map, pl, if_neg (by omega), List.getD, List.getElem?_eq_getElem (show w.toNat < ps.length by omega)]
  rfl
theorem x_place {ps : List Int} {w : Int} (h0 : -1 ≤ w) (h : w < ps.length) : m_place_of [.lst (ps.map .int), .int w] = some (.int (pl ps w)) := by
  by_cases q : w < 0
  · have e : pl ps w = 0 := if_pos q
    rw [e]
    simp [Mir.fn, mb_place_of, q]
  · have i := ix_pl (ps := ps) (w := w) (by omega) h
    generalize pl ps w = v at *
    generalize ps.map D.int = A at *
    simp [Mir.fn, mb_place_of, q, i]
theorem ixN_p {n : Nat} {i : Int} (h0 : 0 ≤ i) (h : i < n) : ixN n i = some i.toNat := by
  unfold ixN
  rw [if_pos h0, if_pos h]
@[simp] theorem s_setI {i : Nat} {ix e : EM} {ρ : Env} : setI i ix e ρ = (e ρ).bind fun d => (ix ρ).bind fun k => match slot ρ i, k with
  | .own ds, .int k => (ixN ds.length k).bind fun j => some (.next (put ρ i (.own (ds.set j d))))
  | _, _ => none := rfl
section
variable {B : Int} {ss : List Sq} {n : Nat}
theorem far_turn (S : Steps B ss n) (A0 A1 : Sl) {ps : List Int} (F : Far B ss n ps) (s3 s4 s5 s6 s7 : Sl) : ∃ t4 t5 t6 t7, Far B ss n (ss.foldl far1 (ps, false)).1 ∧
    forGo (gT [gN 4, gN 5, gN 6]) lb_farthest_0 (ss.map eT) [A0, A1, .own (ps.map .int), .frz (.bl false), s4, s5, s6, s7] =
      some (.next [A0, A1, .own ((ss.foldl far1 (ps, false)).1.map .int), .frz (.bl (ss.foldl far1 (ps, false)).2), t4, t5, t6, t7]) := by
  have key := forGo_fold (g := gT [gN 4, gN 5, gN 6]) (body := lb_farthest_0) (enc := eT) far1
    (fun st ρ => Far B ss n st.1 ∧ ∃ t4 t5 t6 t7, ρ = [A0, A1, .own (st.1.map .int), .frz (.bl st.2), t4, t5, t6, t7]) ss (ps, false)
    [A0, A1, .own (ps.map .int), .frz (.bl false), s4, s5, s6, s7] ⟨F, _, _, _, _, rfl⟩ ?_
  · obtain ⟨ρ', e, F', t4, t5, t6, t7, rfl⟩ := key
    exact ⟨t4, t5, t6, t7, F', e⟩
  · rintro s hs ⟨qs, c⟩ ρ ⟨F, t4, t5, t6, t7, rfl⟩
    obtain ⟨h1, h2, h3⟩ := S.lo s hs
    have fl := F.len
    have F2 := (far1_ok S F hs).1
    have xp := x_place (ps := qs) (w := s.b) h1 (by simp only at fl; omega)
    have xi := ix_pl (ps := qs) (w := s.e) (by omega) (by simp only at fl; omega)
    have xn := ixN_p (n := (qs.map D.int).length) (i := s.e) (by omega) (by rw [List.length_map]; simp only at fl; omega)
    refine ⟨_, [A0, A1, .own ((far1 (qs, c) s).1.map .int), .frz (.bl (far1 (qs, c) s).2), .frz (.int s.b), .frz (.int s.e), .frz (.int s.n), .frz (.int (cst qs s))], rfl, ?_, F2, _, _, _, _, rfl⟩
    unfold far1
    by_cases q : cst qs s > pl qs s.e
    · rw [if_pos q]
      have q' : pl qs s.e < pl qs s.b + s.n := q
      simp only [List.map_set]
      unfold cst
      generalize qs.map D.int = M at *
      generalize pl qs s.e = p1 at *
      generalize pl qs s.b = p2 at *
      simp [lb_farthest_0, xp, xi, xn, q']
    · rw [if_neg q]
      have q' : ¬ pl qs s.e < pl qs s.b + s.n := q
      unfold cst
      simp only
      generalize qs.map D.int = M at *
      generalize pl qs s.e = p1 at *
      generalize pl qs s.b = p2 at *
      simp [lb_farthest_0, xp, xi, q']
theorem far_loop (S : Steps B ss n) (A1 : Sl) : ∀ (k : Nat) (ps : List Int) (s4 s5 s6 s7 : Sl), Far B ss n ps → (most B n - tot ps).toNat < k →
    ∃ m qs t4 t5 t6 t7, Done B ss n qs ∧ whGo (tB (vB 3)) lb_farthest_1 m [.frz (.lst (ss.map eT)), A1, .own (ps.map .int), .frz (.bl true), s4, s5, s6, s7] =
      some (.next [.frz (.lst (ss.map eT)), A1, .own (qs.map .int), .frz (.bl false), t4, t5, t6, t7])
  | 0, _, _, _, _, _, _, h => absurd h (by omega)
  | k + 1, ps, s4, s5, s6, s7, F, h => by
    obtain ⟨t4, t5, t6, t7, F1, e⟩ := far_turn S (.frz (.lst (ss.map eT))) A1 F (.frz (.bl true)) s4 s5 s6 s7
    obtain ⟨_, _, t1, _, c⟩ := far_fold S ss (fun _ h => h) (ps, false) F
    have c := c rfl
    generalize ss.foldl far1 (ps, false) = st at *
    have eb : lb_farthest_1 [.frz (.lst (ss.map eT)), A1, .own (ps.map .int), .frz (.bl true), s4, s5, s6, s7] = some (.next [.frz (.lst (ss.map eT)), A1, .own (st.1.map .int), .frz (.bl st.2), t4, t5, t6, t7]) := by
      generalize ps.map D.int = M at *
      generalize st.1.map D.int = M2 at *
      simp [lb_farthest_1, e]
    have ht : tB (vB 3) [.frz (.lst (ss.map eT)), A1, .own (ps.map .int), .frz (.bl true), s4, s5, s6, s7] = some true := rfl
    rcases c with ⟨c1, c2⟩ | ⟨c1, c2⟩
    · rw [c1] at eb
      have m1 := tot_most F1
      have m0 := tot_most F
      obtain ⟨m, qs, u4, u5, u6, u7, D', e'⟩ := far_loop S A1 k st.1 t4 t5 t6 t7 F1 (by simp only at c2; omega)
      exact ⟨m + 1, qs, u4, u5, u6, u7, D', whGo_step ht eb e'⟩
    · subst c1
      exact ⟨2, ps, t4, t5, t6, t7, ⟨F, c2⟩, whGo_step ht eb (whGo_end rfl)⟩
theorem x_farthest (S : Steps B ss n) (hB : 0 ≤ B) (hn : n ≤ 1000) : ∃ ps, Done B ss n ps ∧ m_farthest [.lst (ss.map eT), .int n] = some (.lst (ps.map .int)) := by
  obtain ⟨m, qs, t4, t5, t6, t7, D', e⟩ := far_loop S (.frz (.int n)) ((most B n - tot (List.replicate (n + 1) 0)).toNat + 1) (List.replicate (n + 1) 0) .emp .emp .emp .emp (far_start hB) (by omega)
  refine ⟨qs, D', ?_⟩
  have mu : mulD (.lst [.int 0]) (.int ((n : Int) + 1)) = some (.lst ((List.replicate (n + 1) (0 : Int)).map .int)) := by
    simp only [mulD]
    rw [if_pos ⟨cl_iff.mpr (by omega), fits_of (by simp; omega)⟩]
    congr 2
    rw [show ((n : Int) + 1).toNat = n + 1 by omega, List.map_replicate, List.flatten_replicate_singleton]
  have ew := whS_of e
  generalize (List.replicate (n + 1) (0 : Int)).map D.int = M at *
  generalize qs.map D.int = M2 at *
  generalize ss.map eT = T at *
  simp [Mir.fn, mb_farthest, mu, ew]
/-! ### a chain -/
theorem forGo_brk {α : Type} {g : GM} {body : SM} {enc : α → D} (good : α → Prop) (R : Env → Prop) (R' : α → Env → Prop) : ∀ (l : List α) (ρ : Env), R ρ →
    (∀ a ∈ l, ∀ ρ, R ρ → ∃ ρ1, g (enc a) ρ = some ρ1 ∧ ((good a ∧ ∃ ρ2, body ρ1 = some (.brk ρ2) ∧ R' a ρ2) ∨ (¬ good a ∧ ∃ ρ2, body ρ1 = some (.next ρ2) ∧ R ρ2))) →
    (∃ a ∈ l, good a ∧ ∃ ρ2, forGo g body (l.map enc) ρ = some (.next ρ2) ∧ R' a ρ2) ∨ (∀ a ∈ l, ¬ good a)
  | [], ρ, h, _ => .inr fun a ha => absurd ha (by simp)
  | a :: r, ρ, h, k => by
    obtain ⟨ρ1, h1, ⟨h2, ρ2, h3, h4⟩ | ⟨h2, ρ2, h3, h4⟩⟩ := k a List.mem_cons_self ρ h
    · refine .inl ⟨a, List.mem_cons_self, h2, ρ2, ?_, h4⟩
      simp only [List.map_cons, forGo, h1, Option.bind_some, h3]
    · have e0 : forGo g body ((a :: r).map enc) ρ = forGo g body (r.map enc) ρ2 := by
        simp only [List.map_cons, forGo, h1, Option.bind_some, h3]
      rw [e0]
      rcases forGo_brk (g := g) (body := body) (enc := enc) good R R' r ρ2 h4 fun b hb => k b (List.mem_cons_of_mem _ hb) with ⟨b, hb, q⟩ | q
      · exact .inl ⟨b, List.mem_cons_of_mem _ hb, q⟩
      · refine .inr fun b hb => ?_
        rcases List.mem_cons.mp hb with rfl | hb
        · exact h2
        · exact q b hb
abbrev eI (k : Nat) : D := .int k
theorem chain_loop (S : Steps B ss n) {ps : List Int} (Dn : Done B ss n ps) (hs : ss.length ≤ 1000) : ∀ (f : Nat) (w : Int) (found : List Nat) (s4 s5 s6 s7 : Sl), -1 ≤ w → w ≤ n → w < f → found.length + w ≤ 1000 →
    ∃ m ks t4 t5 t6 t7, Back ss ps w ks ∧ whGo (tB (o2 geD (vB 3) (cD (.int 0)))) lb_chain_1 m [.frz (.lst (ss.map eT)), .frz (.lst (ps.map .int)), .own (found.map eI), .frz (.int w), s4, s5, s6, s7] =
      some (.next [.frz (.lst (ss.map eT)), .frz (.lst (ps.map .int)), .own ((found ++ ks).map eI), .frz (.int (-1)), t4, t5, t6, t7])
  | f, w, found, s4, s5, s6, s7, h0, h1, hf, hl => by
    by_cases q : w = -1
    · subst q
      refine ⟨1, [], s4, s5, s6, s7, .nil, ?_⟩
      rw [List.append_nil]
      exact whGo_end (by simp)
    · obtain ⟨f', rfl⟩ : ∃ f', f = f' + 1 := ⟨f - 1, by omega⟩
      have ht : tB (o2 geD (vB 3) (cD (.int 0))) [.frz (.lst (ss.map eT)), .frz (.lst (ps.map .int)), .own (found.map eI), .frz (.int w), s4, s5, s6, s7] = some true := by
        have : 0 ≤ w := by omega
        simp [this]
      obtain ⟨s, hsm, e1, e2⟩ := Dn.tgt S (j := w.toNat) (by omega)
      rw [Int.toNat_of_nonneg (by omega)] at e1 e2
      obtain ⟨k0, hk0⟩ := List.mem_iff_getElem?.mp hsm
      have r1 := iR1_i (a := o1 lenD (vB 0)) (ρ := [.frz (.lst (ss.map eT)), .frz (.lst (ps.map .int)), .own (found.map eI), .frz (.int w), s4, s5, s6, s7]) (n := ss.length) (by simp) (by omega) (by omega)
      rw [Int.toNat_natCast] at r1
      have dl := Dn.len
      have key := forGo_brk (g := gN 4) (body := lb_chain_0) (enc := fun i : Nat => D.int i) (fun k => ∃ s, ss[k]? = some s ∧ s.e = w ∧ cst ps s = pl ps w)
        (fun ρ => ∃ t4 t5 t6 t7, ρ = [.frz (.lst (ss.map eT)), .frz (.lst (ps.map .int)), .own (found.map eI), .frz (.int w), t4, t5, t6, t7])
        (fun k ρ => ∀ s, ss[k]? = some s → ∃ t4 t5 t6 t7, ρ = [.frz (.lst (ss.map eT)), .frz (.lst (ps.map .int)), .own ((found ++ [k]).map eI), .frz (.int s.b), t4, t5, t6, t7])
        (List.range ss.length) [.frz (.lst (ss.map eT)), .frz (.lst (ps.map .int)), .own (found.map eI), .frz (.int w), s4, s5, s6, s7] ⟨_, _, _, _, rfl⟩ ?_
      · rcases key with ⟨k, hk, ⟨s, hs1, hs2, hs3⟩, ρ2, e, R⟩ | no
        · obtain ⟨t4, t5, t6, t7, rfl⟩ := R s hs1
          have sl := S.lo s (List.mem_of_getElem? hs1)
          obtain ⟨m, ks, u4, u5, u6, u7, bk, ew⟩ := chain_loop S Dn hs f' s.b (found ++ [k]) t4 t5 t6 t7 sl.1 (by omega) (by omega) (by simp; omega)
          refine ⟨m + 1, k :: ks, u4, u5, u6, u7, ?_, ?_⟩
          · have := Back.cons hs1 (hs2 ▸ hs3) (by omega) bk
            rw [hs2] at this
            exact this
          · rw [show found ++ k :: ks = found ++ [k] ++ ks by simp]
            refine whGo_step ht ?_ ew
            generalize (found ++ [k]).map eI = M2 at *
            generalize found.map eI = M1 at *
            generalize ps.map D.int = M at *
            simp only [lb_chain_1, s_forS, r1, Option.bind_some]
            exact e
        · exact absurd ⟨s, hk0, e1, e2⟩ (no k0 (List.mem_range.mpr (List.getElem?_eq_some_iff.mp hk0).1))
      · rintro k hk ρ ⟨t4, t5, t6, t7, rfl⟩
        have hk' : k < ss.length := List.mem_range.mp hk
        have xs : ixD (.lst (ss.map eT)) (.int k) = some (eT ss[k]) := by
          rw [ix_l (by omega), Int.toNat_natCast, List.getElem?_map, List.getElem?_eq_getElem hk']
          rfl
        have sg : ss[k]? = some ss[k] := List.getElem?_eq_getElem hk'
        have sl := S.lo ss[k] (List.getElem_mem hk')
        have xp := x_place (ps := ps) (w := ss[k].b) sl.1 (by omega)
        have xi := ix_pl (ps := ps) (w := w) (by omega) (by omega)
        have f1 := fits_of (n := found.length) (by omega)
        refine ⟨_, rfl, ?_⟩
        generalize ss[k] = s at *
        by_cases g1 : s.e = w
        · by_cases g2 : cst ps s = pl ps w
          · refine .inl ⟨⟨s, sg, g1, g2⟩, [.frz (.lst (ss.map eT)), .frz (.lst (ps.map .int)), .own ((found ++ [k]).map eI), .frz (.int s.b), .frz (.int k), .frz (.int s.b), .frz (.int s.e), .frz (.int s.n)], ?_, fun s' hs' => ?_⟩
            · rw [List.map_append, List.map_singleton]
              have f2 : fits (found.map eI).length = true := by rw [List.length_map]; exact f1
              unfold cst at g2
              generalize found.map eI = M1 at *
              generalize ps.map D.int = M at *
              generalize pl ps s.b = p1 at *
              generalize pl ps w = p2 at *
              simp [lb_chain_0, xs, g1, xp, xi, g2, f2]
            · rw [sg] at hs'
              cases hs'
              exact ⟨_, _, _, _, rfl⟩
          · refine .inr ⟨fun ⟨s', a1, a2, a3⟩ => g2 (by rw [sg] at a1; cases a1; exact a3), [.frz (.lst (ss.map eT)), .frz (.lst (ps.map .int)), .own (found.map eI), .frz (.int w), .frz (.int k), .frz (.int s.b), .frz (.int s.e), .frz (.int s.n)], ?_, _, _, _, _, rfl⟩
            unfold cst at g2
            generalize found.map eI = M1 at *
            generalize ps.map D.int = M at *
            generalize pl ps s.b = p1 at *
            generalize pl ps w = p2 at *
            simp [lb_chain_0, xs, g1, xp, xi, g2]
        · refine .inr ⟨fun ⟨s', a1, a2, a3⟩ => g1 (by rw [sg] at a1; cases a1; exact a2), [.frz (.lst (ss.map eT)), .frz (.lst (ps.map .int)), .own (found.map eI), .frz (.int w), .frz (.int k), .frz (.int s.b), .frz (.int s.e), .frz (.int s.n)], ?_, _, _, _, _, rfl⟩
          generalize found.map eI = M1 at *
          generalize ps.map D.int = M at *
          simp [lb_chain_0, xs, g1]
theorem x_chain (S : Steps B ss n) {ps : List Int} (Dn : Done B ss n ps) (hs : ss.length ≤ 1000) (hn : n ≤ 1000) : ∃ ks, Back ss ps n ks ∧ m_chain [.lst (ss.map eT), .lst (ps.map .int)] = some (.lst (ks.reverse.map eI)) := by
  obtain ⟨m, ks, t4, t5, t6, t7, bk, e⟩ := chain_loop S Dn hs (n + 1) n [] .emp .emp .emp .emp (by omega) (by omega) (by omega) (by simp; omega)
  refine ⟨ks, bk, ?_⟩
  have ew := whS_of e
  have dl := Dn.len
  have sb : subD (.int ps.length) (.int 1) = some (.int n) := by
    rw [subD_i, dl]
    congr 2
    omega
  rw [List.nil_append] at ew
  have rv : revD (.lst (ks.map eI)) = some (.lst (ks.reverse.map eI)) := by simp [revD]
  have ll : lenD (.lst (ps.map D.int)) = some (.int ps.length) := by rw [lenD_l, List.length_map]
  generalize ks.reverse.map eI = M3 at *
  generalize ks.map eI = M2 at *
  generalize ps.map D.int = M at *
  simp only [List.map_nil] at ew
  have sb' := sb
  simp [Mir.fn, mb_chain, ll, ew, rv]
  rw [subD_i] at sb'
  simp at sb'
  rw [sb', ew]
  simp [rv]
end
end Snd
set_option linter.all false
/-! TJ: the law's own defs, by their mirrors. -/
namespace Snd
open _root_.Mir PG
theorem ix_last' {xs : List D} {q : D} (h : xs ≠ []) (e : xs.getLast h = q) : ixD (.lst xs) (.int (-1)) = some q := by
  have := ix_last xs.dropLast q
  rw [← e, List.dropLast_concat_getLast h] at this
  rw [← e]
  exact this
theorem ix_end {ps : List Int} {n : Nat} (h : ps.length = n + 1) : ixD (.lst (ps.map .int)) (.int (-1)) = some (.int (pl ps n)) := by
  have ne : ps.map D.int ≠ [] := by
    intro z
    have := congrArg List.length z
    simp at this
    rw [this] at h
    simp at h
  refine ix_last' ne ?_
  rw [List.getLast_eq_getElem, List.getElem_map, pl_nat]
  simp only [List.length_map, h, Nat.add_sub_cancel]
  rw [List.getD, List.getElem?_eq_getElem (by omega)]
  rfl
theorem x_whole1 (i : Int) : m__law_whole [.int i] = some (.bl true) := by simp [Mir.fn, mb__law_whole]
theorem x_placesgood {B : Int} {ss : List Sq} {n : Nat} {ps : List Int} (S : Steps B ss n) (Dn : Done B ss n ps) : m__law_places_good [.lst (ps.map .int), .int n] = some (.bl true) := by
  have dl := Dn.len
  have lg : ∀ s0 s1, lcGo (gN 2) tYes (call m__law_whole (eCons (vV 2) eNil)) [s0, s1, .emp] (ps.map D.int) = some ((ps.map fun _ => true).map .bl) := fun s0 s1 => by
    rw [lcGo_all (fun _ => D.bl true) ps fun i _ => ⟨_, rfl, by simp [x_whole1]⟩, List.map_map]
    rfl
  have al : allD (.lst ((ps.map fun _ => true).map .bl)) = some (.bl true) := by
    simp only [allD, bools_map, Option.map_some]
    simp
  obtain ⟨m, hm, hp⟩ : ∃ m, minD (.lst (ps.map .int)) = some (.int m) ∧ 0 < m := by
    obtain ⟨p, r, e⟩ : ∃ p r, ps = p :: r := by
      cases ps with
      | nil => simp at dl
      | cons p r => exact ⟨p, r, rfl⟩
    obtain ⟨h1, h2⟩ := minL_spec r p
    refine ⟨minL p r, minD_of (by rw [e]; exact h1) (by rw [e]; exact h2), ?_⟩
    rw [← e] at h1
    obtain ⟨j, hj, ej⟩ := List.mem_iff_getElem.mp h1
    have := Dn.pos S (j := j) (by omega)
    rw [pl_nat, List.getD, List.getElem?_eq_getElem hj, ej] at this
    exact this
  have le : lenD (.lst (ps.map .int)) = some (.int ((n : Int) + 1)) := by
    rw [lenD_l, List.length_map, dl]
    rfl
  generalize (ps.map fun _ => true).map D.bl = TB at *
  generalize ps.map D.int = M at *
  simp [Mir.fn, mb__law_places_good, isList_l, le, lg, al, hm, hp]
def bxOf (ps qs : List Int) (s : Sd) : Bx := ⟨pl ps s.l, pl qs s.t, pl ps s.r, pl qs s.b⟩
/-- sides that lie among so many walls -/
def SdIn (n m : Nat) (s : Sd) : Prop := -1 ≤ s.l ∧ s.l ≤ n ∧ -1 ≤ s.r ∧ s.r ≤ n ∧ -1 ≤ s.t ∧ s.t ≤ m ∧ -1 ≤ s.b ∧ s.b ≤ m
theorem ix_shift {ps : List Int} {n : Nat} (h : ps.length = n + 1) {w : Int} (h0 : -1 ≤ w) (h1 : w ≤ n) : ixD (.lst (.int 0 :: ps.map .int)) (.int (w + 1)) = some (.int (pl ps w)) := by
  by_cases q : w = -1
  · subst q
    rw [pl_neg]
    exact ix_l0
  · have := ix_pl (ps := ps) (w := w) (by omega) (by omega)
    rw [ix_l (by omega)] at this ⊢
    rw [show (w + 1).toNat = w.toNat + 1 by omega, List.getElem?_cons_succ]
    exact this
theorem add_0 {xs : List D} (h : xs.length ≤ 1000) : addD (.lst [.int 0]) (.lst xs) = some (.lst (.int 0 :: xs)) := addD_l (by simp; omega)
theorem x_between {ps qs : List Int} {n m : Nat} (hn : ps.length = n + 1) (hm : qs.length = m + 1) (hn' : n < 900) (hm' : m < 900) {X : D} (x0 : ixD X (.int 0) = some (.lst (ps.map .int))) (x1 : ixD X (.int 1) = some (.lst (qs.map .int)))
    {lies : List Sd} (h : ∀ s ∈ lies, SdIn n m s) (hl : lies.length ≤ 1000) : m__law_between [.lst (lies.map eD), X] = some (.lst ((lies.map (bxOf ps qs)).map eB)) := by
  have key := forGo_ix (g := gT [gN 3, gN 4, gN 5, gN 6]) (body := lb__law_between_0) (enc := eD) (fun acc s => acc ++ [bxOf ps qs s])
    (fun n acc ρ => acc.length = n ∧ ∃ s3 s4 s5 s6 s7 s8, ρ = [.frz (.lst (lies.map eD)), .frz X, .own (acc.map eB), s3, s4, s5, s6, s7, s8]) lies 0 []
    [.frz (.lst (lies.map eD)), .frz X, .own [], .emp, .emp, .emp, .emp, .emp, .emp] ⟨by simp, _, _, _, _, _, _, rfl⟩ ?_
  · obtain ⟨ρ', e, _, s3, s4, s5, s6, s7, s8, rfl⟩ := key
    rw [foldl_map, List.nil_append] at e
    generalize (lies.map (bxOf ps qs)).map eB = M at *
    simp [Mir.fn, mb__law_between, e]
  · rintro i s hs acc ρ ⟨h1, s3, s4, s5, s6, s7, s8, rfl⟩
    have hi : i < lies.length := (List.getElem?_eq_some_iff.mp hs).1
    obtain ⟨a1, a2, a3, a4, a5, a6, a7, a8⟩ := h s (List.mem_of_getElem? hs)
    have f1 : fits (acc.map eB).length = true := fits_of (by rw [List.length_map]; omega)
    have e1 := add_0 (xs := ps.map D.int) (by rw [List.length_map]; omega)
    have e2 := add_0 (xs := qs.map D.int) (by rw [List.length_map]; omega)
    have i1 := ix_shift hn a1 a2
    have i2 := ix_shift hn a3 a4
    have i3 := ix_shift hm a5 a6
    have i4 := ix_shift hm a7 a8
    refine ⟨_, [.frz (.lst (lies.map eD)), .frz X, .own ((acc ++ [bxOf ps qs s]).map eB), .frz (.int s.l), .frz (.int s.r), .frz (.int s.t), .frz (.int s.b), .frz (.lst (.int 0 :: ps.map D.int)), .frz (.lst (.int 0 :: qs.map D.int))], rfl, ?_, by simp; omega, _, _, _, _, _, _, rfl⟩
    have em : (acc ++ [bxOf ps qs s]).map eB = acc.map eB ++ [.tup [.int (pl ps s.l), .int (pl qs s.t), .int (pl ps s.r), .int (pl qs s.b)]] := by rw [List.map_append]; rfl
    rw [em]
    generalize acc.map eB = A at *
    generalize ps.map D.int = M1 at *
    generalize qs.map D.int = M2 at *
    simp [lb__law_between_0, x0, x1, e1, e2, i1, i2, i3, i4, f1]
section
variable {w h : Int} {bs : List Bx} {nd : List Sp}
def nU (w : Int) (bs : List Bx) : Nat := (ups bs w).length
def nL (h : Int) (bs : List Bx) : Nat := (ups (bs.map tr) h).length
def lies (w h : Int) (bs : List Bx) : List Sd := (List.range bs.length).map fun k => sdOf w h bs (nth bs k)
theorem sd_in (g : Pg w h bs) {b : Bx} (hb : b ∈ bs) : SdIn (nU w bs) (nL h bs) (sdOf w h bs b) := by
  have u := g.wayU.lt b hb
  have l := g.wayL.lt (tr b) (List.mem_map_of_mem hb)
  simp only [tr] at l
  unfold SdIn nU nL sdOf
  simp only
  omega
theorem lies_in (g : Pg w h bs) : ∀ s ∈ lies w h bs, SdIn (nU w bs) (nL h bs) s := fun s hs => by
  obtain ⟨k, hk, rfl⟩ := List.mem_map.mp hs
  exact sd_in g (nth_mem (List.mem_range.mp hk))
theorem nodup_len : ∀ {l m : List Int}, l.Nodup → (∀ x ∈ l, x ∈ m) → l.length ≤ m.length
  | [], _, _, _ => Nat.zero_le _
  | a :: r, m, nd, h => by
    obtain ⟨n1, n2⟩ := List.nodup_cons.mp nd
    have ha := h a List.mem_cons_self
    have ih := nodup_len (l := r) (m := m.erase a) n2 fun x hx => (List.mem_erase_of_ne (show x ≠ a from fun z => n1 (by rw [← z]; exact hx))).mpr (h x (List.mem_cons_of_mem _ hx))
    rw [List.length_erase_of_mem ha] at ih
    have := List.length_pos_of_mem ha
    rw [List.length_cons]
    omega
/-- no more walls than boxes -/
theorem few {B : Int} {ss : List Sq} {n : Nat} (S : Steps B ss n) : n + 1 ≤ ss.length := by
  have := nodup_len (l := (List.range (n + 1)).map fun i : Nat => (i : Int)) (m := ss.map (·.e)) (by
    rw [List.nodup_iff_pairwise_ne, List.pairwise_map]
    exact (List.nodup_iff_pairwise_ne.mp List.nodup_range).imp fun h z => h (by omega)) fun x hx => by
    obtain ⟨j, hj, rfl⟩ := List.mem_map.mp hx
    obtain ⟨s, hs, e⟩ := S.hit j (by have := List.mem_range.mp hj; omega)
    exact e ▸ List.mem_map_of_mem hs
  simpa using this
theorem stepsU (g : Pg w h bs) (n : Nds bs nd) : Steps 2000 (stps w h bs nd true) (nU w bs) := steps_ok g n true
theorem stepsL (g : Pg w h bs) (n : Nds bs nd) : Steps 2000 (stps w h bs nd false) (nL h bs) := steps_ok g n false
theorem stps_len (up : Bool) : (stps w h bs nd up).length = bs.length := by simp [stps]
theorem nU_le (g : Pg w h bs) (n : Nds bs nd) : nU w bs < 24 := by
  have := few (stepsU g n)
  rw [stps_len] at this
  have := g.l1
  omega
theorem nL_le (g : Pg w h bs) (n : Nds bs nd) : nL h bs < 24 := by
  have := few (stepsL g n)
  rw [stps_len] at this
  have := g.l1
  omega
theorem x_least (g : Pg w h bs) (n : Nds bs nd) : ∃ ps qs, Done 2000 (stps w h bs nd true) (nU w bs) ps ∧ Done 2000 (stps w h bs nd false) (nL h bs) qs ∧
    m_least_places [eP w h bs, .lst (nd.map eS)] = some (.tup [.lst (ps.map .int), .lst (qs.map .int)]) := by
  have u1 := nU_le g n
  have l1 := nL_le g n
  obtain ⟨ps, D1, e1⟩ := x_farthest (stepsU g n) (by decide) (by omega)
  obtain ⟨qs, D2, e2⟩ := x_farthest (stepsL g n) (by decide) (by omega)
  refine ⟨ps, qs, D1, D2, ?_⟩
  have xu := x_uprights g
  have xl := x_levels g
  have s1 := x_steps g n true
  have s2 := x_steps g n false
  have w1 : wI true = 0 := rfl
  have w2 : wI false = 1 := rfl
  rw [w1] at s1
  rw [w2] at s2
  have nn := x_needneeds (w := w) (h := h) n
  have lu : lenD (.lst ((ups bs w).map eW)) = some (.int (nU w bs)) := by rw [lenD_l, List.length_map]; rfl
  have ll : lenD (.lst ((ups (bs.map tr) h).map eW)) = some (.int (nL h bs)) := by rw [lenD_l, List.length_map]; rfl
  generalize (ups bs w).map eW = U at *
  generalize (ups (bs.map tr) h).map eW = L at *
  generalize (stps w h bs nd true).map eT = T1 at *
  generalize (stps w h bs nd false).map eT = T2 at *
  generalize nd.map eS = ND at *
  generalize ps.map D.int = P1 at *
  generalize qs.map D.int = P2 at *
  simp [Mir.fn, mb_least_places, nn, s1, s2, xu, xl, lu, ll, e1, e2]
theorem x_pressed (g : Pg w h bs) (n : Nds bs nd) {ps qs : List Int} (lp : ps.length = nU w bs + 1) (lq : qs.length = nL h bs + 1) (el : m_least_places [eP w h bs, .lst (nd.map eS)] = some (.tup [.lst (ps.map .int), .lst (qs.map .int)])) :
    m_pressed [eP w h bs, .lst (nd.map eS)] = some (.lst (((lies w h bs).map (bxOf ps qs)).map eB)) := by
  have key := forGo_ix (g := gN 3) (body := lb_pressed_0) (enc := fun i : Nat => D.int i) (fun acc k => acc ++ [bxOf ps qs (sdOf w h bs (nth bs k))])
    (fun n acc ρ => acc.length = n ∧ ∃ s3 s6 s7 s8 s9 s10 s11, ρ = [.frz (eP w h bs), .frz (.lst (nd.map eS)), .own (acc.map eB), s3, .frz (.lst (ps.map .int)), .frz (.lst (qs.map .int)), s6, s7, s8, s9, s10, s11]) (List.range bs.length) 0 []
    [.frz (eP w h bs), .frz (.lst (nd.map eS)), .own [], .emp, .frz (.lst (ps.map .int)), .frz (.lst (qs.map .int)), .emp, .emp, .emp, .emp, .emp, .emp] ⟨by simp, _, _, _, _, _, _, _, rfl⟩ ?_
  · obtain ⟨ρ', e, _, s3, s6, s7, s8, s9, s10, s11, rfl⟩ := key
    rw [foldl_map, List.nil_append] at e
    have r1 : ∀ s3 s6 s7 s8 s9 s10 s11, iR1 (o1 lenD (vB 1)) [.frz (eP w h bs), .frz (.lst (nd.map eS)), .own [], s3, .frz (.lst (ps.map .int)), .frz (.lst (qs.map .int)), s6, s7, s8, s9, s10, s11] = some ((List.range bs.length).map fun i : Nat => D.int i) := fun _ _ _ _ _ _ _ => by
      have := iR1_i (a := o1 lenD (vB 1)) (ρ := [.frz (eP w h bs), .frz (.lst (nd.map eS)), .own [], ‹Sl›, .frz (.lst (ps.map .int)), .frz (.lst (qs.map .int)), ‹Sl›, ‹Sl›, ‹Sl›, ‹Sl›, ‹Sl›, ‹Sl›]) (n := bs.length) (by simp [n.len]) (by have := g.l1; omega) (by omega)
      rw [Int.toNat_natCast] at this
      exact this
    have em : (List.range bs.length).map (fun k => bxOf ps qs (sdOf w h bs (nth bs k))) = (lies w h bs).map (bxOf ps qs) := by
      rw [lies, List.map_map]
      rfl
    rw [em] at e
    have r2 := r1 .emp .emp .emp .emp .emp .emp .emp
    generalize ((lies w h bs).map (bxOf ps qs)).map eB = M at *
    generalize ps.map D.int = P1 at *
    generalize qs.map D.int = P2 at *
    generalize nd.map eS = ND at *
    simp [Mir.fn, mb_pressed, el, r2, e]
  · rintro i k hk acc ρ ⟨h1, s3, s6, s7, s8, s9, s10, s11, rfl⟩
    have hkl : k < bs.length := List.mem_range.mp (List.mem_of_getElem? hk)
    have hi : i < (List.range bs.length).length := (List.getElem?_eq_some_iff.mp hk).1
    rw [List.length_range] at hi
    have xs := x_sides g hkl
    have u := g.wayU.lt _ (nth_mem hkl)
    have l := g.wayL.lt (tr (nth bs k)) (List.mem_map_of_mem (nth_mem hkl))
    have si : -1 ≤ (sdOf w h bs (nth bs k)).l ∧ (sdOf w h bs (nth bs k)).l < (sdOf w h bs (nth bs k)).r ∧ (sdOf w h bs (nth bs k)).r ≤ nU w bs ∧ -1 ≤ (sdOf w h bs (nth bs k)).t ∧ (sdOf w h bs (nth bs k)).t < (sdOf w h bs (nth bs k)).b ∧ (sdOf w h bs (nth bs k)).b ≤ nL h bs := ⟨u.1, u.2.1, u.2.2, l.1, l.2.1, l.2.2⟩
    clear u l
    generalize sdOf w h bs (nth bs k) = s at *
    have p1 := x_place (ps := ps) (w := s.l) (by omega) (by omega)
    have p2 := ix_pl (ps := ps) (w := s.r) (by omega) (by omega)
    have p3 := x_place (ps := qs) (w := s.t) (by omega) (by omega)
    have p4 := ix_pl (ps := qs) (w := s.b) (by omega) (by omega)
    have f1 : fits (acc.map eB).length = true := fits_of (by rw [List.length_map]; have := g.l1; omega)
    refine ⟨_, [.frz (eP w h bs), .frz (.lst (nd.map eS)), .own ((acc ++ [bxOf ps qs s]).map eB), .frz (.int k), .frz (.lst (ps.map .int)), .frz (.lst (qs.map .int)), .frz (.tup [.int (pl ps s.l), .int (pl ps s.r)]), .frz (.tup [.int (pl qs s.t), .int (pl qs s.b)]), .frz (.int s.l), .frz (.int s.r), .frz (.int s.t), .frz (.int s.b)], rfl, ?_, by simp; omega, _, _, _, _, _, _, _, rfl⟩
    have em : (acc ++ [bxOf ps qs s]).map eB = acc.map eB ++ [.tup [.int (pl ps s.l), .int (pl qs s.t), .int (pl ps s.r), .int (pl qs s.b)]] := by rw [List.map_append]; rfl
    rw [em]
    generalize acc.map eB = A at *
    generalize ps.map D.int = M1 at *
    generalize qs.map D.int = M2 at *
    generalize nd.map eS = ND at *
    simp [lb_pressed_0, xs, p1, p2, p3, p4, f1]
end
end Snd
set_option linter.all false
/-! TK: the law's look at a chain; walls that are moved on. -/
namespace Snd
open _root_.Mir PG
/-- boxes from a wall on to another one, and what they need together -/
inductive Fwd (ss : List Sq) : Int → List Nat → Int → Int → Prop
  | nil (w : Int) : Fwd ss w [] w 0
  | cons {k : Nat} {s : Sq} {ks : List Nat} {w c : Int} : ss[k]? = some s → Fwd ss s.e ks w c → Fwd ss s.b (k :: ks) w (s.n + c)
theorem Fwd.snoc {ss : List Sq} {a b c : Int} {ks : List Nat} (f : Fwd ss a ks b c) {k : Nat} {s : Sq} (h : ss[k]? = some s) (e : s.b = b) : Fwd ss a (ks ++ [k]) s.e (c + s.n) := by
  induction f with
  | nil w =>
    subst e
    have := Fwd.cons h (.nil s.e)
    rw [show s.n + 0 = 0 + s.n by omega] at this
    exact this
  | @cons k' s' ks' w c' h' f' ih =>
    have := Fwd.cons h' (ih e)
    rw [show s'.n + (c' + s.n) = s'.n + c' + s.n by omega] at this
    exact this
theorem Back.fwd {ss : List Sq} {ps : List Int} {w : Int} {ks : List Nat} (b : Back ss ps w ks) : Fwd ss (-1) ks.reverse w (pl ps w) := by
  induction b with
  | nil =>
    rw [pl_neg]
    exact .nil _
  | @cons k s ks h e h0 b ih =>
    rw [List.reverse_cons, ← e]
    exact ih.snoc h rfl
theorem Back.mem {ss : List Sq} {ps : List Int} {w : Int} {ks : List Nat} (b : Back ss ps w ks) : ∀ k ∈ ks, k < ss.length := by
  induction b with
  | nil => intro k hk; simp at hk
  | cons h _ _ _ ih =>
    intro k hk
    rcases List.mem_cons.mp hk with rfl | hk
    · exact (List.getElem?_eq_some_iff.mp h).1
    · exact ih k hk
theorem Back.ne {ss : List Sq} {ps : List Int} {w : Int} {ks : List Nat} (b : Back ss ps w ks) (h : 0 ≤ w) : ks ≠ [] := by
  cases b with
  | nil => omega
  | cons _ _ _ _ => simp
section
variable {w h : Int} {bs : List Bx} {nd : List Sp}
theorem ix_lies {k : Nat} (hk : k < bs.length) : ixD (.lst ((lies w h bs).map eD)) (.int k) = some (eD (sdOf w h bs (nth bs k))) := by
  rw [ix_l (by omega), Int.toNat_natCast, List.getElem?_map, lies, List.getElem?_map, List.getElem?_range hk]
  rfl
theorem stps_at {up : Bool} {k : Nat} (hk : k < bs.length) : (stps w h bs nd up)[k]? = some (stA w h bs nd up k) := by
  rw [stps, List.getElem?_map, List.getElem?_range hk]
  rfl
theorem fwd_run (n : Nds bs nd) (up : Bool) (a3 a4 a1 : Sl) : ∀ {a b c : Int} {ks : List Nat}, Fwd (stps w h bs nd up) a ks b c → ∀ (tot : Int) (s8 : Sl), ∃ t8,
    forGo (gN 8) lb__law_chain_good_0 (ks.map eI) [.frz (.lst ((lies w h bs).map eD)), a1, .frz (.lst (nd.map eS)), a3, a4, .frz (.int (wI up)), .frz (.int a), .frz (.int tot), s8] =
      some (.next [.frz (.lst ((lies w h bs).map eD)), a1, .frz (.lst (nd.map eS)), a3, a4, .frz (.int (wI up)), .frz (.int b), .frz (.int (tot + c)), t8])
  | _, _, _, _, .nil w, tot, s8 => ⟨s8, by simp [forGo]⟩
  | _, _, _, _, .cons (k := k) (s := s) (ks := ks) (w := w') (c := c) hk f, tot, s8 => by
    obtain ⟨t8, ih⟩ := fwd_run n up a3 a4 a1 f (tot + s.n) (.frz (.int k))
    refine ⟨t8, ?_⟩
    rw [show tot + (s.n + c) = tot + s.n + c by omega, ← ih]
    have hkl : k < bs.length := by
      have := (List.getElem?_eq_some_iff.mp hk).1
      simpa [stps] using this
    have es : s = stA w h bs nd up k := by
      rw [stps_at hkl] at hk
      exact (Option.some.inj hk).symm
    have i1 := ix_lies (w := w) (h := h) hkl
    have i2 := ix_nd (nd := nd) (k := k) (by rw [n.len]; exact hkl)
    have q1 := ix_lo up (sdOf w h bs (nth bs k))
    have q2 := ix_hi up (sdOf w h bs (nth bs k))
    have q3 := ix_n up (nd.getD k (0, 0))
    have mu := mul_wI up
    subst es
    simp only [stA]
    generalize wI up = W at *
    generalize (sdOf w h bs (nth bs k)).lo up = a1 at *
    generalize (sdOf w h bs (nth bs k)).hi up = a2 at *
    generalize nOf up (nd.getD k (0, 0)) = a3 at *
    generalize sdOf w h bs (nth bs k) = sdd at *
    generalize nd.getD k (0, 0) = ndd at *
    generalize (lies w h bs).map eD = LS at *
    generalize nd.map eS = ND at *
    simp [forGo, lb__law_chain_good_0, mu, i1, q1, q2, i2, q3]
theorem x_chaingood (g : Pg w h bs) (n : Nds bs nd) (up : Bool) {ps : List Int} {many : D} {N : Nat} (hm : ixD many (.int (wI up)) = some (.int N)) {ks : List Nat} (b : Back (stps w h bs nd up) ps N ks) :
    m__law_chain_good [.lst ((lies w h bs).map eD), .lst (ks.reverse.map eI), .lst (nd.map eS), many, .int (pl ps N), .int (wI up)] = some (.bl true) := by
  obtain ⟨t8, e⟩ := fwd_run n up (.frz many) (.frz (.int (pl ps N))) (.frz (.lst (ks.reverse.map eI))) (Back.fwd b) 0 .emp
  rw [Int.zero_add] at e
  have kb : ∀ k ∈ ks.reverse, k < bs.length := fun k hk => by
    have := Back.mem b k (List.mem_reverse.mp hk)
    simpa [stps] using this
  have kne : ks.reverse ≠ [] := fun z => Back.ne b (by omega) (by simpa using z)
  generalize ks.reverse = T at *
  have em : T.map eI = (T.map fun k : Nat => (k : Int)).map D.int := by rw [List.map_map]; rfl
  have lg : ∀ s0 s1 s2 s3 s4 s5 s6 s7, lcGo (gN 8) tYes (call m__law_whole (eCons (vV 8) eNil)) [s0, s1, s2, s3, s4, s5, s6, s7, .emp] (T.map eI) = some ((T.map fun _ => true).map .bl) := fun s0 s1 s2 s3 s4 s5 s6 s7 => by
    rw [lcGo_all (fun _ => D.bl true) T fun i _ => ⟨_, rfl, by simp [x_whole1]⟩, List.map_map]
    rfl
  have al : allD (.lst ((T.map fun _ => true).map .bl)) = some (.bl true) := by
    simp only [allD, bools_map, Option.map_some]
    simp
  obtain ⟨p, r, e0⟩ : ∃ p r, T = p :: r := by
    cases T with
    | nil => exact absurd rfl kne
    | cons p r => exact ⟨p, r, rfl⟩
  obtain ⟨mn, hmn, gmn⟩ : ∃ m, minD (.lst (T.map eI)) = some (.int m) ∧ 0 ≤ m := by
    obtain ⟨h1, h2⟩ := minL_spec (r.map fun k : Nat => (k : Int)) p
    rw [em]
    refine ⟨_, minD_of (by rw [e0]; exact h1) (by rw [e0]; exact h2), ?_⟩
    have h3 : minL (p : Int) (r.map fun k : Nat => (k : Int)) ∈ T.map fun k : Nat => (k : Int) := by rw [e0]; exact h1
    obtain ⟨k, _, ek⟩ := List.mem_map.mp h3
    omega
  obtain ⟨mx, hmx, gmx⟩ : ∃ m, maxD (.lst (T.map eI)) = some (.int m) ∧ m < bs.length := by
    obtain ⟨h1, h2⟩ := maxL_spec (r.map fun k : Nat => (k : Int)) p
    rw [em]
    refine ⟨_, maxD_of (by rw [e0]; exact h1) (by rw [e0]; exact h2), ?_⟩
    have h3 : maxL (p : Int) (r.map fun k : Nat => (k : Int)) ∈ T.map fun k : Nat => (k : Int) := by rw [e0]; exact h1
    obtain ⟨k, hk, ek⟩ := List.mem_map.mp h3
    have := kb k hk
    omega
  have sh : shp (.lst (T.map eI)) = true := shp_lst (n := 0) (fun d hd => by
    obtain ⟨k, _, rfl⟩ := List.mem_map.mp hd
    exact ⟨rfl, Nat.le_refl _⟩) (by decide)
  have eq0 := eqD_nil sh
  have ne : (T.map eI).isEmpty = false := by rw [e0]; rfl
  rw [ne] at eq0
  have ll : lenD (.lst ((lies w h bs).map eD)) = some (.int bs.length) := by rw [lenD_l, List.length_map]; simp [lies]
  have n1 : ¬ mn < 0 := by omega
  have n2 : ¬ (bs.length : Int) ≤ mx := by omega
  generalize wI up = W at *
  generalize (T.map fun _ => true).map D.bl = TB at *
  generalize T.map eI = TE at *
  generalize (lies w h bs).map eD = LS at *
  generalize nd.map eS = ND at *
  generalize pl ps N = PN at *
  simp [Mir.fn, mb__law_chain_good, isList_l, eq0, lg, al, hmn, hmx, ll, n1, n2, e, hm]
/-! ### walls moved on -/
def moreK (hd : Int) (up : Bool) (k : Nat) : Int := mixed hd (200 + 24 * wI up + k) % 4
def stM (w h : Int) (bs : List Bx) (nd : List Sp) (hd : Int) (up : Bool) (k : Nat) : Sq := ⟨(sdOf w h bs (nth bs k)).lo up, (sdOf w h bs (nth bs k)).hi up, nOf up (nd.getD k (0, 0)) + moreK hd up k⟩
def stpM (w h : Int) (bs : List Bx) (nd : List Sp) (hd : Int) (up : Bool) : List Sq := (List.range bs.length).map (stM w h bs nd hd up)
theorem moreK_in (hd : Int) (up : Bool) (k : Nat) : 0 ≤ moreK hd up k ∧ moreK hd up k < 4 := mixed_mod _ _ (by decide)
theorem stepsM (hd : Int) (up : Bool) {N : Nat} (S : Steps 2000 (stps w h bs nd up) N) : Steps 2003 (stpM w h bs nd hd up) N := by
  have mem : ∀ s ∈ stpM w h bs nd hd up, ∃ k, k < bs.length ∧ s = stM w h bs nd hd up k := fun s hs => by
    obtain ⟨k, hk, rfl⟩ := List.mem_map.mp hs
    exact ⟨k, List.mem_range.mp hk, rfl⟩
  have old : ∀ k, k < bs.length → stA w h bs nd up k ∈ stps w h bs nd up := fun k hk => List.mem_map_of_mem (List.mem_range.mpr hk)
  refine ⟨fun s hs => ?_, fun s hs => ?_, fun j hj => ?_⟩
  · obtain ⟨k, hk, rfl⟩ := mem s hs
    exact S.lo (stA w h bs nd up k) (old k hk)
  · obtain ⟨k, hk, rfl⟩ := mem s hs
    have a := S.nd _ (old k hk)
    have b := moreK_in hd up k
    simp only [stA, stM] at *
    omega
  · obtain ⟨s, hs, e⟩ := S.hit j hj
    obtain ⟨k, hk, rfl⟩ := List.mem_map.mp hs
    exact ⟨_, List.mem_map_of_mem hk, e⟩
theorem movN_fold (ss : List Sq) : ∀ (l : List Nat) (ps : List Int), l.foldl (fun ps _ => ss.foldl mov1 ps) ps = movN ss l.length ps
  | [], ps => rfl
  | a :: r, ps => by rw [List.foldl_cons, movN_fold ss r]; rfl
theorem foldl_map' {α β γ : Type} (f : α → β) (g : γ → β → γ) : ∀ (l : List α) (c : γ), (l.map f).foldl g c = l.foldl (fun c a => g c (f a)) c
  | [], _ => rfl
  | a :: r, c => by rw [List.map_cons, List.foldl_cons, foldl_map' f g r]; rfl
theorem x_moved (g : Pg w h bs) (n : Nds bs nd) (hd : Int) (up : Bool) {N : Nat} (S : Steps 2000 (stps w h bs nd up) N) (hN : N < 24) :
    m__law_moved [.lst ((lies w h bs).map eD), .lst (nd.map eS), .int (wI up), .int N, .int hd] = some (.lst ((movN (stpM w h bs nd hd up) (N + 2) (List.replicate (N + 1) 0)).map .int)) := by
  have SM := stepsM hd up S
  have ll : lenD (.lst ((lies w h bs).map eD)) = some (.int bs.length) := by rw [lenD_l, List.length_map]; simp [lies]
  have bl := g.l1
  have mu24 : mulD (.int 24) (.int (wI up)) = some (.int (24 * wI up)) := mulD_i (by decide) (by decide)
  have lg : ∀ s0 s1 s3 s5 s6 s7 s9 s10 s11, lcGo (gN 8) tYes (o2 modD (call m__law_mixed (eCons (vV 4) (eCons (o2 addD (o2 addD (cD (.int 200)) (o2 mulD (cD (.int 24)) (vB 2))) (vB 8)) eNil))) (cD (.int 4)))
      [s0, s1, .frz (.int (wI up)), s3, .frz (.int hd), s5, s6, s7, .emp, s9, s10, s11] ((List.range bs.length).map fun i : Nat => D.int i) = some (((List.range bs.length).map (moreK hd up)).map .int) := fun s0 s1 s3 s5 s6 s7 s9 s10 s11 => by
    rw [lcGo_all (fun k => D.int (moreK hd up k)) _ fun k _ => ⟨_, rfl, ?_⟩, List.map_map]
    · rfl
    · have m4 := modD_i (i := mixed hd (200 + 24 * wI up + k)) (j := 4) (by decide)
      unfold moreK
      generalize wI up = W at *
      simp [mu24, m_mixed, m4]
  have lz : ∀ s0 s1 s2 s3 s4 s5 s6 s7 s9 s10 s11, lcGo (gN 8) tYes (cD (.int 0)) [s0, s1, s2, s3, s4, s5, s6, s7, .emp, s9, s10, s11] ((List.range (N + 2)).map fun i : Nat => D.int i) = some (.int 0 :: (List.replicate (N + 1) (0 : Int)).map .int) := fun s0 s1 s2 s3 s4 s5 s6 s7 s9 s10 s11 => by
    rw [lcGo_all (fun _ => D.int 0) _ fun k _ => ⟨_, rfl, rfl⟩]
    congr 1
    rw [List.map_const', List.length_range, List.map_replicate]
    rfl
  have hi : ∀ k, k < bs.length → ∀ s, s = sdOf w h bs (nth bs k) → -1 ≤ s.lo up ∧ s.lo up < s.hi up ∧ s.hi up ≤ N := fun k hk s es => by
    have := S.lo (stA w h bs nd up k) (List.mem_map_of_mem (List.mem_range.mpr hk))
    subst es
    exact this
  have ixM : ∀ k, k < bs.length → ixD (.lst (((List.range bs.length).map (moreK hd up)).map .int)) (.int k) = some (.int (moreK hd up k)) := fun k hk => by
    rw [ix_l (by omega), Int.toNat_natCast, List.getElem?_map, List.getElem?_map, List.getElem?_range hk]
    rfl
  generalize hMM : ((List.range bs.length).map (moreK hd up)).map D.int = MM at *
  have inner : ∀ (ps : List Int) (s7 s8 s9 s10 s11 : Sl), Mov 2003 N ps → ∃ t8 t9 t10 t11, Mov 2003 N ((stpM w h bs nd hd up).foldl mov1 ps) ∧
      forGo (gN 8) lb__law_moved_0 ((List.range bs.length).map fun i : Nat => D.int i) [.frz (.lst ((lies w h bs).map eD)), .frz (.lst (nd.map eS)), .frz (.int (wI up)), .frz (.int N), .frz (.int hd), .frz (.lst MM), .own (.int 0 :: ps.map .int), s7, s8, s9, s10, s11] =
        some (.next [.frz (.lst ((lies w h bs).map eD)), .frz (.lst (nd.map eS)), .frz (.int (wI up)), .frz (.int N), .frz (.int hd), .frz (.lst MM), .own (.int 0 :: ((stpM w h bs nd hd up).foldl mov1 ps).map .int), s7, t8, t9, t10, t11]) := by
    intro ps s7 s8 s9 s10 s11 F
    have key := forGo_fold (g := gN 8) (body := lb__law_moved_0) (enc := fun i : Nat => D.int i) (fun ps k => mov1 ps (stM w h bs nd hd up k))
      (fun ps ρ => Mov 2003 N ps ∧ ∃ t8 t9 t10 t11, ρ = [.frz (.lst ((lies w h bs).map eD)), .frz (.lst (nd.map eS)), .frz (.int (wI up)), .frz (.int N), .frz (.int hd), .frz (.lst MM), .own (.int 0 :: ps.map .int), s7, t8, t9, t10, t11]) (List.range bs.length) ps
      [.frz (.lst ((lies w h bs).map eD)), .frz (.lst (nd.map eS)), .frz (.int (wI up)), .frz (.int N), .frz (.int hd), .frz (.lst MM), .own (.int 0 :: ps.map .int), s7, s8, s9, s10, s11] ⟨F, _, _, _, _, rfl⟩ ?_
    · obtain ⟨ρ', e, F', t8, t9, t10, t11, rfl⟩ := key
      rw [← foldl_map' (stM w h bs nd hd up) mov1] at e F'
      exact ⟨t8, t9, t10, t11, F', e⟩
    · rintro k hk qs ρ ⟨F, t8, t9, t10, t11, rfl⟩
      have hkl := List.mem_range.mp hk
      have i1 := ix_lies (w := w) (h := h) hkl
      have i2 := ix_nd (nd := nd) (k := k) (by rw [n.len]; exact hkl)
      have q1 := ix_lo up (sdOf w h bs (nth bs k))
      have q2 := ix_hi up (sdOf w h bs (nth bs k))
      have q3 := ix_n up (nd.getD k (0, 0))
      have q4 := ixM k hkl
      have mu := mul_wI up
      have hb := hi k hkl _ rfl
      have fl := F.len
      have F2 := (mov1_ok SM F (s := stM w h bs nd hd up k) (List.mem_map_of_mem hk)).1
      have p1 := ix_shift (ps := qs) fl hb.1 (by omega)
      have p2 := ix_shift (ps := qs) fl (w := (sdOf w h bs (nth bs k)).hi up) (by omega) hb.2.2
      have xn : ixN (qs.map D.int).length.succ ((sdOf w h bs (nth bs k)).hi up + 1) = some ((sdOf w h bs (nth bs k)).hi up + 1).toNat := ixN_p (by omega) (by rw [List.length_map, fl]; omega)
      rw [show ((sdOf w h bs (nth bs k)).hi up + 1).toNat = ((sdOf w h bs (nth bs k)).hi up).toNat + 1 by omega] at xn
      refine ⟨_, [.frz (.lst ((lies w h bs).map eD)), .frz (.lst (nd.map eS)), .frz (.int (wI up)), .frz (.int N), .frz (.int hd), .frz (.lst MM), .own (.int 0 :: (mov1 qs (stM w h bs nd hd up k)).map .int), s7, .frz (.int k), .frz (.int ((sdOf w h bs (nth bs k)).lo up + 1)), .frz (.int ((sdOf w h bs (nth bs k)).hi up + 1)), .frz (.int (cst qs (stM w h bs nd hd up k)))], rfl, ?_, F2, _, _, _, _, rfl⟩
      have em : (mov1 qs (stM w h bs nd hd up k)).map D.int = (qs.map D.int).set ((sdOf w h bs (nth bs k)).hi up).toNat (.int (max (pl qs ((sdOf w h bs (nth bs k)).hi up)) (pl qs ((sdOf w h bs (nth bs k)).lo up) + nOf up (nd.getD k (0, 0)) + moreK hd up k))) := by
        rw [mov1, List.map_set]
        simp only [stM, cst]
        rw [Int.add_assoc]
      have ec : cst qs (stM w h bs nd hd up k) = pl qs ((sdOf w h bs (nth bs k)).lo up) + nOf up (nd.getD k (0, 0)) + moreK hd up k := by
        simp only [stM, cst]
        omega
      rw [em, ec]
      have mx : ∀ a b : Int, max2 (.int a) (.int b) = some (.int (max a b)) := fun a b => by
        simp only [max2]
        congr 2
        omega
      generalize wI up = W at *
      generalize moreK hd up k = a0 at *
      generalize (sdOf w h bs (nth bs k)).lo up = a1 at *
      generalize (sdOf w h bs (nth bs k)).hi up = a2 at *
      generalize nOf up (nd.getD k (0, 0)) = a3 at *
      generalize sdOf w h bs (nth bs k) = sdd at *
      generalize nd.getD k (0, 0) = ndd at *
      generalize (lies w h bs).map eD = LS at *
      generalize nd.map eS = ND at *
      generalize qs.map D.int = QS at *
      generalize pl qs a1 = p1 at *
      generalize pl qs a2 = p2 at *
      simp only [Nat.succ_eq_add_one] at xn
      simp [lb__law_moved_0, mu, i1, q1, q2, i2, q3, q4, p1, p2, mx, xn, *]
  have outer := forGo_fold (g := gN 7) (body := lb__law_moved_1) (enc := fun i : Nat => D.int i) (fun ps _ => (stpM w h bs nd hd up).foldl mov1 ps)
    (fun ps ρ => Mov 2003 N ps ∧ ∃ t7 t8 t9 t10 t11, ρ = [.frz (.lst ((lies w h bs).map eD)), .frz (.lst (nd.map eS)), .frz (.int (wI up)), .frz (.int N), .frz (.int hd), .frz (.lst MM), .own (.int 0 :: ps.map .int), t7, t8, t9, t10, t11]) (List.range (N + 2)) (List.replicate (N + 1) 0)
    [.frz (.lst ((lies w h bs).map eD)), .frz (.lst (nd.map eS)), .frz (.int (wI up)), .frz (.int N), .frz (.int hd), .frz (.lst MM), .own (.int 0 :: (List.replicate (N + 1) (0 : Int)).map .int), .emp, .emp, .emp, .emp, .emp] ⟨mov_start (by decide), _, _, _, _, _, rfl⟩ ?_
  · obtain ⟨ρ', e, _, t7, t8, t9, t10, t11, rfl⟩ := outer
    rw [movN_fold, List.length_range] at e
    have r1 : ∀ s1 s2 s3 s4 s5 s6 s7 s8 s9 s10 s11, iR1 (o1 lenD (vB 0)) [.frz (.lst ((lies w h bs).map eD)), s1, s2, s3, s4, s5, s6, s7, s8, s9, s10, s11] = some ((List.range bs.length).map fun i : Nat => D.int i) := fun s1 s2 s3 s4 s5 s6 s7 s8 s9 s10 s11 => by
      have := iR1_i (a := o1 lenD (vB 0)) (ρ := [.frz (.lst ((lies w h bs).map eD)), s1, s2, s3, s4, s5, s6, s7, s8, s9, s10, s11]) (n := bs.length) (by simp only [s_o1, s_vB, s_slot0, Option.bind_some]; exact ll) (by omega) (by omega)
      rw [Int.toNat_natCast] at this
      exact this
    have r2 : ∀ s0 s1 s2 s4 s5 s6 s7 s8 s9 s10 s11, iR1 (o2 addD (vB 3) (cD (.int 2))) [s0, s1, s2, .frz (.int N), s4, s5, s6, s7, s8, s9, s10, s11] = some ((List.range (N + 2)).map fun i : Nat => D.int i) := fun s0 s1 s2 s4 s5 s6 s7 s8 s9 s10 s11 => by
      have := iR1_i (a := o2 addD (vB 3) (cD (.int 2))) (ρ := [s0, s1, s2, .frz (.int N), s4, s5, s6, s7, s8, s9, s10, s11]) (n := (N : Int) + 2) (by simp) (by omega) (by omega)
      rw [show ((N : Int) + 2).toNat = N + 2 by omega] at this
      exact this
    have sl1 : ∀ xs : List D, slD (.lst (.int 0 :: xs)) (some 1) none = some (.lst xs) := fun xs => by
      rw [slD, drop_k _ (by decide)]
      rfl
    generalize (movN (stpM w h bs nd hd up) (N + 2) (List.replicate (N + 1) 0)).map D.int = RES at *
    generalize (List.replicate (N + 1) (0 : Int)).map D.int = R0 at *
    generalize wI up = W at *
    generalize (lies w h bs).map eD = LS at *
    generalize nd.map eS = ND at *
    simp [Mir.fn, mb__law_moved, r1, r2, lg, lz, e, sl1]
  · rintro i hi' ps ρ ⟨F, t7, t8, t9, t10, t11, rfl⟩
    obtain ⟨u8, u9, u10, u11, F', e⟩ := inner ps (.frz (.int i)) t8 t9 t10 t11 F
    refine ⟨_, _, rfl, ?_, F', .frz (.int i), u8, u9, u10, u11, rfl⟩
    have r1 : ∀ s1 s2 s3 s4 s5 s6 s7 s8 s9 s10 s11, iR1 (o1 lenD (vB 0)) [.frz (.lst ((lies w h bs).map eD)), s1, s2, s3, s4, s5, s6, s7, s8, s9, s10, s11] = some ((List.range bs.length).map fun i : Nat => D.int i) := fun s1 s2 s3 s4 s5 s6 s7 s8 s9 s10 s11 => by
      have := iR1_i (a := o1 lenD (vB 0)) (ρ := [.frz (.lst ((lies w h bs).map eD)), s1, s2, s3, s4, s5, s6, s7, s8, s9, s10, s11]) (n := bs.length) (by simp only [s_o1, s_vB, s_slot0, Option.bind_some]; exact ll) (by omega) (by omega)
      rw [Int.toNat_natCast] at this
      exact this
    simp only [lb__law_moved_1, s_forS, s_put0, s_putS, r1, Option.bind_some]
    exact e
end
end Snd
set_option linter.all false
/-! TL: the law k83. -/
namespace Snd
open _root_.Mir PG
def leB (a b : Bx) : Bool := decide ([a.l, a.t, a.r, a.b] ≤ [b.l, b.t, b.r, b.b])
theorem leB_iff {a b : Bx} : leB a b = true ↔ a.l < b.l ∨ (a.l = b.l ∧ (a.t < b.t ∨ (a.t = b.t ∧ (a.r < b.r ∨ (a.r = b.r ∧ a.b ≤ b.b))))) := by
  unfold leB
  rw [decide_eq_true_eq]
  simp [List.le_iff_lt_or_eq, List.cons_lt_cons_iff]
  omega
theorem eB_ok (b : Bx) : okD (eB b) = true ∧ dep (eB b) ≤ 1 := by simp [eB, okD, okDs, dep, deps]
theorem shp_eB (l : List Bx) : shp (.lst (l.map eB)) = true := shp_lst (n := 1) (fun d hd => by
  obtain ⟨s, _, rfl⟩ := List.mem_map.mp hd
  exact eB_ok s) (by decide)
theorem eqv_eB : ∀ l : List Bx, eqvs (l.map eB) (l.map eB) = true
  | [] => rfl
  | b :: r => by simp [eqvs, eqv, eB, eqv_eB r]
theorem eq_eB (l : List Bx) : eqD (.lst (l.map eB)) (.lst (l.map eB)) = some (.bl true) := by
  simp only [eqD, shp_eB, Bool.and_self, Bool.or_true, if_true, eqv, eqv_eB]
theorem ne_eB (l : List Bx) : neD (.lst (l.map eB)) (.lst (l.map eB)) = some (.bl false) := by
  simp only [neD, shp_eB, Bool.and_self, Bool.or_true, if_true, eqv, eqv_eB, Bool.not_true]
theorem sort_eB (l : List Bx) : sortD (.lst (l.map eB)) = some (.lst ((l.mergeSort leB).map eB)) := by
  have s : sortable (l.map eB) = true := by
    have : (l.map eB).all isTi = true := List.all_eq_true.mpr fun d hd => by
      obtain ⟨s, _, rfl⟩ := List.mem_map.mp hd
      rfl
    simp [sortable, this]
  have o : okDs (l.map eB) = true := okDs_all.mpr fun d hd => by
    obtain ⟨s, _, rfl⟩ := List.mem_map.mp hd
    exact (eB_ok s).1
  have e1 : (l.map eB).mergeSort ordD = (l.mergeSort leB).map eB := (List.map_mergeSort fun a _ b _ => by simp [ordD, eB, intsD, leB]).symm
  simp only [sortD, s, o, Bool.and_self, if_true, e1]
theorem sort_perm {l m : List Bx} (p : l.Perm m) : l.mergeSort leB = m.mergeSort leB := by
  have q : ∀ l : List Bx, (l.mergeSort leB).Pairwise fun a b => leB a b = true := fun l => List.pairwise_mergeSort (fun a b c h1 h2 => by rw [leB_iff] at *; omega) (fun a b => by rw [Bool.or_eq_true, leB_iff, leB_iff]; omega) l
  refine List.Perm.eq_of_pairwise (le := fun a b => leB a b = true) (fun a b _ _ h1 h2 => ?_) (q l) (q m) (((List.mergeSort_perm l leB).trans p).trans (List.mergeSort_perm m leB).symm)
  rw [leB_iff] at h1 h2
  obtain ⟨a1, a2, a3, a4⟩ := a
  obtain ⟨b1, b2, b3, b4⟩ := b
  simp only at h1 h2
  simp only [Bx.mk.injEq]
  omega
theorem range_nth : ∀ bs : List Bx, (List.range bs.length).map (nth bs) = bs := fun bs => by
  apply List.ext_getElem
  · simp
  · intro i h1 h2
    simp only [List.getElem_map, List.getElem_range]
    exact nth_eq h2
section
variable {w h : Int} {bs : List Bx} {nd : List Sp}
theorem lies_map (ps qs : List Int) : (lies w h bs).map (bxOf ps qs) = bs.map (mv (ups bs w) (ups (bs.map tr) h) w h (pl ps) (pl qs)) := by
  have e : (lies w h bs).map (bxOf ps qs) = ((List.range bs.length).map (nth bs)).map (mv (ups bs w) (ups (bs.map tr) h) w h (pl ps) (pl qs)) := by
    rw [lies, List.map_map, List.map_map]
    rfl
  rw [e, range_nth]
theorem back_ix {b : Bx} (hb : b ∈ bs) : ∃ k, k < bs.length ∧ nth bs k = b := by
  obtain ⟨k, hk, e⟩ := List.mem_iff_getElem.mp hb
  exact ⟨k, hk, (nth_eq hk).trans e⟩
/-- places that give each box what it needs make a page -/
theorem page_of (g : Pg w h bs) (n : Nds bs nd) {ps qs : List Int} (s1 : ∀ k, k < bs.length → pl ps (sdOf w h bs (nth bs k)).l + (nd.getD k (0, 0)).1 ≤ pl ps (sdOf w h bs (nth bs k)).r) (s2 : ∀ k, k < bs.length → pl qs (sdOf w h bs (nth bs k)).t + (nd.getD k (0, 0)).2 ≤ pl qs (sdOf w h bs (nth bs k)).b)
    (p1 : 0 < pl ps (nU w bs)) (p2 : 0 < pl qs (nL h bs)) (b1 : pl ps (nU w bs) ≤ 1000000) :
    m_make_page [.int (pl ps (nU w bs)), .int (pl qs (nL h bs)), .lst (((lies w h bs).map (bxOf ps qs)).map eB)] =
      some (.tup [.int (pl ps (nU w bs)), .int (pl qs (nL h bs)), .tup ((((lies w h bs).map (bxOf ps qs)).mergeSort fun a b => ordD (keyB a) (keyB b)).map eB)]) := by
  have nk : ∀ k, k < bs.length → 1 ≤ (nd.getD k (0, 0)).1 ∧ 1 ≤ (nd.getD k (0, 0)).2 := fun k hk => by
    have hk' : k < nd.length := by rw [n.len]; exact hk
    have e : nd.getD k (0, 0) = nd[k] := by simp [List.getD, hk']
    have := n.ok _ (List.getElem_mem hk')
    rw [e]
    omega
  have t := moved_til (A := pl ps) (B := pl qs) g.w0 g.h0 g.t g.wayU g.wayL (pl_neg ps) (pl_neg qs) (fun b hb => by
    obtain ⟨k, hk, rfl⟩ := back_ix hb
    have := s1 k hk
    have := nk k hk
    simp only [sdOf] at *
    omega) (fun b hb => by
    obtain ⟨k, hk, rfl⟩ := back_ix hb
    have := s2 k hk
    have := nk k hk
    simp only [sdOf] at *
    omega) p1 p2
  rw [← lies_map] at t
  refine x_page p1 p2 b1 t ?_ ?_
  · simp [lies]
    exact g.l0
  · simp [lies]
    exact g.l1
theorem sol_1 {up : Bool} {ps : List Int} (sol : ∀ s ∈ stps w h bs nd up, cst ps s ≤ pl ps s.e) : ∀ k, k < bs.length → pl ps ((sdOf w h bs (nth bs k)).lo up) + nOf up (nd.getD k (0, 0)) ≤ pl ps ((sdOf w h bs (nth bs k)).hi up) := fun k hk =>
  sol (stA w h bs nd up k) (List.mem_map_of_mem (List.mem_range.mpr hk))
theorem sol_M {hd : Int} {up : Bool} {ps : List Int} (sol : ∀ s ∈ stpM w h bs nd hd up, cst ps s ≤ pl ps s.e) : ∀ s ∈ stps w h bs nd up, cst ps s ≤ pl ps s.e := fun s hs => by
  obtain ⟨k, hk, rfl⟩ := List.mem_map.mp hs
  have a := sol (stM w h bs nd hd up k) (List.mem_map_of_mem hk)
  have b := moreK_in hd up k
  simp only [stA, stM, cst] at *
  omega
/-- places moved on are no less -/
theorem mov_ge {up : Bool} {N : Nat} {ps qs : List Int} (S : Steps 2000 (stps w h bs nd up) N) (D1 : Done 2000 (stps w h bs nd up) N ps) (M : Mov 2003 N qs) (sol : ∀ s ∈ stps w h bs nd up, cst qs s ≤ pl qs s.e) : pl ps N ≤ pl qs N := by
  have z := D1.least (fun i => if i ≤ N then pl qs i else pl qs i.toNat) (by
    show (if (-1 : Int) ≤ N then pl qs (-1) else _) = 0
    rw [if_pos (by omega), pl_neg]) (fun j => by
    show 0 ≤ if (j : Int) ≤ N then pl qs j else pl qs ((j : Int).toNat : Nat)
    by_cases q : (j : Int) ≤ N
    · rw [if_pos q]
      exact (M.lo j (by omega)).1
    · rw [if_neg q, Int.toNat_natCast, pl_nat, List.getD, List.getElem?_eq_none (by rw [M.len]; omega)]
      exact Int.le_refl _) (fun s hs => by
    have sl := S.lo s hs
    show (if s.b ≤ N then pl qs s.b else _) + s.n ≤ if s.e ≤ N then pl qs s.e else _
    rw [if_pos (by omega), if_pos (by omega)]
    exact sol s hs) N (Nat.le_refl _)
  have z' : pl ps N ≤ if (N : Int) ≤ N then pl qs N else pl qs ((N : Int).toNat : Nat) := z
  rw [if_pos (Int.le_refl _)] at z'
  exact z'
end
theorem mul_le {a : Int} {N : Nat} {B : Int} (h : a ≤ ((N : Int) + 1) * B) (hN : N < 24) (hB : 0 ≤ B) (hB2 : B ≤ 2003) : a ≤ 1000000 := by
  have : ((N : Int) + 1) * B ≤ 24 * 2003 := Int.mul_le_mul (by omega) hB2 hB (by decide)
  omega
theorem seq_n {s t : SM} {ρ ρ' : Env} {o : Option Out} (h : s ρ = some (.next ρ')) (k : t ρ' = o) : seq s t ρ = o := by
  rw [s_seq, h]
  exact k
theorem iff_no {t : TM} {a : SM} {ρ : Env} (h : t ρ = some false) : iff t a skip ρ = some (.next ρ) := by
  rw [s_iff, h]
  rfl
theorem asg_n {i : Nat} {e : EM} {ρ : Env} {d : D} (h : e ρ = some d) : asg (gN i) e ρ = some (.next (put ρ i (.frz d))) := by
  rw [s_asg, h]
  rfl
section
variable {ns : List Int} {P X : D} {ND LS PP QQ UU VV BX BY UW LW Y1 Y2 Z1 Z2 K1 K2 RG PB : List D} {h1 h2 n1 n2 p1 p2 u1 u2 : Int}
/-- the law's run, by what its parts give -/
theorem law_run (ep : m__law_page_of [.fz ns] = some P) (c1 : m__law_cell_at [.fz ns, .int 1] = some (.int h1)) (en : m__law_needs [P, .int h1] = some (.lst ND)) (xu : m_uprights [P] = some (.lst UW)) (xl : m_levels [P] = some (.lst LW))
    (lu : lenD (.lst UW) = some (.int n1)) (ll : lenD (.lst LW) = some (.int n2)) (r1 : ∀ s0 s2 s3 s4 s5 s6 s7 s8 s9 s10 s11 s12 s13, iR1 (o1 lenD (o2 ixD (vB 1) (cD (.int 2)))) [s0, .frz P, s2, s3, s4, s5, s6, s7, s8, s9, s10, s11, s12, s13] = some RG)
    (lg : ∀ s0 s2 s3 s4 s5 s6 s7 s8 s9 s10 s11 s12, lcGo (gN 13) tYes (call m_sides (eCons (vV 1) (eCons (vV 13) eNil))) [s0, .frz P, s2, s3, s4, s5, s6, s7, s8, s9, s10, s11, s12, .emp] RG = some LS)
    (el : m_least_places [P, .lst ND] = some (.tup [.lst PP, .lst QQ])) (pg1 : m__law_places_good [.lst PP, .int n1] = some (.bl true)) (pg2 : m__law_places_good [.lst QQ, .int n2] = some (.bl true))
    (xb : m__law_between [.lst LS, .tup [.lst PP, .lst QQ]] = some (.lst BX))
    (lp : ∀ s0 s1 s2 s3 s4 s5 s6 s7 s8 s9 s10 s11 s12 s13, ∃ t11 t12, forGo (gT [gN 11, gN 12]) lb_law_0 (zipL BX ND) [s0, s1, s2, s3, s4, s5, s6, s7, s8, s9, s10, s11, s12, s13] = some (.next [s0, s1, s2, s3, s4, s5, s6, s7, s8, s9, s10, t11, t12, s13]))
    (xpr : m_pressed [P, .lst ND] = some (.lst BX)) (nb : neD (.lst BX) (.lst BX) = some (.bl false)) (e1 : ixD (.lst PP) (.int (-1)) = some (.int p1)) (e2 : ixD (.lst QQ) (.int (-1)) = some (.int p2))
    (mp : m_make_page [.int p1, .int p2, .lst BX] = some (.tup [.int p1, .int p2, .tup Y1])) (sB : sortD (.lst BX) = some (.lst Z1)) (sC : sortA (.tup Y1) = some (.lst Z1)) (nS : neD (.lst Z1) (.lst Z1) = some (.bl false))
    (ca : m_chain_across [P, .lst ND] = some (.lst K1)) (cd : m_chain_down [P, .lst ND] = some (.lst K2)) (cg1 : m__law_chain_good [.lst LS, .lst K1, .lst ND, .lst [.int n1, .int n2], .int p1, .int 0] = some (.bl true))
    (cg2 : m__law_chain_good [.lst LS, .lst K2, .lst ND, .lst [.int n1, .int n2], .int p2, .int 1] = some (.bl true)) (c2 : m__law_cell_at [.fz ns, .int 2] = some (.int h2))
    (m1 : m__law_moved [.lst LS, .lst ND, .int 0, .int n1, .int h2] = some (.lst UU)) (m2 : m__law_moved [.lst LS, .lst ND, .int 1, .int n2, .int h2] = some (.lst VV)) (e3 : ixD (.lst UU) (.int (-1)) = some (.int u1)) (e4 : ixD (.lst VV) (.int (-1)) = some (.int u2))
    (na : ¬ u1 < p1) (nb2 : ¬ u2 < p2) (xb2 : m__law_between [.lst LS, .lst [.lst UU, .lst VV]] = some (.lst BY)) (mp2 : m_make_page [.int u1, .int u2, .lst BY] = some (.tup [.int u1, .int u2, .tup Y2]))
    (sB2 : sortD (.lst BY) = some (.lst Z2)) (sC2 : sortA (.tup Y2) = some (.lst Z2)) (eS2 : eqD (.lst Z2) (.lst Z2) = some (.bl true)) : m_law [.fz ns] = some (.bl true) := by
  have ld : ∀ xs : List D, listD (.lst xs) = some (.lst xs) := fun xs => rfl
  have lt2 : ∀ a b : D, lenD (.tup [a, b]) = some (.int 2) := fun a b => rfl
  have ng : ∀ i : Int, negD (.int i) = some (.int (-i)) := fun i => rfl
  suffices h : mb_law [.frz (.fz ns), .emp, .emp, .emp, .emp, .emp, .emp, .emp, .emp, .emp, .emp, .emp, .emp, .emp] = some (.ret (.bl true)) by
    simp only [Mir.fn, List.map_cons, List.map_nil, List.length_cons, List.length_nil]
    exact (congrArg (fun o => Option.bind o _) h)
  obtain ⟨t11, t12, lp1⟩ := lp (.frz (.fz ns)) (.frz P) (.frz (.lst ND)) (.frz (.lst [.int n1, .int n2])) (.frz (.lst LS)) (.frz (.tup [.lst PP, .lst QQ])) (.frz (.lst BX)) .emp .emp .emp .emp .emp .emp .emp
  unfold mb_law
  refine seq_n (asg_n (d := P) (by simp [ep])) ?_
  refine seq_n (asg_n (d := .lst ND) (by simp [c1, en])) ?_
  refine seq_n (asg_n (d := .lst [.int n1, .int n2]) (by simp only [s_mkL, s_cons, s_o1, s_call, s_vV, s_putS, s_put0, s_slotS, s_slot0, s_nil, Option.bind_some, xu, xl, lu, ll])) ?_
  refine seq_n (asg_n (d := .lst LS) (by
    simp only [s_lc, s_putS, s_put0]
    rw [r1]
    simp only [Option.bind_some, s_wpC, s_wpN, s_putS, s_put0]
    rw [lg]
    rfl)) ?_
  refine seq_n (asg_n (d := .tup [.lst PP, .lst QQ]) (by simp [ld, el])) ?_
  refine seq_n (iff_no (by simp [lt2])) ?_
  refine seq_n (iff_no (by simp [pg1, pg2])) ?_
  refine seq_n (asg_n (d := .lst BX) (by simp [xb])) ?_
  simp only [s_putS, s_put0]
  refine seq_n (ρ' := [.frz (.fz ns), .frz P, .frz (.lst ND), .frz (.lst [.int n1, .int n2]), .frz (.lst LS), .frz (.tup [.lst PP, .lst QQ]), .frz (.lst BX), .emp, .emp, .emp, .emp, t11, t12, .emp]) (by
    simp only [s_forS, s_iZp, s_vV, s_slotS, s_slot0, Option.bind_some, s_asL]
    exact lp1) ?_
  refine seq_n (iff_no (by simp [ld, xpr, nb])) ?_
  refine seq_n (asg_n (d := .tup [.int p1, .int p2, .tup Y1]) (by simp [ld, e1, e2, mp])) ?_
  refine seq_n (iff_no (by simp [sC, sB, nS])) ?_
  refine seq_n (iff_no (by simp [ld, ca, e1, cg1])) ?_
  refine seq_n (iff_no (by simp [ld, cd, e2, cg2])) ?_
  refine seq_n (asg_n (d := .int h2) (by simp [c2])) ?_
  refine seq_n (asg_n (d := .lst [.lst UU, .lst VV]) (by simp [m1, m2])) ?_
  refine seq_n (iff_no (by simp [e1, e2, e3, e4, na, nb2])) ?_
  refine seq_n (asg_n (d := .lst BY) (by simp [xb2])) ?_
  simp [ld, e3, e4, mp2, sB2, sC2, eS2]
end
theorem lst_ix0 {a b : D} : ixD (.lst [a, b]) (.int 0) = some a := ix_l0
theorem pure_law (ns : List Int) (hl : ns.length ≤ 63) : m_law [.fz ns] = some (.bl true) := by
  obtain ⟨w, h, bs, g, ep⟩ := x_lawpage ns
  have c1 := m_cell ns (k := 1) (by decide)
  have c2 := m_cell ns (k := 2) (by decide)
  generalize cellAt ns 1 = h1 at c1
  generalize cellAt ns 2 = h2 at c2
  obtain ⟨nd, n, en⟩ := x_lawneeds g h1
  obtain ⟨ps, qs, D1, D2, el⟩ := x_least g n
  have S1 := stepsU g n
  have S2 := stepsL g n
  have u1 := nU_le g n
  have u2 := nL_le g n
  have xu := x_uprights g
  have xl := x_levels g
  have lu : lenD (.lst ((ups bs w).map eW)) = some (.int (nU w bs)) := by rw [lenD_l, List.length_map]; rfl
  have ll : lenD (.lst ((ups (bs.map tr) h).map eW)) = some (.int (nL h bs)) := by rw [lenD_l, List.length_map]; rfl
  have bl := g.l1
  have lg : ∀ s0 s2 s3 s4 s5 s6 s7 s8 s9 s10 s11 s12, lcGo (gN 13) tYes (call m_sides (eCons (vV 1) (eCons (vV 13) eNil))) [s0, .frz (eP w h bs), s2, s3, s4, s5, s6, s7, s8, s9, s10, s11, s12, .emp] ((List.range bs.length).map fun i : Nat => D.int i) = some ((lies w h bs).map eD) := fun s0 s2 s3 s4 s5 s6 s7 s8 s9 s10 s11 s12 => by
    rw [lcGo_all (fun k => eD (sdOf w h bs (nth bs k))) _ fun k hk => ⟨_, rfl, by simp [x_sides g (List.mem_range.mp hk)]⟩, lies, List.map_map]
    rfl
  have r1 : ∀ s0 s2 s3 s4 s5 s6 s7 s8 s9 s10 s11 s12 s13, iR1 (o1 lenD (o2 ixD (vB 1) (cD (.int 2)))) [s0, .frz (eP w h bs), s2, s3, s4, s5, s6, s7, s8, s9, s10, s11, s12, s13] = some ((List.range bs.length).map fun i : Nat => D.int i) := fun s0 s2 s3 s4 s5 s6 s7 s8 s9 s10 s11 s12 s13 => by
    have := iR1_i (a := o1 lenD (o2 ixD (vB 1) (cD (.int 2)))) (ρ := [s0, .frz (eP w h bs), s2, s3, s4, s5, s6, s7, s8, s9, s10, s11, s12, s13]) (n := bs.length) (by simp) (by omega) (by omega)
    rw [Int.toNat_natCast] at this
    exact this
  have pg1 := x_placesgood S1 D1
  have pg2 := x_placesgood S2 D2
  have li := lies_in g
  have ln : (lies w h bs).length = bs.length := by simp [lies]
  have xb := x_between (X := .tup [.lst (ps.map .int), .lst (qs.map .int)]) D1.len D2.len (by omega) (by omega) ix_t0 ix_t1 li (by omega)
  have xpr := x_pressed g n D1.len D2.len el
  have so1 := sol_1 D1.sol
  have so2 := sol_1 D2.sol
  have P1 := Done.pos S1 D1 (j := nU w bs) (Nat.le_refl _)
  have P2 := Done.pos S2 D2 (j := nL h bs) (Nat.le_refl _)
  have mp := page_of g n so1 so2 P1 P2 (mul_le (D1.lo _ (Nat.le_refl _)).2 u1 (by decide) (by decide))
  have e1 := ix_end D1.len
  have e2 := ix_end D2.len
  obtain ⟨k1, B1, ch1⟩ := x_chain S1 D1 (by rw [stps_len]; omega) (by omega)
  obtain ⟨k2, B2, ch2⟩ := x_chain S2 D2 (by rw [stps_len]; omega) (by omega)
  have cg1 := x_chaingood g n true (many := .lst [.int (nU w bs), .int (nL h bs)]) ix_l0 B1
  have cg2 := x_chaingood g n false (many := .lst [.int (nU w bs), .int (nL h bs)]) ix_l1 B2
  have st1 := x_steps g n true
  have st2 := x_steps g n false
  have m1 := x_moved g n h2 true S1 u1
  have m2 := x_moved g n h2 false S2 u2
  have w1 : wI true = 0 := rfl
  have w2 : wI false = 1 := rfl
  rw [w1] at cg1 st1 m1
  rw [w2] at cg2 st2 m2
  have ca : m_chain_across [eP w h bs, .lst (nd.map eS)] = some (.lst (k1.reverse.map eI)) := by
    generalize (stps w h bs nd true).map eT = T1 at *
    generalize ps.map D.int = PP at *
    generalize qs.map D.int = QQ at *
    generalize k1.reverse.map eI = K1 at *
    generalize nd.map eS = ND at *
    simp [Mir.fn, mb_chain_across, el, st1, ch1]
  have cd : m_chain_down [eP w h bs, .lst (nd.map eS)] = some (.lst (k2.reverse.map eI)) := by
    generalize (stps w h bs nd false).map eT = T1 at *
    generalize ps.map D.int = PP at *
    generalize qs.map D.int = QQ at *
    generalize k2.reverse.map eI = K1 at *
    generalize nd.map eS = ND at *
    simp [Mir.fn, mb_chain_down, el, st2, ch2]
  obtain ⟨Ma, sa⟩ := moved_ok (stepsM h2 true S1) (by decide)
  obtain ⟨Mb, sb⟩ := moved_ok (stepsM h2 false S2) (by decide)
  generalize movN (stpM w h bs nd h2 true) (nU w bs + 2) (List.replicate (nU w bs + 1) 0) = us at *
  generalize movN (stpM w h bs nd h2 false) (nL h bs + 2) (List.replicate (nL h bs + 1) 0) = vs at *
  have sa' := sol_M sa
  have sb' := sol_M sb
  have ga := mov_ge S1 D1 Ma sa'
  have gb := mov_ge S2 D2 Mb sb'
  have xb2 := x_between (X := .lst [.lst (us.map .int), .lst (vs.map .int)]) Ma.len Mb.len (by omega) (by omega) ix_l0 ix_l1 li (by omega)
  have mp2 := page_of g n (sol_1 sa') (sol_1 sb') (by omega) (by omega) (mul_le (Ma.lo _ (Nat.le_refl _)).2 u1 (by decide) (by decide))
  have e3 := ix_end Ma.len
  have e4 := ix_end Mb.len
  -- the needs
  have lp : ∀ s0 s1 s2 s3 s4 s5 s6 s7 s8 s9 s10 s11 s12 s13, ∃ t11 t12, forGo (gT [gN 11, gN 12]) lb_law_0 (zipL (((lies w h bs).map (bxOf ps qs)).map eB) (nd.map eS)) [s0, s1, s2, s3, s4, s5, s6, s7, s8, s9, s10, s11, s12, s13] = some (.next [s0, s1, s2, s3, s4, s5, s6, s7, s8, s9, s10, t11, t12, s13]) := by
    intro s0 s1 s2 s3 s4 s5 s6 s7 s8 s9 s10 s11 s12 s13
    rw [zipL_map]
    have key := forGo_all (g := gT [gN 11, gN 12]) (body := lb_law_0) (enc := fun p : Bx × Sp => D.tup [eB p.1, eS p.2]) (fun ρ => ∃ t11 t12, ρ = [s0, s1, s2, s3, s4, s5, s6, s7, s8, s9, s10, t11, t12, s13]) (((lies w h bs).map (bxOf ps qs)).zip nd)
      [s0, s1, s2, s3, s4, s5, s6, s7, s8, s9, s10, s11, s12, s13] ⟨_, _, rfl⟩ ?_
    · obtain ⟨ρ', e, t11, t12, rfl⟩ := key
      exact ⟨t11, t12, e⟩
    · rintro p hp ρ ⟨t11, t12, rfl⟩
      obtain ⟨k, hk, ek⟩ := List.mem_iff_getElem.mp hp
      rw [List.getElem_zip] at ek
      rw [List.length_zip, List.length_map, ln] at hk
      have hkb : k < bs.length := by omega
      have hkn : k < nd.length := by omega
      have a := so1 k hkb
      have b := so2 k hkb
      have en : nd.getD k (0, 0) = nd[k] := by simp [List.getD, hkn]
      have eb : ((lies w h bs).map (bxOf ps qs))[k]'(by rw [List.length_map, ln]; exact hkb) = bxOf ps qs (sdOf w h bs (nth bs k)) := by simp [lies]
      rw [eb] at ek
      rw [en] at a b
      subst ek
      generalize sdOf w h bs (nth bs k) = s at *
      generalize nd[k] = q at *
      simp only [Sd.lo, Sd.hi, nOf, if_true, Bool.false_eq_true, if_false] at a b
      refine ⟨_, _, rfl, ?_, .frz (eB (bxOf ps qs s)), .frz (eS q), rfl⟩
      have n1 : ¬ (pl ps s.r - pl ps s.l < q.1) := by omega
      have n2 : ¬ (pl qs s.b - pl qs s.t < q.2) := by omega
      simp [lb_law_0, bxOf, n1, n2]
  have nb := ne_eB ((lies w h bs).map (bxOf ps qs))
  have sB := sort_eB ((lies w h bs).map (bxOf ps qs))
  have sC : sortA (.tup ((((lies w h bs).map (bxOf ps qs)).mergeSort fun a b => ordD (keyB a) (keyB b)).map eB)) = _ := (sort_eB _).trans (by rw [sort_perm (List.mergeSort_perm _ _)])
  have nS := ne_eB (((lies w h bs).map (bxOf ps qs)).mergeSort leB)
  have sB2 := sort_eB ((lies w h bs).map (bxOf us vs))
  have sC2 : sortA (.tup ((((lies w h bs).map (bxOf us vs)).mergeSort fun a b => ordD (keyB a) (keyB b)).map eB)) = _ := (sort_eB _).trans (by rw [sort_perm (List.mergeSort_perm _ _)])
  have eS2 := eq_eB (((lies w h bs).map (bxOf us vs)).mergeSort leB)
  have na : ¬ (pl us (nU w bs) < pl ps (nU w bs)) := by omega
  have nb2 : ¬ (pl vs (nL h bs) < pl qs (nL h bs)) := by omega
  exact law_run ep c1 en xu xl lu ll r1 lg el pg1 pg2 xb lp xpr nb e1 e2 mp sB sC nS ca cd cg1 cg2 c2 m1 m2 e3 e4 na nb2 xb2 mp2 sB2 sC2 eS2
end Snd
set_option Elab.async false
set_option linter.all false
set_option maxRecDepth 100000
set_option maxHeartbeats 0
namespace Snd
open PySem L2 LamX PySem.Spec PyProof.Rows
def d__law_cell_at : He.DefD := ⟨("_law_cell_at", none), "_law_cell_at", "_law_cell_at", defArgs s__law_cell_at, defBody s__law_cell_at, defScope s__law_cell_at, [], []⟩
def d_within : He.DefD := ⟨("within", none), "within", "within", defArgs s_within, defBody s_within, defScope s_within, [], []⟩
def d_meet : He.DefD := ⟨("meet", none), "meet", "meet", defArgs s_meet, defBody s_meet, defScope s_meet, [], []⟩
def d_fill : He.DefD := ⟨("fill", none), "fill", "fill", defArgs s_fill, defBody s_fill, defScope s_fill, [], []⟩
def d_is_whole : He.DefD := ⟨("is_whole", none), "is_whole", "is_whole", defArgs s_is_whole, defBody s_is_whole, defScope s_is_whole, [], []⟩
def d_is_box : He.DefD := ⟨("is_box", none), "is_box", "is_box", defArgs s_is_box, defBody s_is_box, defScope s_is_box, [], []⟩
def d_make_page : He.DefD := ⟨("make_page", none), "make_page", "make_page", defArgs s_make_page, defBody s_make_page, defScope s_make_page, [], []⟩
def d__law_mixed : He.DefD := ⟨("_law_mixed", none), "_law_mixed", "_law_mixed", defArgs s__law_mixed, defBody s__law_mixed, defScope s__law_mixed, [], []⟩
def d__law_wheel : He.DefD := ⟨("_law_wheel", none), "_law_wheel", "_law_wheel", defArgs s__law_wheel, defBody s__law_wheel, defScope s__law_wheel, [], []⟩
def d__law_halves : He.DefD := ⟨("_law_halves", none), "_law_halves", "_law_halves", defArgs s__law_halves, defBody s__law_halves, defScope s__law_halves, [], []⟩
def d__law_boxes : He.DefD := ⟨("_law_boxes", none), "_law_boxes", "_law_boxes", defArgs s__law_boxes, defBody s__law_boxes, defScope s__law_boxes, [], []⟩
def d__law_page_of : He.DefD := ⟨("_law_page_of", none), "_law_page_of", "_law_page_of", defArgs s__law_page_of, defBody s__law_page_of, defScope s__law_page_of, [], []⟩
def d__law_needs : He.DefD := ⟨("_law_needs", none), "_law_needs", "_law_needs", defArgs s__law_needs, defBody s__law_needs, defScope s__law_needs, [], []⟩
def d_is_need : He.DefD := ⟨("is_need", none), "is_need", "is_need", defArgs s_is_need, defBody s_is_need, defScope s_is_need, [], []⟩
def d_need_needs : He.DefD := ⟨("need_needs", none), "need_needs", "need_needs", defArgs s_need_needs, defBody s_need_needs, defScope s_need_needs, [], []⟩
def d_place_of : He.DefD := ⟨("place_of", none), "place_of", "place_of", defArgs s_place_of, defBody s_place_of, defScope s_place_of, [], []⟩
def d_farthest : He.DefD := ⟨("farthest", none), "farthest", "farthest", defArgs s_farthest, defBody s_farthest, defScope s_farthest, [], []⟩
def d_joined_spans : He.DefD := ⟨("joined_spans", none), "joined_spans", "joined_spans", defArgs s_joined_spans, defBody s_joined_spans, defScope s_joined_spans, [], []⟩
def d_ends_joined : He.DefD := ⟨("ends_joined", none), "ends_joined", "ends_joined", defArgs s_ends_joined, defBody s_ends_joined, defScope s_ends_joined, [], []⟩
def d_uprights : He.DefD := ⟨("uprights", none), "uprights", "uprights", defArgs s_uprights, defBody s_uprights, defScope s_uprights, [], []⟩
def d_levels : He.DefD := ⟨("levels", none), "levels", "levels", defArgs s_levels, defBody s_levels, defScope s_levels, [], []⟩
def d_wall_at : He.DefD := ⟨("wall_at", none), "wall_at", "wall_at", defArgs s_wall_at, defBody s_wall_at, defScope s_wall_at, [], []⟩
def d_sides : He.DefD := ⟨("sides", none), "sides", "sides", defArgs s_sides, defBody s_sides, defScope s_sides, [], []⟩
def d_steps_of : He.DefD := ⟨("steps_of", none), "steps_of", "steps_of", defArgs s_steps_of, defBody s_steps_of, defScope s_steps_of, [], []⟩
def d_least_places : He.DefD := ⟨("least_places", none), "least_places", "least_places", defArgs s_least_places, defBody s_least_places, defScope s_least_places, [], []⟩
def d__law_between : He.DefD := ⟨("_law_between", none), "_law_between", "_law_between", defArgs s__law_between, defBody s__law_between, defScope s__law_between, [], []⟩
def d_pressed : He.DefD := ⟨("pressed", none), "pressed", "pressed", defArgs s_pressed, defBody s_pressed, defScope s_pressed, [], []⟩
def d__law_whole : He.DefD := ⟨("_law_whole", none), "_law_whole", "_law_whole", defArgs s__law_whole, defBody s__law_whole, defScope s__law_whole, [], []⟩
def d__law_chain_good : He.DefD := ⟨("_law_chain_good", none), "_law_chain_good", "_law_chain_good", defArgs s__law_chain_good, defBody s__law_chain_good, defScope s__law_chain_good, [], []⟩
def d__law_moved : He.DefD := ⟨("_law_moved", none), "_law_moved", "_law_moved", defArgs s__law_moved, defBody s__law_moved, defScope s__law_moved, [], []⟩
def d__law_places_good : He.DefD := ⟨("_law_places_good", none), "_law_places_good", "_law_places_good", defArgs s__law_places_good, defBody s__law_places_good, defScope s__law_places_good, [], []⟩
def d_chain : He.DefD := ⟨("chain", none), "chain", "chain", defArgs s_chain, defBody s_chain, defScope s_chain, [], []⟩
def d_chain_across : He.DefD := ⟨("chain_across", none), "chain_across", "chain_across", defArgs s_chain_across, defBody s_chain_across, defScope s_chain_across, [], []⟩
def d_chain_down : He.DefD := ⟨("chain_down", none), "chain_down", "chain_down", defArgs s_chain_down, defBody s_chain_down, defScope s_chain_down, [], []⟩
def d_law : He.DefD := ⟨("law", none), "law", "law", defArgs s_law, defBody s_law, defScope s_law, [], []⟩
def fnL : List He.DefD := [d__law_cell_at, d_within, d_meet, d_fill, d_is_whole, d_is_box, d_make_page, d__law_mixed, d__law_wheel, d__law_halves, d__law_boxes, d__law_page_of, d__law_needs, d_is_need, d_need_needs, d_place_of, d_farthest, d_joined_spans, d_ends_joined, d_uprights, d_levels, d_wall_at, d_sides, d_steps_of, d_least_places, d__law_between, d_pressed, d__law_whole, d__law_chain_good, d__law_moved, d__law_places_good, d_chain, d_chain_across, d_chain_down, d_law]
def faL : List He.Fa := [.glo "_law_cell_at", .glo "within", .glo "meet", .glo "fill", .glo "is_whole", .glo "is_box", .glo "make_page", .glo "_law_mixed", .glo "_law_wheel", .glo "_law_halves", .glo "_law_boxes", .glo "_law_page_of", .glo "_law_needs", .glo "is_need", .glo "need_needs", .glo "place_of", .glo "farthest", .glo "joined_spans", .glo "ends_joined", .glo "uprights", .glo "levels", .glo "wall_at", .glo "sides", .glo "steps_of", .glo "least_places", .glo "_law_between", .glo "pressed", .glo "_law_whole", .glo "_law_chain_good", .glo "_law_moved", .glo "_law_places_good", .glo "chain", .glo "chain_across", .glo "chain_down", .glo "law", .free "all", .free "bool", .free "enumerate", .free "int", .free "isinstance", .free "len", .free "list", .free "max", .free "min", .free "range", .free "sorted", .free "tuple", .free "zip", .int "MOST_BOXES" 24, .int "MOST_NEED" 2000]
def tfL : List He.Defn := [("make_page", none)]
abbrev RR : PySem.W.OpenRow := PySem.W.OpenLaw.row PySem.Challenge.rw_pagepart_k83_whole_pressed
abbrev hk : PySem.W.Hook := He.hookX 4 faL fnL [] tfL (fun _ => true)
def ob (s : PySem.W.SharedT) : He.AlX := He.obsX 4 faL fnL [] tfL (fun _ => true) (HandSHeadRun.getT s)
theorem ob_eq (s : PySem.W.SharedT) : ob s = hk.obs s.abs := He.obsX_eq (HandSHeadRun.getT_eq s)
def loose0 : List Str := ["PartError", "NoPage", "NoPlace", "NoNeeds", "joined_spans", "ends_joined", "uprights", "levels", "wall_at", "sides", "MOST_NEED", "is_need", "need_needs", "steps_of", "place_of", "farthest", "chain", "least_places", "pressed", "chain_across", "chain_down", "MOST_BOXES", "is_whole", "is_box", "within", "meet", "fill", "make_page", "_law_cell_at", "_law_mixed"]
def loose1 : List Str := ["_law_wheel", "_law_halves", "_law_boxes", "_law_page_of", "_law_needs", "_law_whole", "_law_places_good", "_law_between", "_law_chain_good", "_law_moved"]
def loose : List Str := loose0 ++ loose1
theorem run (w : World) : HandSHeadRun.RunEq RR (PySem.W.view RR.prog [45]) hk ob 6000 loose w := by
  intro os
  kernel_rfl
theorem facts {w : World} {K : PySem.W.Frag} {h : Heap} {mg : Str → Option Value} {fa : Addr} (X : K.In h) (G : h.Ns mainGlobals mg) (hfa : mg ("law" : Str) = some (.ref fa)) (c : He.SaysX faL fnL [] tfL (fun _ => true) w h K)
    (hm : ∀ ns : List Int, ns.length ≤ 63 → m_law [.fz ns] = some (.bl true)) : LamX.LawAtS PySem.Challenge.rw_pagepart_k83_whole_pressed w K L2.CX0 8 63 "script" mg fa h := by
  letI : TabCtx := ⟨[((He.cT K ("make_page", none)).2, ((("make_page" : Str) ++ ".<locals>.") ++ "<lambda>" : Str))]⟩
  have g : GF mg := ⟨He.free_ok X G (c.t.d.fact 35 (f := .free "all") rfl), He.free_ok X G (c.t.d.fact 36 (f := .free "bool") rfl), He.free_ok X G (c.t.d.fact 37 (f := .free "enumerate") rfl), He.free_ok X G (c.t.d.fact 38 (f := .free "int") rfl), He.free_ok X G (c.t.d.fact 39 (f := .free "isinstance") rfl), He.free_ok X G (c.t.d.fact 40 (f := .free "len") rfl), He.free_ok X G (c.t.d.fact 41 (f := .free "list") rfl), He.free_ok X G (c.t.d.fact 42 (f := .free "max") rfl), He.free_ok X G (c.t.d.fact 43 (f := .free "min") rfl), He.free_ok X G (c.t.d.fact 44 (f := .free "range") rfl), He.free_ok X G (c.t.d.fact 45 (f := .free "sorted") rfl), He.free_ok X G (c.t.d.fact 46 (f := .free "tuple") rfl), He.free_ok X G (c.t.d.fact 47 (f := .free "zip") rfl), He.int_ok X G (c.t.d.fact 48 (f := .int "MOST_BOXES" 24) rfl), He.int_ok X G (c.t.d.fact 49 (f := .int "MOST_NEED" 2000) rfl)⟩
  obtain ⟨fd_0, D_0⟩ := c.t.d.def_ 0 (d := d__law_cell_at) rfl
  have G_0 : mg "_law_cell_at" = some (.ref (He.ga K "_law_cell_at")) := He.glo_ok X G (c.t.d.fact 0 (f := .glo "_law_cell_at") rfl)
  obtain ⟨fd_1, D_1⟩ := c.t.d.def_ 1 (d := d_within) rfl
  have G_1 : mg "within" = some (.ref (He.ga K "within")) := He.glo_ok X G (c.t.d.fact 1 (f := .glo "within") rfl)
  obtain ⟨fd_2, D_2⟩ := c.t.d.def_ 2 (d := d_meet) rfl
  have G_2 : mg "meet" = some (.ref (He.ga K "meet")) := He.glo_ok X G (c.t.d.fact 2 (f := .glo "meet") rfl)
  obtain ⟨fd_3, D_3⟩ := c.t.d.def_ 3 (d := d_fill) rfl
  have G_3 : mg "fill" = some (.ref (He.ga K "fill")) := He.glo_ok X G (c.t.d.fact 3 (f := .glo "fill") rfl)
  obtain ⟨fd_4, D_4⟩ := c.t.d.def_ 4 (d := d_is_whole) rfl
  have G_4 : mg "is_whole" = some (.ref (He.ga K "is_whole")) := He.glo_ok X G (c.t.d.fact 4 (f := .glo "is_whole") rfl)
  obtain ⟨fd_5, D_5⟩ := c.t.d.def_ 5 (d := d_is_box) rfl
  have G_5 : mg "is_box" = some (.ref (He.ga K "is_box")) := He.glo_ok X G (c.t.d.fact 5 (f := .glo "is_box") rfl)
  obtain ⟨fd_6, D_6⟩ := c.t.d.def_ 6 (d := d_make_page) rfl
  have G_6 : mg "make_page" = some (.ref (He.ga K "make_page")) := He.glo_ok X G (c.t.d.fact 6 (f := .glo "make_page") rfl)
  obtain ⟨fd_7, D_7⟩ := c.t.d.def_ 7 (d := d__law_mixed) rfl
  have G_7 : mg "_law_mixed" = some (.ref (He.ga K "_law_mixed")) := He.glo_ok X G (c.t.d.fact 7 (f := .glo "_law_mixed") rfl)
  obtain ⟨fd_8, D_8⟩ := c.t.d.def_ 8 (d := d__law_wheel) rfl
  have G_8 : mg "_law_wheel" = some (.ref (He.ga K "_law_wheel")) := He.glo_ok X G (c.t.d.fact 8 (f := .glo "_law_wheel") rfl)
  obtain ⟨fd_9, D_9⟩ := c.t.d.def_ 9 (d := d__law_halves) rfl
  have G_9 : mg "_law_halves" = some (.ref (He.ga K "_law_halves")) := He.glo_ok X G (c.t.d.fact 9 (f := .glo "_law_halves") rfl)
  obtain ⟨fd_10, D_10⟩ := c.t.d.def_ 10 (d := d__law_boxes) rfl
  have G_10 : mg "_law_boxes" = some (.ref (He.ga K "_law_boxes")) := He.glo_ok X G (c.t.d.fact 10 (f := .glo "_law_boxes") rfl)
  obtain ⟨fd_11, D_11⟩ := c.t.d.def_ 11 (d := d__law_page_of) rfl
  have G_11 : mg "_law_page_of" = some (.ref (He.ga K "_law_page_of")) := He.glo_ok X G (c.t.d.fact 11 (f := .glo "_law_page_of") rfl)
  obtain ⟨fd_12, D_12⟩ := c.t.d.def_ 12 (d := d__law_needs) rfl
  have G_12 : mg "_law_needs" = some (.ref (He.ga K "_law_needs")) := He.glo_ok X G (c.t.d.fact 12 (f := .glo "_law_needs") rfl)
  obtain ⟨fd_13, D_13⟩ := c.t.d.def_ 13 (d := d_is_need) rfl
  have G_13 : mg "is_need" = some (.ref (He.ga K "is_need")) := He.glo_ok X G (c.t.d.fact 13 (f := .glo "is_need") rfl)
  obtain ⟨fd_14, D_14⟩ := c.t.d.def_ 14 (d := d_need_needs) rfl
  have G_14 : mg "need_needs" = some (.ref (He.ga K "need_needs")) := He.glo_ok X G (c.t.d.fact 14 (f := .glo "need_needs") rfl)
  obtain ⟨fd_15, D_15⟩ := c.t.d.def_ 15 (d := d_place_of) rfl
  have G_15 : mg "place_of" = some (.ref (He.ga K "place_of")) := He.glo_ok X G (c.t.d.fact 15 (f := .glo "place_of") rfl)
  obtain ⟨fd_16, D_16⟩ := c.t.d.def_ 16 (d := d_farthest) rfl
  have G_16 : mg "farthest" = some (.ref (He.ga K "farthest")) := He.glo_ok X G (c.t.d.fact 16 (f := .glo "farthest") rfl)
  obtain ⟨fd_17, D_17⟩ := c.t.d.def_ 17 (d := d_joined_spans) rfl
  have G_17 : mg "joined_spans" = some (.ref (He.ga K "joined_spans")) := He.glo_ok X G (c.t.d.fact 17 (f := .glo "joined_spans") rfl)
  obtain ⟨fd_18, D_18⟩ := c.t.d.def_ 18 (d := d_ends_joined) rfl
  have G_18 : mg "ends_joined" = some (.ref (He.ga K "ends_joined")) := He.glo_ok X G (c.t.d.fact 18 (f := .glo "ends_joined") rfl)
  obtain ⟨fd_19, D_19⟩ := c.t.d.def_ 19 (d := d_uprights) rfl
  have G_19 : mg "uprights" = some (.ref (He.ga K "uprights")) := He.glo_ok X G (c.t.d.fact 19 (f := .glo "uprights") rfl)
  obtain ⟨fd_20, D_20⟩ := c.t.d.def_ 20 (d := d_levels) rfl
  have G_20 : mg "levels" = some (.ref (He.ga K "levels")) := He.glo_ok X G (c.t.d.fact 20 (f := .glo "levels") rfl)
  obtain ⟨fd_21, D_21⟩ := c.t.d.def_ 21 (d := d_wall_at) rfl
  have G_21 : mg "wall_at" = some (.ref (He.ga K "wall_at")) := He.glo_ok X G (c.t.d.fact 21 (f := .glo "wall_at") rfl)
  obtain ⟨fd_22, D_22⟩ := c.t.d.def_ 22 (d := d_sides) rfl
  have G_22 : mg "sides" = some (.ref (He.ga K "sides")) := He.glo_ok X G (c.t.d.fact 22 (f := .glo "sides") rfl)
  obtain ⟨fd_23, D_23⟩ := c.t.d.def_ 23 (d := d_steps_of) rfl
  have G_23 : mg "steps_of" = some (.ref (He.ga K "steps_of")) := He.glo_ok X G (c.t.d.fact 23 (f := .glo "steps_of") rfl)
  obtain ⟨fd_24, D_24⟩ := c.t.d.def_ 24 (d := d_least_places) rfl
  have G_24 : mg "least_places" = some (.ref (He.ga K "least_places")) := He.glo_ok X G (c.t.d.fact 24 (f := .glo "least_places") rfl)
  obtain ⟨fd_25, D_25⟩ := c.t.d.def_ 25 (d := d__law_between) rfl
  have G_25 : mg "_law_between" = some (.ref (He.ga K "_law_between")) := He.glo_ok X G (c.t.d.fact 25 (f := .glo "_law_between") rfl)
  obtain ⟨fd_26, D_26⟩ := c.t.d.def_ 26 (d := d_pressed) rfl
  have G_26 : mg "pressed" = some (.ref (He.ga K "pressed")) := He.glo_ok X G (c.t.d.fact 26 (f := .glo "pressed") rfl)
  obtain ⟨fd_27, D_27⟩ := c.t.d.def_ 27 (d := d__law_whole) rfl
  have G_27 : mg "_law_whole" = some (.ref (He.ga K "_law_whole")) := He.glo_ok X G (c.t.d.fact 27 (f := .glo "_law_whole") rfl)
  obtain ⟨fd_28, D_28⟩ := c.t.d.def_ 28 (d := d__law_chain_good) rfl
  have G_28 : mg "_law_chain_good" = some (.ref (He.ga K "_law_chain_good")) := He.glo_ok X G (c.t.d.fact 28 (f := .glo "_law_chain_good") rfl)
  obtain ⟨fd_29, D_29⟩ := c.t.d.def_ 29 (d := d__law_moved) rfl
  have G_29 : mg "_law_moved" = some (.ref (He.ga K "_law_moved")) := He.glo_ok X G (c.t.d.fact 29 (f := .glo "_law_moved") rfl)
  obtain ⟨fd_30, D_30⟩ := c.t.d.def_ 30 (d := d__law_places_good) rfl
  have G_30 : mg "_law_places_good" = some (.ref (He.ga K "_law_places_good")) := He.glo_ok X G (c.t.d.fact 30 (f := .glo "_law_places_good") rfl)
  obtain ⟨fd_31, D_31⟩ := c.t.d.def_ 31 (d := d_chain) rfl
  have G_31 : mg "chain" = some (.ref (He.ga K "chain")) := He.glo_ok X G (c.t.d.fact 31 (f := .glo "chain") rfl)
  obtain ⟨fd_32, D_32⟩ := c.t.d.def_ 32 (d := d_chain_across) rfl
  have G_32 : mg "chain_across" = some (.ref (He.ga K "chain_across")) := He.glo_ok X G (c.t.d.fact 32 (f := .glo "chain_across") rfl)
  obtain ⟨fd_33, D_33⟩ := c.t.d.def_ 33 (d := d_chain_down) rfl
  have G_33 : mg "chain_down" = some (.ref (He.ga K "chain_down")) := He.glo_ok X G (c.t.d.fact 33 (f := .glo "chain_down") rfl)
  obtain ⟨fd_34, D_34⟩ := c.t.d.def_ 34 (d := d_law) rfl
  have G_34 : mg "law" = some (.ref (He.ga K "law")) := He.glo_ok X G (c.t.d.fact 34 (f := .glo "law") rfl)
  have e := hfa.symm.trans G_34
  cases e
  have hc_6 : fd_6.code = .ref (He.cT K ("make_page", none)).1 := by
    obtain ⟨oc, od, dV, kV, doc, pm, an, cdv, ct, osl, rfl, lk, hcd, _, _⟩ := D_6.ex
    obtain ⟨c1, rfl⟩ := He.codeIn_ref hcd
    exact congrArg Value.ref (He.codeOf_eq (p := ("make_page", none)) lk rfl).symm
  refine ⟨fd_34, [He.cT K ("make_page", none)], spD K m_law, fun p hp => ?_, fun p hp => ?_, fun p hp => ?_, fun s u => (D_34.bindsA (ps := ["script"]) fun _ _ _ _ _ _ us hl => match us, hl with | [_], _ => rfl) s [u] rfl, fun H a ns hl _ hT hS => ⟨H, [.fz ns], .bl true, Ex.refl H, fun p hp => ?_, .cons (.fz hS) .nil, hm ns hl, fun v _ _ _ q => by cases q; rfl⟩, fun base hb hg hTB => ?_⟩
  · obtain rfl := List.mem_singleton.mp hp
    exact c.empty _ (List.mem_singleton_self _)
  · obtain rfl := List.mem_singleton.mp hp
    exact c.out _ (List.mem_singleton_self _)
  · obtain rfl := List.mem_singleton.mp hp
    exact PySem.W.codeHd_of_K X (c.hd _ (List.mem_singleton_self _))
  · obtain rfl := List.mem_singleton.mp hp
    exact LamX.TabS.nil (hT _ (List.mem_singleton_self _))
  have F_0 := fd__law_cell_at (P := PySem.Challenge.pw_pagepart_k83_whole_pressed) (w := w) (base := base) g  D_0 G_0
  have F_1 := fd_within (P := PySem.Challenge.pw_pagepart_k83_whole_pressed) (w := w) (base := base) g  D_1 G_1
  have F_2 := fd_meet (P := PySem.Challenge.pw_pagepart_k83_whole_pressed) (w := w) (base := base) g  D_2 G_2
  have F_3 := fd_fill (P := PySem.Challenge.pw_pagepart_k83_whole_pressed) (w := w) (base := base) g F_2 F_1 D_3 G_3
  have F_4 := fd_is_whole (P := PySem.Challenge.pw_pagepart_k83_whole_pressed) (w := w) (base := base) g  D_4 G_4
  have F_5 := fd_is_box (P := PySem.Challenge.pw_pagepart_k83_whole_pressed) (w := w) (base := base) g F_4 D_5 G_5
  have F_6 := fd_make_page (P := PySem.Challenge.pw_pagepart_k83_whole_pressed) (w := w) (base := base) g F_3 F_5 F_4 (hTB _ (List.mem_singleton_self _)) (List.mem_singleton_self _) (fun p hp _ => by obtain rfl := List.mem_singleton.mp hp; rfl) hc_6 D_6 G_6
  have F_7 := fd__law_mixed (P := PySem.Challenge.pw_pagepart_k83_whole_pressed) (w := w) (base := base) g  D_7 G_7
  have F_8 := fd__law_wheel (P := PySem.Challenge.pw_pagepart_k83_whole_pressed) (w := w) (base := base) g F_7 D_8 G_8
  have F_9 := fd__law_halves (P := PySem.Challenge.pw_pagepart_k83_whole_pressed) (w := w) (base := base) g F_7 D_9 G_9
  have F_10 := fd__law_boxes (P := PySem.Challenge.pw_pagepart_k83_whole_pressed) (w := w) (base := base) g F_8 F_9 F_7 D_10 G_10
  have F_11 := fd__law_page_of (P := PySem.Challenge.pw_pagepart_k83_whole_pressed) (w := w) (base := base) g F_6 F_10 F_7 F_0 D_11 G_11
  have F_12 := fd__law_needs (P := PySem.Challenge.pw_pagepart_k83_whole_pressed) (w := w) (base := base) g F_7 D_12 G_12
  have F_13 := fd_is_need (P := PySem.Challenge.pw_pagepart_k83_whole_pressed) (w := w) (base := base) g  D_13 G_13
  have F_14 := fd_need_needs (P := PySem.Challenge.pw_pagepart_k83_whole_pressed) (w := w) (base := base) g F_13 D_14 G_14
  have F_15 := fd_place_of (P := PySem.Challenge.pw_pagepart_k83_whole_pressed) (w := w) (base := base) g  D_15 G_15
  have F_16 := fd_farthest (P := PySem.Challenge.pw_pagepart_k83_whole_pressed) (w := w) (base := base) g F_15 D_16 G_16
  have F_17 := fd_joined_spans (P := PySem.Challenge.pw_pagepart_k83_whole_pressed) (w := w) (base := base) g  D_17 G_17
  have F_18 := fd_ends_joined (P := PySem.Challenge.pw_pagepart_k83_whole_pressed) (w := w) (base := base) g F_17 D_18 G_18
  have F_19 := fd_uprights (P := PySem.Challenge.pw_pagepart_k83_whole_pressed) (w := w) (base := base) g F_18 D_19 G_19
  have F_20 := fd_levels (P := PySem.Challenge.pw_pagepart_k83_whole_pressed) (w := w) (base := base) g F_18 D_20 G_20
  have F_21 := fd_wall_at (P := PySem.Challenge.pw_pagepart_k83_whole_pressed) (w := w) (base := base) g  D_21 G_21
  have F_22 := fd_sides (P := PySem.Challenge.pw_pagepart_k83_whole_pressed) (w := w) (base := base) g F_21 F_20 F_19 D_22 G_22
  have F_23 := fd_steps_of (P := PySem.Challenge.pw_pagepart_k83_whole_pressed) (w := w) (base := base) g F_22 D_23 G_23
  have F_24 := fd_least_places (P := PySem.Challenge.pw_pagepart_k83_whole_pressed) (w := w) (base := base) g F_16 F_20 F_23 F_19 F_14 D_24 G_24
  have F_25 := fd__law_between (P := PySem.Challenge.pw_pagepart_k83_whole_pressed) (w := w) (base := base) g  D_25 G_25
  have F_26 := fd_pressed (P := PySem.Challenge.pw_pagepart_k83_whole_pressed) (w := w) (base := base) g F_15 F_22 F_24 D_26 G_26
  have F_27 := fd__law_whole (P := PySem.Challenge.pw_pagepart_k83_whole_pressed) (w := w) (base := base) g  D_27 G_27
  have F_28 := fd__law_chain_good (P := PySem.Challenge.pw_pagepart_k83_whole_pressed) (w := w) (base := base) g F_27 D_28 G_28
  have F_29 := fd__law_moved (P := PySem.Challenge.pw_pagepart_k83_whole_pressed) (w := w) (base := base) g F_7 D_29 G_29
  have F_30 := fd__law_places_good (P := PySem.Challenge.pw_pagepart_k83_whole_pressed) (w := w) (base := base) g F_27 D_30 G_30
  have F_31 := fd_chain (P := PySem.Challenge.pw_pagepart_k83_whole_pressed) (w := w) (base := base) g F_15 D_31 G_31
  have F_32 := fd_chain_across (P := PySem.Challenge.pw_pagepart_k83_whole_pressed) (w := w) (base := base) g F_31 F_23 F_24 D_32 G_32
  have F_33 := fd_chain_down (P := PySem.Challenge.pw_pagepart_k83_whole_pressed) (w := w) (base := base) g F_31 F_23 F_24 D_33 G_33
  exact fo_law g F_6 F_25 F_29 F_0 F_28 F_33 F_32 F_26 F_30 F_24 F_22 F_20 F_19 F_12 F_11 D_34
end Snd
open PySem PySem.W PySem.Calls PyProof.Rows
theorem PySem.Challenge.cw_pagepart_k83_whole_pressed_holds : PySem.Challenge.rw_pagepart_k83_whole_pressed.Holds := by
  w_on; o_law
  refine HandSHeadRun.head_any (r := Snd.RR) (q := view Snd.RR.prog [45]) (H := Snd.hk) (ob := Snd.ob) (M := 6000) (loose := Snd.loose) (d := HandSHeadRun.topDef Snd.RR.prog 45) (kwd := []) Snd.ob_eq
    (by kernel_rfl) (fun s => by kernel_rfl) Snd.run (by kernel_rfl) (by kernel_rfl) (by kernel_rfl) (by rfl) (by first | assumption | decide +kernel) (by decide +kernel) ⟨rfl, rfl, rfl, rfl, rfl, by decide +kernel⟩ ?hw ?hc
  case hw => w_witness2
  case hc =>
    refine LamX.walk_ofTsE (l := PySem.Challenge.rw_pagepart_k83_whole_pressed) (n := 63) (k := 8) (x := "script") (CX := fun _ => L2.CX0) rfl (by decide) (by kernel_rfl) ⟨rfl, by decide, by decide⟩ ?F (fun _ _ _ _ _ z => z)
    intro w mg fa h Y G hmg0
    obtain ⟨K, KX, c⟩ := Y
    have hmg : mg ("law" : PySem.Str) = some (.ref fa) := by
      have e : (HandSHeadRun.topDef Snd.RR.prog 45).name = ("law" : PySem.Str) := by kernel_rfl
      rw [← e]
      exact hmg0
    exact ⟨K, KX, Snd.facts KX G hmg c Snd.pure_law⟩
