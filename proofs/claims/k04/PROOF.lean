import PyProof.Rows.All
import Wide.All
import OpenK.AllK
import Wide.FinOn
import PySem.Str
import HandS.ForMost
import HandS.Flow
import HandS.TupAny
import HandS.Wide
import HandS.Deep
import HandS.Style
import HandS.Zip
import KE.GoesZip
import KE.GoesMore
import HandS.Conv
import HandS.Defaults
import HandS.WordsExc
import HandS.Head0
import HandS.Head1
import HandS.Head2
import HandS.HeadEnd
import HandS.HeadHook1
import HandS.HeadHook2
import Lean
import KE.KStateDown
import PySem.Challenge.RW_spacehouse_k04_fields_and_fractions
set_option linter.all false
set_option Elab.async false
set_option maxRecDepth 100000
set_option exponentiation.threshold 10000
/-! EvA: data by value, the small language, its evaluator. -/
namespace Py
open PySem (Str)

/-- a value of the program, whole -/
inductive D where
  | non | bl (b : Bool) | int (i : Int) | str (s : Str)
  | tup (xs : List D) | lst (xs : List D) | dct (ks vs : List D) | tape | scr (ns : List Int)
  deriving Inhabited

/-- the law's tape -/
structure Tape where
  cells : List Int
  pos : Int
  left : Int
  seed : Int
  salt : Int

abbrev Tp := Option Tape
inductive R (α : Type) where
  | ok (a : α) (t : Tp)
  | ex (k : Nat) (ds : List D) (t : Tp)
  | bad
def R.bind {α β : Type} : R α → (α → Tp → R β) → R β
  | .ok a t, f => f a t
  | .ex k ds t, _ => .ex k ds t
  | .bad, _ => .bad
@[simp] theorem R.bind_ok {α β : Type} (a : α) (t : Tp) (f : α → Tp → R β) : (R.ok a t).bind f = f a t := (rfl)
@[simp] theorem R.bind_bad {α β : Type} (f : α → Tp → R β) : (R.bad : R α).bind f = .bad := (rfl)
@[simp] theorem R.bind_ex {α β : Type} (k : Nat) (ds : List D) (t : Tp) (f : α → Tp → R β) : (R.ex k ds t : R α).bind f = .ex k ds t := (rfl)
def R.of {α : Type} : Option α → Tp → R α
  | some a, t => .ok a t
  | none, _ => .bad
@[simp] theorem R.of_some {α : Type} (a : α) (t : Tp) : R.of (some a) t = .ok a t := (rfl)
@[simp] theorem R.of_none {α : Type} (t : Tp) : (R.of none t : R α) = .bad := (rfl)

abbrev Loc := List (Option D)

inductive Bop where | add | sub | mul | fdiv | mod
  deriving DecidableEq
inductive Cop where | eq | ne | lt | le | gt | ge | isin | notin | is | isnot
  deriving DecidableEq
/-- built-ins by name -/
inductive Bi where | len | abs | int | sum | any | all | max | min | list | tuple
  deriving DecidableEq
inductive T where
  | nm (i : Nat)
  | tp (is : List Nat)

mutual
inductive E where
  | var (i : Nat) | int (z : Int) | bl (b : Bool) | non | str (s : Str)
  | tup (es : List E) | lst (es : List E)
  | bin (o : Bop) (a b : E) | neg (a : E) | not (a : E) | cmp (o : Cop) (a b : E) | chn (o p : Cop) (a b c : E)
  | and (a b : E) | or (a b : E) | ite (c a b : E)
  | idx (a i : E) | slN (a : E) | slL (a l : E) | slU (a u : E) | slB (a l u : E) | rev (a : E)
  | bi (b : Bi) (a : E) | bi2 (b : Bi) (x y : E) | biI (b : Bi) (i : I)
  | call (f : Nat) (es : List E) | cala (f : Nat) (es : List E)
  | lc (elt : E) (ow : List Nat) (t : T) (it : I) (cs : List E)
  | tge (x k : Nat) | tln (x : Nat) | tce (x : Nat) (i : E)
inductive I where
  | val (e : E) | rng (a : E) | rng2 (a b : E) | zip (a b : E) | enm (a : E)
end

inductive S where
  | asg (t : T) (e : E) | par (is : List Nat) (es : List E)
  | six (x : Nat) (i e : E) | six2 (x : Nat) (i j e : E) | swp (x : Nat) (i j e : E)
  | aug (x : Nat) (o : Bop) (e : E) | aix (x : Nat) (i : E) (o : Bop) (e : E)
  | app (x : Nat) (e : E)
  | ex (e : E) | iff (c : E) (a b : List S) | frr (t : T) (it : I) (b : List S) | whl (c : E) (b : List S)
  | ret (e : E) | rtn | brk | cnt | pas
  | tse (x k : Nat) (e : E) | rtp (x y : Nat) | fra (t : T) (it : I) (i : Nat) (e : E)

inductive Fl where
  | nx (ρ : Loc) | rt (d : D) | bk (ρ : Loc) | ct (ρ : Loc)

/-! ### data -/
/-- longer lists are not made -/
def LIM : Nat := 16777216
def b2i (b : Bool) : Int := if b then 1 else 0
mutual
/-- == -/
def deq : D → D → Bool
  | .non, .non => true
  | .bl a, .bl b => a == b
  | .bl a, .int j => b2i a == j
  | .int i, .bl b => i == b2i b
  | .int i, .int j => i == j
  | .str x, .str y => x == y
  | .tup xs, .tup ys => deqs xs ys
  | .lst xs, .lst ys => deqs xs ys
  | _, _ => false
def deqs : List D → List D → Bool
  | [], [] => true
  | x :: xs, y :: ys => deq x y && deqs xs ys
  | _, _ => false
end
mutual
/-- what == is asked of: no dict, no great depth -/
def flat : Nat → D → Bool
  | _, .non => true
  | _, .bl _ => true
  | _, .int _ => true
  | _, .str s => s.cps.all (· < 1114112)
  | n, .tup xs => match n with
    | 0 => false
    | n + 1 => flats n xs
  | n, .lst xs => match n with
    | 0 => false
    | n + 1 => flats n xs
  | _, .dct _ _ => false
  | _, .tape => false
  | _, .scr _ => false
def flats : Nat → List D → Bool
  | _, [] => true
  | n, x :: xs => flat n x && flats n xs
end
abbrev DEP : Nat := 12

/-- a[i] of a list -/
def at? {α : Type} (xs : List α) (i : Int) : Option α :=
  if 0 ≤ i then xs[i.toNat]? else if -(xs.length : Int) ≤ i then xs[(i + xs.length).toNat]? else none
/-- an end of a slice -/
def clip (n d : Nat) : Option Int → Nat
  | none => d
  | some i => if 0 ≤ i then min i.toNat n else (i + n).toNat
def cut {α : Type} (xs : List α) (l u : Option Int) : List α :=
  (xs.drop (clip xs.length 0 l)).take (clip xs.length xs.length u - clip xs.length 0 l)
def truth : D → Option Bool
  | .non => some false
  | .bl b => some b
  | .int i => some (i != 0)
  | .str s => some (s.length != 0)
  | .tup xs => some (!xs.isEmpty)
  | .lst xs => some (!xs.isEmpty)
  | .dct ks _ => some (!ks.isEmpty)
  | .tape => none
  | .scr _ => none
def smallI (i : Int) : Bool := decide (i.natAbs < 2 ^ 4000)
def binop : Bop → D → D → Option D
  | .add, .int i, .int j => some (.int (i + j))
  | .add, .tup xs, .tup ys => if xs.length + ys.length ≤ LIM then some (.tup (xs ++ ys)) else none
  | .add, .lst xs, .lst ys => if xs.length + ys.length ≤ LIM then some (.lst (xs ++ ys)) else none
  | .sub, .int i, .int j => some (.int (i - j))
  | .mul, .int i, .int j => if smallI i && smallI j then some (.int (i * j)) else none
  | .mul, .lst xs, .int j => if xs.length * j.toNat ≤ LIM ∧ j < 2 ^ 30 ∧ -(2 ^ 30) < j then some (.lst (List.replicate j.toNat xs).flatten) else none
  | .fdiv, .int i, .int j => if decide (j ≠ 0) && smallI j then some (.int (i.fdiv j)) else none
  | .mod, .int i, .int j => if j = 0 then none else some (.int (i.fmod j))
  | _, _, _ => none
def isIn (x : D) : D → Option Bool
  | .lst ys => if flat DEP x && flats DEP ys then some (ys.any fun y => deq y x) else none
  | .tup ys => if flat DEP x && flats DEP ys then some (ys.any fun y => deq y x) else none
  | _ => none
def isNone : D → Bool
  | .non => true
  | _ => false
def cmpop : Cop → D → D → Option Bool
  | .eq, x, y => if flat DEP x && flat DEP y then some (deq x y) else none
  | .ne, x, y => if flat DEP x && flat DEP y then some (!deq x y) else none
  | .lt, .int i, .int j => some (decide (i < j))
  | .le, .int i, .int j => some (decide (i ≤ j))
  | .gt, .int i, .int j => some (decide (j < i))
  | .ge, .int i, .int j => some (decide (j ≤ i))
  | .isin, x, y => isIn x y
  | .notin, x, y => (isIn x y).map (!·)
  | .is, x, .non => some (isNone x)
  | .isnot, x, .non => some (!isNone x)
  | _, _, _ => none
def intsD : List D → Option (List Int)
  | [] => some []
  | .int i :: r => (intsD r).map (i :: ·)
  | _ => none
def boolsD : List D → Option (List Bool)
  | [] => some []
  | .bl i :: r => (boolsD r).map (i :: ·)
  | _ => none
def lmax : List Int → Option Int
  | [] => none
  | x :: r => some (r.foldl max x)
def lmin : List Int → Option Int
  | [] => none
  | x :: r => some (r.foldl min x)
def seqOf : D → Option (List D)
  | .lst xs => some xs
  | .tup xs => some xs
  | .scr ns => some (ns.map .int)
  | _ => none
def bi1 : Bi → D → Option D
  | .len, .lst xs => some (.int xs.length)
  | .len, .tup xs => some (.int xs.length)
  | .abs, .int i => some (.int (if i < 0 then -i else i))
  | .int, .int i => some (.int i)
  | .int, .bl b => some (.int (b2i b))
  | .sum, .lst xs => (intsD xs).map fun ns => .int ns.sum
  | .any, .lst xs => (match boolsD xs with
    | some bs => some (.bl (bs.any id))
    | none => (intsD xs).map fun ns => .bl ((ns.map (· != 0)).any id))
  | .all, .lst xs => (boolsD xs).map fun bs => .bl (bs.all id)
  | .max, .lst xs => ((intsD xs).bind lmax).map D.int
  | .min, .lst xs => ((intsD xs).bind lmin).map D.int
  | .list, .lst xs => some (.lst xs)
  | .list, .tup xs => some (.lst xs)
  | .tuple, .lst xs => some (.tup xs)
  | .tuple, .tup xs => some (.tup xs)
  | _, _ => none
def bi2 : Bi → D → D → Option D
  | .max, .int i, .int j => some (.int (if j > i then j else i))
  | .min, .int i, .int j => some (.int (if j < i then j else i))
  | _, _, _ => none
def biI : Bi → List D → Option D
  | .list, xs => some (.lst xs)
  | .tuple, xs => some (.tup xs)
  | _, _ => none
def index : D → D → Option D
  | .lst xs, .int i => at? xs i
  | .tup xs, .int i => at? xs i
  | _, _ => none
def slice : D → Option Int → Option Int → Option D
  | .lst xs, l, u => some (.lst (cut xs l u))
  | .tup xs, l, u => some (.tup (cut xs l u))
  | _, _, _ => none
def isInt : D → Option Int
  | .int i => some i
  | _ => none
def isAtom : D → Bool
  | .non => true | .bl _ => true | .int _ => true | .str _ => true
  | _ => false
def rngL (a b : Int) : List D := (List.range (b - a).toNat).map fun (k : Nat) => D.int (a + (k : Int))
def RLIM : Int := 4000000
def rng? (a b : D) : Option (List D) := match a, b with
  | .int i, .int j => if -RLIM < i ∧ i < RLIM ∧ -RLIM < j ∧ j < RLIM then some (rngL i j) else none
  | _, _ => none
def zipL : List D → List D → List D
  | x :: xs, y :: ys => .tup [x, y] :: zipL xs ys
  | _, _ => []
def enmL : Nat → List D → List D
  | _, [] => []
  | n, x :: xs => .tup [.int n, x] :: enmL (n + 1) xs
def isLst : D → Option (List D)
  | .lst xs => some xs
  | _ => none
def seqZ : D → Option (List D)
  | .lst xs => some xs
  | .tup xs => some xs
  | _ => none
def zip? (a b : D) : Option (List D) := (seqZ a).bind fun xs => (seqZ b).map fun ys => zipL xs ys

/-! ### slots -/
def look (ρ : Loc) (i : Nat) : Option D := (ρ[i]?).join
def put (ρ : Loc) (i : Nat) (d : D) : Loc := ρ.set i (some d)
def wipe (ρ : Loc) : List Nat → Loc
  | [] => ρ
  | v :: vs => (wipe ρ vs).set v none
def puts (ρ : Loc) : List Nat → List D → Option Loc
  | [], [] => some ρ
  | i :: is, d :: ds => puts (put ρ i d) is ds
  | _, _ => none
def bindT (ρ : Loc) : T → D → Option Loc
  | .nm i, d => some (put ρ i d)
  | .tp is, .tup ds => puts ρ is ds
  | _, _ => none

/-! ### the tape's fields -/
def tapeAt (ρ : Loc) (x : Nat) (τ : Tp) : Option Tape := match look ρ x, τ with
  | some .tape, some t => some t
  | _, _ => none
def tfld (t : Tape) : Nat → Option Int
  | 0 => some t.pos
  | 1 => some t.left
  | 2 => some t.seed
  | 3 => some t.salt
  | _ => none
def tset (t : Tape) (i : Int) : Nat → Option Tape
  | 0 => some { t with pos := i }
  | 1 => some { t with left := i }
  | 2 => some { t with seed := i }
  | 3 => some { t with salt := i }
  | _ => none
/-! ### the evaluator -/
abbrev CF := Nat → List D → Tp → R D
def lcLoop (t : T) (ρ : Loc) (cond : Loc → Tp → R Bool) (elt : Loc → Tp → R D) : List D → Tp → R (List D)
  | [], τ => .ok [] τ
  | x :: xs, τ => (R.of (bindT ρ t x) τ).bind fun ρ' τ => (cond ρ' τ).bind fun b τ =>
    if b then (elt ρ' τ).bind fun y τ => (lcLoop t ρ cond elt xs τ).bind fun ys τ => .ok (y :: ys) τ
    else lcLoop t ρ cond elt xs τ
/-- no error may come of it -/
def noX {α : Type} : R α → R α
  | .ex _ _ _ => .bad
  | r => r
def asB (r : R D) : R Bool := r.bind fun d τ => R.of (truth d) τ
mutual
def evE (cf : CF) : E → Loc → Tp → R D
  | .var i, ρ, τ => R.of (look ρ i) τ
  | .int z, _, τ => .ok (.int z) τ
  | .bl b, _, τ => .ok (.bl b) τ
  | .non, _, τ => .ok .non τ
  | .str s, _, τ => .ok (.str s) τ
  | .tup es, ρ, τ => (evL cf es ρ τ).bind fun ds τ => .ok (.tup ds) τ
  | .lst es, ρ, τ => (evL cf es ρ τ).bind fun ds τ => .ok (.lst ds) τ
  | .bin o a b, ρ, τ => (evE cf a ρ τ).bind fun x τ => (evE cf b ρ τ).bind fun y τ => R.of (binop o x y) τ
  | .neg a, ρ, τ => (evE cf a ρ τ).bind fun x τ => R.of ((isInt x).map fun i => .int (-i)) τ
  | .not a, ρ, τ => (evE cf a ρ τ).bind fun x τ => R.of ((truth x).map fun b => .bl (!b)) τ
  | .cmp o a b, ρ, τ => (evE cf a ρ τ).bind fun x τ => (evE cf b ρ τ).bind fun y τ => R.of ((cmpop o x y).map .bl) τ
  | .chn o p a b c, ρ, τ => (evE cf a ρ τ).bind fun x τ => (evE cf b ρ τ).bind fun y τ => (R.of (cmpop o x y) τ).bind fun k τ =>
    if k then (evE cf c ρ τ).bind fun z τ => R.of ((cmpop p y z).map .bl) τ else .ok (.bl false) τ
  | .and a b, ρ, τ => (evE cf a ρ τ).bind fun x τ => (R.of (truth x) τ).bind fun k τ => if k then evE cf b ρ τ else .ok x τ
  | .or a b, ρ, τ => (evE cf a ρ τ).bind fun x τ => (R.of (truth x) τ).bind fun k τ => if k then .ok x τ else evE cf b ρ τ
  | .ite c a b, ρ, τ => (asB (evE cf c ρ τ)).bind fun k τ => if k then evE cf a ρ τ else evE cf b ρ τ
  | .idx a i, ρ, τ => (evE cf a ρ τ).bind fun x τ => (evE cf i ρ τ).bind fun y τ => R.of (index x y) τ
  | .slN a, ρ, τ => (evE cf a ρ τ).bind fun x τ => R.of (slice x none none) τ
  | .slL a l, ρ, τ => (evE cf a ρ τ).bind fun x τ => (evE cf l ρ τ).bind fun y τ => R.of ((isInt y).bind fun i => slice x (some i) none) τ
  | .slU a u, ρ, τ => (evE cf a ρ τ).bind fun x τ => (evE cf u ρ τ).bind fun y τ => R.of ((isInt y).bind fun i => slice x none (some i)) τ
  | .slB a l u, ρ, τ => (evE cf a ρ τ).bind fun x τ => (evE cf l ρ τ).bind fun y τ => (R.of (isInt y) τ).bind fun i τ => (evE cf u ρ τ).bind fun z τ =>
    R.of ((isInt z).bind fun j => slice x (some i) (some j)) τ
  | .rev a, ρ, τ => (evE cf a ρ τ).bind fun x τ => R.of ((isLst x).map fun xs => .lst xs.reverse) τ
  | .bi b a, ρ, τ => (evE cf a ρ τ).bind fun x τ => R.of (bi1 b x) τ
  | .bi2 b x y, ρ, τ => (evE cf x ρ τ).bind fun x τ => (evE cf y ρ τ).bind fun y τ => R.of (bi2 b x y) τ
  | .biI b i, ρ, τ => (evI cf i ρ τ).bind fun xs τ => R.of (biI b xs) τ
  | .call f es, ρ, τ => (evL cf es ρ τ).bind fun ds τ => cf f ds τ
  | .cala f es, ρ, τ => (evL cf es ρ τ).bind fun ds τ => (cf f ds τ).bind fun d τ => if isAtom d then .ok d τ else .bad
  | .lc elt ow t it cs, ρ, τ => (evI cf it ρ τ).bind fun xs τ => if xs.length ≤ LIM then
    (lcLoop t (wipe ρ ow) (fun ρ τ => noX (evC cf cs ρ τ)) (fun ρ τ => noX (evE cf elt ρ τ)) xs τ).bind fun ys τ => .ok (.lst ys) τ else .bad
  | .tge x k, ρ, τ => R.of (((tapeAt ρ x τ).bind fun t => tfld t k).map .int) τ
  | .tln x, ρ, τ => R.of ((tapeAt ρ x τ).map fun t => .int t.cells.length) τ
  | .tce x i, ρ, τ => (R.of (tapeAt ρ x τ) τ).bind fun t τ => (evE cf i ρ τ).bind fun k τ => R.of (((isInt k).bind fun j => at? t.cells j).map .int) τ
def evL (cf : CF) : List E → Loc → Tp → R (List D)
  | [], _, τ => .ok [] τ
  | e :: es, ρ, τ => (evE cf e ρ τ).bind fun d τ => (evL cf es ρ τ).bind fun ds τ => .ok (d :: ds) τ
def evC (cf : CF) : List E → Loc → Tp → R Bool
  | [], _, τ => .ok true τ
  | [c], ρ, τ => asB (evE cf c ρ τ)
  | _, _, _ => .bad
def evI (cf : CF) : I → Loc → Tp → R (List D)
  | .val e, ρ, τ => (evE cf e ρ τ).bind fun d τ => R.of (seqOf d) τ
  | .rng a, ρ, τ => (evE cf a ρ τ).bind fun x τ => R.of (rng? (.int 0) x) τ
  | .rng2 a b, ρ, τ => (evE cf a ρ τ).bind fun x τ => (evE cf b ρ τ).bind fun y τ => R.of (rng? x y) τ
  | .zip a b, ρ, τ => (evE cf a ρ τ).bind fun x τ => (evE cf b ρ τ).bind fun y τ => R.of (zip? x y) τ
  | .enm a, ρ, τ => (evE cf a ρ τ).bind fun x τ => R.of ((isLst x).map (enmL 0)) τ
end

/-- a list at a place -/
def setL (xs : List D) (i : Int) (d : D) : Option (List D) :=
  if 0 ≤ i then (if i.toNat < xs.length then some (xs.set i.toNat d) else none)
  else if -(xs.length : Int) ≤ i then some (xs.set (i + xs.length).toNat d) else none
def setIx : D → D → D → Option D
  | .lst xs, .int i, d => (setL xs i d).map .lst
  | _, _, _ => none
def isFlatA : D → Bool
  | .int _ => true
  | _ => false

def forLoop (t : T) (body : Loc → Tp → R Fl) : List D → Loc → Tp → R Fl
  | [], ρ, τ => .ok (.nx ρ) τ
  | x :: xs, ρ, τ => (R.of (bindT ρ t x) τ).bind fun ρ τ => (body ρ τ).bind fun fl τ => match fl with
    | .nx ρ => forLoop t body xs ρ τ
    | .ct ρ => forLoop t body xs ρ τ
    | .bk ρ => .ok (.nx ρ) τ
    | .rt d => .ok (.rt d) τ
def whlLoop (c : Loc → Tp → R Bool) (body : Loc → Tp → R Fl) : Nat → Loc → Tp → R Fl
  | 0, _, _ => .bad
  | n + 1, ρ, τ => (c ρ τ).bind fun k τ => if k then (body ρ τ).bind fun fl τ => match fl with
      | .nx ρ => whlLoop c body n ρ τ
      | .ct ρ => whlLoop c body n ρ τ
      | .bk ρ => .ok (.nx ρ) τ
      | .rt d => .ok (.rt d) τ
    else .ok (.nx ρ) τ
def WFUEL : Nat := 1000000000
/-- x[i] = d -/
def stAt (cf : CF) (x : Nat) (i : E) (d : D) (ρ : Loc) (τ : Tp) : R Loc :=
  (R.of (look ρ x) τ).bind fun l τ => (evE cf i ρ τ).bind fun k τ => (R.of (setIx l k d) τ).bind fun l' τ => .ok (put ρ x l') τ
def two? : D → Option (D × D)
  | .tup [a, b] => some (a, b)
  | _ => none
mutual
def evS (cf : CF) : S → Loc → Tp → R Fl
  | .asg t e, ρ, τ => (evE cf e ρ τ).bind fun d τ => (R.of (bindT ρ t d) τ).bind fun ρ τ => .ok (.nx ρ) τ
  | .par is es, ρ, τ => (evL cf es ρ τ).bind fun ds τ => (R.of (puts ρ is ds) τ).bind fun ρ τ => .ok (.nx ρ) τ
  | .six x i e, ρ, τ => (evE cf e ρ τ).bind fun d τ => (stAt cf x i d ρ τ).bind fun ρ τ => .ok (.nx ρ) τ
  | .six2 x i j e, ρ, τ => (evE cf e ρ τ).bind fun d τ => (R.of (look ρ x) τ).bind fun l τ => (evE cf i ρ τ).bind fun k τ =>
    (R.of (index l k) τ).bind fun m τ => (evE cf j ρ τ).bind fun k2 τ => (R.of (setIx m k2 d) τ).bind fun m' τ =>
    (R.of (setIx l k m') τ).bind fun l' τ => .ok (.nx (put ρ x l')) τ
  | .swp x i j e, ρ, τ => (evE cf e ρ τ).bind fun d τ => (R.of (two? d) τ).bind fun p τ => (stAt cf x i p.1 ρ τ).bind fun ρ τ => (stAt cf x j p.2 ρ τ).bind fun ρ τ => .ok (.nx ρ) τ
  | .aug x o e, ρ, τ => (R.of (look ρ x) τ).bind fun a τ => (evE cf e ρ τ).bind fun b τ =>
    if isFlatA a then (R.of (binop o a b) τ).bind fun d τ => .ok (.nx (put ρ x d)) τ else .bad
  | .aix x i o e, ρ, τ => (R.of ((look ρ x).bind isLst) τ).bind fun xs τ => (evE cf i ρ τ).bind fun k τ => (R.of (index (.lst xs) k) τ).bind fun a τ =>
    (evE cf e ρ τ).bind fun b τ => if isFlatA a then (R.of (binop o a b) τ).bind fun d τ => (R.of (setIx (.lst xs) k d) τ).bind fun l' τ => .ok (.nx (put ρ x l')) τ else .bad
  | .app x e, ρ, τ => (R.of ((look ρ x).bind isLst) τ).bind fun xs τ => (evE cf e ρ τ).bind fun d τ => if xs.length < LIM then .ok (.nx (put ρ x (.lst (xs ++ [d])))) τ else .bad
  | .ex e, ρ, τ => (evE cf e ρ τ).bind fun _ τ => .ok (.nx ρ) τ
  | .iff c a b, ρ, τ => (asB (evE cf c ρ τ)).bind fun k τ => if k then evSs cf a ρ τ else evSs cf b ρ τ
  | .frr t it b, ρ, τ => (evI cf it ρ τ).bind fun xs τ => forLoop t (fun ρ τ => evSs cf b ρ τ) xs ρ τ
  | .whl c b, ρ, τ => whlLoop (fun ρ τ => asB (evE cf c ρ τ)) (fun ρ τ => evSs cf b ρ τ) WFUEL ρ τ
  | .ret e, ρ, τ => (evE cf e ρ τ).bind fun d τ => .ok (.rt d) τ
  | .rtn, _, τ => .ok (.rt .non) τ
  | .brk, ρ, τ => .ok (.bk ρ) τ
  | .cnt, ρ, τ => .ok (.ct ρ) τ
  | .pas, ρ, τ => .ok (.nx ρ) τ
  | .tse x k e, ρ, τ => (evE cf e ρ τ).bind fun d τ => (R.of (tapeAt ρ x τ) τ).bind fun t τ => (R.of ((isInt d).bind fun i => tset t i k) τ).bind fun t' _ => .ok (.nx ρ) (some t')
  | .rtp x y, ρ, τ => (R.of ((look ρ x).bind isLst) τ).bind fun ds τ => (R.of ((look ρ y).bind isInt) τ).bind fun s τ => (R.of (intsD ds) τ).bind fun ns τ => if τ.isNone then .ok (.rt .tape) (some ⟨ns, 0, 0, s, 0⟩) else .bad
  | .fra t it i e, ρ, τ => (evI cf it ρ τ).bind fun xs τ => forLoop t (fun ρ τ => (evE cf e ρ τ).bind fun d τ => .ok (.nx (put ρ i d)) τ) xs ρ τ
def evSs (cf : CF) : List S → Loc → Tp → R Fl
  | [], ρ, τ => .ok (.nx ρ) τ
  | s :: ss, ρ, τ => (evS cf s ρ τ).bind fun fl τ => match fl with
    | .nx ρ => evSs cf ss ρ τ
    | .rt d => .ok (.rt d) τ
    | .bk ρ => .ok (.bk ρ) τ
    | .ct ρ => .ok (.ct ρ) τ
end

/-! ### functions -/
/-- parameters, slots, body, the level of what it hands back -/
structure Fn where
  np : Nat
  ns : Nat
  body : List S
  lv : Nat
def start (ns : Nat) (ds : List D) : Loc := ds.map some ++ List.replicate (ns - ds.length) none
def evF (P : List Fn) : Nat → Nat → List D → Tp → R D
  | 0, _, _, _ => .bad
  | n + 1, f, ds, τ => match P[f]? with
    | none => .bad
    | some g => if ds.length = g.np then (evSs (evF P n) g.body (start g.ns ds) τ).bind fun fl τ => match fl with
        | .nx _ => .ok .non τ
        | .rt d => .ok d τ
        | _ => .bad
      else .bad
end Py

/-! Wk: the walk over the small language: lemmas to evaluate evSs. -/
namespace Py.Wa
open PySem (Str)

def fin (r : R Fl) : R D := r.bind fun fl τ => match fl with
  | .nx _ => .ok .non τ
  | .rt d => .ok d τ
  | _ => .bad
@[simp] theorem fin_rt (d : D) (τ : Tp) : fin (.ok (.rt d) τ) = .ok d τ := (rfl)
@[simp] theorem fin_nx (ρ : Loc) (τ : Tp) : fin (.ok (.nx ρ) τ) = .ok .non τ := (rfl)
def run (cf : CF) (ns : Nat) (b : List S) (ds : List D) (τ : Tp) : R D := fin (evSs cf b (start ns ds) τ)
theorem evF_step {P : List Fn} {f : Nat} {g : Fn} (h : P[f]? = some g) {ds : List D} (hl : ds.length = g.np) (n : Nat) (τ : Tp) :
    evF P (n + 1) f ds τ = run (evF P n) g.ns g.body ds τ := by
  show (match P[f]? with | none => _ | some g => _) = _
  rw [h]
  simp only [hl, if_true]
  rfl
theorem start_cons (n : Nat) (d : D) (ds : List D) : start (n + 1) (d :: ds) = some d :: start n ds := by
  simp [start]
theorem start_nil (n : Nat) : start n [] = List.replicate n none := by simp [start]

/-! ### loops -/
theorem lcLoop_map {t : T} {ρ : Loc} {cond : Loc → Tp → R Bool} {elt : Loc → Tp → R D} {τ : Tp} {α : Type} (enc : α → D) (p : α → Bool) (g : α → D) :
    ∀ (xs : List α), (∀ x ∈ xs, ∃ ρ', bindT ρ t (enc x) = some ρ' ∧ cond ρ' τ = .ok (p x) τ ∧ (p x = true → elt ρ' τ = .ok (g x) τ)) →
      lcLoop t ρ cond elt (xs.map enc) τ = .ok ((xs.filter p).map g) τ
  | [], _ => rfl
  | x :: xs, h => by
    obtain ⟨ρ', h1, h2, h3⟩ := h x List.mem_cons_self
    have ih := lcLoop_map enc p g xs fun y hy => h y (List.mem_cons_of_mem _ hy)
    simp only [List.map_cons, lcLoop, h1, R.of_some, R.bind_ok, h2, ih]
    cases e : p x with
    | true => simp [h3 e, List.filter_cons, e, ih]
    | false => simp [List.filter_cons, e]
theorem lcLoop_all {t : T} {ρ : Loc} {cond : Loc → Tp → R Bool} {elt : Loc → Tp → R D} {τ : Tp} {α : Type} (enc : α → D) (g : α → D) (xs : List α)
    (h : ∀ x ∈ xs, ∃ ρ', bindT ρ t (enc x) = some ρ' ∧ cond ρ' τ = .ok true τ ∧ elt ρ' τ = .ok (g x) τ) :
      lcLoop t ρ cond elt (xs.map enc) τ = .ok (xs.map g) τ := by
  rw [lcLoop_map enc (fun _ => true) g xs fun x hx => ?_]
  · rw [List.filter_eq_self.mpr fun _ _ => rfl]
  · obtain ⟨ρ', h1, h2, h3⟩ := h x hx
    exact ⟨ρ', h1, h2, fun _ => h3⟩
/-- how a loop may end -/
theorem forLoop_inv {t : T} {body : Loc → Tp → R Fl} (xs : List D) (I : Nat → Loc → Tp → Prop) (E : D → Tp → Prop) {ρ : Loc} {τ : Tp} (h0 : I 0 ρ τ)
    (hs : ∀ k x, xs[k]? = some x → ∀ ρ τ, I k ρ τ → ∃ ρ1, bindT ρ t x = some ρ1 ∧ ((∃ ρ' τ', (body ρ1 τ = .ok (.nx ρ') τ' ∨ body ρ1 τ = .ok (.ct ρ') τ') ∧ I (k + 1) ρ' τ') ∨ (∃ ρ' τ', body ρ1 τ = .ok (.bk ρ') τ' ∧ I xs.length ρ' τ') ∨ ∃ d τ', body ρ1 τ = .ok (.rt d) τ' ∧ E d τ')) :
    (∃ ρ' τ', forLoop t body xs ρ τ = .ok (.nx ρ') τ' ∧ I xs.length ρ' τ') ∨ ∃ d τ', forLoop t body xs ρ τ = .ok (.rt d) τ' ∧ E d τ' := by
  induction xs generalizing ρ τ I with
  | nil => exact .inl ⟨ρ, τ, rfl, h0⟩
  | cons x xs ih =>
    obtain ⟨ρ1, e1, q⟩ := hs 0 x rfl ρ τ h0
    rcases q with ⟨ρ', τ', e, i⟩ | ⟨ρ', τ', e, i⟩ | ⟨d, τ', e, i⟩
    · have := ih (fun k => I (k + 1)) (ρ := ρ') (τ := τ') i fun k x hx ρ τ hi => hs (k + 1) x hx ρ τ hi
      rcases this with ⟨ρ2, τ2, f, g⟩ | ⟨d, τ2, f, g⟩
      · refine .inl ⟨ρ2, τ2, ?_, g⟩
        rcases e with e | e <;> simp [forLoop, e1, e, f]
      · refine .inr ⟨d, τ2, ?_, g⟩
        rcases e with e | e <;> simp [forLoop, e1, e, f]
    · exact .inl ⟨ρ', τ', by simp [forLoop, e1, e], i⟩
    · exact .inr ⟨d, τ', by simp [forLoop, e1, e], i⟩
/-- a loop that runs through -/
theorem forLoop_nx {t : T} {body : Loc → Tp → R Fl} (xs : List D) (I : Nat → Loc → Tp → Prop) {ρ : Loc} {τ : Tp} (h0 : I 0 ρ τ)
    (hs : ∀ k x, xs[k]? = some x → ∀ ρ τ, I k ρ τ → ∃ ρ1, bindT ρ t x = some ρ1 ∧ ∃ ρ' τ', (body ρ1 τ = .ok (.nx ρ') τ' ∨ body ρ1 τ = .ok (.ct ρ') τ') ∧ I (k + 1) ρ' τ') :
    ∃ ρ' τ', forLoop t body xs ρ τ = .ok (.nx ρ') τ' ∧ I xs.length ρ' τ' := by
  rcases forLoop_inv xs I (fun _ _ => False) h0 (fun k x hx ρ τ hi => by
    obtain ⟨ρ1, e, q⟩ := hs k x hx ρ τ hi
    exact ⟨ρ1, e, .inl q⟩) with h | ⟨_, _, _, h⟩
  · exact h
  · exact h.elim
/-! ### the equations, loops kept shut -/
def lcRun (cf : CF) (elt : E) (cs : List E) (t : T) (ρ : Loc) (xs : List D) (τ : Tp) : R (List D) := lcLoop t ρ (fun ρ τ => noX (evC cf cs ρ τ)) (fun ρ τ => noX (evE cf elt ρ τ)) xs τ
def forRun (cf : CF) (t : T) (b : List S) (xs : List D) (ρ : Loc) (τ : Tp) : R Fl := forLoop t (fun ρ τ => evSs cf b ρ τ) xs ρ τ
def fraRun (cf : CF) (t : T) (i : Nat) (e : E) (xs : List D) (ρ : Loc) (τ : Tp) : R Fl := forLoop t (fun ρ τ => (evE cf e ρ τ).bind fun d τ => .ok (.nx (put ρ i d)) τ) xs ρ τ
def whlRun (cf : CF) (c : E) (b : List S) (n : Nat) (ρ : Loc) (τ : Tp) : R Fl := whlLoop (fun ρ τ => asB (evE cf c ρ τ)) (fun ρ τ => evSs cf b ρ τ) n ρ τ
@[simp] theorem noX_ok {α : Type} (a : α) (τ : Tp) : noX (.ok a τ) = .ok a τ := (rfl)
@[simp] theorem asB_ok (d : D) (τ : Tp) : asB (.ok d τ) = R.of (truth d) τ := (rfl)
section
variable (cf : CF) (ρ : Loc) (τ : Tp)
@[simp] theorem eE_var (i : Nat) : evE cf (.var i) ρ τ = R.of (look ρ i) τ := by simp only [evE]
@[simp] theorem eE_int (i : Int) : evE cf (.int i) ρ τ = .ok (.int i) τ := by simp only [evE]
@[simp] theorem eE_bl (i : Bool) : evE cf (.bl i) ρ τ = .ok (.bl i) τ := by simp only [evE]
@[simp] theorem eE_non : evE cf .non ρ τ = .ok .non τ := by simp only [evE]
@[simp] theorem eE_str (s : Str) : evE cf (.str s) ρ τ = .ok (.str s) τ := by simp only [evE]
@[simp] theorem eE_tup (es : List E) : evE cf (.tup es) ρ τ = (evL cf es ρ τ).bind fun ds τ => .ok (.tup ds) τ := by simp only [evE]
@[simp] theorem eE_lst (es : List E) : evE cf (.lst es) ρ τ = (evL cf es ρ τ).bind fun ds τ => .ok (.lst ds) τ := by simp only [evE]
@[simp] theorem eE_bin (o : Bop) (a b : E) : evE cf (.bin o a b) ρ τ = (evE cf a ρ τ).bind fun x τ => (evE cf b ρ τ).bind fun y τ => R.of (binop o x y) τ := by simp only [evE]
@[simp] theorem eE_neg (a : E) : evE cf (.neg a) ρ τ = (evE cf a ρ τ).bind fun x τ => R.of ((isInt x).map fun i => .int (-i)) τ := by simp only [evE]
@[simp] theorem eE_not (a : E) : evE cf (.not a) ρ τ = (evE cf a ρ τ).bind fun x τ => R.of ((truth x).map fun b => .bl (!b)) τ := by simp only [evE]
@[simp] theorem eE_cmp (o : Cop) (a b : E) : evE cf (.cmp o a b) ρ τ = (evE cf a ρ τ).bind fun x τ => (evE cf b ρ τ).bind fun y τ => R.of ((cmpop o x y).map .bl) τ := by simp only [evE]
@[simp] theorem eE_chn (o p : Cop) (a b c : E) : evE cf (.chn o p a b c) ρ τ = (evE cf a ρ τ).bind fun x τ => (evE cf b ρ τ).bind fun y τ => (R.of (cmpop o x y) τ).bind fun k τ =>
    if k then (evE cf c ρ τ).bind fun z τ => R.of ((cmpop p y z).map .bl) τ else .ok (.bl false) τ := by simp only [evE]
@[simp] theorem eE_and (a b : E) : evE cf (.and a b) ρ τ = (evE cf a ρ τ).bind fun x τ => (R.of (truth x) τ).bind fun k τ => if k then evE cf b ρ τ else .ok x τ := by simp only [evE]
@[simp] theorem eE_or (a b : E) : evE cf (.or a b) ρ τ = (evE cf a ρ τ).bind fun x τ => (R.of (truth x) τ).bind fun k τ => if k then .ok x τ else evE cf b ρ τ := by simp only [evE]
@[simp] theorem eE_ite (c a b : E) : evE cf (.ite c a b) ρ τ = (asB (evE cf c ρ τ)).bind fun k τ => if k then evE cf a ρ τ else evE cf b ρ τ := by simp only [evE]
@[simp] theorem eE_idx (a i : E) : evE cf (.idx a i) ρ τ = (evE cf a ρ τ).bind fun x τ => (evE cf i ρ τ).bind fun y τ => R.of (index x y) τ := by simp only [evE]
@[simp] theorem eE_slN (a : E) : evE cf (.slN a) ρ τ = (evE cf a ρ τ).bind fun x τ => R.of (slice x none none) τ := by simp only [evE]
@[simp] theorem eE_slL (a l : E) : evE cf (.slL a l) ρ τ = (evE cf a ρ τ).bind fun x τ => (evE cf l ρ τ).bind fun y τ => R.of ((isInt y).bind fun i => slice x (some i) none) τ := by simp only [evE]
@[simp] theorem eE_slU (a u : E) : evE cf (.slU a u) ρ τ = (evE cf a ρ τ).bind fun x τ => (evE cf u ρ τ).bind fun y τ => R.of ((isInt y).bind fun i => slice x none (some i)) τ := by simp only [evE]
@[simp] theorem eE_slB (a l u : E) : evE cf (.slB a l u) ρ τ = (evE cf a ρ τ).bind fun x τ => (evE cf l ρ τ).bind fun y τ => (R.of (isInt y) τ).bind fun i τ => (evE cf u ρ τ).bind fun z τ =>
    R.of ((isInt z).bind fun j => slice x (some i) (some j)) τ := by simp only [evE]
@[simp] theorem eE_rev (a : E) : evE cf (.rev a) ρ τ = (evE cf a ρ τ).bind fun x τ => R.of ((isLst x).map fun xs => .lst xs.reverse) τ := by simp only [evE]
@[simp] theorem eE_bi (b : Bi) (a : E) : evE cf (.bi b a) ρ τ = (evE cf a ρ τ).bind fun x τ => R.of (bi1 b x) τ := by simp only [evE]
@[simp] theorem eE_bi2 (b : Bi) (x y : E) : evE cf (.bi2 b x y) ρ τ = (evE cf x ρ τ).bind fun x τ => (evE cf y ρ τ).bind fun y τ => R.of (bi2 b x y) τ := by simp only [evE]
@[simp] theorem eE_biI (b : Bi) (i : I) : evE cf (.biI b i) ρ τ = (evI cf i ρ τ).bind fun xs τ => R.of (biI b xs) τ := by simp only [evE]
@[simp] theorem eE_call (f : Nat) (es : List E) : evE cf (.call f es) ρ τ = (evL cf es ρ τ).bind fun ds τ => cf f ds τ := by simp only [evE]
@[simp] theorem eE_cala (f : Nat) (es : List E) : evE cf (.cala f es) ρ τ = (evL cf es ρ τ).bind fun ds τ => (cf f ds τ).bind fun d τ => if isAtom d then .ok d τ else .bad := by simp only [evE]
@[simp] theorem eE_lc (elt : E) (ow : List Nat) (t : T) (it : I) (cs : List E) : evE cf (.lc elt ow t it cs) ρ τ = (evI cf it ρ τ).bind fun xs τ => if xs.length ≤ LIM then
    (lcRun cf elt cs t (wipe ρ ow) xs τ).bind fun ys τ => .ok (.lst ys) τ else .bad := by simp only [evE, lcRun]
@[simp] theorem eE_tge (x k : Nat) : evE cf (.tge x k) ρ τ = R.of (((tapeAt ρ x τ).bind fun t => tfld t k).map .int) τ := by simp only [evE]
@[simp] theorem eE_tln (x : Nat) : evE cf (.tln x) ρ τ = R.of ((tapeAt ρ x τ).map fun t => .int t.cells.length) τ := by simp only [evE]
@[simp] theorem eE_tce (x : Nat) (i : E) : evE cf (.tce x i) ρ τ = (R.of (tapeAt ρ x τ) τ).bind fun t τ => (evE cf i ρ τ).bind fun k τ => R.of (((isInt k).bind fun j => at? t.cells j).map .int) τ := by simp only [evE]
@[simp] theorem eL_nil : evL cf [] ρ τ = .ok [] τ := by simp only [evL]
@[simp] theorem eL_cons (e : E) (es : List E) : evL cf (e :: es) ρ τ = (evE cf e ρ τ).bind fun d τ => (evL cf es ρ τ).bind fun ds τ => .ok (d :: ds) τ := by simp only [evL]
@[simp] theorem eC_nil : evC cf [] ρ τ = .ok true τ := by simp only [evC]
@[simp] theorem eC_one (c : E) : evC cf [c] ρ τ = asB (evE cf c ρ τ) := by simp only [evC]
@[simp] theorem eI_val (e : E) : evI cf (.val e) ρ τ = (evE cf e ρ τ).bind fun d τ => R.of (seqOf d) τ := by simp only [evI]
@[simp] theorem eI_rng (a : E) : evI cf (.rng a) ρ τ = (evE cf a ρ τ).bind fun x τ => R.of (rng? (.int 0) x) τ := by simp only [evI]
@[simp] theorem eI_rng2 (a b : E) : evI cf (.rng2 a b) ρ τ = (evE cf a ρ τ).bind fun x τ => (evE cf b ρ τ).bind fun y τ => R.of (rng? x y) τ := by simp only [evI]
@[simp] theorem eI_zip (a b : E) : evI cf (.zip a b) ρ τ = (evE cf a ρ τ).bind fun x τ => (evE cf b ρ τ).bind fun y τ => R.of (zip? x y) τ := by simp only [evI]
@[simp] theorem eI_enm (a : E) : evI cf (.enm a) ρ τ = (evE cf a ρ τ).bind fun x τ => R.of ((isLst x).map (enmL 0)) τ := by simp only [evI]
@[simp] theorem eS_asg (t : T) (e : E) : evS cf (.asg t e) ρ τ = (evE cf e ρ τ).bind fun d τ => (R.of (bindT ρ t d) τ).bind fun ρ τ => .ok (.nx ρ) τ := by simp only [evS]
@[simp] theorem eS_par (is : List Nat) (es : List E) : evS cf (.par is es) ρ τ = (evL cf es ρ τ).bind fun ds τ => (R.of (puts ρ is ds) τ).bind fun ρ τ => .ok (.nx ρ) τ := by simp only [evS]
@[simp] theorem eS_six (x : Nat) (i e : E) : evS cf (.six x i e) ρ τ = (evE cf e ρ τ).bind fun d τ => (stAt cf x i d ρ τ).bind fun ρ τ => .ok (.nx ρ) τ := by simp only [evS]
@[simp] theorem eS_swp (x : Nat) (i j e : E) : evS cf (.swp x i j e) ρ τ = (evE cf e ρ τ).bind fun d τ => (R.of (two? d) τ).bind fun p τ => (stAt cf x i p.1 ρ τ).bind fun ρ τ => (stAt cf x j p.2 ρ τ).bind fun ρ τ => .ok (.nx ρ) τ := by simp only [evS]
@[simp] theorem eS_aug (x : Nat) (o : Bop) (e : E) : evS cf (.aug x o e) ρ τ = (R.of (look ρ x) τ).bind fun a τ => (evE cf e ρ τ).bind fun b τ =>
    if isFlatA a then (R.of (binop o a b) τ).bind fun d τ => .ok (.nx (put ρ x d)) τ else .bad := by simp only [evS]
@[simp] theorem eS_aix (x : Nat) (i : E) (o : Bop) (e : E) : evS cf (.aix x i o e) ρ τ = (R.of ((look ρ x).bind isLst) τ).bind fun xs τ => (evE cf i ρ τ).bind fun k τ => (R.of (index (.lst xs) k) τ).bind fun a τ =>
    (evE cf e ρ τ).bind fun b τ => if isFlatA a then (R.of (binop o a b) τ).bind fun d τ => (R.of (setIx (.lst xs) k d) τ).bind fun l' τ => .ok (.nx (put ρ x l')) τ else .bad := by simp only [evS]
@[simp] theorem eS_app (x : Nat) (e : E) : evS cf (.app x e) ρ τ = (R.of ((look ρ x).bind isLst) τ).bind fun xs τ => (evE cf e ρ τ).bind fun d τ => if xs.length < LIM then .ok (.nx (put ρ x (.lst (xs ++ [d])))) τ else .bad := by simp only [evS]
@[simp] theorem eS_ex (e : E) : evS cf (.ex e) ρ τ = (evE cf e ρ τ).bind fun _ τ => .ok (.nx ρ) τ := by simp only [evS]
@[simp] theorem eS_iff (c : E) (a b : List S) : evS cf (.iff c a b) ρ τ = (asB (evE cf c ρ τ)).bind fun k τ => if k then evSs cf a ρ τ else evSs cf b ρ τ := by simp only [evS]
@[simp] theorem eS_frr (t : T) (it : I) (b : List S) : evS cf (.frr t it b) ρ τ = (evI cf it ρ τ).bind fun xs τ => forRun cf t b xs ρ τ := by simp only [evS, forRun]
@[simp] theorem eS_whl (c : E) (b : List S) : evS cf (.whl c b) ρ τ = whlRun cf c b WFUEL ρ τ := by simp only [evS, whlRun]
@[simp] theorem eS_ret (e : E) : evS cf (.ret e) ρ τ = (evE cf e ρ τ).bind fun d τ => .ok (.rt d) τ := by simp only [evS]
@[simp] theorem eS_rtn : evS cf .rtn ρ τ = .ok (.rt .non) τ := by simp only [evS]
@[simp] theorem eS_brk : evS cf .brk ρ τ = .ok (.bk ρ) τ := by simp only [evS]
@[simp] theorem eS_cnt : evS cf .cnt ρ τ = .ok (.ct ρ) τ := by simp only [evS]
@[simp] theorem eS_pas : evS cf .pas ρ τ = .ok (.nx ρ) τ := by simp only [evS]
@[simp] theorem eS_tse (x k : Nat) (e : E) : evS cf (.tse x k e) ρ τ = (evE cf e ρ τ).bind fun d τ => (R.of (tapeAt ρ x τ) τ).bind fun t τ => (R.of ((isInt d).bind fun i => tset t i k) τ).bind fun t' _ => .ok (.nx ρ) (some t') := by simp only [evS]
@[simp] theorem eS_rtp (x y : Nat) : evS cf (.rtp x y) ρ τ = (R.of ((look ρ x).bind isLst) τ).bind fun ds τ => (R.of ((look ρ y).bind isInt) τ).bind fun s τ => (R.of (intsD ds) τ).bind fun ns τ => if τ.isNone then .ok (.rt .tape) (some ⟨ns, 0, 0, s, 0⟩) else .bad := by simp only [evS]
@[simp] theorem eS_fra (t : T) (it : I) (i : Nat) (e : E) : evS cf (.fra t it i e) ρ τ = (evI cf it ρ τ).bind fun xs τ => fraRun cf t i e xs ρ τ := by simp only [evS, fraRun]
@[simp] theorem eSs_nil : evSs cf [] ρ τ = .ok (.nx ρ) τ := by simp only [evSs]
/-- what follows a statement -/
def thn (cf : CF) (ss : List S) : Fl → Tp → R Fl
  | .nx ρ, τ => evSs cf ss ρ τ
  | .rt d, τ => .ok (.rt d) τ
  | .bk ρ, τ => .ok (.bk ρ) τ
  | .ct ρ, τ => .ok (.ct ρ) τ
@[simp] theorem thn_nx (ss : List S) : thn cf ss (.nx ρ) τ = evSs cf ss ρ τ := (rfl)
@[simp] theorem thn_rt (ss : List S) (d : D) : thn cf ss (.rt d) τ = .ok (.rt d) τ := (rfl)
@[simp] theorem thn_bk (ss : List S) : thn cf ss (.bk ρ) τ = .ok (.bk ρ) τ := (rfl)
@[simp] theorem thn_ct (ss : List S) : thn cf ss (.ct ρ) τ = .ok (.ct ρ) τ := (rfl)
@[simp] theorem eSs_cons (s : S) (ss : List S) : evSs cf (s :: ss) ρ τ = (evS cf s ρ τ).bind (thn cf ss) := by
  simp only [evSs]
  congr 1
  funext fl τ
  cases fl <;> rfl
end
/-! ### slots -/
@[simp] theorem look_zero (x : Option D) (ρ : Loc) : look (x :: ρ) 0 = x := by cases x <;> rfl
@[simp] theorem look_succ (x : Option D) (ρ : Loc) (i : Nat) : look (x :: ρ) (i + 1) = look ρ i := (rfl)
@[simp] theorem put_zero (x : Option D) (ρ : Loc) (d : D) : put (x :: ρ) 0 d = some d :: ρ := (rfl)
@[simp] theorem put_succ (x : Option D) (ρ : Loc) (i : Nat) (d : D) : put (x :: ρ) (i + 1) d = x :: put ρ i d := (rfl)
@[simp] theorem wipe_nil (ρ : Loc) : wipe ρ [] = ρ := (rfl)
@[simp] theorem wipe_cons (ρ : Loc) (v : Nat) (vs : List Nat) : wipe ρ (v :: vs) = (wipe ρ vs).set v none := (rfl)
@[simp] theorem puts_nil (ρ : Loc) : puts ρ [] [] = some ρ := (rfl)
@[simp] theorem puts_cons (ρ : Loc) (i : Nat) (is : List Nat) (d : D) (ds : List D) : puts ρ (i :: is) (d :: ds) = puts (put ρ i d) is ds := (rfl)
@[simp] theorem bindT_nm (ρ : Loc) (i : Nat) (d : D) : bindT ρ (.nm i) d = some (put ρ i d) := (rfl)
@[simp] theorem bindT_tp (ρ : Loc) (is : List Nat) (ds : List D) : bindT ρ (.tp is) (.tup ds) = puts ρ is ds := (rfl)
@[simp] theorem tapeAt_none (ρ : Loc) (x : Nat) : tapeAt ρ x none = none := by unfold tapeAt; split <;> simp_all
/-! ### loops, again -/
theorem lcRun_map {cf : CF} {elt : E} {cs : List E} {t : T} {ρ : Loc} {τ : Tp} {α : Type} (enc : α → D) (p : α → Bool) (g : α → D) (xs : List α)
    (h : ∀ x ∈ xs, ∃ ρ', bindT ρ t (enc x) = some ρ' ∧ evC cf cs ρ' τ = .ok (p x) τ ∧ (p x = true → evE cf elt ρ' τ = .ok (g x) τ)) :
    lcRun cf elt cs t ρ (xs.map enc) τ = .ok ((xs.filter p).map g) τ :=
  lcLoop_map enc p g xs fun x hx => by
    obtain ⟨ρ', h1, h2, h3⟩ := h x hx
    exact ⟨ρ', h1, by rw [h2]; rfl, fun q => by rw [h3 q]; rfl⟩
theorem lcRun_all {cf : CF} {elt : E} {t : T} {ρ : Loc} {τ : Tp} {α : Type} (enc : α → D) (g : α → D) (xs : List α)
    (h : ∀ x ∈ xs, ∃ ρ', bindT ρ t (enc x) = some ρ' ∧ evE cf elt ρ' τ = .ok (g x) τ) :
    lcRun cf elt [] t ρ (xs.map enc) τ = .ok (xs.map g) τ :=
  lcLoop_all enc g xs fun x hx => by
    obtain ⟨ρ', h1, h3⟩ := h x hx
    exact ⟨ρ', h1, by simp, by rw [h3]; rfl⟩
/-! ### what holds behind a run -/
def Post {α : Type} (r : R α) (Q : α → Tp → Prop) : Prop := ∃ a τ, r = .ok a τ ∧ Q a τ
theorem Post.ok {α : Type} {a : α} {τ : Tp} {Q : α → Tp → Prop} (h : Q a τ) : Post (.ok a τ) Q := ⟨a, τ, rfl, h⟩
theorem Post_ok {α : Type} {a : α} {τ : Tp} {Q : α → Tp → Prop} : Post (.ok a τ) Q ↔ Q a τ := ⟨fun ⟨_, _, e, q⟩ => by cases e; exact q, .ok⟩
theorem Post.of {α : Type} {r : R α} {a : α} {τ : Tp} {Q : α → Tp → Prop} (e : r = .ok a τ) (h : Q a τ) : Post r Q := ⟨a, τ, e, h⟩
theorem Post.bind {α β : Type} {r : R α} {f : α → Tp → R β} {Q : β → Tp → Prop} (h : Post r fun a τ => Post (f a τ) Q) : Post (r.bind f) Q := by
  obtain ⟨a, τ, rfl, b, τ2, e, q⟩ := h
  exact ⟨b, τ2, e, q⟩
def FinP (Q : D → Tp → Prop) : Fl → Tp → Prop
  | .nx _, τ => Q .non τ
  | .rt d, τ => Q d τ
  | _, _ => False
theorem Post.fin {r : R Fl} {Q : D → Tp → Prop} (h : Post r (FinP Q)) : Post (fin r) Q := by
  obtain ⟨fl, τ, rfl, q⟩ := h
  cases fl with
  | nx ρ => exact ⟨_, _, rfl, q⟩
  | rt d => exact ⟨_, _, rfl, q⟩
  | bk ρ => exact q.elim
  | ct ρ => exact q.elim
theorem Post.mono {α : Type} {r : R α} {Q Q' : α → Tp → Prop} (h : Post r Q) (hq : ∀ a τ, Q a τ → Q' a τ) : Post r Q' := by
  obtain ⟨a, τ, e, q⟩ := h
  exact ⟨a, τ, e, hq _ _ q⟩
/-- what one turn of a loop may do -/
def Turn (I : Loc → Tp → Prop) (B : Loc → Tp → Prop) (E : D → Tp → Prop) : Fl → Tp → Prop
  | .nx ρ, τ => I ρ τ
  | .ct ρ, τ => I ρ τ
  | .bk ρ, τ => B ρ τ
  | .rt d, τ => E d τ
theorem Post.forE {cf : CF} {t : T} {b : List S} {xs : List D} {ρ : Loc} {τ : Tp} {Q : Fl → Tp → Prop} (I : Nat → Loc → Tp → Prop) (E : D → Tp → Prop) (h0 : I 0 ρ τ)
    (hs : ∀ k x, xs[k]? = some x → ∀ ρ τ, I k ρ τ → ∃ ρ1, bindT ρ t x = some ρ1 ∧ Post (evSs cf b ρ1 τ) (Turn (I (k + 1)) (I xs.length) E))
    (hq : ∀ ρ τ, I xs.length ρ τ → Q (.nx ρ) τ) (he : ∀ d τ, E d τ → Q (.rt d) τ) : Post (forRun cf t b xs ρ τ) Q := by
  rcases forLoop_inv (t := t) (body := fun ρ τ => evSs cf b ρ τ) xs I E h0 (fun k x hx ρ τ hi => by
    obtain ⟨ρ1, e1, fl, τ', e, q⟩ := hs k x hx ρ τ hi
    refine ⟨ρ1, e1, ?_⟩
    cases fl with
    | nx ρ => exact .inl ⟨ρ, τ', .inl e, q⟩
    | ct ρ => exact .inl ⟨ρ, τ', .inr e, q⟩
    | bk ρ => exact .inr (.inl ⟨ρ, τ', e, q⟩)
    | rt d => exact .inr (.inr ⟨d, τ', e, q⟩)) with ⟨ρ', τ', e, h⟩ | ⟨d, τ', e, h⟩
  · exact ⟨_, _, e, hq _ _ h⟩
  · exact ⟨_, _, e, he _ _ h⟩
theorem Post.forI {cf : CF} {t : T} {b : List S} {xs : List D} {ρ : Loc} {τ : Tp} {Q : Fl → Tp → Prop} (I : Nat → Loc → Tp → Prop) (h0 : I 0 ρ τ)
    (hs : ∀ k x, xs[k]? = some x → ∀ ρ τ, I k ρ τ → ∃ ρ1, bindT ρ t x = some ρ1 ∧ Post (evSs cf b ρ1 τ) (Turn (I (k + 1)) (I xs.length) fun _ _ => False))
    (hq : ∀ ρ τ, I xs.length ρ τ → Q (.nx ρ) τ) : Post (forRun cf t b xs ρ τ) Q :=
  Post.forE I (fun _ _ => False) h0 hs hq fun _ _ h => h.elim
theorem Post.fra {cf : CF} {t : T} {i : Nat} {e : E} {xs : List D} {ρ : Loc} {τ : Tp} {Q : Fl → Tp → Prop} (I : Nat → Loc → Tp → Prop) (h0 : I 0 ρ τ)
    (hs : ∀ k x, xs[k]? = some x → ∀ ρ τ, I k ρ τ → ∃ ρ1, bindT ρ t x = some ρ1 ∧ Post (evE cf e ρ1 τ) (fun d τ => I (k + 1) (put ρ1 i d) τ))
    (hq : ∀ ρ τ, I xs.length ρ τ → Q (.nx ρ) τ) : Post (fraRun cf t i e xs ρ τ) Q := by
  obtain ⟨ρ', τ', e, h⟩ := forLoop_nx (t := t) (body := fun ρ τ => (evE cf e ρ τ).bind fun d τ => .ok (.nx (put ρ i d)) τ) xs I h0 (fun k x hx ρ τ hi => by
    obtain ⟨ρ1, e1, d, τ', e, q⟩ := hs k x hx ρ τ hi
    exact ⟨ρ1, e1, _, τ', .inl (by rw [e]; rfl), q⟩)
  exact ⟨_, _, e, hq _ _ h⟩
/-- a while loop by a measure -/
theorem Post.whl {cf : CF} {c : E} {b : List S} {Q : Fl → Tp → Prop} (I : Nat → Loc → Tp → Prop) 
    (hs : ∀ m ρ τ, I m ρ τ → Post (asB (evE cf c ρ τ)) fun k τ => if k then ∃ m', m = m' + 1 ∧ Post (evSs cf b ρ τ) (Turn (I m') (fun ρ τ => Q (.nx ρ) τ) fun d τ => Q (.rt d) τ) else Q (.nx ρ) τ) :
    ∀ (m n : Nat) {ρ : Loc} {τ : Tp}, m < n → I m ρ τ → Post (whlRun cf c b n ρ τ) Q := by
  intro m
  induction m with
  | zero =>
    intro n ρ τ hn hI
    cases n with
    | zero => omega
    | succ n =>
      obtain ⟨k, τ', e, q⟩ := hs 0 ρ τ hI
      cases k with
      | true => obtain ⟨m', h, _⟩ := q; omega
      | false => exact ⟨.nx ρ, τ', by simp [whlRun, whlLoop, e], q⟩
  | succ m ih =>
    intro n ρ τ hn hI
    cases n with
    | zero => omega
    | succ n =>
      obtain ⟨k, τ', e, q⟩ := hs (m + 1) ρ τ hI
      cases k with
      | false => exact ⟨.nx ρ, τ', by simp [whlRun, whlLoop, e], q⟩
      | true =>
        obtain ⟨m', h, fl, τ2, e2, q⟩ := q
        have hm : m' = m := by omega
        subst hm
        cases fl with
        | nx ρ2 =>
          obtain ⟨fl, τ3, e3, q3⟩ := ih n (by omega) q
          exact ⟨fl, τ3, by simp only [whlRun, whlLoop, e, R.bind_ok, e2, if_true] at e3 ⊢; exact e3, q3⟩
        | ct ρ2 =>
          obtain ⟨fl, τ3, e3, q3⟩ := ih n (by omega) q
          exact ⟨fl, τ3, by simp only [whlRun, whlLoop, e, R.bind_ok, e2, if_true] at e3 ⊢; exact e3, q3⟩
        | bk ρ2 => exact ⟨.nx ρ2, τ2, by simp [whlRun, whlLoop, e, e2], q⟩
        | rt d => exact ⟨.rt d, τ2, by simp [whlRun, whlLoop, e, e2], q⟩
end Py.Wa

/-! Wt: typed data: what the operations do to ints, rows, matrices. -/
namespace Py.Wa
open PySem (Str)
/-! ### ints -/
@[simp] theorem binop_add (i j : Int) : binop .add (.int i) (.int j) = some (.int (i + j)) := (rfl)
@[simp] theorem binop_sub (i j : Int) : binop .sub (.int i) (.int j) = some (.int (i - j)) := (rfl)
theorem binop_mul {i j : Int} (hi : smallI i = true) (hj : smallI j = true) : binop .mul (.int i) (.int j) = some (.int (i * j)) := by simp [binop, hi, hj]
theorem binop_fdiv {i j : Int} (hj : j ≠ 0) (h : smallI j = true) : binop .fdiv (.int i) (.int j) = some (.int (i.fdiv j)) := by simp [binop, h, hj]
theorem binop_mod {i j : Int} (hj : j ≠ 0) : binop .mod (.int i) (.int j) = some (.int (i.fmod j)) := by simp [binop, hj]
theorem binop_mod_pos {i j : Int} (hj : 0 < j) : binop .mod (.int i) (.int j) = some (.int (i % j)) := by
  rw [binop_mod (by omega), Int.fmod_eq_emod_of_nonneg _ (by omega)]
theorem binop_fdiv_pos {i j : Int} (hj : 0 < j) (h : smallI j = true) : binop .fdiv (.int i) (.int j) = some (.int (i / j)) := by
  rw [binop_fdiv (by omega) h, Int.fdiv_eq_ediv_of_nonneg _ (by omega)]
@[simp] theorem isInt_int (i : Int) : isInt (.int i) = some i := (rfl)
@[simp] theorem isLst_lst (xs : List D) : isLst (.lst xs) = some xs := (rfl)
@[simp] theorem isAtom_int (i : Int) : isAtom (.int i) = true := (rfl)
@[simp] theorem isAtom_bl (i : Bool) : isAtom (.bl i) = true := (rfl)
@[simp] theorem isFlatA_int (i : Int) : isFlatA (.int i) = true := (rfl)
@[simp] theorem flat_int (n : Nat) (i : Int) : flat n (.int i) = true := by cases n <;> rfl
@[simp] theorem flat_bl (n : Nat) (i : Bool) : flat n (.bl i) = true := by cases n <;> rfl
@[simp] theorem flat_non (n : Nat) : flat n .non = true := by cases n <;> rfl
@[simp] theorem flats_nil (n : Nat) : flats n [] = true := by cases n <;> rfl
@[simp] theorem flats_cons (n : Nat) (x : D) (xs : List D) : flats n (x :: xs) = (flat n x && flats n xs) := by cases n <;> rfl
@[simp] theorem flat_lst (n : Nat) (xs : List D) : flat (n + 1) (.lst xs) = flats n xs := (rfl)
@[simp] theorem flat_tup (n : Nat) (xs : List D) : flat (n + 1) (.tup xs) = flats n xs := (rfl)
theorem flats_all (n : Nat) (xs : List D) : flats n xs = xs.all (flat n) := by
  induction xs with
  | nil => simp
  | cons x xs ih => simp [ih]
@[simp] theorem deq_int (i j : Int) : deq (.int i) (.int j) = decide (i = j) := by
  show (i == j) = _
  rfl
@[simp] theorem deq_bl (i j : Bool) : deq (.bl i) (.bl j) = decide (i = j) := by
  show (i == j) = _
  cases i <;> cases j <;> rfl
@[simp] theorem cmp_eq_int (i j : Int) : cmpop .eq (.int i) (.int j) = some (decide (i = j)) := by simp [cmpop]
@[simp] theorem cmp_ne_int (i j : Int) : cmpop .ne (.int i) (.int j) = some (decide (i ≠ j)) := by simp [cmpop]
@[simp] theorem cmp_eq_bl (i j : Bool) : cmpop .eq (.bl i) (.bl j) = some (decide (i = j)) := by simp [cmpop]
@[simp] theorem cmp_ne_bl (i j : Bool) : cmpop .ne (.bl i) (.bl j) = some (decide (i ≠ j)) := by simp [cmpop]
@[simp] theorem cmp_lt_int (i j : Int) : cmpop .lt (.int i) (.int j) = some (decide (i < j)) := (rfl)
@[simp] theorem cmp_le_int (i j : Int) : cmpop .le (.int i) (.int j) = some (decide (i ≤ j)) := (rfl)
@[simp] theorem cmp_gt_int (i j : Int) : cmpop .gt (.int i) (.int j) = some (decide (j < i)) := (rfl)
@[simp] theorem cmp_ge_int (i j : Int) : cmpop .ge (.int i) (.int j) = some (decide (j ≤ i)) := (rfl)
@[simp] theorem cmp_is (x : D) : cmpop .is x .non = some (isNone x) := by cases x <;> rfl
@[simp] theorem cmp_isnot (x : D) : cmpop .isnot x .non = some (!isNone x) := by cases x <;> rfl
@[simp] theorem isNone_non : isNone .non = true := (rfl)
@[simp] theorem isNone_lst (x : List D) : isNone (.lst x) = false := (rfl)
@[simp] theorem isNone_tup (x : List D) : isNone (.tup x) = false := (rfl)
@[simp] theorem isNone_int (x : Int) : isNone (.int x) = false := (rfl)
@[simp] theorem truth_bl (b : Bool) : truth (.bl b) = some b := (rfl)
@[simp] theorem truth_int (i : Int) : truth (.int i) = some (i != 0) := (rfl)
@[simp] theorem truth_lst (xs : List D) : truth (.lst xs) = some (!xs.isEmpty) := (rfl)
@[simp] theorem truth_tup (xs : List D) : truth (.tup xs) = some (!xs.isEmpty) := (rfl)
@[simp] theorem truth_non : truth .non = some false := (rfl)
@[simp] theorem bi1_int (i : Int) : bi1 .int (.int i) = some (.int i) := (rfl)
@[simp] theorem bi1_abs (i : Int) : bi1 .abs (.int i) = some (.int (if i < 0 then -i else i)) := (rfl)
@[simp] theorem bi1_len (xs : List D) : bi1 .len (.lst xs) = some (.int xs.length) := (rfl)
@[simp] theorem bi1_lenT (xs : List D) : bi1 .len (.tup xs) = some (.int xs.length) := (rfl)
@[simp] theorem bi1_list (xs : List D) : bi1 .list (.lst xs) = some (.lst xs) := (rfl)
@[simp] theorem bi1_listT (xs : List D) : bi1 .list (.tup xs) = some (.lst xs) := (rfl)
@[simp] theorem bi1_tuple (xs : List D) : bi1 .tuple (.lst xs) = some (.tup xs) := (rfl)
@[simp] theorem bi1_tupleT (xs : List D) : bi1 .tuple (.tup xs) = some (.tup xs) := (rfl)
@[simp] theorem seqOf_lst (xs : List D) : seqOf (.lst xs) = some xs := (rfl)
@[simp] theorem seqOf_tup (xs : List D) : seqOf (.tup xs) = some xs := (rfl)
@[simp] theorem seqZ_lst (xs : List D) : seqZ (.lst xs) = some xs := (rfl)
@[simp] theorem seqZ_tup (xs : List D) : seqZ (.tup xs) = some xs := (rfl)
@[simp] theorem two_tup (a b : D) : two? (.tup [a, b]) = some (a, b) := (rfl)
theorem intsD_map (xs : List Int) : intsD (xs.map .int) = some xs := by
  induction xs with
  | nil => rfl
  | cons x xs ih => simp [intsD, ih]
theorem boolsD_map {α : Type} (f : α → Bool) (xs : List α) : boolsD (xs.map fun x => .bl (f x)) = some (xs.map f) := by
  induction xs with
  | nil => rfl
  | cons x xs ih => simp [boolsD, ih]
theorem bi1_sum (xs : List Int) : bi1 .sum (.lst (xs.map .int)) = some (.int xs.sum) := by simp [bi1, intsD_map]
theorem bi1_any {α : Type} (f : α → Bool) (xs : List α) : bi1 .any (.lst (xs.map fun x => .bl (f x))) = some (.bl (xs.any f)) := by
  simp only [bi1, boolsD_map, List.any_map]; rfl
theorem bi1_all {α : Type} (f : α → Bool) (xs : List α) : bi1 .all (.lst (xs.map fun x => .bl (f x))) = some (.bl (xs.all f)) := by
  simp only [bi1, boolsD_map, List.all_map, Option.map_some]; rfl
theorem bi1_anyI (xs : List Int) : bi1 .any (.lst (xs.map .int)) = some (.bl (xs.any (· != 0))) := by
  cases xs with
  | nil => rfl
  | cons x xs =>
    simp only [bi1, List.map_cons, boolsD]
    have := intsD_map (x :: xs)
    simp only [List.map_cons] at this
    rw [this]
    simp
/-! ### places -/
@[simp] theorem at_nat {α : Type} (xs : List α) (k : Nat) : at? xs (k : Int) = xs[k]? := by simp [at?]
@[simp] theorem at_zero {α : Type} (xs : List α) : at? xs (0 : Int) = xs[0]? := by simp [at?]
@[simp] theorem at_lit {α : Type} (xs : List α) (k : Nat) : at? xs (@OfNat.ofNat Int k _) = xs[k]? := at_nat xs k
@[simp] theorem at_one {α : Type} (xs : List α) : at? xs (1 : Int) = xs[1]? := at_nat xs 1
@[simp] theorem at_add {α : Type} (xs : List α) (a k : Nat) : at? xs ((a : Int) + (k : Int)) = xs[a + k]? := at_nat xs (a + k)
@[simp] theorem at_succ {α : Type} (xs : List α) (a : Nat) : at? xs ((a : Int) + 1) = xs[a + 1]? := at_nat xs (a + 1)
@[simp] theorem index_lst (xs : List D) (i : Int) : index (.lst xs) (.int i) = at? xs i := (rfl)
@[simp] theorem index_tup (xs : List D) (i : Int) : index (.tup xs) (.int i) = at? xs i := (rfl)
theorem at_map {α β : Type} (f : α → β) (xs : List α) (i : Int) : at? (xs.map f) i = (at? xs i).map f := by
  unfold at?
  rw [List.length_map]
  split
  · simp
  · split
    · simp
    · rfl
theorem setL_nat (xs : List D) (k : Nat) (d : D) (h : k < xs.length) : setL xs (k : Int) d = some (xs.set k d) := by simp [setL, h]
theorem setIx_nat (xs : List D) (k : Nat) (d : D) (h : k < xs.length) : setIx (.lst xs) (.int (k : Int)) d = some (.lst (xs.set k d)) := by simp [setIx, setL_nat xs k d h]
theorem map_set {α β : Type} (f : α → β) (xs : List α) (k : Nat) (a : α) : (xs.map f).set k (f a) = (xs.set k a).map f := by simp [List.map_set]
/-! ### ranges, zips -/
theorem rngL_zero (n : Nat) : rngL 0 (n : Int) = (List.range n).map fun (k : Nat) => D.int (k : Int) := by
  unfold rngL
  have : ((n : Int) - 0).toNat = n := by omega
  rw [this]
  simp
theorem rng_ii (i j : Int) : rng? (.int i) (.int j) = if -RLIM < i ∧ i < RLIM ∧ -RLIM < j ∧ j < RLIM then some (rngL i j) else none := rfl
theorem rng_nat (n : Nat) (h : n < 4000000) : rng? (.int 0) (.int (n : Int)) = some ((List.range n).map fun (k : Nat) => D.int (k : Int)) := by
  rw [rng_ii, if_pos (by unfold RLIM; omega), rngL_zero]
theorem rng2_nat (a n : Nat) (ha : a < 4000000) (h : n < 4000000) : rng? (.int (a : Int)) (.int (n : Int)) = some ((List.range' a (n - a)).map fun (k : Nat) => D.int (k : Int)) := by
  rw [rng_ii, if_pos (by unfold RLIM; omega)]
  unfold rngL
  have : ((n : Int) - (a : Int)).toNat = n - a := by omega
  rw [this, List.range'_eq_map_range, List.map_map]
  rfl
theorem zipL_map {α β : Type} (f : α → D) (g : β → D) (xs : List α) (ys : List β) : zipL (xs.map f) (ys.map g) = (List.zip xs ys).map fun p => D.tup [f p.1, g p.2] := by
  induction xs generalizing ys with
  | nil => simp [zipL]
  | cons x xs ih => cases ys with
    | nil => simp [zipL]
    | cons y ys => simp [zipL, ih]
@[simp] theorem zip_lst (xs ys : List D) : zip? (.lst xs) (.lst ys) = some (zipL xs ys) := (rfl)
@[simp] theorem zip_tl (xs ys : List D) : zip? (.tup xs) (.lst ys) = some (zipL xs ys) := (rfl)
@[simp] theorem zip_lt (xs ys : List D) : zip? (.lst xs) (.tup ys) = some (zipL xs ys) := (rfl)
@[simp] theorem zip_tt (xs ys : List D) : zip? (.tup xs) (.tup ys) = some (zipL xs ys) := (rfl)
theorem enmL_map {α : Type} (f : α → D) (xs : List α) : ∀ n, enmL n (xs.map f) = (xs.zipIdx n).map fun p => D.tup [.int (p.2 : Int), f p.1] := by
  induction xs with
  | nil => intro n; rfl
  | cons x xs ih => intro n; simp [enmL, ih, List.zipIdx_cons]
theorem enmL_get (xs : List D) : ∀ n k, (enmL n xs)[k]? = (xs[k]?).map fun d => D.tup [.int ((n + k : Nat) : Int), d] := by
  induction xs with
  | nil => intro n k; rfl
  | cons x xs ih =>
    intro n k
    cases k with
    | zero => simp [enmL]
    | succ k => simp [enmL, ih]; congr 1; funext d; congr 3; omega
theorem enmL_len (xs : List D) : ∀ n, (enmL n xs).length = xs.length := by
  induction xs with
  | nil => intro n; rfl
  | cons x xs ih => intro n; simp [enmL, ih]
/-- small ints -/
theorem smallI_of {i : Int} (h : i.natAbs < 2 ^ 4000) : smallI i = true := by unfold smallI; exact decide_eq_true h
theorem smallI_lt {i : Int} (h : smallI i = true) : i.natAbs < 2 ^ 4000 := by unfold smallI at h; exact of_decide_eq_true h
/-- ints, rows, matrices -/
abbrev dI (xs : List Int) : D := .lst (xs.map .int)
abbrev tI (xs : List Int) : D := .tup (xs.map .int)
abbrev dM (m : List (List Int)) : D := .lst (m.map dI)
end Py.Wa

/-! Tape: the law's tape in the walk. -/
namespace Py.Wa
@[simp] theorem tapeAt_zero (ρ : Loc) (t : Tape) : tapeAt (some .tape :: ρ) 0 (some t) = some t := (rfl)
@[simp] theorem tapeAt_succ (x : Option D) (ρ : Loc) (n : Nat) (τ : Tp) : tapeAt (x :: ρ) (n + 1) τ = tapeAt ρ n τ := (rfl)
@[simp] theorem tfld_0 (t : Tape) : tfld t 0 = some t.pos := (rfl)
@[simp] theorem tfld_1 (t : Tape) : tfld t 1 = some t.left := (rfl)
@[simp] theorem tfld_2 (t : Tape) : tfld t 2 = some t.seed := (rfl)
@[simp] theorem tfld_3 (t : Tape) : tfld t 3 = some t.salt := (rfl)
@[simp] theorem tset_0 (t : Tape) (i : Int) : tset t i 0 = some { t with pos := i } := (rfl)
@[simp] theorem tset_1 (t : Tape) (i : Int) : tset t i 1 = some { t with left := i } := (rfl)
@[simp] theorem tset_2 (t : Tape) (i : Int) : tset t i 2 = some { t with seed := i } := (rfl)
@[simp] theorem tset_3 (t : Tape) (i : Int) : tset t i 3 = some { t with salt := i } := (rfl)
def bTake : List S :=
  [.iff (.and (.cmp .eq (.tge 0 1) (.int 0)) (.cmp .lt (.tge 0 0) (.tln 0)))
    [.tse 0 1 (.tce 0 (.tge 0 0)),
    .tse 0 0 (.bin .add (.tge 0 0) (.int 1))]
    [],
  .iff (.cmp .gt (.tge 0 1) (.int 0))
    [.asg (.nm 3) (.bin .mod (.bi .int (.tge 0 1)) (.var 1)),
    .tse 0 1 (.bin .fdiv (.tge 0 1) (.var 1)),
    .ret (.var 3)]
    [],
  .tse 0 3 (.bin .add (.tge 0 3) (.int 1)),
  .asg (.nm 2) (.bin .mod (.bi .int (.bin .add (.bin .mul (.tge 0 2) (.int 48271)) (.bin .mul (.tge 0 3) (.int 69621)))) (.int 2147483647)),
  .asg (.nm 2) (.bin .mod (.bi .int (.bin .add (.bin .add (.bin .mul (.var 2) (.var 2)) (.bin .mul (.tge 0 3) (.int 40692))) (.int 12345))) (.int 2147483399)),
  .ret (.bin .mod (.bi .int (.var 2)) (.var 1))]
def bTape : List S :=
  [.asg (.nm 1) (.lc (.bi .abs (.bi .int (.var 3))) [3] (.nm 3) (.val (.var 0)) []),
  .asg (.nm 2) (.int 7),
  .fra (.nm 3) (.val (.var 1)) 2 (.bin .mod (.bi .int (.bin .add (.bin .mul (.var 2) (.int 31)) (.var 3))) (.int 2147483647)),
  .rtp 1 2]
/-- so many draws are left -/
structure TOk (n : Nat) (t : Tape) : Prop where
  cells : ∀ c ∈ t.cells, 0 ≤ c
  pos : 0 ≤ t.pos
  left : 0 ≤ t.left
  seed0 : 0 ≤ t.seed
  seed1 : t.seed < 2147483647
  salt0 : 0 ≤ t.salt
  salt1 : t.salt + n ≤ 1000000000
def TB (n : Nat) (τ : Tp) : Prop := ∃ t, τ = some t ∧ TOk n t
theorem TB.mono {n m : Nat} {τ : Tp} (h : TB n τ) (hm : m ≤ n) : TB m τ := by
  obtain ⟨t, e, h⟩ := h
  exact ⟨t, e, { h with salt1 := by have := h.salt1; omega }⟩
theorem smallI_62 {i : Int} (h : i.natAbs < 2 ^ 62) : smallI i = true := smallI_of (Nat.lt_of_lt_of_le h (Nat.pow_le_pow_right (by decide) (by decide)))
def TakeQ (n : Nat) (m : Int) (d : D) (τ : Tp) : Prop := ∃ k, d = .int k ∧ 0 ≤ k ∧ k < m ∧ TB n τ
theorem take_tail (cf : CF) {n : Nat} {m : Int} (h0 : 0 < m) (h1 : m < 1000000) {t : Tape} (h : TOk (n + 1) t) (j : Option D) : Post (fin (evSs cf
  [.iff (.cmp .gt (.tge 0 1) (.int 0))
    [.asg (.nm 3) (.bin .mod (.bi .int (.tge 0 1)) (.var 1)),
    .tse 0 1 (.bin .fdiv (.tge 0 1) (.var 1)),
    .ret (.var 3)]
    [],
  .tse 0 3 (.bin .add (.tge 0 3) (.int 1)),
  .asg (.nm 2) (.bin .mod (.bi .int (.bin .add (.bin .mul (.tge 0 2) (.int 48271)) (.bin .mul (.tge 0 3) (.int 69621)))) (.int 2147483647)),
  .asg (.nm 2) (.bin .mod (.bi .int (.bin .add (.bin .add (.bin .mul (.var 2) (.var 2)) (.bin .mul (.tge 0 3) (.int 40692))) (.int 12345))) (.int 2147483399)),
  .ret (.bin .mod (.bi .int (.var 2)) (.var 1))] [some .tape, some (.int m), none, none] (some t))) (TakeQ n m) := by
  refine .fin ?_
  have hl := h.left
  have hs1 := h.salt1
  have hs0 := h.salt0
  have sm : smallI m = true := smallI_62 (by omega)
  by_cases e : 0 < t.left
  · simp [e, binop_mod_pos h0, binop_fdiv_pos h0 sm]
    exact .ok ⟨_, rfl, Int.emod_nonneg _ (by omega), Int.emod_lt_of_pos _ h0, _, rfl, { h with left := Int.ediv_nonneg hl (by omega), salt1 := by show t.salt + n ≤ _; omega }⟩
  · have s2 : smallI 48271 = true := smallI_62 (by decide)
    have s3 : smallI 69621 = true := smallI_62 (by decide)
    have s4 : smallI 40692 = true := smallI_62 (by decide)
    have s5 : smallI t.seed = true := smallI_62 (by have := h.seed0; have := h.seed1; omega)
    have s6 : smallI (t.salt + 1) = true := smallI_62 (by omega)
    have s7 : ∀ x : Int, smallI (x % 2147483647) = true := fun x => smallI_62 (by have := Int.emod_nonneg x (show (2147483647 : Int) ≠ 0 by decide); have := Int.emod_lt_of_pos x (show (0 : Int) < 2147483647 by decide); omega)
    simp [e, binop_mul s5 s2, binop_mul s6 s3, binop_mul s6 s4, binop_mul (s7 _) (s7 _), binop_mod_pos (show (0 : Int) < 2147483647 by decide), binop_mod_pos (show (0 : Int) < 2147483399 by decide), binop_mod_pos h0]
    exact .ok ⟨_, rfl, Int.emod_nonneg _ (by omega), Int.emod_lt_of_pos _ h0, _, rfl, { h with salt0 := by show 0 ≤ t.salt + 1; omega, salt1 := by show t.salt + 1 + n ≤ _; omega }⟩
theorem take_ok (cf : CF) {n : Nat} {m : Int} (h0 : 0 < m) (h1 : m < 1000000) {τ : Tp} (h : TB (n + 1) τ) : Post (run cf 4 bTake [.tape, .int m] τ) (TakeQ n m) := by
  obtain ⟨t, rfl, h⟩ := h
  unfold run bTake
  rw [eSs_cons]
  simp only [start, List.map_cons, List.map_nil, List.cons_append, List.nil_append, List.length_cons, List.length_nil]
  by_cases e : t.left = 0 ∧ t.pos < t.cells.length
  · obtain ⟨k, hk⟩ : ∃ k : Nat, t.pos = k := ⟨t.pos.toNat, by have := h.pos; omega⟩
    have hkl : k < t.cells.length := by omega
    have e1 : evS cf (.iff (.and (.cmp .eq (.tge 0 1) (.int 0)) (.cmp .lt (.tge 0 0) (.tln 0)))
    [.tse 0 1 (.tce 0 (.tge 0 0)),
    .tse 0 0 (.bin .add (.tge 0 0) (.int 1))]
    []) [some .tape, some (.int m), none, none] (some t) = .ok (.nx [some .tape, some (.int m), none, none]) (some { t with left := t.cells[k], pos := t.pos + 1 }) := by
      simp [e.1, e.2, hk, List.getElem?_eq_getElem hkl, show (k : Int) < t.cells.length by omega]
    show Post (fin ((evS cf _ [some .tape, some (.int m), none, none] (some t)).bind _)) _
    rw [e1]
    exact take_tail cf h0 h1 { h with left := h.cells _ (List.getElem_mem hkl), pos := by have := h.pos; show 0 ≤ t.pos + 1; omega } none
  · have e1 : evS cf (.iff (.and (.cmp .eq (.tge 0 1) (.int 0)) (.cmp .lt (.tge 0 0) (.tln 0)))
    [.tse 0 1 (.tce 0 (.tge 0 0)),
    .tse 0 0 (.bin .add (.tge 0 0) (.int 1))]
    []) [some .tape, some (.int m), none, none] (some t) = .ok (.nx [some .tape, some (.int m), none, none]) (some t) := by
      by_cases e2 : t.left = 0
      · have : ¬ t.pos < t.cells.length := fun z => e ⟨e2, z⟩
        simp [e2, this]
      · simp [e2]
    show Post (fin ((evS cf _ [some .tape, some (.int m), none, none] (some t)).bind _)) _
    rw [e1]
    exact take_tail cf h0 h1 h none
def TpQ (d : D) (τ : Tp) : Prop := d = .tape ∧ TB 1000000000 τ
def TpSt (ns : List Int) (k : Nat) (ρ : Loc) (τ : Tp) : Prop := τ = none ∧ ∃ s j, ρ = [some (.scr ns), some (.lst ((ns.map fun i => if i < 0 then -i else i).map .int)), some (.int s), j] ∧ 0 ≤ s ∧ s < 2147483647
theorem tape_ok (cf : CF) (ns : List Int) (hn : ns.length ≤ 63) : Post (run cf 4 bTape [.scr ns] none) TpQ := by
  unfold run bTape
  refine .fin ?_
  have hsc : seqOf (.scr ns) = some (ns.map D.int) := rfl
  simp [start, List.replicate, hsc, show ns.length ≤ LIM by unfold LIM; omega]
  rw [lcRun_all D.int (fun i => .int (if i < 0 then -i else i)) ns fun i _ => ⟨_, rfl, by simp⟩]
  have e : ns.map (fun i => D.int (if i < 0 then -i else i)) = (ns.map fun i => if i < 0 then -i else i).map .int := by simp [Function.comp_def]
  rw [e]
  simp [-List.map_map]
  refine .bind (.fra (TpSt ns) ⟨rfl, 7, none, rfl, by decide, by decide⟩ ?_ ?_)
  · rintro k x hx ρ τ ⟨rfl, s, j, rfl, h0, h1⟩
    rw [List.getElem?_map] at hx
    cases g : (ns.map fun i => if i < 0 then -i else i)[k]? with
    | none => rw [g] at hx; cases hx
    | some c =>
      rw [g] at hx
      cases hx
      refine ⟨_, rfl, ?_⟩
      simp [-List.map_map, binop_mul (smallI_62 (show s.natAbs < 2 ^ 62 by omega)) (smallI_62 (show (31 : Int).natAbs < 2 ^ 62 by decide)), binop_mod_pos (show (0 : Int) < 2147483647 by decide)]
      exact .ok ⟨rfl, _, _, rfl, Int.emod_nonneg _ (by decide), Int.emod_lt_of_pos _ (by decide)⟩
  · rintro ρ τ ⟨rfl, s, j, rfl, h0, h1⟩
    simp [-List.map_map, intsD_map]
    refine .ok ⟨rfl, _, rfl, ⟨fun c hc => ?_, Int.le_refl 0, Int.le_refl 0, h0, h1, Int.le_refl 0, show (0 : Int) + ((1000000000 : Nat) : Int) ≤ 1000000000 by omega⟩⟩
    obtain ⟨i, _, rfl⟩ := List.mem_map.mp hc
    show 0 ≤ (if i < 0 then -i else i)
    split <;> omega
/-! ### comprehensions that draw -/
theorem Post.lcT {cf : CF} {elt : E} {t : T} {ρ : Loc} (c : Nat) (Q : D → Prop) : ∀ (xs : List D), (∀ x ∈ xs, ∃ ρ', bindT ρ t x = some ρ' ∧ ∀ n τ, TB (n + c) τ → Post (evE cf elt ρ' τ) fun d τ' => Q d ∧ TB n τ') →
    ∀ (n : Nat) (τ : Tp), TB (n + xs.length * c) τ → Post (lcRun cf elt [] t ρ xs τ) fun ds τ' => ds.length = xs.length ∧ (∀ d ∈ ds, Q d) ∧ TB n τ'
  | [], _, n, τ, h => ⟨[], τ, rfl, rfl, fun d hd => (by simp at hd), by simpa using h⟩
  | x :: xs, hx, n, τ, h => by
    obtain ⟨ρ', h1, h2⟩ := hx x List.mem_cons_self
    obtain ⟨d, τ1, e1, q1, t1⟩ := h2 (n + xs.length * c) τ (h.mono (by simp [Nat.add_mul]; omega))
    obtain ⟨ds, τ2, e2, l2, q2, t2⟩ := Post.lcT c Q xs (fun y hy => hx y (List.mem_cons_of_mem _ hy)) n τ1 t1
    refine ⟨d :: ds, τ2, ?_, by simp [l2], fun y hy => ?_, t2⟩
    · simp only [lcRun, eC_nil, noX_ok] at e2 ⊢
      simp [lcLoop, h1, e1, e2]
    · simp only [List.mem_cons] at hy
      rcases hy with rfl | hy
      · exact q1
      · exact q2 y hy
theorem enc_of {α : Type} (enc : α → D) (P : α → Prop) : ∀ (ds : List D), (∀ d ∈ ds, ∃ a, d = enc a ∧ P a) → ∃ us : List α, ds = us.map enc ∧ us.length = ds.length ∧ ∀ a ∈ us, P a
  | [], _ => ⟨[], rfl, rfl, fun a h => by simp at h⟩
  | d :: ds, h => by
    obtain ⟨a, rfl, pa⟩ := h d List.mem_cons_self
    obtain ⟨us, rfl, l, q⟩ := enc_of enc P ds fun e he => h e (List.mem_cons_of_mem _ he)
    exact ⟨a :: us, rfl, by simp, fun b hb => by
      simp only [List.mem_cons] at hb
      rcases hb with rfl | hb
      · exact pa
      · exact q b hb⟩
end Py.Wa

/-! LinA: rows of integers modulo p (p prime or 0), echelon forms, kernels. Plain mathematics. -/
namespace Py.Lin
abbrev Row := List Int
abbrev Vec := Nat → Int
/-- p is prime, or 0 -/
structure Pr (p : Int) : Prop where
  mul : ∀ a b, p ∣ a * b → p ∣ a ∨ p ∣ b
  one : ¬ p ∣ 1
def dot : Row → Vec → Int
  | [], _ => 0
  | a :: r, x => a * x 0 + dot r fun i => x (i + 1)
def ent (r : Row) (j : Nat) : Int := r.getD j 0
def row (A : List Row) (i : Nat) : Row := A.getD i []
def unit (j : Nat) : Vec := fun i => if i = j then 1 else 0
theorem dot_lin (r : Row) : ∀ (a b : Int) (x y : Vec), dot r (fun i => a * x i + b * y i) = a * dot r x + b * dot r y := by
  induction r with
  | nil => intro a b x y; simp [dot]
  | cons c r ih =>
    intro a b x y
    simp only [dot]
    rw [ih a b (fun i => x (i + 1)) (fun i => y (i + 1))]
    grind
theorem dot_zero (r : Row) : dot r (fun _ => 0) = 0 := by
  induction r with
  | nil => rfl
  | cons c r ih => simp only [dot, ih]; simp
theorem dot_unit (r : Row) : ∀ j, dot r (unit j) = ent r j := by
  induction r with
  | nil => intro j; simp [dot, ent]
  | cons c r ih =>
    intro j
    cases j with
    | zero =>
      have : (fun i => unit 0 (i + 1)) = fun _ => 0 := by funext i; simp [unit]
      simp only [dot, this, dot_zero]
      simp [unit, ent]
    | succ j =>
      have : (fun i => unit (j + 1) (i + 1)) = unit j := by funext i; simp [unit]
      simp only [dot, this, ih]
      simp [unit, ent]
/-- only one column counts -/
theorem dot_only {p : Int} (r : Row) : ∀ (x : Vec) (q : Nat), (∀ c, c ≠ q → p ∣ ent r c * x c) → p ∣ dot r x - ent r q * x q := by
  induction r with
  | nil => intro x q _; simp [dot, ent]
  | cons c r ih =>
    intro x q h
    cases q with
    | zero =>
      have h2 : p ∣ dot r (fun i => x (i + 1)) := by
        have := ih (fun i => x (i + 1)) r.length fun j _ => by
          have := h (j + 1) (by omega)
          simpa [ent] using this
        have e : ent r r.length = 0 := by simp [ent]
        rw [e] at this
        simpa using this
      simp only [dot, ent, List.getD_cons_zero]
      have e : c * x 0 + dot r (fun i => x (i + 1)) - c * x 0 = dot r (fun i => x (i + 1)) := by omega
      rw [e]; exact h2
    | succ q =>
      have h0 : p ∣ c * x 0 := by have := h 0 (by omega); simpa [ent] using this
      have h1 := ih (fun i => x (i + 1)) q fun j hj => by
        have := h (j + 1) (by omega)
        simpa [ent] using this
      simp only [dot, ent, List.getD_cons_succ] at h1 ⊢
      have e : c * x 0 + dot r (fun i => x (i + 1)) - r.getD q 0 * x (q + 1) = c * x 0 + (dot r (fun i => x (i + 1)) - r.getD q 0 * x (q + 1)) := by omega
      rw [e]
      exact Int.dvd_add h0 h1
theorem dot_nil {p : Int} (r : Row) (x : Vec) (h : ∀ c, p ∣ ent r c * x c) : p ∣ dot r x := by
  have := dot_only r x r.length fun c _ => h c
  have e : ent r r.length = 0 := by simp [ent]
  rw [e] at this
  simpa using this
/-- only columns within the row count -/
theorem dot_congr (r : Row) : ∀ (x y : Vec), (∀ c, c < r.length → x c = y c) → dot r x = dot r y := by
  induction r with
  | nil => intros; rfl
  | cons c r ih =>
    intro x y h
    simp only [dot]
    rw [h 0 (by simp), ih _ _ fun j hj => h (j + 1) (by simp; omega)]
theorem ent_out {r : Row} {c : Nat} (h : r.length ≤ c) : ent r c = 0 := by simp [ent, List.getD_eq_getElem?_getD, List.getElem?_eq_none h]

def Ker (p : Int) (A : List Row) (x : Vec) : Prop := ∀ r ∈ A, p ∣ dot r x

/-! ### echelon forms -/
def comb : Vec → List Row → Vec → Int
  | _, [], _ => 0
  | y, r :: R, x => y 0 * dot r x + comb (fun i => y (i + 1)) R x
/-- no row is told by the others -/
def LI (p : Int) (R : List Row) : Prop := ∀ y : Vec, (∀ x, p ∣ comb y R x) → ∀ i, i < R.length → p ∣ y i
/-- g: independence is kept; rr: the form is reduced -/
structure Ech (g rr : Bool) (p : Int) (w : Nat) (A : List Row) (c : Nat) (R : List Row) (pl : List Nat) : Prop where
  li : g = true → LI p A → LI p R
  red : rr = true → ∀ i j q, pl[j]? = some q → i ≠ j → p ∣ ent (row R i) q
  wid : ∀ r ∈ R, r.length = w
  ker : ∀ x, Ker p A x ↔ Ker p R x
  len : R.length = A.length
  cnt : pl.length ≤ R.length
  lead : ∀ j q, pl[j]? = some q → ¬ p ∣ ent (row R j) q
  bef : ∀ j q, pl[j]? = some q → ∀ c' < q, p ∣ ent (row R j) c'
  low : ∀ i, pl.length ≤ i → ∀ c' < c, p ∣ ent (row R i) c'
  inc : pl.Pairwise (· < ·)
  lt : ∀ q ∈ pl, q < c
theorem row_mem {A : List Row} {i : Nat} (h : i < A.length) : row A i ∈ A := by
  unfold row; rw [List.getD_eq_getElem?_getD, List.getElem?_eq_getElem h]; simp
theorem mem_row {A : List Row} {r : Row} (h : r ∈ A) : ∃ i, i < A.length ∧ row A i = r := by
  obtain ⟨i, hi, e⟩ := List.mem_iff_getElem.mp h
  exact ⟨i, hi, by unfold row; rw [List.getD_eq_getElem?_getD, List.getElem?_eq_getElem hi]; simpa using e⟩
theorem row_out {A : List Row} {i : Nat} (h : A.length ≤ i) : row A i = [] := by
  unfold row; rw [List.getD_eq_getElem?_getD, List.getElem?_eq_none h]; rfl
theorem inc_lt {pl : List Nat} (h : pl.Pairwise (· < ·)) {i j a b : Nat} (hi : pl[i]? = some a) (hj : pl[j]? = some b) (hij : i < j) : a < b := by
  obtain ⟨h1, e1⟩ := List.getElem?_eq_some_iff.mp hi
  obtain ⟨h2, e2⟩ := List.getElem?_eq_some_iff.mp hj
  rw [← e1, ← e2]
  exact List.pairwise_iff_getElem.mp h i j h1 h2 hij
namespace Ech
variable {g rr : Bool} {p : Int} {w : Nat} {A R : List Row} {c : Nat} {pl : List Nat}
theorem ker_iff (h : Ech g rr p w A c R pl) (x : Vec) : Ker p A x ↔ ∀ i < R.length, p ∣ dot (row R i) x := by
  rw [h.ker]
  constructor
  · intro k i hi; exact k _ (row_mem hi)
  · intro k r hr
    obtain ⟨i, hi, rfl⟩ := mem_row hr
    exact k i hi
/-- a pivot's column is no end of a vector of the kernel -/
theorem piv (hp : Pr p) (h : Ech g rr p w A c R pl) {q : Nat} (hq : q ∈ pl) {x : Vec} (hx : Ker p A x) (hz : ∀ d, q < d → x d = 0) : p ∣ x q := by
  obtain ⟨j, hj, e⟩ := List.mem_iff_getElem.mp hq
  have ej : pl[j]? = some q := by rw [List.getElem?_eq_getElem hj, e]
  have k := (h.ker_iff x).mp hx j (by have := h.cnt; omega)
  have o := dot_only (p := p) (row R j) x q fun d hd => by
    by_cases l : d < q
    · exact Int.dvd_trans (h.bef j q ej d l) (Int.dvd_mul_right _ _)
    · rw [hz d (by omega)]; simp
  have : p ∣ ent (row R j) q * x q := by
    have := Int.dvd_sub k o
    have e : dot (row R j) x - (dot (row R j) x - ent (row R j) q * x q) = ent (row R j) q * x q := by omega
    rwa [e] at this
  rcases hp.mul _ _ this with z | z
  · exact absurd z (h.lead j q ej)
  · exact z
/-- any other column is one -/
theorem free (hp : Pr p) (h : Ech g rr p w A w R pl) {q : Nat} (hw : q < w) (hq : q ∉ pl) : ∃ x, Ker p A x ∧ (∀ d, q < d → x d = 0) ∧ ¬ p ∣ x q := by
  have main : ∀ n t, t + n = pl.length → ∃ x : Vec, (∀ d, q < d → x d = 0) ∧ ¬ p ∣ x q ∧ ∀ j, t ≤ j → j < pl.length → p ∣ dot (row R j) x := by
    intro n
    induction n with
    | zero =>
      intro t ht
      exact ⟨unit q, fun d hd => by simp [unit]; omega, by simpa [unit] using hp.one, fun j h1 h2 => by omega⟩
    | succ n ih =>
      intro t ht
      obtain ⟨x, h1, h2, h3⟩ := ih (t + 1) (by omega)
      have ht' : t < pl.length := by omega
      have et : pl[t]? = some pl[t] := List.getElem?_eq_getElem ht'
      have ne : pl[t] ≠ q := fun e => hq (e ▸ List.getElem_mem ht')
      by_cases l : q < pl[t]
      · refine ⟨x, h1, h2, fun j hj hj2 => ?_⟩
        by_cases ej : j = t
        · subst ej
          refine dot_nil _ _ fun d => ?_
          by_cases hd : d < pl[j]
          · exact Int.dvd_trans (h.bef j _ et d hd) (Int.dvd_mul_right _ _)
          · rw [h1 d (by omega)]; simp
        · exact h3 j (by omega) hj2
      · let d := ent (row R t) pl[t]
        let e := dot (row R t) x
        refine ⟨fun i => d * x i + (-e) * unit pl[t] i, fun k hk => ?_, ?_, fun j hj hj2 => ?_⟩
        · have : unit pl[t] k = 0 := by simp [unit]; omega
          simp [h1 k hk, this]
        · have : unit pl[t] q = 0 := by simp [unit]; omega
          simp only [this, Int.mul_zero, Int.add_zero]
          intro z
          rcases hp.mul _ _ z with z | z
          · exact h.lead t _ et z
          · exact h2 z
        · rw [dot_lin, dot_unit]
          by_cases ej : j = t
          · subst ej
            have : d * dot (row R j) x + -e * ent (row R j) pl[j] = 0 := by
              show d * e + -e * d = 0
              grind
            rw [this]; simp
          · have hjt : t < j := by omega
            have ejj : pl[j]? = some pl[j] := List.getElem?_eq_getElem hj2
            have := h.bef j _ ejj pl[t] (inc_lt h.inc et ejj hjt)
            exact Int.dvd_add (Int.dvd_trans (h3 j (by omega) hj2) (Int.dvd_mul_left _ _)) (Int.dvd_trans this (Int.dvd_mul_left _ _))
  obtain ⟨x, h1, h2, h3⟩ := main pl.length 0 (by omega)
  refine ⟨x, (h.ker_iff x).mpr fun i hi => ?_, h1, h2⟩
  by_cases l : i < pl.length
  · exact h3 i (by omega) l
  · refine dot_nil _ _ fun d => ?_
    by_cases hd : d < w
    · exact Int.dvd_trans (h.low i (by omega) d hd) (Int.dvd_mul_right _ _)
    · rw [ent_out (by rw [h.wid _ (row_mem hi)]; omega)]; simp
theorem mem_iff (hp : Pr p) (h : Ech g rr p w A w R pl) {q : Nat} (hw : q < w) : q ∈ pl ↔ ∀ x, Ker p A x → (∀ d, q < d → x d = 0) → p ∣ x q := by
  constructor
  · intro hq x hx hz; exact h.piv hp hq hx hz
  · intro k
    by_cases hq : q ∈ pl
    · exact hq
    · obtain ⟨x, h1, h2, h3⟩ := h.free hp hw hq
      exact absurd (k x h1 h2) h3
end Ech
theorem inc_ext : ∀ {a b : List Nat}, a.Pairwise (· < ·) → b.Pairwise (· < ·) → (∀ q, q ∈ a ↔ q ∈ b) → a = b
  | [], [], _, _, _ => rfl
  | [], y :: b, _, _, h => by have := (h y).mpr (by simp); simp at this
  | x :: a, [], _, _, h => by have := (h x).mp (by simp); simp at this
  | x :: a, y :: b, ha, hb, h => by
    rw [List.pairwise_cons] at ha hb
    have exy : x = y := by
      have h1 := (h x).mp (by simp)
      have h2 := (h y).mpr (by simp)
      simp only [List.mem_cons] at h1 h2
      rcases h1 with h1 | h1
      · exact h1
      · rcases h2 with h2 | h2
        · exact h2.symm
        · have := ha.1 y h2; have := hb.1 x h1; omega
    subst exy
    rw [inc_ext ha.2 hb.2 fun q => ?_]
    constructor
    · intro hq
      have := (h q).mp (by simp [hq])
      simp only [List.mem_cons] at this
      rcases this with e | e
      · have := ha.1 q hq; omega
      · exact e
    · intro hq
      have := (h q).mpr (by simp [hq])
      simp only [List.mem_cons] at this
      rcases this with e | e
      · have := hb.1 q hq; omega
      · exact e
/-- the pivots are told by the matrix -/
theorem Ech.uniq {g rr g' rr' : Bool} {p : Int} {w : Nat} {A R R' : List Row} {pl pl' : List Nat} (hp : Pr p) (h : Ech g rr p w A w R pl) (h' : Ech g' rr' p w A w R' pl') : pl = pl' :=
  inc_ext h.inc h'.inc fun q => by
    by_cases hq : q < w
    · rw [h.mem_iff hp hq, h'.mem_iff hp hq]
    · exact ⟨fun z => absurd (h.lt q z) hq, fun z => absurd (h'.lt q z) hq⟩
/-- one more column -/
def widen : List Row → List Int → List Row
  | r :: A, g :: gs => (r ++ [g]) :: widen A gs
  | _, _ => []
theorem dot_app (r : Row) (g : Int) : ∀ x : Vec, dot (r ++ [g]) x = dot r x + g * x r.length := by
  induction r with
  | nil => intro x; simp [dot]
  | cons c r ih => intro x; simp only [List.cons_append, dot, ih, List.length_cons]; omega
theorem ker_widen {p : Int} {w : Nat} : ∀ {A : List Row} {g : List Int}, A.length = g.length → (∀ r ∈ A, r.length = w) → ∀ x : Vec,
    (Ker p (widen A g) x ↔ ∀ i < A.length, p ∣ dot (row A i) x + ent g i * x w)
  | [], [], _, _, x => by simp [widen, Ker]
  | r :: A, a :: g, hl, hw, x => by
    have ih := ker_widen (p := p) (A := A) (g := g) (by simpa using hl) (fun s hs => hw s (List.mem_cons_of_mem _ hs)) x
    have hr := hw r List.mem_cons_self
    constructor
    · intro k i hi
      cases i with
      | zero =>
        have := k (r ++ [a]) (by simp [widen])
        rw [dot_app, hr] at this
        simpa [row, ent] using this
      | succ i =>
        have := ih.mp (fun s hs => k s (by simp [widen, hs])) i (by simpa using hi)
        simpa [row, ent] using this
    · intro k s hs
      simp only [widen, List.mem_cons] at hs
      rcases hs with rfl | hs
      · have := k 0 (by simp)
        rw [dot_app, hr]
        simpa [row, ent] using this
      · exact ih.mpr (fun i hi => by
          have := k (i + 1) (by simpa using hi)
          simpa [row, ent] using this) s hs
/-- the pivots of a matrix with one more column -/
theorem Ech.wide {g1 rr g' rr' : Bool} {p : Int} {w : Nat} {A R R' : List Row} {g : List Int} {pl pl' : List Nat} (hp : Pr p) (hl : A.length = g.length) (hw : ∀ r ∈ A, r.length = w)
    (h : Ech g1 rr p w A w R pl) (h' : Ech g' rr' p (w + 1) (widen A g) (w + 1) R' pl') : pl' = pl ∨ pl' = pl ++ [w] := by
  have key : ∀ q, q < w → (q ∈ pl' ↔ q ∈ pl) := fun q hq => by
    rw [h.mem_iff hp hq, h'.mem_iff hp (by omega)]
    constructor
    · intro k x hx hz
      refine k x ((ker_widen hl hw x).mpr fun i hi => ?_) hz
      rw [hz w (by omega)]
      simpa using hx _ (row_mem hi)
    · intro k x hx hz
      refine k x (fun r hr => ?_) hz
      obtain ⟨i, hi, rfl⟩ := mem_row hr
      have := (ker_widen hl hw x).mp hx i hi
      rw [hz w (by omega)] at this
      simpa using this
  by_cases hm : w ∈ pl'
  · refine .inr (inc_ext h'.inc ?_ fun q => ?_)
    · rw [List.pairwise_append]
      exact ⟨h.inc, by simp, fun a ha b hb => by simp at hb; subst hb; exact h.lt a ha⟩
    · simp only [List.mem_append, List.mem_singleton]
      by_cases hq : q < w
      · rw [key q hq]; constructor
        · exact .inl
        · rintro (z | z)
          · exact z
          · omega
      · constructor
        · intro z; have := h'.lt q z; right; omega
        · rintro (z | z)
          · exact absurd (h.lt q z) hq
          · exact z ▸ hm
  · refine .inl (inc_ext h'.inc h.inc fun q => ?_)
    by_cases hq : q < w
    · exact key q hq
    · constructor
      · intro z
        have := h'.lt q z
        have e : q = w := by omega
        exact absurd (e ▸ z) hm
      · intro z; exact absurd (h.lt q z) hq
/-! ### steps -/
theorem row_set {R : List Row} {i j : Nat} {r : Row} (h : i < R.length) : row (R.set i r) j = if j = i then r else row R j := by
  unfold row
  rw [List.getD_eq_getElem?_getD, List.getD_eq_getElem?_getD, List.getElem?_set]
  by_cases e : j = i
  · subst e; simp [h]
  · rw [if_neg (fun z => e z.symm), if_neg e]
theorem comb_add (R : List Row) : ∀ (y z : Vec) (x : Vec), comb (fun i => y i + z i) R x = comb y R x + comb z R x := by
  induction R with
  | nil => intros; rfl
  | cons r R ih => intro y z x; simp only [comb]; rw [ih (fun i => y (i + 1)) (fun i => z (i + 1))]; grind
theorem comb_zero (R : List Row) (x : Vec) : comb (fun _ => 0) R x = 0 := by
  induction R with
  | nil => rfl
  | cons r R ih => simp only [comb, ih]; simp
theorem comb_unit (R : List Row) : ∀ (a : Int) (i : Nat) (x : Vec), comb (fun j => a * unit i j) R x = a * dot (row R i) x := by
  induction R with
  | nil => intro a i x; simp [comb, row, dot]
  | cons r R ih =>
    intro a i x
    cases i with
    | zero =>
      have : (fun j => a * unit 0 (j + 1)) = fun _ => 0 := by funext j; simp [unit]
      simp only [comb, this, comb_zero]
      simp [unit, row]
    | succ i =>
      have : (fun j => a * unit (i + 1) (j + 1)) = fun j => a * unit i j := by funext j; simp [unit]
      simp only [comb, this, ih]
      simp [unit, row]
theorem comb_set (R : List Row) : ∀ (y : Vec) (i : Nat) (r : Row) (x : Vec), i < R.length → comb y (R.set i r) x = comb y R x + y i * (dot r x - dot (row R i) x) := by
  induction R with
  | nil => intro y i r x h; simp at h
  | cons s R ih =>
    intro y i r x h
    cases i with
    | zero => simp only [List.set_cons_zero, comb, row, List.getD_cons_zero]; grind
    | succ i =>
      simp only [List.set_cons_succ, comb, ih (fun j => y (j + 1)) i r x (by simpa using h), row, List.getD_cons_succ]
      omega
/-- one row is changed by the row s -/
structure Op (g : Bool) (p : Int) (w : Nat) (R : List Row) (s i : Nat) (r : Row) (γ α β : Int) : Prop where
  wid : r.length = w
  γ0 : ¬ p ∣ γ
  α0 : ¬ p ∣ α
  β0 : i = s → β = 0
  lin : ∀ x, p ∣ γ * dot r x - (α * dot (row R i) x - β * dot (row R s) x)
  g1 : g = true → γ = 1
theorem dvd_of_sub {p a b : Int} (h : p ∣ a - b) (hb : p ∣ b) : p ∣ a := by
  have := Int.dvd_add h hb
  have e : a - b + b = a := by omega
  rwa [e] at this
theorem dvd_of_sub' {p a b : Int} (h : p ∣ a - b) (ha : p ∣ a) : p ∣ b := by
  have := Int.dvd_sub ha h
  have e : a - (a - b) = b := by omega
  rwa [e] at this
theorem Pr.of_mul {p a b : Int} (hp : Pr p) (ha : ¬ p ∣ a) (h : p ∣ a * b) : p ∣ b := (hp.mul a b h).resolve_left ha
namespace Op
variable {g : Bool} {p : Int} {w : Nat} {R : List Row} {s i : Nat} {r : Row} {γ α β : Int}
theorem fwd (hp : Pr p) (o : Op g p w R s i r γ α β) {x : Vec} (hi : p ∣ dot (row R i) x) (hs : p ∣ dot (row R s) x) : p ∣ dot r x :=
  hp.of_mul o.γ0 (dvd_of_sub (o.lin x) (Int.dvd_sub (Int.dvd_trans hi (Int.dvd_mul_left _ _)) (Int.dvd_trans hs (Int.dvd_mul_left _ _))))
theorem bwd (hp : Pr p) (o : Op g p w R s i r γ α β) {x : Vec} (hr : p ∣ dot r x) (hs : i ≠ s → p ∣ dot (row R s) x) : p ∣ dot (row R i) x := by
  refine hp.of_mul o.α0 ?_
  have h1 := dvd_of_sub' (o.lin x) (Int.dvd_trans hr (Int.dvd_mul_left _ _))
  by_cases e : i = s
  · rw [o.β0 e] at h1; simpa using h1
  · exact dvd_of_sub h1 (Int.dvd_trans (hs e) (Int.dvd_mul_left _ _))
theorem entF (hp : Pr p) (o : Op g p w R s i r γ α β) {q : Nat} (hi : p ∣ ent (row R i) q) (hs : p ∣ ent (row R s) q) : p ∣ ent r q := by
  have := o.fwd hp (x := unit q) (by rw [dot_unit]; exact hi) (by rw [dot_unit]; exact hs)
  rwa [dot_unit] at this
theorem entB (hp : Pr p) (o : Op g p w R s i r γ α β) {q : Nat} (hr : p ∣ ent r q) (hs : i ≠ s → p ∣ ent (row R s) q) : p ∣ ent (row R i) q := by
  have := o.bwd hp (x := unit q) (by rw [dot_unit]; exact hr) (by rw [dot_unit]; exact hs)
  rwa [dot_unit] at this
theorem ker (hp : Pr p) (o : Op g p w R s i r γ α β) (hi : i < R.length) (hs : s < R.length) (x : Vec) : Ker p R x ↔ Ker p (R.set i r) x := by
  constructor
  · intro k q hq
    obtain ⟨j, hj, rfl⟩ := mem_row hq
    rw [row_set hi]
    split
    · exact o.fwd hp (k _ (row_mem hi)) (k _ (row_mem hs))
    · exact k _ (row_mem (by simpa using hj))
  · intro k q hq
    have kk : ∀ j, j < R.length → p ∣ dot (row (R.set i r) j) x := fun j hj => k _ (row_mem (by simpa using hj))
    obtain ⟨j, hj, rfl⟩ := mem_row hq
    have := kk j hj
    rw [row_set hi] at this
    split at this
    · rename_i e
      subst e
      refine o.bwd hp this fun ne => ?_
      have := kk s hs
      rwa [row_set hi, if_neg (fun z => ne z.symm)] at this
    · exact this
theorem li (hp : Pr p) (o : Op g p w R s i r γ α β) (hg : g = true) (hi : i < R.length) (hs : s < R.length) (L : LI p R) : LI p (R.set i r) := by
  intro y hy
  have hγ := o.g1 hg
  have h1 := L (fun j => y j + ((y i * (α - 1)) * unit i j + (- (y i * β)) * unit s j)) fun x => by
    rw [comb_add R y (fun j => (y i * (α - 1)) * unit i j + (- (y i * β)) * unit s j), comb_add R (fun j => (y i * (α - 1)) * unit i j) (fun j => (- (y i * β)) * unit s j), comb_unit, comb_unit]
    have h2 := hy x
    rw [comb_set R y i r x hi] at h2
    have h3 := o.lin x
    rw [hγ] at h3
    have h4 : p ∣ y i * (1 * dot r x - (α * dot (row R i) x - β * dot (row R s) x)) := Int.dvd_trans h3 (Int.dvd_mul_left _ _)
    have h5 := Int.dvd_sub h2 h4
    have e : comb y R x + y i * (dot r x - dot (row R i) x) - y i * (1 * dot r x - (α * dot (row R i) x - β * dot (row R s) x)) = comb y R x + (y i * (α - 1) * dot (row R i) x + -(y i * β) * dot (row R s) x) := by grind
    rwa [e] at h5
  have hyi : p ∣ y i := by
    have := h1 i hi
    by_cases e : i = s
    · subst e
      simp only [unit, if_true, o.β0 rfl] at this
      have e : y i + (y i * (α - 1) * 1 + -(y i * 0) * 1) = α * y i := by grind
      rw [e] at this
      exact hp.of_mul o.α0 this
    · simp only [unit, if_true, if_neg e] at this
      have e : y i + (y i * (α - 1) * 1 + -(y i * β) * 0) = α * y i := by grind
      rw [e] at this
      exact hp.of_mul o.α0 this
  intro j hj
  have := h1 j (by simpa using hj)
  have h6 : p ∣ y i * (α - 1) * unit i j + -(y i * β) * unit s j := by
    refine Int.dvd_add ?_ ?_
    · rw [Int.mul_assoc]; exact Int.dvd_trans hyi (Int.dvd_mul_right _ _)
    · rw [← Int.mul_neg, Int.mul_assoc]; exact Int.dvd_trans hyi (Int.dvd_mul_right _ _)
  have := Int.dvd_sub this h6
  simp only [Int.add_sub_cancel] at this
  exact this
end Op
theorem Ech.op {g rr : Bool} {p : Int} {w : Nat} {A R : List Row} {c : Nat} {pl : List Nat} (hp : Pr p) (h : Ech g rr p w A c R pl) {i : Nat} {r : Row} {γ α β : Int} (o : Op g p w R pl.length i r γ α β) (hi : i < R.length) (hs : pl.length < R.length) : Ech g rr p w A c (R.set i r) pl where
  li hg L := o.li hp hg hi hs (h.li hg L)
  red hr j k q hq ne := by
    have hqc : q < c := h.lt q (List.mem_of_getElem? hq)
    have hk : k < pl.length := by
      by_cases l : k < pl.length
      · exact l
      · rw [List.getElem?_eq_none (by omega)] at hq; cases hq
    rw [row_set hi]
    split
    · rename_i e
      subst e
      exact o.entF hp (h.red hr j k q hq ne) (h.low _ (Nat.le_refl _) q hqc)
    · exact h.red hr j k q hq ne
  wid s hs := by
    rcases List.mem_or_eq_of_mem_set hs with z | z
    · exact h.wid s z
    · rw [z]; exact o.wid
  ker x := (h.ker x).trans (o.ker hp hi hs x)
  len := by simpa using h.len
  cnt := by simpa using h.cnt
  lead j q hq := by
    have hqc : q < c := h.lt q (List.mem_of_getElem? hq)
    rw [row_set hi]
    split
    · rename_i e
      subst e
      exact fun z => h.lead j q hq (o.entB hp z fun _ => h.low _ (Nat.le_refl _) q hqc)
    · exact h.lead j q hq
  bef j q hq c' hc' := by
    have hqc : q < c := h.lt q (List.mem_of_getElem? hq)
    rw [row_set hi]
    split
    · rename_i e
      subst e
      exact o.entF hp (h.bef j q hq c' hc') (h.low _ (Nat.le_refl _) c' (by omega))
    · exact h.bef j q hq c' hc'
  low j hj c' hc' := by
    rw [row_set hi]
    split
    · rename_i e
      subst e
      exact o.entF hp (h.low j hj c' hc') (h.low _ (Nat.le_refl _) c' hc')
    · exact h.low j hj c' hc'
  inc := h.inc
  lt := h.lt
def swap (R : List Row) (s k : Nat) : List Row := (R.set s (row R k)).set k (row R s)
theorem row_swap {R : List Row} {s k j : Nat} (hs : s < R.length) (hk : k < R.length) : row (swap R s k) j = if j = k then row R s else if j = s then row R k else row R j := by
  unfold swap
  rw [row_set (by simpa using hk), row_set hs]
theorem ker_swap {p : Int} {R : List Row} {s k : Nat} (hs : s < R.length) (hk : k < R.length) (x : Vec) : Ker p R x ↔ Ker p (swap R s k) x := by
  have hl : (swap R s k).length = R.length := by simp [swap]
  constructor
  · intro K r hr
    obtain ⟨j, hj, rfl⟩ := mem_row hr
    rw [row_swap hs hk]
    split
    · exact K _ (row_mem hs)
    · split
      · exact K _ (row_mem hk)
      · exact K _ (row_mem (by omega))
  · intro K r hr
    have kk : ∀ j, j < R.length → p ∣ dot (row (swap R s k) j) x := fun j hj => K _ (row_mem (by omega))
    obtain ⟨j, hj, rfl⟩ := mem_row hr
    by_cases e1 : j = k
    · subst e1
      have := kk s hs
      rw [row_swap hs hk] at this
      by_cases e : s = j
      · subst e; simpa using this
      · simpa [e] using this
    · by_cases e2 : j = s
      · subst e2
        have := kk k hk
        rw [row_swap hs hk] at this
        simpa using this
      · have := kk j hj
        rw [row_swap hs hk, if_neg e1, if_neg e2] at this
        exact this
theorem li_swap {p : Int} {R : List Row} {s k : Nat} (hs : s < R.length) (hk : k < R.length) (L : LI p R) : LI p (swap R s k) := by
  intro y hy
  have h1 := L (fun j => y j + ((y k - y s) * unit s j + (y s - y k) * unit k j)) fun x => by
    rw [comb_add R y (fun j => (y k - y s) * unit s j + (y s - y k) * unit k j), comb_add R (fun j => (y k - y s) * unit s j) (fun j => (y s - y k) * unit k j), comb_unit, comb_unit]
    have h2 := hy x
    unfold swap at h2
    rw [comb_set _ y k _ x (by simpa using hk), comb_set R y s _ x hs, row_set hs] at h2
    by_cases e : k = s
    · subst e
      simp only [if_true] at h2
      have e : comb y R x + ((y k - y k) * dot (row R k) x + (y k - y k) * dot (row R k) x) = comb y R x + y k * (dot (row R k) x - dot (row R k) x) + y k * (dot (row R k) x - dot (row R k) x) := by grind
      rwa [e]
    · rw [if_neg e] at h2
      have e : comb y R x + ((y k - y s) * dot (row R s) x + (y s - y k) * dot (row R k) x) = comb y R x + y s * (dot (row R k) x - dot (row R s) x) + y k * (dot (row R s) x - dot (row R k) x) := by grind
      rwa [e]
  intro j hj
  have hj2 : j < R.length := by simpa [swap] using hj
  by_cases e : k = s
  · subst e
    have := h1 j hj2
    have e : y j + ((y k - y k) * unit k j + (y k - y k) * unit k j) = y j := by grind
    rwa [e] at this
  · by_cases e1 : j = k
    · subst e1
      have := h1 s hs
      have e : y s + ((y j - y s) * unit s s + (y s - y j) * unit j s) = y j := by
        have : unit j s = 0 := by simp [unit]; omega
        simp [this]; simp [unit]; omega
      rwa [e] at this
    · by_cases e2 : j = s
      · subst e2
        have := h1 k hk
        have e : y k + ((y k - y j) * unit j k + (y j - y k) * unit k k) = y j := by
          have : unit j k = 0 := by simp [unit]; omega
          simp [this]; simp [unit]; omega
        rwa [e] at this
      · have := h1 j hj2
        have u1 : unit s j = 0 := by simp [unit]; omega
        have u2 : unit k j = 0 := by simp [unit]; omega
        simpa [u1, u2] using this
theorem Ech.swap {g rr : Bool} {p : Int} {w : Nat} {A R : List Row} {c : Nat} {pl : List Nat} (h : Ech g rr p w A c R pl) {k : Nat} (hk : k < R.length) (hs : pl.length ≤ k) : Ech g rr p w A c (Lin.swap R pl.length k) pl := by
  have hs' : pl.length < R.length := by omega
  have up : ∀ j, j < pl.length → row (Lin.swap R pl.length k) j = row R j := fun j hj => by
    rw [row_swap hs' hk, if_neg (by omega), if_neg (by omega)]
  have dn : ∀ j, pl.length ≤ j → ∃ j', pl.length ≤ j' ∧ row (Lin.swap R pl.length k) j = row R j' := fun j hj => by
    rw [row_swap hs' hk]
    split
    · exact ⟨_, Nat.le_refl _, rfl⟩
    · split
      · exact ⟨_, hs, rfl⟩
      · exact ⟨_, hj, rfl⟩
  have hpl : ∀ {j q : Nat}, pl[j]? = some q → j < pl.length := fun {j q} hq => by
    by_cases l : j < pl.length
    · exact l
    · rw [List.getElem?_eq_none (by omega)] at hq; cases hq
  exact {
    li := fun hg L => li_swap hs' hk (h.li hg L)
    red := fun hr i j q hq ne => by
      have hqc : q < c := h.lt q (List.mem_of_getElem? hq)
      by_cases l : i < pl.length
      · rw [up i l]; exact h.red hr i j q hq ne
      · obtain ⟨i', hi', e⟩ := dn i (by omega)
        rw [e]; exact h.low i' hi' q hqc
    wid := fun r hr => by
      obtain ⟨j, hj, rfl⟩ := mem_row hr
      rw [row_swap hs' hk]
      split
      · exact h.wid _ (row_mem hs')
      · split
        · exact h.wid _ (row_mem hk)
        · exact h.wid _ (row_mem (by simpa [Lin.swap] using hj))
    ker := fun x => (h.ker x).trans (ker_swap hs' hk x)
    len := by simpa [Lin.swap] using h.len
    cnt := by simpa [Lin.swap] using h.cnt
    lead := fun j q hq => by rw [up j (hpl hq)]; exact h.lead j q hq
    bef := fun j q hq => by rw [up j (hpl hq)]; exact h.bef j q hq
    low := fun j hj => by
      obtain ⟨j', hj', e⟩ := dn j hj
      rw [e]; exact h.low j' hj'
    inc := h.inc
    lt := h.lt }
/-- no pivot in this column -/
theorem Ech.skip {g rr : Bool} {p : Int} {w : Nat} {A R : List Row} {c : Nat} {pl : List Nat} (h : Ech g rr p w A c R pl) (hn : ∀ i, pl.length ≤ i → i < R.length → p ∣ ent (row R i) c) : Ech g rr p w A (c + 1) R pl where
  li := h.li
  red := h.red
  wid := h.wid
  ker := h.ker
  len := h.len
  cnt := h.cnt
  lead := h.lead
  bef := h.bef
  low i hi c' hc' := by
    by_cases e : c' = c
    · subst e
      by_cases l : i < R.length
      · exact hn i hi l
      · rw [row_out (by omega)]; simp [ent]
    · exact h.low i hi c' (by omega)
  inc := h.inc
  lt q hq := by have := h.lt q hq; omega
/-- a pivot in this column -/
theorem Ech.take {g rr : Bool} {p : Int} {w : Nat} {A R : List Row} {c : Nat} {pl : List Nat} (h : Ech g rr p w A c R pl) (hs : pl.length < R.length) (hl : ¬ p ∣ ent (row R pl.length) c)
    (hz : ∀ i, i < R.length → i ≠ pl.length → (rr = true ∨ pl.length < i) → p ∣ ent (row R i) c) : Ech g rr p w A (c + 1) R (pl ++ [c]) := by
  have get : ∀ {j q : Nat}, (pl ++ [c])[j]? = some q → pl[j]? = some q ∨ (j = pl.length ∧ q = c) := fun {j q} hq => by
    by_cases l : j < pl.length
    · rw [List.getElem?_append_left l] at hq; exact .inl hq
    · rw [List.getElem?_append_right (by omega)] at hq
      by_cases e : j = pl.length
      · subst e; simp at hq; exact .inr ⟨rfl, hq.symm⟩
      · rw [List.getElem?_eq_none (by simp; omega)] at hq; cases hq
  exact {
    li := h.li
    red := fun hr i j q hq ne => by
      rcases get hq with hq | ⟨rfl, rfl⟩
      · exact h.red hr i j q hq ne
      · by_cases l : i < R.length
        · exact hz i l ne (.inl hr)
        · rw [row_out (by omega)]; simp [ent]
    wid := h.wid
    ker := h.ker
    len := h.len
    cnt := by simp; omega
    lead := fun j q hq => by
      rcases get hq with hq | ⟨rfl, rfl⟩
      · exact h.lead j q hq
      · exact hl
    bef := fun j q hq => by
      rcases get hq with hq | ⟨rfl, rfl⟩
      · exact h.bef j q hq
      · exact fun c' hc' => h.low _ (Nat.le_refl _) c' hc'
    low := fun i hi c' hc' => by
      simp only [List.length_append, List.length_singleton] at hi
      by_cases e : c' = c
      · subst e
        by_cases l : i < R.length
        · exact hz i l (by omega) (.inr (by omega))
        · rw [row_out (by omega)]; simp [ent]
      · exact h.low i (by omega) c' (by omega)
    inc := by
      rw [List.pairwise_append]
      exact ⟨h.inc, by simp, fun a ha b hb => by simp at hb; subst hb; exact h.lt a ha⟩
    lt := fun q hq => by
      simp only [List.mem_append, List.mem_singleton] at hq
      rcases hq with hq | hq
      · have := h.lt q hq; omega
      · omega }
theorem Ech.start {g rr : Bool} {p : Int} {w : Nat} {A R : List Row} (hw : ∀ r ∈ R, r.length = w) (hl : R.length = A.length) (hk : ∀ x, Ker p A x ↔ Ker p R x) (hli : g = true → LI p A → LI p R) : Ech g rr p w A 0 R [] where
  li := hli
  red _ i j q hq := by simp at hq
  wid := hw
  ker := hk
  len := hl
  cnt := by simp
  lead j q hq := by simp at hq
  bef j q hq := by simp at hq
  low i _ c' hc' := by omega
  inc := .nil
  lt q hq := by simp at hq
/-- independent rows: each has a pivot -/
theorem Ech.full {rr : Bool} {p : Int} {w : Nat} {A R : List Row} {pl : List Nat} (hp : Pr p) (h : Ech true rr p w A w R pl) (hA : LI p A) : pl.length = A.length := by
  have hL := h.li rfl hA
  have := h.cnt
  have := h.len
  by_cases e : pl.length < R.length
  · have := hL (fun j => 1 * unit pl.length j) (fun x => by
      rw [comb_unit]
      have : p ∣ dot (row R pl.length) x := dot_nil _ _ fun d => by
        by_cases hd : d < w
        · exact Int.dvd_trans (h.low _ (Nat.le_refl _) d hd) (Int.dvd_mul_right _ _)
        · rw [ent_out (by rw [h.wid _ (row_mem e)]; omega)]; simp
      simpa using this) pl.length e
    simp [unit] at this
    exact absurd this hp.one
  · omega
end Py.Lin

namespace Py.Law
abbrev F__law_full : Nat := 0
abbrev F__law_gcd : Nat := 1
abbrev F__law_rank : Nat := 2
abbrev F__law_take : Nat := 3
abbrev F__law_tape : Nat := 4
abbrev F__law_times : Nat := 5
abbrev F_inverse : Nat := 6
abbrev F_reduced : Nat := 7
abbrev F_kernel_fields : Nat := 8
abbrev F_common : Nat := 9
abbrev F_cleared : Nat := 10
abbrev F_reduced_rows : Nat := 11
abbrev F_kernel_rational : Nat := 12
abbrev F_lowest : Nat := 13
abbrev F_rank_fields : Nat := 14
abbrev F_rank_rational : Nat := 15
abbrev F_solution_fields : Nat := 16
abbrev F_solution_rational : Nat := 17
abbrev F_law : Nat := 18
def b__law_full : List S :=
  [.asg (.nm 0) (.lc (.bi .list (.var 6)) [6] (.nm 6) (.val (.var 0)) []),
  .asg (.nm 2) (.int 0),
  .frr (.nm 3) (.rng (.var 1))
    [.asg (.nm 4) (.lc (.var 5) [5] (.nm 5) (.rng2 (.var 2) (.bi .len (.var 0))) [.cmp .ne (.idx (.idx (.var 0) (.var 5)) (.var 3)) (.int 0)]),
    .iff (.cmp .eq (.var 4) (.lst []))
      [.cnt]
      [],
    .swp 0 (.var 2) (.idx (.var 4) (.int 0)) (.tup [.idx (.var 0) (.idx (.var 4) (.int 0)), .idx (.var 0) (.var 2)]),
    .frr (.nm 5) (.rng2 (.bin .add (.var 2) (.int 1)) (.bi .len (.var 0)))
      [.asg (.tp [7, 8]) (.tup [.idx (.idx (.var 0) (.var 2)) (.var 3), .idx (.idx (.var 0) (.var 5)) (.var 3)]),
      .six 0 (.var 5) (.lc (.bin .sub (.bin .mul (.var 7) (.var 9)) (.bin .mul (.var 8) (.var 10))) [9, 10] (.tp [9, 10]) (.zip (.idx (.var 0) (.var 5)) (.idx (.var 0) (.var 2))) [])],
    .asg (.nm 2) (.bin .add (.var 2) (.int 1))],
  .ret (.var 2)]
def b__law_gcd : List S :=
  [.par [0, 1] [.bi .abs (.var 0), .bi .abs (.var 1)],
  .whl (.cmp .gt (.var 1) (.int 0))
    [.par [0, 1] [.var 1, .bin .mod (.bi .int (.var 0)) (.var 1)]],
  .ret (.var 0)]
def b__law_rank : List S :=
  [.asg (.nm 0) (.lc (.lc (.bin .mod (.bi .int (.var 10)) (.var 1)) [10] (.nm 10) (.val (.var 8)) []) [8] (.nm 8) (.val (.var 0)) []),
  .asg (.nm 2) (.int 0),
  .asg (.nm 3) (.ite (.cmp .ne (.var 0) (.lst [])) (.bi .len (.idx (.var 0) (.int 0))) (.int 0)),
  .frr (.nm 4) (.rng (.var 3))
    [.asg (.nm 5) (.lc (.var 7) [7] (.nm 7) (.rng2 (.var 2) (.bi .len (.var 0))) [.cmp .ne (.idx (.idx (.var 0) (.var 7)) (.var 4)) (.int 0)]),
    .iff (.cmp .eq (.var 5) (.lst []))
      [.cnt]
      [],
    .swp 0 (.var 2) (.idx (.var 5) (.int 0)) (.tup [.idx (.var 0) (.idx (.var 5) (.int 0)), .idx (.var 0) (.var 2)]),
    .asg (.nm 6) (.idx (.lc (.var 7) [7] (.nm 7) (.rng2 (.int 1) (.var 1)) [.cmp .eq (.bin .mod (.bi .int (.bin .mul (.var 7) (.idx (.idx (.var 0) (.var 2)) (.var 4)))) (.var 1)) (.int 1)]) (.int 0)),
    .six 0 (.var 2) (.lc (.bin .mod (.bi .int (.bin .mul (.var 10) (.var 6))) (.var 1)) [10] (.nm 10) (.val (.idx (.var 0) (.var 2))) []),
    .frr (.nm 7) (.rng (.bi .len (.var 0)))
      [.asg (.nm 9) (.idx (.idx (.var 0) (.var 7)) (.var 4)),
      .iff (.and (.cmp .ne (.var 7) (.var 2)) (.cmp .ne (.var 9) (.int 0)))
        [.six 0 (.var 7) (.lc (.bin .mod (.bi .int (.bin .sub (.var 10) (.bin .mul (.var 9) (.var 11)))) (.var 1)) [10, 11] (.tp [10, 11]) (.zip (.idx (.var 0) (.var 7)) (.idx (.var 0) (.var 2))) [])]
        []],
    .asg (.nm 2) (.bin .add (.var 2) (.int 1))],
  .ret (.var 2)]
def b__law_take : List S :=
  [.iff (.and (.cmp .eq (.tge 0 1) (.int 0)) (.cmp .lt (.tge 0 0) (.tln 0)))
    [.tse 0 1 (.tce 0 (.tge 0 0)),
    .tse 0 0 (.bin .add (.tge 0 0) (.int 1))]
    [],
  .iff (.cmp .gt (.tge 0 1) (.int 0))
    [.asg (.nm 3) (.bin .mod (.bi .int (.tge 0 1)) (.var 1)),
    .tse 0 1 (.bin .fdiv (.tge 0 1) (.var 1)),
    .ret (.var 3)]
    [],
  .tse 0 3 (.bin .add (.tge 0 3) (.int 1)),
  .asg (.nm 2) (.bin .mod (.bi .int (.bin .add (.bin .mul (.tge 0 2) (.int 48271)) (.bin .mul (.tge 0 3) (.int 69621)))) (.int 2147483647)),
  .asg (.nm 2) (.bin .mod (.bi .int (.bin .add (.bin .add (.bin .mul (.var 2) (.var 2)) (.bin .mul (.tge 0 3) (.int 40692))) (.int 12345))) (.int 2147483399)),
  .ret (.bin .mod (.bi .int (.var 2)) (.var 1))]
def b__law_tape : List S :=
  [.asg (.nm 1) (.lc (.bi .abs (.bi .int (.var 3))) [3] (.nm 3) (.val (.var 0)) []),
  .asg (.nm 2) (.int 7),
  .fra (.nm 3) (.val (.var 1)) 2 (.bin .mod (.bi .int (.bin .add (.bin .mul (.var 2) (.int 31)) (.var 3))) (.int 2147483647)),
  .rtp 1 2]
def b__law_times : List S :=
  [.ret (.lc (.bi .sum (.lc (.bin .mul (.var 3) (.var 4)) [3, 4] (.tp [3, 4]) (.zip (.var 2) (.var 1)) [])) [2] (.nm 2) (.val (.var 0)) [])]
def b_inverse : List S :=
  [.ret (.idx (.lc (.var 2) [2] (.nm 2) (.rng2 (.int 1) (.var 1)) [.cmp .eq (.bin .mod (.bin .mul (.var 0) (.var 2)) (.var 1)) (.int 1)]) (.int 0))]
def b_reduced : List S :=
  [.asg (.nm 3) (.lc (.lc (.bin .mod (.var 11) (.var 2)) [11] (.nm 11) (.val (.var 9)) []) [9] (.nm 9) (.val (.var 0)) []),
  .asg (.nm 4) (.lst []),
  .asg (.nm 5) (.int 0),
  .frr (.nm 6) (.rng (.var 1))
    [.asg (.nm 7) (.lc (.var 10) [10] (.nm 10) (.rng2 (.var 5) (.bi .len (.var 3))) [.cmp .ne (.idx (.idx (.var 3) (.var 10)) (.var 6)) (.int 0)]),
    .iff (.not (.var 7))
      [.cnt]
      [],
    .swp 3 (.var 5) (.idx (.var 7) (.int 0)) (.tup [.idx (.var 3) (.idx (.var 7) (.int 0)), .idx (.var 3) (.var 5)]),
    .asg (.nm 8) (.call F_inverse [.idx (.idx (.var 3) (.var 5)) (.var 6), .var 2]),
    .six 3 (.var 5) (.lc (.bin .mod (.bin .mul (.var 11) (.var 8)) (.var 2)) [11] (.nm 11) (.val (.idx (.var 3) (.var 5))) []),
    .frr (.tp [10, 9]) (.enm (.bi .list (.var 3)))
      [.iff (.and (.cmp .ne (.var 10) (.var 5)) (.cmp .ne (.idx (.var 9) (.var 6)) (.int 0)))
        [.asg (.nm 12) (.idx (.var 9) (.var 6)),
        .six 3 (.var 10) (.lc (.bin .mod (.bin .sub (.var 11) (.bin .mul (.var 12) (.var 13))) (.var 2)) [11, 13] (.tp [11, 13]) (.zip (.var 9) (.idx (.var 3) (.var 5))) [])]
        []],
    .app 4 (.var 6),
    .aug 5 .add (.int 1)],
  .ret (.tup [.slU (.var 3) (.var 5), .var 4])]
def b_kernel_fields : List S :=
  [.asg (.tp [5, 6]) (.call F_reduced [.var 0, .var 1, .var 2]),
  .asg (.nm 3) (.lst []),
  .frr (.nm 4) (.rng (.var 1))
    [.iff (.cmp .isin (.var 4) (.var 6))
      [.cnt]
      [],
    .asg (.nm 7) (.bin .mul (.lst [.int 0]) (.var 1)),
    .six 7 (.var 4) (.int 1),
    .frr (.tp [8, 9]) (.zip (.var 5) (.var 6))
      [.six 7 (.var 9) (.bin .mod (.neg (.idx (.var 8) (.var 4))) (.var 2))],
    .app 3 (.var 7)],
  .ret (.var 3)]
def b_common : List S :=
  [.asg (.tp [2, 3]) (.tup [.tup [.int 1, .int 0], .tup [.int 0, .int 1]]),
  .whl (.cmp .ne (.var 1) (.int 0))
    [.asg (.nm 4) (.bin .fdiv (.var 0) (.var 1)),
    .par [0, 1] [.var 1, .bin .sub (.var 0) (.bin .mul (.var 4) (.var 1))],
    .par [2, 3] [.var 3, .tup [.bin .sub (.idx (.var 2) (.int 0)) (.bin .mul (.var 4) (.idx (.var 3) (.int 0))), .bin .sub (.idx (.var 2) (.int 1)) (.bin .mul (.var 4) (.idx (.var 3) (.int 1)))]]],
  .ret (.ite (.cmp .ge (.var 0) (.int 0)) (.tup [.var 0, .idx (.var 2) (.int 0), .idx (.var 2) (.int 1)]) (.tup [.neg (.var 0), .neg (.idx (.var 2) (.int 0)), .neg (.idx (.var 2) (.int 1))]))]
def b_cleared : List S :=
  [.asg (.nm 1) (.int 0),
  .fra (.nm 2) (.val (.var 0)) 1 (.idx (.call F_common [.var 1, .var 2]) (.int 0)),
  .ret (.ite (.cmp .gt (.var 1) (.int 1)) (.lc (.bin .fdiv (.var 2) (.var 1)) [2] (.nm 2) (.val (.var 0)) []) (.bi .list (.var 0)))]
def b_reduced_rows : List S :=
  [.asg (.nm 2) (.lc (.call F_cleared [.var 8]) [8] (.nm 8) (.val (.var 0)) []),
  .asg (.nm 3) (.lst []),
  .asg (.nm 4) (.int 0),
  .frr (.nm 5) (.rng (.var 1))
    [.asg (.nm 6) (.lc (.var 9) [9] (.nm 9) (.rng2 (.var 4) (.bi .len (.var 2))) [.cmp .ne (.idx (.idx (.var 2) (.var 9)) (.var 5)) (.int 0)]),
    .iff (.not (.var 6))
      [.cnt]
      [],
    .swp 2 (.var 4) (.idx (.var 6) (.int 0)) (.tup [.idx (.var 2) (.idx (.var 6) (.int 0)), .idx (.var 2) (.var 4)]),
    .iff (.cmp .lt (.idx (.idx (.var 2) (.var 4)) (.var 5)) (.int 0))
      [.six 2 (.var 4) (.lc (.neg (.var 11)) [11] (.nm 11) (.val (.idx (.var 2) (.var 4))) [])]
      [],
    .asg (.nm 7) (.idx (.idx (.var 2) (.var 4)) (.var 5)),
    .frr (.tp [9, 8]) (.enm (.bi .list (.var 2)))
      [.iff (.and (.cmp .ne (.var 9) (.var 4)) (.cmp .ne (.idx (.var 8) (.var 5)) (.int 0)))
        [.asg (.nm 10) (.idx (.var 8) (.var 5)),
        .six 2 (.var 9) (.call F_cleared [.lc (.bin .sub (.bin .mul (.var 7) (.var 11)) (.bin .mul (.var 10) (.var 12))) [11, 12] (.tp [11, 12]) (.zip (.var 8) (.idx (.var 2) (.var 4))) []])]
        []],
    .app 3 (.var 5),
    .aug 4 .add (.int 1)],
  .ret (.tup [.slU (.var 2) (.var 4), .var 3])]
def b_kernel_rational : List S :=
  [.asg (.tp [4, 5]) (.call F_reduced_rows [.var 0, .var 1]),
  .asg (.nm 2) (.lst []),
  .frr (.nm 3) (.rng (.var 1))
    [.iff (.cmp .isin (.var 3) (.var 5))
      [.cnt]
      [],
    .asg (.nm 6) (.int 1),
    .fra (.tp [8, 9]) (.zip (.var 4) (.var 5)) 6 (.bin .mul (.var 6) (.bin .fdiv (.idx (.var 8) (.var 9)) (.idx (.call F_common [.var 6, .idx (.var 8) (.var 9)]) (.int 0)))),
    .asg (.nm 7) (.bin .mul (.lst [.int 0]) (.var 1)),
    .six 7 (.var 3) (.var 6),
    .frr (.tp [8, 9]) (.zip (.var 4) (.var 5))
      [.six 7 (.var 9) (.bin .fdiv (.bin .mul (.neg (.idx (.var 8) (.var 3))) (.var 6)) (.idx (.var 8) (.var 9)))],
    .app 2 (.call F_cleared [.var 7])],
  .ret (.var 2)]
def b_lowest : List S :=
  [.asg (.nm 2) (.var 1),
  .fra (.nm 3) (.val (.var 0)) 2 (.idx (.call F_common [.var 2, .var 3]) (.int 0)),
  .iff (.cmp .lt (.var 1) (.int 0))
    [.asg (.nm 2) (.neg (.var 2))]
    [],
  .ret (.tup [.bi .tuple (.lc (.bin .fdiv (.var 3) (.var 2)) [3] (.nm 3) (.val (.var 0)) []), .bin .fdiv (.var 1) (.var 2)])]
def b_rank_fields : List S :=
  [.ret (.bi .len (.idx (.call F_reduced [.var 0, .var 1, .var 2]) (.int 1)))]
def b_rank_rational : List S :=
  [.ret (.bi .len (.idx (.call F_reduced_rows [.var 0, .var 1]) (.int 1)))]
def b_solution_fields : List S :=
  [.asg (.tp [5, 6]) (.call F_reduced [.lc (.bin .add (.bi .list (.var 7)) (.lst [.var 9])) [7, 9] (.tp [7, 9]) (.zip (.var 0) (.var 2)) [], .bin .add (.var 1) (.int 1), .var 3]),
  .iff (.cmp .isin (.var 1) (.var 6))
    [.ret (.non)]
    [],
  .asg (.nm 4) (.bin .mul (.lst [.int 0]) (.var 1)),
  .frr (.tp [7, 8]) (.zip (.var 5) (.var 6))
    [.six 4 (.var 8) (.idx (.var 7) (.var 1))],
  .ret (.var 4)]
def b_solution_rational : List S :=
  [.asg (.tp [5, 6]) (.call F_reduced_rows [.lc (.bin .add (.bi .list (.var 7)) (.lst [.var 9])) [7, 9] (.tp [7, 9]) (.zip (.var 0) (.var 2)) [], .bin .add (.var 1) (.int 1)]),
  .iff (.cmp .isin (.var 1) (.var 6))
    [.ret (.non)]
    [],
  .asg (.nm 3) (.int 1),
  .fra (.tp [7, 8]) (.zip (.var 5) (.var 6)) 3 (.bin .mul (.var 3) (.bin .fdiv (.idx (.var 7) (.var 8)) (.idx (.call F_common [.var 3, .idx (.var 7) (.var 8)]) (.int 0)))),
  .asg (.nm 4) (.bin .mul (.lst [.int 0]) (.var 1)),
  .frr (.tp [7, 8]) (.zip (.var 5) (.var 6))
    [.six 4 (.var 8) (.bin .fdiv (.bin .mul (.idx (.var 7) (.var 1)) (.var 3)) (.idx (.var 7) (.var 8)))],
  .ret (.call F_lowest [.var 4, .var 3])]
def b_law : List S :=
  [.asg (.nm 1) (.call F__law_tape [.var 0]),
  .frr (.nm 2) (.rng (.int 3))
    [.asg (.tp [12, 13]) (.tup [.bin .add (.int 1) (.call F__law_take [.var 1, .int 4]), .bin .add (.int 1) (.call F__law_take [.var 1, .int 4])]),
    .asg (.nm 3) (.lc (.lc (.ite (.cmp .gt (.call F__law_take [.var 1, .int 3]) (.int 0)) (.bin .sub (.call F__law_take [.var 1, .int 9]) (.int 4)) (.int 0)) [19] (.nm 19) (.rng (.var 13)) []) [18] (.nm 18) (.rng (.var 12)) []),
    .asg (.nm 4) (.call F__law_times [.var 3, .lc (.bin .sub (.call F__law_take [.var 1, .int 7]) (.int 3)) [19] (.nm 19) (.rng (.var 13)) []]),
    .iff (.cmp .eq (.call F__law_take [.var 1, .int 2]) (.int 0))
      [.asg (.nm 4) (.lc (.bin .sub (.call F__law_take [.var 1, .int 9]) (.int 4)) [18] (.nm 18) (.rng (.var 12)) [])]
      [],
    .asg (.nm 5) (.lc (.bin .add (.var 14) (.lst [.var 20])) [14, 20] (.tp [14, 20]) (.zip (.var 3) (.var 4)) []),
    .frr (.nm 6) (.val (.tup [.int 2, .int 3, .int 5, .int 7]))
      [.asg (.nm 7) (.call F__law_rank [.var 3, .var 6]),
      .iff (.cmp .ne (.call F_rank_fields [.var 3, .var 13, .var 6]) (.var 7))
        [.ret (.bl false)]
        [],
      .asg (.nm 8) (.call F_kernel_fields [.var 3, .var 13, .var 6]),
      .iff (.or (.cmp .ne (.bi .len (.var 8)) (.bin .sub (.var 13) (.var 7))) (.cmp .ne (.call F__law_rank [.var 8, .var 6]) (.bi .len (.var 8))))
        [.ret (.bl false)]
        [],
      .iff (.bi .any (.lc (.or (.bi .any (.lc (.cmp .ne (.bin .mod (.bi .int (.var 20)) (.var 6)) (.int 0)) [20] (.nm 20) (.val (.call F__law_times [.var 3, .var 21])) [])) (.bi .any (.lc (.not (.chn .le .lt (.int 0) (.var 20) (.var 6))) [20] (.nm 20) (.val (.var 21)) []))) [21] (.nm 21) (.val (.var 8)) []))
        [.ret (.bl false)]
        [],
      .asg (.nm 9) (.call F_solution_fields [.var 3, .var 13, .var 4, .var 6]),
      .iff (.cmp .ne (.cmp .is (.var 9) (.non)) (.cmp .gt (.call F__law_rank [.var 5, .var 6]) (.var 7)))
        [.ret (.bl false)]
        [],
      .iff (.and (.cmp .isnot (.var 9) (.non)) (.bi .any (.lc (.cmp .ne (.bin .mod (.bi .int (.bin .sub (.var 20) (.var 22))) (.var 6)) (.int 0)) [20, 22] (.tp [20, 22]) (.zip (.call F__law_times [.var 3, .var 9]) (.var 4)) [])))
        [.ret (.bl false)]
        []],
    .asg (.nm 7) (.call F__law_full [.var 3, .var 13]),
    .asg (.nm 8) (.call F_kernel_rational [.var 3, .var 13]),
    .iff (.or (.cmp .ne (.call F_rank_rational [.var 3, .var 13]) (.var 7)) (.or (.cmp .ne (.bi .len (.var 8)) (.bin .sub (.var 13) (.var 7))) (.or (.cmp .ne (.call F__law_full [.var 8, .var 13]) (.bi .len (.var 8))) (.bi .any (.lc (.bi .any (.call F__law_times [.var 3, .var 21])) [21] (.nm 21) (.val (.var 8)) [])))))
      [.ret (.bl false)]
      [],
    .asg (.nm 9) (.call F_solution_rational [.var 3, .var 13, .var 4]),
    .iff (.cmp .ne (.cmp .is (.var 9) (.non)) (.cmp .gt (.call F__law_full [.var 5, .bin .add (.var 13) (.int 1)]) (.var 7)))
      [.ret (.bl false)]
      [],
    .iff (.cmp .isnot (.var 9) (.non))
      [.asg (.tp [16, 15]) (.var 9),
      .asg (.nm 10) (.var 15),
      .fra (.nm 11) (.val (.var 16)) 10 (.call F__law_gcd [.var 10, .var 11]),
      .iff (.or (.cmp .lt (.var 15) (.int 1)) (.or (.cmp .ne (.var 10) (.int 1)) (.cmp .ne (.call F__law_times [.var 3, .var 16]) (.lc (.bin .mul (.var 20) (.var 15)) [20] (.nm 20) (.val (.var 4)) []))))
        [.ret (.bl false)]
        []]
      [],
    .asg (.tp [14, 15]) (.tup [.lc (.bin .sub (.call F__law_take [.var 1, .int 30]) (.int 15)) [19] (.nm 19) (.rng (.var 13)) [], .idx (.lst [.int 1, .neg (.int 2), .int 6, .neg (.int 9)]) (.call F__law_take [.var 1, .int 4])]),
    .asg (.tp [16, 17]) (.call F_lowest [.var 14, .var 15]),
    .asg (.nm 10) (.var 17),
    .fra (.nm 11) (.val (.var 16)) 10 (.call F__law_gcd [.var 10, .var 11]),
    .iff (.or (.cmp .lt (.var 17) (.int 1)) (.or (.cmp .ne (.var 10) (.int 1)) (.cmp .ne (.lc (.bin .mul (.var 11) (.var 15)) [11] (.nm 11) (.val (.var 16)) []) (.lc (.bin .mul (.var 20) (.var 17)) [20] (.nm 20) (.val (.var 14)) []))))
      [.ret (.bl false)]
      []],
  .ret (.bl true)]
def PF : List Fn := [⟨2, 11, b__law_full, 1⟩, ⟨2, 2, b__law_gcd, 0⟩, ⟨2, 12, b__law_rank, 1⟩, ⟨2, 4, b__law_take, 1⟩, ⟨1, 4, b__law_tape, 9⟩, ⟨2, 5, b__law_times, 9⟩, ⟨2, 3, b_inverse, 0⟩, ⟨3, 14, b_reduced, 1⟩, ⟨3, 10, b_kernel_fields, 1⟩, ⟨2, 5, b_common, 1⟩, ⟨1, 3, b_cleared, 1⟩, ⟨2, 13, b_reduced_rows, 1⟩, ⟨2, 10, b_kernel_rational, 1⟩, ⟨2, 4, b_lowest, 1⟩, ⟨3, 3, b_rank_fields, 9⟩, ⟨2, 2, b_rank_rational, 9⟩, ⟨4, 10, b_solution_fields, 1⟩, ⟨3, 10, b_solution_rational, 1⟩, ⟨1, 23, b_law, 9⟩]
end Py.Law

namespace Py.Wa
open Lin
theorem zlen {xs ys : List D} {n : Nat} (h : xs.length ≤ n) : (zipL xs ys).length ≤ n := by
  have : ∀ (xs ys : List D), (zipL xs ys).length ≤ xs.length := by
    intro xs
    induction xs with
    | nil => intro ys; simp [zipL]
    | cons x xs ih => intro ys; cases ys with
      | nil => simp [zipL]
      | cons y ys => simp [zipL, ih ys]
  exact Nat.le_trans (this xs ys) h
abbrev tim (m : List (List Int)) (x : List Int) : List Int := m.map fun r => (List.zipWith (· * ·) r x).sum
theorem zip_map_eq (f : Int → Int → Int) (r x : List Int) : (List.zip r x).map (fun p => f p.1 p.2) = List.zipWith f r x := by
  rw [List.zip_eq_zipWith, List.map_zipWith]
theorem law_times (cf : CF) (m : List (List Int)) (x : List Int) (τ : Tp) (hm : ∀ r ∈ m, ∀ e ∈ r, smallI e) (hx : ∀ e ∈ x, smallI e) (h1 : m.length ≤ LIM) (h2 : ∀ r ∈ m, r.length ≤ LIM) :
    run cf 5 Law.b__law_times [dM m, dI x] τ = .ok (dI (tim m x)) τ := by
  simp [run, Law.b__law_times, start, List.replicate, h1]
  rw [lcRun_all dI (fun r => .int (List.zipWith (· * ·) r x).sum) m]
  · simp [tim, Function.comp_def]
  · intro r hr
    refine ⟨_, rfl, ?_⟩
    simp [zlen (show (r.map D.int).length ≤ LIM by simpa using h2 r hr)]
    rw [zipL_map, lcRun_all _ (fun p => .int (p.1 * p.2))]
    · have := bi1_sum (List.zipWith (· * ·) r x)
      rw [← zip_map_eq] at this
      simp [Function.comp_def] at this ⊢
      simp [this]
      rw [← zip_map_eq (· * ·)]
    · intro p hp
      have hp' := List.of_mem_zip (a := p.1) (b := p.2) hp
      exact ⟨_, rfl, by simp [binop_mul (hm r hr _ hp'.1) (hx _ hp'.2)]⟩
theorem law_timesT (cf : CF) (m : List (List Int)) (x : List Int) (τ : Tp) (hm : ∀ r ∈ m, ∀ e ∈ r, smallI e) (hx : ∀ e ∈ x, smallI e) (h1 : m.length ≤ LIM) (h2 : ∀ r ∈ m, r.length ≤ LIM) :
    run cf 5 Law.b__law_times [dM m, tI x] τ = .ok (dI (tim m x)) τ := by
  simp [run, Law.b__law_times, start, List.replicate, h1]
  rw [lcRun_all dI (fun r => .int (List.zipWith (· * ·) r x).sum) m]
  · simp [tim, Function.comp_def]
  · intro r hr
    refine ⟨_, rfl, ?_⟩
    simp [zlen (show (r.map D.int).length ≤ LIM by simpa using h2 r hr)]
    rw [zipL_map, lcRun_all _ (fun p => .int (p.1 * p.2))]
    · have := bi1_sum (List.zipWith (· * ·) r x)
      rw [← zip_map_eq] at this
      simp [Function.comp_def] at this ⊢
      simp [this]
      rw [← zip_map_eq (· * ·)]
    · intro p hp
      have hp' := List.of_mem_zip (a := p.1) (b := p.2) hp
      exact ⟨_, rfl, by simp [binop_mul (hm r hr _ hp'.1) (hx _ hp'.2)]⟩
/-! ### inverse -/
theorem inverse_ok (cf : CF) (τ : Tp) (p n : Int) (hp : p = 2 ∨ p = 3 ∨ p = 5 ∨ p = 7) (h0 : 0 < n) (h1 : n < p) : ∃ k, run cf 3 Law.b_inverse [.int n, .int p] τ = .ok (.int k) τ ∧ 0 < k ∧ k < p ∧ p ∣ n * k - 1 := by
  have : (p = 2 ∧ n = 1) ∨ (p = 3 ∧ (n = 1 ∨ n = 2)) ∨ (p = 5 ∧ (n = 1 ∨ n = 2 ∨ n = 3 ∨ n = 4)) ∨ (p = 7 ∧ (n = 1 ∨ n = 2 ∨ n = 3 ∨ n = 4 ∨ n = 5 ∨ n = 6)) := by omega
  rcases this with ⟨rfl, rfl⟩ | ⟨rfl, rfl | rfl⟩ | ⟨rfl, rfl | rfl | rfl | rfl⟩ | ⟨rfl, rfl | rfl | rfl | rfl | rfl | rfl⟩
  · exact ⟨1, rfl, by decide⟩
  · exact ⟨1, rfl, by decide⟩
  · exact ⟨2, rfl, by decide⟩
  · exact ⟨1, rfl, by decide⟩
  · exact ⟨3, rfl, by decide⟩
  · exact ⟨2, rfl, by decide⟩
  · exact ⟨4, rfl, by decide⟩
  · exact ⟨1, rfl, by decide⟩
  · exact ⟨4, rfl, by decide⟩
  · exact ⟨5, rfl, by decide⟩
  · exact ⟨2, rfl, by decide⟩
  · exact ⟨3, rfl, by decide⟩
  · exact ⟨6, rfl, by decide⟩
theorem Pr_of (p : Nat) (hp : 1 < p) (h : ∀ d, d ∣ p → d = 1 ∨ d = p) : Pr (p : Int) where
  mul a b hab := by
    rcases h (Int.gcd p a) (by have := Int.gcd_dvd_natAbs_left (p : Int) a; simpa using this) with e | e
    · refine .inr (Int.natAbs_dvd_natAbs.mp ?_)
      have h1 := Int.natAbs_dvd_natAbs.mpr hab
      rw [Int.natAbs_mul] at h1
      exact Nat.Coprime.dvd_of_dvd_mul_left (show Nat.Coprime (p : Int).natAbs a.natAbs from e) h1
    · refine .inl ?_
      have := Int.gcd_dvd_right (a := (p : Int)) (b := a)
      rwa [e] at this
  one h := by
    have := Int.le_of_dvd (by decide) h
    omega
theorem dvd_dec (p : Nat) (h0 : 0 < p) (h : ∀ d, d < p + 1 → d ∣ p → d = 1 ∨ d = p) : ∀ d, d ∣ p → d = 1 ∨ d = p := fun d hd => h d (Nat.lt_succ_of_le (Nat.le_of_dvd h0 hd)) hd
theorem Pr_small {p : Int} (hp : p = 2 ∨ p = 3 ∨ p = 5 ∨ p = 7) : Pr p := by
  rcases hp with rfl | rfl | rfl | rfl
  · exact Pr_of 2 (by decide) (dvd_dec 2 (by decide) (by decide))
  · exact Pr_of 3 (by decide) (dvd_dec 3 (by decide) (by decide))
  · exact Pr_of 5 (by decide) (dvd_dec 5 (by decide) (by decide))
  · exact Pr_of 7 (by decide) (dvd_dec 7 (by decide) (by decide))
theorem Pr_zero : Pr 0 where
  mul a b h := by
    have := Int.zero_dvd.mp h
    rcases Int.mul_eq_zero.mp this with z | z
    · exact .inl (Int.zero_dvd.mpr z)
    · exact .inr (Int.zero_dvd.mpr z)
  one h := by have := Int.zero_dvd.mp h; omega
/-! ### rows and matrices in slots -/
abbrev dN (xs : List Nat) : D := .lst (xs.map fun (k : Nat) => D.int (k : Int))
theorem dM_get {R : List Row} {k : Nat} (h : k < R.length) : (R.map dI)[k]? = some (dI (row R k)) := by
  rw [List.getElem?_map, List.getElem?_eq_getElem h]
  simp [row, List.getD_eq_getElem?_getD, List.getElem?_eq_getElem h]
theorem dI_get {r : Row} {k : Nat} (h : k < r.length) : (r.map D.int)[k]? = some (.int (ent r k)) := by
  rw [List.getElem?_map, List.getElem?_eq_getElem h]
  simp [ent, List.getD_eq_getElem?_getD, List.getElem?_eq_getElem h]
theorem dM_set (R : List Row) (k : Nat) (r : Row) : (R.map dI).set k (dI r) = (R.set k r).map dI := by simp [List.map_set]
theorem ent_mem {r : Row} {k : Nat} (h : k < r.length) : ent r k ∈ r := by
  unfold ent; rw [List.getD_eq_getElem?_getD, List.getElem?_eq_getElem h]; simp
theorem dot_zipWith {p γ α β : Int} (f : Int → Int → Int) (hf : ∀ a b, p ∣ γ * f a b - (α * a - β * b)) : ∀ (r g : Row), r.length = g.length → ∀ x : Vec, p ∣ γ * dot (List.zipWith f r g) x - (α * dot r x - β * dot g x)
  | [], [], _, x => by simp [dot]
  | a :: r, b :: g, h, x => by
    have ih := dot_zipWith f hf r g (by simpa using h) fun i => x (i + 1)
    have h0 : p ∣ (γ * f a b - (α * a - β * b)) * x 0 := Int.dvd_trans (hf a b) (Int.dvd_mul_right _ _)
    have := Int.dvd_add h0 ih
    simp only [List.zipWith_cons_cons, dot]
    have e : (γ * f a b - (α * a - β * b)) * x 0 + (γ * dot (List.zipWith f r g) (fun i => x (i + 1)) - (α * dot r (fun i => x (i + 1)) - β * dot g fun i => x (i + 1))) = γ * (f a b * x 0 + dot (List.zipWith f r g) fun i => x (i + 1)) - (α * (a * x 0 + dot r fun i => x (i + 1)) - β * (b * x 0 + dot g fun i => x (i + 1))) := by grind
    rwa [e] at this
theorem dot_map {p γ α : Int} (f : Int → Int) (hf : ∀ a, p ∣ γ * f a - α * a) : ∀ (r : Row), ∀ x : Vec, p ∣ γ * dot (r.map f) x - α * dot r x
  | [], x => by simp [dot]
  | a :: r, x => by
    have ih := dot_map f hf r fun i => x (i + 1)
    have h0 : p ∣ (γ * f a - α * a) * x 0 := Int.dvd_trans (hf a) (Int.dvd_mul_right _ _)
    have := Int.dvd_add h0 ih
    simp only [List.map_cons, dot]
    have e : (γ * f a - α * a) * x 0 + (γ * dot (r.map f) (fun i => x (i + 1)) - α * dot r (fun i => x (i + 1))) = γ * (f a * x 0 + dot (r.map f) fun i => x (i + 1)) - α * (a * x 0 + dot r fun i => x (i + 1)) := by grind
    rwa [e] at this
theorem dvd_emod_sub (a p : Int) : p ∣ a % p - a := by
  have := Int.emod_add_mul_ediv a p
  exact ⟨-(a / p), by grind⟩
def Rng (p : Int) (R : List Row) : Prop := ∀ r ∈ R, ∀ e ∈ r, 0 ≤ e ∧ e < p
theorem Rng.set {p : Int} {R : List Row} (h : Rng p R) {i : Nat} {r : Row} (hr : ∀ e ∈ r, 0 ≤ e ∧ e < p) : Rng p (R.set i r) := fun s hs => by
  rcases List.mem_or_eq_of_mem_set hs with z | z
  · exact h s z
  · rw [z]; exact hr
theorem Rng.swap {p : Int} {R : List Row} (h : Rng p R) {s k : Nat} (hs : s < R.length) (hk : k < R.length) : Rng p (Lin.swap R s k) :=
  (h.set (h _ (row_mem hk))).set (h _ (row_mem hs))
theorem Rng.ent0 {p : Int} {R : List Row} (h : Rng p R) {i c : Nat} (hd : p ∣ ent (row R i) c) : ent (row R i) c = 0 := by
  by_cases hi : i < R.length
  · by_cases hc : c < (row R i).length
    · have := h _ (row_mem hi) _ (ent_mem hc)
      obtain ⟨k, hk⟩ := hd
      have : k = 0 := by
        by_cases z : k = 0
        · exact z
        · have hp : 0 < p := by omega
          by_cases k0 : 0 < k
          · have : p * 1 ≤ p * k := Int.mul_le_mul_of_nonneg_left (by omega) (by omega)
            omega
          · have : p * k ≤ p * (-1) := Int.mul_le_mul_of_nonneg_left (by omega) (by omega)
            omega
      rw [hk, this]; simp
    · exact ent_out (by omega)
  · rw [row_out (by omega)]; rfl
theorem Rng.dvd {p : Int} {R : List Row} (h : Rng p R) {i c : Nat} : p ∣ ent (row R i) c ↔ ent (row R i) c = 0 := ⟨h.ent0, fun e => by rw [e]; simp⟩
theorem swap_len (R : List Row) (s k : Nat) : (Lin.swap R s k).length = R.length := by simp [Lin.swap]
/-- the pivots are ones -/
def Mon (p : Int) (R : List Row) (pl : List Nat) : Prop := ∀ j q, pl[j]? = some q → p ∣ ent (row R j) q - 1
theorem map_mod_mem {p : Int} (hp : 0 < p) (f : Int → Int) {r : Row} {e : Int} (h : e ∈ r.map fun a => f a % p) : 0 ≤ e ∧ e < p := by
  obtain ⟨a, _, rfl⟩ := List.mem_map.mp h
  exact ⟨Int.emod_nonneg _ (by omega), Int.emod_lt_of_pos _ hp⟩
theorem zip_mod_mem {p : Int} (hp : 0 < p) (f : Int → Int → Int) : ∀ {r g : Row} {e : Int}, e ∈ List.zipWith (fun a b => f a b % p) r g → 0 ≤ e ∧ e < p
  | [], _, e, h => by simp at h
  | _ :: _, [], e, h => by simp at h
  | a :: r, b :: g, e, h => by
    simp only [List.zipWith_cons_cons, List.mem_cons] at h
    rcases h with rfl | h
    · exact ⟨Int.emod_nonneg _ (by omega), Int.emod_lt_of_pos _ hp⟩
    · exact zip_mod_mem hp f h
/-- what an elimination modulo p holds -/
structure PS (p : Int) (w : Nat) (A : List Row) (c : Nat) (R : List Row) (pl : List Nat) : Prop where
  e : Ech true true p w A c R pl
  r : Rng p R
  m : Mon p R pl
theorem PS.swap {p : Int} {w : Nat} {A R : List Row} {c : Nat} {pl : List Nat} (h : PS p w A c R pl) {k : Nat} (hk : k < R.length) (hs : pl.length ≤ k) : PS p w A c (Lin.swap R pl.length k) pl where
  e := h.e.swap hk hs
  r := h.r.swap (by omega) hk
  m j q hq := by
    have hj : j < pl.length := by
      by_cases l : j < pl.length
      · exact l
      · rw [List.getElem?_eq_none (by omega)] at hq; cases hq
    rw [row_swap (by omega) hk, if_neg (by omega), if_neg (by omega)]
    exact h.m j q hq
theorem PS.op {p : Int} (hp : Pr p) {w : Nat} {A R : List Row} {c : Nat} {pl : List Nat} (h : PS p w A c R pl) {i : Nat} {r : Row} {α β : Int} (o : Op true p w R pl.length i r 1 α β) (h1 : i ≠ pl.length → α = 1) (hi : i < R.length) (hs : pl.length < R.length) (hr : ∀ e ∈ r, 0 ≤ e ∧ e < p) : PS p w A c (R.set i r) pl where
  e := h.e.op hp o hi hs
  r := h.r.set hr
  m j q hq := by
    have hj : j < pl.length := by
      by_cases l : j < pl.length
      · exact l
      · rw [List.getElem?_eq_none (by omega)] at hq; cases hq
    rw [row_set hi]
    split
    · rename_i e
      subst e
      have l := o.lin (unit q)
      rw [dot_unit, dot_unit, dot_unit, h1 (by omega)] at l
      have z := h.e.low pl.length (Nat.le_refl _) q (h.e.lt q (List.mem_of_getElem? hq))
      have z2 : p ∣ β * ent (row R pl.length) q := Int.dvd_trans z (Int.dvd_mul_left _ _)
      have := Int.dvd_sub (Int.dvd_add l (h.m j q hq)) z2
      have e : 1 * ent r q - (1 * ent (row R j) q - β * ent (row R pl.length) q) + (ent (row R j) q - 1) - β * ent (row R pl.length) q = ent r q - 1 := by omega
      rwa [e] at this
    · exact h.m j q hq
/-- the row of the pivot is scaled -/
theorem op_scale {p : Int} {w : Nat} {R : List Row} {s : Nat} (hw : (row R s).length = w) (hp : Pr p) {k : Int} (hk : ¬ p ∣ k) : Op true p w R s s ((row R s).map fun a => (a * k) % p) 1 k 0 where
  wid := by simpa using hw
  γ0 := hp.one
  α0 := hk
  β0 _ := rfl
  lin x := by
    have := dot_map (p := p) (γ := 1) (α := k) (fun a => (a * k) % p) (fun a => by
      have := dvd_emod_sub (a * k) p
      have e : 1 * (a * k % p) - k * a = a * k % p - a * k := by grind
      rwa [e]) (row R s) x
    have e : (1 : Int) * dot ((row R s).map fun a => a * k % p) x - (k * dot (row R s) x - 0 * dot (row R s) x) = 1 * dot ((row R s).map fun a => a * k % p) x - k * dot (row R s) x := by omega
    rwa [e]
  g1 _ := rfl
theorem op_elim {p : Int} {w : Nat} {R : List Row} {s i : Nat} (hw : (row R s).length = w) (hw2 : (row R i).length = w) (hp : Pr p) (hi : i ≠ s) (β : Int) : Op true p w R s i (List.zipWith (fun a b => (a - β * b) % p) (row R i) (row R s)) 1 1 β where
  wid := by simp [hw, hw2]
  γ0 := hp.one
  α0 := hp.one
  β0 h := absurd h hi
  lin x := dot_zipWith (p := p) _ (fun a b => by
    have := dvd_emod_sub (a - β * b) p
    have e : 1 * ((a - β * b) % p) - (1 * a - β * b) = (a - β * b) % p - (a - β * b) := by grind
    rwa [e]) _ _ (by rw [hw, hw2]) x
  g1 _ := rfl
end Py.Wa

namespace Py.Wa
open Lin
theorem sm_rng {p e : Int} (hp : p = 2 ∨ p = 3 ∨ p = 5 ∨ p = 7) (h : 0 ≤ e ∧ e < p) : smallI e = true := smallI_62 (by omega)
/-- one row made 0 in the column, as the programs write it -/
theorem elim_row (cf : CF) {τ : Tp} {p : Int} (hp : p = 2 ∨ p = 3 ∨ p = 5 ∨ p = 7) (r g : Row) (share : Int) (hg : ∀ e ∈ g, 0 ≤ e ∧ e < p)
    {elt : E} {t : T} {ρ : Loc} (h : ∀ a b, smallI b = true → ∃ ρ', bindT ρ t (.tup [.int a, .int b]) = some ρ' ∧ evE cf elt ρ' τ = .ok (.int ((a - share * b) % p)) τ) :
    lcRun cf elt [] t ρ (zipL (r.map D.int) (g.map D.int)) τ = .ok ((List.zipWith (fun a b => (a - share * b) % p) r g).map D.int) τ := by
  rw [zipL_map, lcRun_all _ (fun q => .int ((q.1 - share * q.2) % p))]
  · rw [← zip_map_eq, List.map_map]; rfl
  · intro q hq
    have hq' := List.of_mem_zip (a := q.1) (b := q.2) hq
    exact h q.1 q.2 (sm_rng hp (hg _ hq'.2))
/-- the state behind one pivot -/
structure PM (p : Int) (w : Nat) (A : List Row) (c : Nat) (R1 : List Row) (pl : List Nat) (k : Nat) (R : List Row) : Prop where
  s : PS p w A c R pl
  len : R.length = R1.length
  piv : row R pl.length = row R1 pl.length
  rest : ∀ i, k ≤ i → row R i = row R1 i
  done : ∀ i, i < k → i ≠ pl.length → p ∣ ent (row R i) c
theorem PM.fin {p : Int} {w : Nat} {A : List Row} {c : Nat} {R1 : List Row} {pl : List Nat} {k : Nat} {R : List Row} (h : PM p w A c R1 pl k R) (hk : R1.length ≤ k) (hs : pl.length < R1.length) (hl : ¬ p ∣ ent (row R1 pl.length) c) (h1 : p ∣ ent (row R1 pl.length) c - 1) :
    PS p w A (c + 1) R (pl ++ [c]) := by
  have := h.len
  refine ⟨h.s.e.take (by omega) (by rw [h.piv]; exact hl) (fun i hi ne _ => h.done i (by omega) ne), h.s.r, fun j q hq => ?_⟩
  by_cases l : j < pl.length
  · rw [List.getElem?_append_left l] at hq
    exact h.s.m j q hq
  · rw [List.getElem?_append_right (by omega)] at hq
    by_cases ej : j = pl.length
    · subst ej
      simp at hq
      subst hq
      rw [h.piv]; exact h1
    · rw [List.getElem?_eq_none (by simp; omega)] at hq; cases hq
theorem PM.next {p : Int} {w : Nat} {A : List Row} {c : Nat} {R1 : List Row} {pl : List Nat} {k : Nat} {R : List Row} (h : PM p w A c R1 pl k R) (hz : k = pl.length ∨ ent (row R k) c = 0) : PM p w A c R1 pl (k + 1) R where
  s := h.s
  len := h.len
  piv := h.piv
  rest i hi := h.rest i (by omega)
  done i hi ne := by
    by_cases e : i = k
    · subst e
      rcases hz with z | z
      · exact absurd z ne
      · rw [z]; simp
    · exact h.done i (by omega) ne
theorem PM.elim {p : Int} (hp : p = 2 ∨ p = 3 ∨ p = 5 ∨ p = 7) {w : Nat} {A : List Row} {c : Nat} {R1 : List Row} {pl : List Nat} {k : Nat} {R : List Row} (h : PM p w A c R1 pl k R) (hk : k < R1.length) (hs : pl.length < R1.length) (hc : c < w) (h1 : p ∣ ent (row R1 pl.length) c - 1) (ne : k ≠ pl.length) :
    PM p w A c R1 pl (k + 1) (R.set k (List.zipWith (fun a b => (a - ent (row R k) c * b) % p) (row R k) (row R pl.length))) := by
  have hP := Pr_small hp
  have hlen := h.len
  have hpp : 0 < p := by omega
  have w1 : (row R pl.length).length = w := h.s.e.wid _ (row_mem (by omega))
  have w2 : (row R k).length = w := h.s.e.wid _ (row_mem (by omega))
  have o := op_elim (R := R) (p := p) (s := pl.length) (i := k) w1 w2 hP ne (ent (row R k) c)
  refine ⟨h.s.op hP o (fun _ => rfl) (by omega) (by omega) fun e he => zip_mod_mem hpp _ he, by simpa using hlen, ?_, fun i hi => ?_, fun i hi ni => ?_⟩
  · rw [row_set (by omega), if_neg (fun z => ne z.symm)]; exact h.piv
  · rw [row_set (by omega), if_neg (by omega)]; exact h.rest i (by omega)
  · rw [row_set (by omega)]
    split
    · rename_i e
      subst e
      have l := o.lin (unit c)
      rw [dot_unit, dot_unit, dot_unit] at l
      have hpv : ent (row R pl.length) c = ent (row R1 pl.length) c := by rw [h.piv]
      rw [hpv] at l
      have z := Int.dvd_trans h1 (Int.dvd_mul_right (ent (row R1 pl.length) c - 1) (ent (row R i) c))
      have z2 := Int.dvd_sub l z
      generalize ent (List.zipWith _ _ _) c = u at z2 ⊢
      have e : 1 * u - (1 * ent (row R i) c - ent (row R i) c * ent (row R1 pl.length) c) - (ent (row R1 pl.length) c - 1) * ent (row R i) c = u := by grind
      rwa [e] at z2
    · exact h.done i (by omega) ni
theorem PM.init {p : Int} {w : Nat} {A : List Row} {c : Nat} {R : List Row} {pl : List Nat} (h : PS p w A c R pl) : PM p w A c R pl 0 R :=
  ⟨h, rfl, rfl, fun _ _ => rfl, fun i hi => by omega⟩
theorem PS.scale {p : Int} (hp : p = 2 ∨ p = 3 ∨ p = 5 ∨ p = 7) {w : Nat} {A R : List Row} {c : Nat} {pl : List Nat} (h : PS p w A c R pl) (hs : pl.length < R.length) {k : Int} (hk : p ∣ ent (row R pl.length) c * k - 1) :
    PS p w A c (R.set pl.length ((row R pl.length).map fun a => (a * k) % p)) pl ∧ p ∣ ent (row (R.set pl.length ((row R pl.length).map fun a => (a * k) % p)) pl.length) c - 1 := by
  have hP := Pr_small hp
  have hpp : 0 < p := by omega
  have nk : ¬ p ∣ k := fun z => by
    have := dvd_of_sub' hk (Int.dvd_trans z (Int.dvd_mul_left _ _))
    exact hP.one this
  have o := op_scale (R := R) (p := p) (s := pl.length) (h.e.wid _ (row_mem hs)) hP nk
  refine ⟨h.op hP o (fun z => absurd rfl z) hs hs fun e he => map_mod_mem hpp _ he, ?_⟩
  rw [row_set hs, if_pos rfl]
  have l := o.lin (unit c)
  rw [dot_unit, dot_unit] at l
  have := Int.dvd_add l hk
  generalize ent (List.map _ _) c = u at this ⊢
  have e : 1 * u - (k * ent (row R pl.length) c - 0 * ent (row R pl.length) c) + (ent (row R pl.length) c * k - 1) = u - 1 := by grind
  rwa [e] at this
theorem not_dvd_of_one {p a : Int} (hP : Pr p) (h : p ∣ a - 1) : ¬ p ∣ a := fun z => hP.one (dvd_of_sub' h z)
theorem len_of {α : Type} {xs : List α} {k : Nat} {x : α} (h : xs[k]? = some x) : k < xs.length := by
  by_cases l : k < xs.length
  · exact l
  · rw [List.getElem?_eq_none (by omega)] at h; cases h

theorem ex_head {α : Type} {p : α → Bool} {xs : List α} : (xs.filter p = [] ∧ ∀ x ∈ xs, p x = false) ∨ ∃ x r, xs.filter p = x :: r ∧ x ∈ xs ∧ p x = true := by
  cases e : xs.filter p with
  | nil => exact .inl ⟨rfl, fun x hx => by simpa using List.filter_eq_nil_iff.mp e x hx⟩
  | cons x r =>
    have : x ∈ xs.filter p := by rw [e]; simp
    exact .inr ⟨x, r, rfl, (List.mem_filter.mp this).1, (List.mem_filter.mp this).2⟩
/-- slots of reduced at the head of its loop -/
def RedSt (p : Int) (w : Nat) (A : List Row) (τ0 : Tp) (c : Nat) (ρ : Loc) (τ : Tp) : Prop := τ = τ0 ∧ ∃ R pl j6 j7 j8 j9 j10 j11 j12 j13, ρ = [some (dM A), some (.int (w : Int)), some (.int p), some (dM R), some (dN pl), some (.int (pl.length : Int)), j6, j7, j8, j9, j10, j11, j12, j13] ∧ PS p w A c R pl
def RedIn (p : Int) (w : Nat) (A : List Row) (τ0 : Tp) (c : Nat) (R1 : List Row) (pl : List Nat) (j7 j8 : Option D) (k : Nat) (ρ : Loc) (τ : Tp) : Prop := τ = τ0 ∧ ∃ R j9 j10 j11 j12 j13, ρ = [some (dM A), some (.int (w : Int)), some (.int p), some (dM R), some (dN pl), some (.int (pl.length : Int)), some (.int (c : Int)), j7, j8, j9, j10, j11, j12, j13] ∧ PM p w A c R1 pl k R
theorem PS.start {p : Int} (hp : 0 < p) {w : Nat} {A : List Row} (hA : ∀ r ∈ A, r.length = w) : PS p w A 0 (A.map fun r => r.map (· % p)) [] := by
  have key : ∀ (r : Row) (x : Vec), p ∣ dot (r.map (· % p)) x - dot r x := fun r x => by
    have := dot_map (p := p) (γ := 1) (α := 1) (· % p) (fun a => by have := dvd_emod_sub a p; simpa using this) r x
    simpa using this
  refine ⟨Ech.start (fun r hr => ?_) (by simp) (fun x => ?_) (fun _ L => ?_), fun r hr e he => ?_, fun j q hq => by simp at hq⟩
  · obtain ⟨s, hs, rfl⟩ := List.mem_map.mp hr
    simpa using hA s hs
  · constructor
    · intro k r hr
      obtain ⟨s, hs, rfl⟩ := List.mem_map.mp hr
      exact dvd_of_sub (key s x) (k s hs)
    · intro k s hs
      exact dvd_of_sub' (key s x) (k _ (List.mem_map_of_mem hs))
  · intro y hy i hi
    refine L y (fun x => ?_) i (by simpa using hi)
    refine dvd_of_sub' ?_ (hy x)
    clear hy hi L hA
    induction A generalizing y with
    | nil => simp [comb]
    | cons r A ih =>
      have h1 := ih fun i => y (i + 1)
      have h2 := Int.dvd_trans (key r x) (Int.dvd_mul_left (y 0) _)
      have := Int.dvd_add h2 h1
      simp only [List.map_cons, comb]
      have e : y 0 * (dot (r.map (· % p)) x - dot r x) + (comb (fun i => y (i + 1)) (A.map fun r => r.map (· % p)) x - comb (fun i => y (i + 1)) A x) = y 0 * dot (r.map (· % p)) x + comb (fun i => y (i + 1)) (A.map fun r => r.map (· % p)) x - (y 0 * dot r x + comb (fun i => y (i + 1)) A x) := by grind
      rwa [e] at this
  · obtain ⟨s, hs, rfl⟩ := List.mem_map.mp hr
    exact map_mod_mem hp (fun a => a) he
theorem setIx_dM {R : List Row} {k : Nat} (r : Row) (h : k < R.length) : setIx (.lst (R.map dI)) (.int (k : Int)) (dI r) = some (dM (R.set k r)) := by
  rw [setIx_nat _ _ _ (by simpa using h), dM_set]
theorem slice_to (xs : List D) (n : Nat) (h : n ≤ xs.length) : slice (.lst xs) none (some (n : Int)) = some (.lst (xs.take n)) := by
  show some (D.lst (cut xs none (some (n : Int)))) = _
  unfold cut clip
  simp [Nat.min_eq_left h]
set_option maxHeartbeats 2000000 in
theorem reduced_ok (cf : CF) (τ : Tp) {p : Int} (hp : p = 2 ∨ p = 3 ∨ p = 5 ∨ p = 7) {w : Nat} {A : List Row} (hA : ∀ r ∈ A, r.length = w) (hAs : A.length ≤ 1000) (hw : w ≤ 1000)
    (hinv : ∀ n τ, 0 < n → n < p → ∃ k, cf Law.F_inverse [.int n, .int p] τ = .ok (.int k) τ ∧ 0 < k ∧ k < p ∧ p ∣ n * k - 1) :
    Post (run cf 14 Law.b_reduced [dM A, .int (w : Int), .int p] τ) fun d τ' => τ' = τ ∧ ∃ R pl, d = .tup [dM (R.take pl.length), dN pl] ∧ PS p w A w R pl := by
  have hP := Pr_small hp
  have hpp : 0 < p := by omega
  unfold run
  refine .fin ?_
  simp [Law.b_reduced, start, List.replicate, show A.length ≤ LIM by unfold LIM; omega]
  rw [lcRun_all dI (fun r => dI (r.map (· % p))) A]
  · simp
    rw [rng_nat _ (by omega)]
    simp
    refine .bind (.forI (RedSt p w A τ) ⟨rfl, A.map fun r => r.map (· % p), [], none, none, none, none, none, none, none, none, by simp [Function.comp_def], .start hpp hA⟩ ?_ ?_)
    · rintro c x hx ρ τ' ⟨rfl, R, pl, j6, j7, j8, j9, j10, j11, j12, j13, rfl, hR⟩
      refine ⟨_, rfl, ?_⟩
      have hc : c < w := by simpa using len_of hx
      simp [List.getElem?_range hc] at hx
      subst hx
      have hRl := hR.e.len
      have hcnt := hR.e.cnt
      simp
      rw [rng2_nat _ _ (by omega) (by omega)]
      simp [show R.length - pl.length ≤ LIM by unfold LIM; omega]
      rw [lcRun_map (fun (k : Nat) => D.int (k : Int)) (fun k => decide (ent (row R k) c ≠ 0)) (fun k => .int (k : Int))]
      · rcases ex_head (p := fun k => decide (ent (row R k) c ≠ 0)) (xs := List.range' pl.length (R.length - pl.length)) with ⟨e, h0⟩ | ⟨k, r, e, h0, h1⟩
        · rw [e]
          simp
          refine .ok ⟨rfl, R, pl, _, _, _, _, _, _, _, _, rfl, hR.e.skip fun i h1 h2 => ?_, hR.r, hR.m⟩
          have := h0 i (by simp; omega)
          simp at this
          rw [this]; simp
        · rw [e]
          simp at h0 h1
          have hk1 : k < R.length := by omega
          have hs : pl.length < R.length := by omega
          simp only [Py.R.bind_ok, List.map_cons]
          have n1 : ¬ p ∣ ent (row R k) c := fun z => h1 (hR.r.dvd.mp z)
          simp [stAt, dM_get hk1, dM_get hs, setIx_dM _ hs]
          rw [setIx_dM _ (by simpa using hk1), show (R.set pl.length (row R k)).set k (row R pl.length) = Lin.swap R pl.length k from rfl]
          have hS := hR.swap hk1 h0.1
          have hS0 : row (Lin.swap R pl.length k) pl.length = row R k := by
            rw [row_swap hs hk1]
            by_cases e : pl.length = k
            · subst e; simp
            · simp [e]
          have hSl : (Lin.swap R pl.length k).length = R.length := swap_len R pl.length k
          rw [← hS0] at n1
          clear h1
          generalize Lin.swap R pl.length k = R2 at hS hSl n1
          have hs2 : pl.length < R2.length := by omega
          have hw2 : (row R2 pl.length).length = w := hS.e.wid _ (row_mem hs2)
          have hb := hS.r _ (row_mem hs2) _ (ent_mem (k := c) (by omega))
          obtain ⟨f, ef, f0, f1, f2⟩ := hinv (ent (row R2 pl.length) c) τ' (by
            rcases Int.lt_or_eq_of_le hb.1 with z | z
            · exact z
            · exact absurd (by rw [← z]; simp) n1) hb.2
          simp [dM_get hs2, dI_get (show c < (row R2 pl.length).length by omega), ef, show (row R2 pl.length).length ≤ LIM by rw [hw2]; unfold LIM; omega]
          rw [lcRun_all D.int (fun a => D.int ((a * f) % p)) _ fun a ha => ⟨_, rfl, by simp [binop_mul (sm_rng hp (hS.r _ (row_mem hs2) _ ha)) (sm_rng hp ⟨Int.le_of_lt f0, f1⟩), binop_mod_pos hpp]⟩]
          have hm : (row R2 pl.length).map (fun a => D.int (a * f % p)) = ((row R2 pl.length).map fun a => a * f % p).map D.int := by simp [Function.comp_def]
          simp [-List.map_map, -List.map_set, stAt, hm, setIx_dM _ hs2]
          obtain ⟨hS3, hone⟩ := hS.scale hp hs2 f2
          have hSl3 : (R2.set pl.length ((row R2 pl.length).map fun a => a * f % p)).length = R2.length := by simp
          clear hm
          generalize R2.set pl.length ((row R2 pl.length).map fun a => a * f % p) = R3 at hS3 hone hSl3
          have hs3 : pl.length < R3.length := by omega
          refine .bind (.forI (RedIn p w A τ' c R3 pl (some (D.lst (D.int (k : Int) :: List.map (fun (k : Nat) => D.int (k : Int)) r))) (some (.int f))) ⟨rfl, R3, j9, j10, j11, j12, j13, rfl, .init hS3⟩ ?_ ?_)
          · rintro i x hx ρ τ2 ⟨rfl, R4, i9, i10, i11, i12, i13, rfl, hM⟩
            rw [enmL_get] at hx
            have hi : i < R3.length := by
              rw [Option.map_eq_some_iff] at hx
              obtain ⟨d, hd, _⟩ := hx
              simpa using len_of hd
            rw [dM_get hi] at hx
            simp at hx
            subst hx
            refine ⟨_, rfl, ?_⟩
            have hi4 := hM.len
            have hr4 : row R4 i = row R3 i := hM.rest i (Nat.le_refl _)
            have hw4 : (row R3 i).length = w := hS3.e.wid _ (row_mem hi)
            by_cases e1 : i = pl.length
            · subst e1
              simp
              exact .ok ⟨rfl, R4, _, _, _, _, _, rfl, hM.next (.inl rfl)⟩
            · by_cases e2 : ent (row R3 i) c = 0
              · simp [dI_get (show c < (row R3 i).length by omega), e2, show ¬ ((i : Int) = (pl.length : Int)) by omega]
                exact .ok ⟨rfl, R4, _, _, _, _, _, by simp; exact ⟨rfl, rfl, rfl, rfl, rfl⟩, hM.next (.inr (by rw [hr4]; exact e2))⟩
              · have hs4 : pl.length < R4.length := by omega
                have hN := hM.elim hp hi hs3 hc hone e1
                have hb := hM.s.r _ (row_mem (show i < R4.length by omega)) _ (ent_mem (k := c) (by rw [hr4]; omega))
                simp only [hr4] at hN hb
                simp [-List.map_map, -List.map_set, dI_get (show c < (row R3 i).length by omega), e2, show ¬ ((i : Int) = (pl.length : Int)) by omega, dM_get hs4, zlen (show ((row R3 i).map D.int).length ≤ LIM by simp [hw4]; unfold LIM; omega)]
                rw [elim_row cf hp (row R3 i) (row R4 pl.length) (ent (row R3 i) c) (hM.s.r _ (row_mem hs4)) fun a b hb2 => ⟨_, rfl, by simp [binop_mul (sm_rng hp hb) hb2, binop_mod_pos hpp]⟩]
                simp [-List.map_map, -List.map_set, -List.map_zipWith, stAt, setIx_dM _ (show i < R4.length by omega)]
                exact .ok ⟨rfl, _, _, _, _, _, _, rfl, hN⟩
          · rintro ρ τ2 ⟨rfl, R4, i9, i10, i11, i12, i13, rfl, hM⟩
            have hF := hM.fin (by rw [enmL_len]; simp) hs3 (not_dvd_of_one hP hone) hone
            simp [show pl.length < LIM by unfold LIM; omega]
            exact .ok ⟨rfl, R4, pl ++ [c], _, _, _, _, _, _, _, _, by simp; exact ⟨rfl, rfl, rfl, rfl, rfl, rfl, rfl, rfl⟩, hF⟩
      · intro k hk
        refine ⟨_, rfl, ?_, fun _ => by simp⟩
        simp at hk
        have hk1 : k < R.length := by omega
        have hcw : c < (row R k).length := by rw [hR.e.wid _ (row_mem hk1)]; exact hc
        simp [dM_get hk1, dI_get hcw]
    · rintro ρ τ' ⟨rfl, R, pl, j6, j7, j8, j9, j10, j11, j12, j13, rfl, hR⟩
      simp [slice_to _ _ (show pl.length ≤ (R.map dI).length by simpa using hR.e.cnt)]
      exact .ok ⟨rfl, R, pl, by simp [List.map_take], by simpa using hR⟩
  · intro r hr
    refine ⟨_, rfl, ?_⟩
    simp [show r.length ≤ LIM by rw [hA r hr]; unfold LIM; omega]
    rw [lcRun_all D.int (fun a => D.int (a % p)) r fun a _ => ⟨_, rfl, by simp [binop_mod_pos hpp]⟩]
    simp [Function.comp_def]
end Py.Wa

namespace Py.Wa
open Lin
@[simp] theorem flats_map {α : Type} (n : Nat) (f : α → D) (xs : List α) : flats n (xs.map f) = xs.all fun x => flat n (f x) := by
  rw [flats_all, List.all_map]; rfl
@[simp] theorem deqs_nil (xs : List D) : deqs xs [] = xs.isEmpty := by cases xs <;> rfl
@[simp] theorem deq_lst (xs ys : List D) : deq (.lst xs) (.lst ys) = deqs xs ys := (rfl)
@[simp] theorem deq_tup (xs ys : List D) : deq (.tup xs) (.tup ys) = deqs xs ys := (rfl)
theorem rng_p {p : Int} (hp : p = 2 ∨ p = 3 ∨ p = 5 ∨ p = 7) : rng? (.int 1) (.int p) = some ((List.range' 1 (p.toNat - 1)).map fun (k : Nat) => D.int (k : Int)) := by
  rcases hp with rfl | rfl | rfl | rfl <;> rfl
theorem inv_ex {p e : Int} (hp : p = 2 ∨ p = 3 ∨ p = 5 ∨ p = 7) (h0 : 0 < e) (h1 : e < p) : ∃ (k : Nat) (r : List Nat), (List.range' 1 (p.toNat - 1)).filter (fun (k : Nat) => decide (((k : Int) * e) % p = 1)) = k :: r ∧ 0 < (k : Int) ∧ (k : Int) < p ∧ p ∣ e * (k : Int) - 1 := by
  have : (p = 2 ∧ e = 1) ∨ (p = 3 ∧ (e = 1 ∨ e = 2)) ∨ (p = 5 ∧ (e = 1 ∨ e = 2 ∨ e = 3 ∨ e = 4)) ∨ (p = 7 ∧ (e = 1 ∨ e = 2 ∨ e = 3 ∨ e = 4 ∨ e = 5 ∨ e = 6)) := by omega
  rcases this with ⟨rfl, rfl⟩ | ⟨rfl, rfl | rfl⟩ | ⟨rfl, rfl | rfl | rfl | rfl⟩ | ⟨rfl, rfl | rfl | rfl | rfl | rfl | rfl⟩
  · exact ⟨1, _, rfl, by decide⟩
  · exact ⟨1, _, rfl, by decide⟩
  · exact ⟨2, _, rfl, by decide⟩
  · exact ⟨1, _, rfl, by decide⟩
  · exact ⟨3, _, rfl, by decide⟩
  · exact ⟨2, _, rfl, by decide⟩
  · exact ⟨4, _, rfl, by decide⟩
  · exact ⟨1, _, rfl, by decide⟩
  · exact ⟨4, _, rfl, by decide⟩
  · exact ⟨5, _, rfl, by decide⟩
  · exact ⟨2, _, rfl, by decide⟩
  · exact ⟨3, _, rfl, by decide⟩
  · exact ⟨6, _, rfl, by decide⟩
/-- slots of _law_rank at the head of its loop -/
def RkSt (p : Int) (w : Nat) (A : List Row) (τ0 : Tp) (c : Nat) (ρ : Loc) (τ : Tp) : Prop := τ = τ0 ∧ ∃ R pl j4 j5 j6 j7 j8 j9 j10 j11, ρ = [some (dM R), some (.int p), some (.int ((pl.length : Nat) : Int)), some (.int (w : Int)), j4, j5, j6, j7, j8, j9, j10, j11] ∧ PS p w A c R pl
def RkIn (p : Int) (w : Nat) (A : List Row) (τ0 : Tp) (c : Nat) (R1 : List Row) (pl : List Nat) (k : Nat) (ρ : Loc) (τ : Tp) : Prop := τ = τ0 ∧ ∃ R j5 j6 j7 j8 j9 j10 j11, ρ = [some (dM R), some (.int p), some (.int ((pl.length : Nat) : Int)), some (.int (w : Int)), some (.int (c : Int)), j5, j6, j7, j8, j9, j10, j11] ∧ PM p w A c R1 pl k R
set_option maxHeartbeats 2000000 in
theorem law_rank_ok (cf : CF) (τ : Tp) {p : Int} (hp : p = 2 ∨ p = 3 ∨ p = 5 ∨ p = 7) {w : Nat} {A : List Row} (hA : ∀ r ∈ A, r.length = w) (hAs : A.length ≤ 1000) (hw : w ≤ 1000) (h0 : A = [] → w = 0) :
    Post (run cf 12 Law.b__law_rank [dM A, .int p] τ) fun d τ' => τ' = τ ∧ ∃ R pl, d = .int ((pl.length : Nat) : Int) ∧ PS p w A w R pl := by
  have hP := Pr_small hp
  have hpp : 0 < p := by omega
  unfold run
  refine .fin ?_
  simp [Law.b__law_rank, start, List.replicate, show A.length ≤ LIM by unfold LIM; omega]
  rw [lcRun_all dI (fun r => dI (r.map (· % p))) A fun r hr => ⟨_, rfl, by
    simp [show r.length ≤ LIM by rw [hA r hr]; unfold LIM; omega]
    rw [lcRun_all D.int (fun a => D.int (a % p)) r fun a _ => ⟨_, rfl, by simp [binop_mod_pos hpp]⟩]
    simp [Function.comp_def]⟩]
  have e0 : A.map (fun r => dI (r.map (· % p))) = (A.map fun r => r.map (· % p)).map dI := by simp [Function.comp_def]
  rw [e0]
  have hst := PS.start hpp hA
  have hw0 : evE cf (.ite (.cmp .ne (.var 0) (.lst [])) (.bi .len (.idx (.var 0) (.int 0))) (.int 0)) [some (dM (A.map fun r => r.map (· % p))), some (.int p), some (.int 0), none, none, none, none, none, none, none, none, none] τ = .ok (.int (w : Int)) τ := by
    cases A with
    | nil => simp [cmpop, DEP, h0 rfl]
    | cons r A => simp [cmpop, DEP, hA r]
  simp [-List.map_map, -eE_ite, hw0]
  rw [rng_nat _ (by omega)]
  generalize A.map (fun r => r.map (· % p)) = R0 at hst
  simp
  refine .bind (.forI (RkSt p w A τ) ⟨rfl, R0, [], none, none, none, none, none, none, none, none, rfl, hst⟩ ?_ ?_)
  · rintro c x hx ρ τ' ⟨rfl, R, pl, j4, j5, j6, j7, j8, j9, j10, j11, rfl, hR⟩
    refine ⟨_, rfl, ?_⟩
    have hc : c < w := by simpa using len_of hx
    simp [List.getElem?_range hc] at hx
    subst hx
    have hRl := hR.e.len
    have hcnt := hR.e.cnt
    simp
    rw [rng2_nat _ _ (by omega) (by omega)]
    simp [show R.length - pl.length ≤ LIM by unfold LIM; omega]
    rw [lcRun_map (fun (k : Nat) => D.int (k : Int)) (fun k => decide (ent (row R k) c ≠ 0)) (fun k => .int (k : Int)) _ fun k hk => ⟨_, rfl, by
      simp at hk
      have hk1 : k < R.length := by omega
      have hcw : c < (row R k).length := by rw [hR.e.wid _ (row_mem hk1)]; exact hc
      simp [dM_get hk1, dI_get hcw], fun _ => by simp⟩]
    rcases ex_head (p := fun k => decide (ent (row R k) c ≠ 0)) (xs := List.range' pl.length (R.length - pl.length)) with ⟨e, h0⟩ | ⟨k, r, e, h0, h1⟩
    · rw [e]
      simp [cmpop, DEP]
      refine .ok ⟨rfl, R, pl, _, _, _, _, _, _, _, _, rfl, hR.e.skip fun i h1 h2 => ?_, hR.r, hR.m⟩
      have := h0 i (by simp; omega)
      simp at this
      rw [this]; simp
    · rw [e]
      simp at h0 h1
      have hk1 : k < R.length := by omega
      have hs : pl.length < R.length := by omega
      simp only [Py.R.bind_ok, List.map_cons]
      have n1 : ¬ p ∣ ent (row R k) c := fun z => h1 (hR.r.dvd.mp z)
      simp [cmpop, DEP, stAt, dM_get hk1, dM_get hs, setIx_dM _ hs]
      rw [setIx_dM _ (by simpa using hk1), show (R.set pl.length (row R k)).set k (row R pl.length) = Lin.swap R pl.length k from rfl]
      have hS := hR.swap hk1 h0.1
      have hS0 : row (Lin.swap R pl.length k) pl.length = row R k := by
        rw [row_swap hs hk1]
        by_cases e : pl.length = k
        · subst e; simp
        · simp [e]
      have hSl : (Lin.swap R pl.length k).length = R.length := swap_len R pl.length k
      rw [← hS0] at n1
      clear h1
      generalize Lin.swap R pl.length k = R2 at hS hSl n1
      have hs2 : pl.length < R2.length := by omega
      have hw2 : (row R2 pl.length).length = w := hS.e.wid _ (row_mem hs2)
      have hb := hS.r _ (row_mem hs2) _ (ent_mem (k := c) (by omega))
      have hb0 : 0 < ent (row R2 pl.length) c := by
        rcases Int.lt_or_eq_of_le hb.1 with z | z
        · exact z
        · exact absurd (by rw [← z]; simp) n1
      obtain ⟨f, fr, ef, f0, f1, f2⟩ := inv_ex hp hb0 hb.2
      simp [rng_p hp, show p.toNat ≤ LIM + 1 by unfold LIM; omega]
      rw [lcRun_map (fun (k : Nat) => D.int (k : Int)) (fun (k : Nat) => decide (((k : Int) * ent (row R2 pl.length) c) % p = 1)) (fun k => .int (k : Int)) _ fun k hk => ⟨_, rfl, by
        simp at hk
        simp [dM_get hs2, dI_get (show c < (row R2 pl.length).length by omega), binop_mul (sm_rng hp hb) (sm_rng hp hb), binop_mul (sm_rng hp (show 0 ≤ (k : Int) ∧ (k : Int) < p by omega)) (sm_rng hp hb), binop_mod_pos hpp], fun _ => by simp⟩, ef]
      simp [dM_get hs2, show (row R2 pl.length).length ≤ LIM by rw [hw2]; unfold LIM; omega]
      rw [lcRun_all D.int (fun a => D.int ((a * f) % p)) _ fun a ha => ⟨_, rfl, by simp [binop_mul (sm_rng hp (hS.r _ (row_mem hs2) _ ha)) (sm_rng hp ⟨Int.le_of_lt f0, f1⟩), binop_mod_pos hpp]⟩]
      have hm : (row R2 pl.length).map (fun a => D.int (a * f % p)) = ((row R2 pl.length).map fun a => a * f % p).map D.int := by simp [Function.comp_def]
      simp [-List.map_map, -List.map_set, stAt, hm, setIx_dM _ hs2]
      obtain ⟨hS3, hone⟩ := hS.scale hp hs2 f2
      have hSl3 : (R2.set pl.length ((row R2 pl.length).map fun a => a * f % p)).length = R2.length := by simp
      clear hm
      rw [← hSl3]
      generalize R2.set pl.length ((row R2 pl.length).map fun a => a * f % p) = R3 at hS3 hone hSl3
      have hs3 : pl.length < R3.length := by omega
      rw [rng_nat _ (by omega)]
      simp
      refine .bind (.forI (RkIn p w A τ' c R3 pl) ⟨rfl, R3, _, _, _, _, _, _, _, rfl, .init hS3⟩ ?_ ?_)
      · rintro i x hx ρ τ2 ⟨rfl, R4, i5, i6, i7, i8, i9, i10, i11, rfl, hM⟩
        have hi : i < R3.length := by simpa using len_of hx
        simp [List.getElem?_range hi] at hx
        subst hx
        refine ⟨_, rfl, ?_⟩
        have hi4 := hM.len
        have hr4 : row R4 i = row R3 i := hM.rest i (Nat.le_refl _)
        have hw4 : (row R4 i).length = w := hM.s.e.wid _ (row_mem (by omega))
        have hii : i < R4.length := by omega
        by_cases e1 : i = pl.length
        · subst e1
          simp [dM_get hii, dI_get (show c < (row R4 pl.length).length by omega)]
          exact .ok ⟨rfl, R4, _, _, _, _, _, _, _, rfl, hM.next (.inl rfl)⟩
        · by_cases e2 : ent (row R4 i) c = 0
          · simp [dM_get hii, dI_get (show c < (row R4 i).length by omega), e2, show ¬ ((i : Int) = (pl.length : Int)) by omega]
            exact .ok ⟨rfl, R4, _, _, _, _, _, _, _, rfl, hM.next (.inr e2)⟩
          · have hs4 : pl.length < R4.length := by omega
            have hN := hM.elim hp hi hs3 hc hone e1
            have hb := hM.s.r _ (row_mem hii) _ (ent_mem (k := c) (by omega))
            simp [-List.map_map, -List.map_set, dM_get hii, dI_get (show c < (row R4 i).length by omega), e2, show ¬ ((i : Int) = (pl.length : Int)) by omega, dM_get hs4, zlen (show ((row R4 i).map D.int).length ≤ LIM by simp [hw4]; unfold LIM; omega)]
            rw [elim_row cf hp (row R4 i) (row R4 pl.length) (ent (row R4 i) c) (hM.s.r _ (row_mem hs4)) fun a b hb2 => ⟨_, rfl, by simp [binop_mul (sm_rng hp hb) hb2, binop_mod_pos hpp]⟩]
            simp [-List.map_map, -List.map_set, -List.map_zipWith, stAt, setIx_dM _ hii]
            exact .ok ⟨rfl, _, _, _, _, _, _, _, _, rfl, hN⟩
      · rintro ρ τ2 ⟨rfl, R4, i5, i6, i7, i8, i9, i10, i11, rfl, hM⟩
        have hF := hM.fin (by simp) hs3 (not_dvd_of_one hP hone) hone
        simp
        exact .ok ⟨rfl, R4, pl ++ [c], _, _, _, _, _, _, _, _, by simp; exact ⟨rfl, rfl, rfl, rfl, rfl, rfl, rfl, rfl⟩, hF⟩
  · rintro ρ τ' ⟨rfl, R, pl, j4, j5, j6, j7, j8, j9, j10, j11, rfl, hR⟩
    simp
    exact .ok ⟨rfl, R, pl, rfl, by simpa using hR⟩
end Py.Wa

namespace Py.Wa
open Lin
theorem zipL_len (xs ys : List D) : (zipL xs ys).length = min xs.length ys.length := by
  induction xs generalizing ys with
  | nil => simp [zipL]
  | cons x xs ih => cases ys with
    | nil => simp [zipL]
    | cons y ys => simp [zipL, ih]
theorem zipL_get {xs ys : List D} {k : Nat} {x : D} (h : (zipL xs ys)[k]? = some x) : ∃ a b, xs[k]? = some a ∧ ys[k]? = some b ∧ x = .tup [a, b] := by
  induction xs generalizing ys k with
  | nil => simp [zipL] at h
  | cons u xs ih => cases ys with
    | nil => simp [zipL] at h
    | cons v ys => cases k with
      | zero => simp [zipL] at h; exact ⟨u, v, rfl, rfl, h.symm⟩
      | succ k => simp [zipL] at h; simpa using ih h
theorem setIx_dI {r : Row} {k : Nat} (a : Int) (h : k < r.length) : setIx (dI r) (.int (k : Int)) (.int a) = some (dI (r.set k a)) := by
  rw [setIx_nat _ _ _ (by simpa using h)]; simp [List.map_set]
theorem binop_zeros {w : Nat} (h : w ≤ 1000) : binop .mul (.lst [.int 0]) (.int (w : Int)) = some (dI (List.replicate w 0)) := by
  simp only [binop]
  rw [if_pos (by simp; unfold LIM; omega)]
  have : ∀ n : Nat, (List.replicate n [D.int 0]).flatten = (List.replicate n (0 : Int)).map D.int := by
    intro n
    induction n with
    | zero => rfl
    | succ n ih => rw [List.replicate_succ, List.flatten_cons, ih]; rfl
  rw [Int.toNat_natCast, this]
theorem isIn_nat (f : Nat) (pl : List Nat) : isIn (.int (f : Int)) (dN pl) = some (decide (f ∈ pl)) := by
  simp only [isIn, flat_int, flats_map, Bool.true_and]
  rw [if_pos (by simp), List.any_map]
  congr 1
  induction pl with
  | nil => rfl
  | cons q pl ih =>
    simp only [List.any_cons, ih, Function.comp, deq_int]
    by_cases e : f = q
    · subst e; simp
    · simp [e, show ¬ ((q : Int) = (f : Int)) by omega]
theorem cmp_isin (x y : D) : cmpop .isin x y = isIn x y := by cases x <;> cases y <;> rfl
theorem ent_set {r : Row} {k j : Nat} {a : Int} (h : k < r.length) : ent (r.set k a) j = if j = k then a else ent r j := by
  unfold ent
  rw [List.getD_eq_getElem?_getD, List.getD_eq_getElem?_getD, List.getElem?_set]
  by_cases e : j = k
  · subst e; simp [h]
  · rw [if_neg (fun z => e z.symm), if_neg e]
abbrev vec (b : Row) : Vec := fun i => ent b i
theorem comb_only {p : Int} (B : List Row) : ∀ (y x : Vec) (i : Nat), (∀ k, k < B.length → k ≠ i → p ∣ dot (row B k) x) → p ∣ comb y B x - y i * dot (row B i) x := by
  induction B with
  | nil => intro y x i _; simp [comb, row, dot]
  | cons r B ih =>
    intro y x i h
    cases i with
    | zero =>
      have h2 : p ∣ comb (fun j => y (j + 1)) B x := by
        have := ih (fun j => y (j + 1)) x B.length fun k hk _ => by
          have := h (k + 1) (by simpa using hk) (by omega)
          simpa [row] using this
        rw [row_out (Nat.le_refl _)] at this
        simpa [dot] using this
      simp only [comb, row, List.getD_cons_zero]
      have e : y 0 * dot r x + comb (fun j => y (j + 1)) B x - y 0 * dot r x = comb (fun j => y (j + 1)) B x := by omega
      rw [e]; exact h2
    | succ i =>
      have h0 : p ∣ y 0 * dot r x := Int.dvd_trans (by have := h 0 (by simp) (by omega); simpa [row] using this) (Int.dvd_mul_left _ _)
      have h1 := ih (fun j => y (j + 1)) x i fun k hk ne => by
        have := h (k + 1) (by simpa using hk) (by omega)
        simpa [row] using this
      simp only [comb, row, List.getD_cons_succ] at h1 ⊢
      have e : y 0 * dot r x + comb (fun j => y (j + 1)) B x - y (i + 1) * dot (B.getD i []) x = y 0 * dot r x + (comb (fun j => y (j + 1)) B x - y (i + 1) * dot (B.getD i []) x) := by omega
      rw [e]
      exact Int.dvd_add h0 h1
/-- one vector of a basis of the kernel -/
structure Good (p : Int) (w : Nat) (A : List Row) (pl : List Nat) (f : Nat) (b : Row) : Prop where
  len : b.length = w
  one : ¬ p ∣ ent b f
  zero : ∀ c, c ∉ pl → c ≠ f → ent b c = 0
  ker : Ker p A (vec b)
abbrev frees (w : Nat) (pl : List Nat) : List Nat := (List.range w).filter fun f => decide (f ∉ pl)
theorem frees_len {w : Nat} {pl : List Nat} (hi : pl.Pairwise (· < ·)) (hl : ∀ q ∈ pl, q < w) : (frees w pl).length + pl.length = w := by
  have e : (List.range w).filter (fun f => decide (f ∈ pl)) = pl := by
    refine inc_ext ?_ hi fun q => ?_
    · exact List.Pairwise.filter _ List.pairwise_lt_range
    · simp
      exact hl q
  have h := List.length_eq_countP_add_countP (fun f => decide (f ∈ pl)) (l := List.range w)
  rw [List.countP_eq_length_filter, e, List.countP_eq_length_filter, List.length_range] at h
  have e2 : (List.range w).filter (fun a => ¬ (decide (a ∈ pl)) = true) = frees w pl := by
    congr 1; funext f; simp
  rw [e2] at h
  omega
theorem basis_li {p : Int} (hp : Pr p) {w : Nat} {A : List Row} {pl : List Nat} {B : List Row} (hl : B.length = (frees w pl).length) (h : ∀ k f, (frees w pl)[k]? = some f → Good p w A pl f (row B k)) : LI p B := by
  intro y hy i hi
  have gi : (frees w pl)[i]? = some (frees w pl)[i] := List.getElem?_eq_getElem (by omega)
  generalize hf : (frees w pl)[i]'(by omega) = f at gi
  have hfm : f ∈ frees w pl := List.mem_of_getElem? gi
  have hnd : (frees w pl).Pairwise (· < ·) := List.Pairwise.filter _ List.pairwise_lt_range
  have ho := comb_only (p := p) B y (unit f) i fun k hk ne => by
    rw [dot_unit]
    have gk : (frees w pl)[k]? = some (frees w pl)[k] := List.getElem?_eq_getElem (by omega)
    have hne : (frees w pl)[k]'(by omega) ≠ f := fun e => by
      rw [e] at gk
      rcases Nat.lt_or_gt_of_ne ne with l | l
      · exact Nat.lt_irrefl _ (inc_lt hnd gk gi l)
      · exact Nat.lt_irrefl _ (inc_lt hnd gi gk l)
    rw [(h k _ gk).zero f (by simp at hfm; exact hfm.2) (fun z => hne z.symm)]
    simp
  have := dvd_of_sub' ho (hy (unit f))
  rw [dot_unit, Int.mul_comm] at this
  exact hp.of_mul (h i f gi).one this
/-- the vector of a free place is made 0 -/
theorem ker_free {p : Int} (hp : Pr p) {g : Bool} {w : Nat} {A R : List Row} {pl : List Nat} (h : Ech g true p w A w R pl) {f : Nat} (hf : f ∉ pl) {b : Row}
    (hz : ∀ c, c ∉ pl → c ≠ f → p ∣ ent b c) (hj : ∀ j q, pl[j]? = some q → p ∣ ent (row R j) f * ent b f + ent (row R j) q * ent b q) : Ker p A (vec b) := by
  refine (h.ker_iff _).mpr fun i hi => ?_
  by_cases l : i < pl.length
  · have ei : pl[i]? = some pl[i] := List.getElem?_eq_getElem l
    have hne : pl[i] ≠ f := fun e => hf (e ▸ List.getElem_mem l)
    have hd := dot_only (p := p) (row R i) (fun c => 1 * vec b c + (- ent b f) * unit f c) pl[i] fun c hc => by
      by_cases e : c = f
      · subst e
        have : vec b c = ent b c := rfl
        simp [unit, this, Int.add_right_neg]
      · have : unit f c = 0 := by simp [unit, e]
        simp only [this, Int.mul_zero, Int.add_zero, Int.one_mul]
        by_cases hm : c ∈ pl
        · obtain ⟨j, hj, ej⟩ := List.mem_iff_getElem.mp hm
          have ej' : pl[j]? = some c := by rw [List.getElem?_eq_getElem hj, ej]
          have : i ≠ j := fun z => by subst z; exact hc ej.symm
          exact Int.dvd_trans (h.red rfl i j c ej' this) (Int.dvd_mul_right _ _)
        · exact Int.dvd_trans (hz c hm e) (Int.dvd_mul_left _ _)
    rw [dot_lin, dot_unit] at hd
    have u : unit f pl[i] = 0 := by simp [unit, hne]
    rw [u] at hd
    have := Int.dvd_add hd (hj i _ ei)
    have e : 1 * dot (row R i) (vec b) + -ent b f * ent (row R i) f - ent (row R i) pl[i] * (1 * vec b pl[i] + -ent b f * 0) + (ent (row R i) f * ent b f + ent (row R i) pl[i] * ent b pl[i]) = dot (row R i) (vec b) := by
      have hv : vec b pl[i] = ent b pl[i] := rfl
      rw [hv]
      grind
    rwa [e] at this
  · refine dot_nil _ _ fun c => ?_
    by_cases hd : c < w
    · exact Int.dvd_trans (h.low i (by omega) c hd) (Int.dvd_mul_right _ _)
    · rw [ent_out (by rw [h.wid _ (row_mem hi)]; omega)]; simp
theorem ent_rep (n j : Nat) : ent (List.replicate n 0) j = 0 := by
  unfold ent
  rw [List.getD_eq_getElem?_getD, List.getElem?_replicate]
  split <;> rfl
theorem frees_succ (c : Nat) (pl : List Nat) : frees (c + 1) pl = if c ∈ pl then frees c pl else frees c pl ++ [c] := by
  unfold frees
  rw [List.range_succ, List.filter_append]
  split <;> simp [*]
def KfSt (p : Int) (w : Nat) (A : List Row) (R : List Row) (pl : List Nat) (τ0 : Tp) (c : Nat) (ρ : Loc) (τ : Tp) : Prop := τ = τ0 ∧ ∃ B j4 j7 j8 j9, ρ = [some (dM A), some (.int (w : Int)), some (.int p), some (dM B), j4, some (dM (R.take pl.length)), some (dN pl), j7, j8, j9] ∧ B.length = (frees c pl).length ∧ ∀ k f, (frees c pl)[k]? = some f → Good p w A pl f (row B k) ∧ ∀ e ∈ row B k, 0 ≤ e ∧ e < p
def KfIn (p : Int) (w : Nat) (A B : List Row) (R : List Row) (pl : List Nat) (f : Nat) (τ0 : Tp) (k : Nat) (ρ : Loc) (τ : Tp) : Prop := τ = τ0 ∧ ∃ b j8 j9, ρ = [some (dM A), some (.int (w : Int)), some (.int p), some (dM B), some (.int (f : Int)), some (dM (R.take pl.length)), some (dN pl), some (dI b), j8, j9] ∧
  b.length = w ∧ (∀ e ∈ b, 0 ≤ e ∧ e < p) ∧ ent b f = 1 ∧ (∀ c, c ∉ pl → c ≠ f → ent b c = 0) ∧ ∀ j q, j < k → pl[j]? = some q → ent b q = -ent (row R j) f % p
theorem set_rng {p : Int} {b : Row} (h : ∀ e ∈ b, 0 ≤ e ∧ e < p) {k : Nat} {a : Int} (ha : 0 ≤ a ∧ a < p) : ∀ e ∈ b.set k a, 0 ≤ e ∧ e < p := fun e he => by
  rcases List.mem_or_eq_of_mem_set he with z | z
  · exact h e z
  · rw [z]; exact ha
theorem row_take {R : List Row} {n i : Nat} (h : i < n) : row (R.take n) i = row R i := by
  unfold row; rw [List.getD_eq_getElem?_getD, List.getD_eq_getElem?_getD, List.getElem?_take, if_pos h]
theorem inc_inj {pl : List Nat} (h : pl.Pairwise (· < ·)) {i j q : Nat} (hi : pl[i]? = some q) (hj : pl[j]? = some q) : i = j := by
  rcases Nat.lt_trichotomy i j with l | l | l
  · exact absurd (inc_lt h hi hj l) (Nat.lt_irrefl _)
  · exact l
  · exact absurd (inc_lt h hj hi l) (Nat.lt_irrefl _)
theorem dN_get {pl : List Nat} {k q : Nat} (h : pl[k]? = some q) : (pl.map fun (k : Nat) => D.int (k : Int))[k]? = some (.int (q : Int)) := by rw [List.getElem?_map, h]; rfl
set_option maxHeartbeats 2000000 in
theorem kernel_fields_ok (cf : CF) (τ : Tp) {p : Int} (hp : p = 2 ∨ p = 3 ∨ p = 5 ∨ p = 7) {w : Nat} {A : List Row} (hw : w ≤ 1000) (hAs : A.length ≤ 1000)
    (hred : Post (cf Law.F_reduced [dM A, .int (w : Int), .int p] τ) fun d τ' => τ' = τ ∧ ∃ R pl, d = .tup [dM (R.take pl.length), dN pl] ∧ PS p w A w R pl) :
    Post (run cf 10 Law.b_kernel_fields [dM A, .int (w : Int), .int p] τ) fun d τ' => τ' = τ ∧ ∃ R pl B, d = dM B ∧ PS p w A w R pl ∧ B.length = (frees w pl).length ∧ (∀ k f, (frees w pl)[k]? = some f → Good p w A pl f (row B k)) ∧ Rng p B := by
  have hP := Pr_small hp
  have hpp : 0 < p := by omega
  obtain ⟨_, τ, e, rfl, R, pl, rfl, hR⟩ := hred
  unfold run
  refine .fin ?_
  simp [-List.map_take, Law.b_kernel_fields, start, List.replicate, e]
  have hcnt := hR.e.cnt
  have hlen := hR.e.len
  rw [rng_nat _ (by omega)]
  simp [-List.map_take]
  refine .bind (.forI (KfSt p w A R pl τ) ⟨rfl, [], none, none, none, none, rfl, rfl, fun k f h => absurd (len_of h) (by simp [frees])⟩ ?_ ?_)
  · rintro f x hx ρ τ' ⟨rfl, B, j4, j7, j8, j9, rfl, hB, hG⟩
    refine ⟨_, rfl, ?_⟩
    have hf : f < w := by simpa using len_of hx
    simp [-List.map_take, List.getElem?_range hf] at hx
    subst hx
    by_cases hm : f ∈ pl
    · simp [-List.map_take, cmp_isin, isIn_nat, hm]
      exact .ok ⟨rfl, B, _, _, _, _, rfl, by rw [frees_succ, if_pos hm]; exact hB, by rw [frees_succ, if_pos hm]; exact hG⟩
    · simp [-List.map_take, cmp_isin, isIn_nat, hm, binop_zeros hw, stAt]
      rw [setIx_nat _ _ _ (by simpa using hf)]
      have e1 : (List.replicate w (D.int 0)).set f (D.int 1) = ((List.replicate w 0).set f 1).map D.int := by simp [-List.map_take, List.map_set]
      simp [-List.map_take, -List.map_set, e1]
      refine .bind (.forI (KfIn p w A B R pl f τ') ⟨rfl, (List.replicate w 0).set f 1, j8, j9, by simp [-List.map_take], by simp [-List.map_take], ?_, ?_, ?_, fun j q hj => by omega⟩ ?_ ?_)
      · exact set_rng (fun e he => by simp [-List.map_take] at he; omega) (by omega)
      · rw [ent_set (by simpa using hf)]; simp [-List.map_take]
      · intro c hc ne
        rw [ent_set (by simpa using hf), if_neg ne, ent_rep]
      · rintro k x hx ρ τ2 ⟨rfl, b, i8, i9, rfl, hbl, hbr, hb1, hb0, hbk⟩
        obtain ⟨a, d, ha, hd, rfl⟩ := zipL_get hx
        refine ⟨_, rfl, ?_⟩
        have hk : k < pl.length := by simpa using len_of hd
        have hq : pl[k]? = some pl[k] := List.getElem?_eq_getElem hk
        rw [dN_get hq] at hd
        cases hd
        rw [dM_get (by simp [-List.map_take]; omega), row_take hk] at ha
        cases ha
        have hkw : (row R k).length = w := hR.e.wid _ (row_mem (by omega))
        have hqw : pl[k] < w := hR.e.lt _ (List.getElem_mem hk)
        have hne : pl[k] ≠ f := fun z => hm (z ▸ List.getElem_mem hk)
        simp [-List.map_take, dI_get (show f < (row R k).length by omega), binop_mod_pos hpp, stAt, setIx_dI _ (show pl[k] < b.length by omega)]
        refine .ok ⟨rfl, b.set pl[k] (-ent (row R k) f % p), _, _, by simp [-List.map_take]; exact ⟨rfl, rfl⟩, by simpa using hbl, set_rng hbr ⟨Int.emod_nonneg _ (by omega), Int.emod_lt_of_pos _ hpp⟩, ?_, fun c hc ne => ?_, fun j q hj hjq => ?_⟩
        · rw [ent_set (by omega), if_neg (fun z => hne z.symm)]; exact hb1
        · rw [ent_set (by omega), if_neg (fun z => hc (by rw [z]; exact List.getElem_mem hk))]; exact hb0 c hc ne
        · rw [ent_set (by omega)]
          by_cases ej : j = k
          · subst ej
            rw [hq] at hjq
            cases hjq
            simp [-List.map_take]
          · rw [if_neg fun (z : q = pl[k]) => ej (inc_inj hR.e.inc hjq (by rw [z]; exact hq))]
            exact hbk j q (by omega) hjq
      · rintro ρ τ2 ⟨rfl, b, i8, i9, rfl, hbl, hbr, hb1, hb0, hbk⟩
        rw [zipL_len] at hbk
        have hBs : B.length < LIM := by
          have : (frees f pl).length ≤ f := Nat.le_trans (List.length_filter_le _ _) (by simp)
          unfold LIM; omega
        simp [-List.map_take, hBs]
        have hgood : Good p w A pl f b := ⟨hbl, by rw [hb1]; exact hP.one, hb0, ker_free hP hR.e hm (fun c h1 h2 => by rw [hb0 c h1 h2]; simp) fun j q hq => by
          have hj := len_of hq
          rw [hb1, hbk j q (by simp [-List.map_take]; omega) hq]
          have h1 := hR.m j q hq
          have h2 := dvd_emod_sub (-ent (row R j) f) p
          have h3 := Int.dvd_trans h1 (Int.dvd_mul_right (ent (row R j) q - 1) (-ent (row R j) f % p))
          have h4 := Int.dvd_add h3 h2
          have e : (ent (row R j) q - 1) * (-ent (row R j) f % p) + (-ent (row R j) f % p - -ent (row R j) f) = ent (row R j) f * 1 + ent (row R j) q * (-ent (row R j) f % p) := by grind
          rwa [e] at h4⟩
        refine .ok ⟨rfl, B ++ [b], _, _, _, _, by simp [-List.map_take]; exact ⟨rfl, rfl, rfl, rfl⟩, by rw [frees_succ, if_neg hm]; simp [-List.map_take, hB], ?_⟩
        intro k g hg
        rw [frees_succ, if_neg hm] at hg
        by_cases l : k < B.length
        · rw [List.getElem?_append_left (by omega)] at hg
          have : row (B ++ [b]) k = row B k := by unfold row; rw [List.getD_eq_getElem?_getD, List.getElem?_append_left l, List.getD_eq_getElem?_getD]
          rw [this]; exact hG k g hg
        · have e : k = B.length := by have := len_of hg; simp [-List.map_take] at this; omega
          subst e
          rw [List.getElem?_append_right (by omega), hB] at hg
          simp [-List.map_take] at hg
          subst hg
          have : row (B ++ [b]) B.length = b := by unfold row; rw [List.getD_eq_getElem?_getD, List.getElem?_append_right (Nat.le_refl _)]; simp [-List.map_take]
          rw [this]; exact ⟨hgood, hbr⟩
  · rintro ρ τ' ⟨rfl, B, j4, j7, j8, j9, rfl, hB, hG⟩
    simp [-List.map_take] at hB hG
    simp [-List.map_take]
    refine .ok ⟨rfl, R, pl, B, rfl, hR, hB, fun k f h => (hG k f h).1, fun r hr => ?_⟩
    obtain ⟨k, hk, rfl⟩ := mem_row hr
    exact (hG k _ (List.getElem?_eq_getElem (by simpa using (by omega : k < (frees w pl).length)))).2
end Py.Wa

namespace Py.Wa
open Lin
theorem rank_fields_ok (cf : CF) (τ : Tp) {p : Int} {w : Nat} {A : List Row}
    (hred : Post (cf Law.F_reduced [dM A, .int (w : Int), .int p] τ) fun d τ' => τ' = τ ∧ ∃ R pl, d = .tup [dM (R.take pl.length), dN pl] ∧ PS p w A w R pl) :
    Post (run cf 3 Law.b_rank_fields [dM A, .int (w : Int), .int p] τ) fun d τ' => τ' = τ ∧ ∃ R pl, d = .int ((pl.length : Nat) : Int) ∧ PS p w A w R pl := by
  obtain ⟨_, τ, e, rfl, R, pl, rfl, hR⟩ := hred
  unfold run
  refine .fin ?_
  simp [Law.b_rank_fields, start, List.replicate, e]
  exact .ok ⟨rfl, R, pl, rfl, hR⟩
theorem widen_zip (A : List Row) (g : List Int) : (List.zip A g).map (fun q => q.1 ++ [q.2]) = widen A g := by
  induction A generalizing g with
  | nil => simp [widen]
  | cons r A ih => cases g with
    | nil => simp [widen]
    | cons a g => simp [widen, ih]
theorem widen_len (A : List Row) (g : List Int) : (widen A g).length = min A.length g.length := by
  rw [← widen_zip]; simp
theorem widen_mem {A : List Row} {g : List Int} {w : Nat} (hA : ∀ r ∈ A, r.length = w) : ∀ r ∈ widen A g, r.length = w + 1 := fun r hr => by
  rw [← widen_zip] at hr
  obtain ⟨q, hq, rfl⟩ := List.mem_map.mp hr
  have := List.of_mem_zip (a := q.1) (b := q.2) hq
  simp [hA _ this.1]
theorem binop_app {xs ys : List D} (h : xs.length + ys.length ≤ LIM) : binop .add (.lst xs) (.lst ys) = some (.lst (xs ++ ys)) := by
  simp only [binop]; rw [if_pos h]
/-- [row + [one] for row, one in zip(matrix, goal)] -/
theorem wide_ok (cf : CF) (τ : Tp) {A : List Row} {g : List Int} {w : Nat} (hA : ∀ r ∈ A, r.length = w) (hw : w ≤ 1000) {elt : E} {t : T} {ρ : Loc}
    (h : ∀ (r : Row) (a : Int), r.length = w → ∃ ρ', bindT ρ t (.tup [dI r, .int a]) = some ρ' ∧ evE cf elt ρ' τ = .ok (dI (r ++ [a])) τ) :
    lcRun cf elt [] t ρ (zipL (A.map dI) (g.map D.int)) τ = .ok ((widen A g).map dI) τ := by
  rw [zipL_map, lcRun_all _ (fun q => dI (q.1 ++ [q.2]))]
  · rw [← widen_zip, List.map_map]; rfl
  · intro q hq
    have hq' := List.of_mem_zip (a := q.1) (b := q.2) hq
    exact h q.1 q.2 (hA _ hq'.1)
def SfIn (p : Int) (w : Nat) (A : List Row) (g : D) (R : List Row) (pl : List Nat) (τ0 : Tp) (k : Nat) (ρ : Loc) (τ : Tp) : Prop := τ = τ0 ∧ ∃ b j7 j8 j9, ρ = [some (dM A), some (.int (w : Int)), some g, some (.int p), some (dI b), some (dM (R.take pl.length)), some (dN pl), j7, j8, j9] ∧
  b.length = w ∧ (∀ e ∈ b, 0 ≤ e ∧ e < p) ∧ (∀ c, c ∉ pl → ent b c = 0) ∧ ∀ j q, j < k → pl[j]? = some q → ent b q = ent (row R j) w
theorem ent_app_lt {r : Row} {a : Int} {c : Nat} (h : c < r.length) : ent (r ++ [a]) c = ent r c := by
  unfold ent; rw [List.getD_eq_getElem?_getD, List.getElem?_append_left h, List.getD_eq_getElem?_getD]
theorem ent_app_eq {r : Row} {a : Int} : ent (r ++ [a]) r.length = a := by
  unfold ent; rw [List.getD_eq_getElem?_getD, List.getElem?_append_right (Nat.le_refl _)]; simp
/-- a solution from the form of the wide matrix -/
theorem sol_of {p : Int} (hp : Pr p) {g1 : Bool} {w : Nat} {A R : List Row} {g : List Int} {pl : List Nat} (hl : A.length = g.length) (hA : ∀ r ∈ A, r.length = w) (h : Ech g1 true p (w + 1) (widen A g) (w + 1) R pl) (hw : w ∉ pl) {b : Row} (hb : b.length = w) {d : Int}
    (h0 : ∀ c, c ∉ pl → ent b c = 0) (hj : ∀ j q, pl[j]? = some q → p ∣ ent (row R j) q * ent b q - ent (row R j) w * d) : ∀ i, i < A.length → p ∣ dot (row A i) (vec b) - ent g i * d := by
  have hk := ker_free (b := b ++ [-d]) hp h hw (fun c hc ne => by
    by_cases l : c < b.length
    · rw [ent_app_lt l, h0 c hc]; simp
    · rw [ent_out (by simp; omega)]; simp) fun j q hq => by
      have hqw : q ≠ w := fun e => hw (e ▸ List.mem_of_getElem? hq)
      have := h.lt q (List.mem_of_getElem? hq)
      rw [ent_app_lt (show q < b.length by omega)]
      have e : ent (b ++ [-d]) w = -d := by rw [← hb]; exact ent_app_eq
      rw [e]
      have := hj j q hq
      have e2 : ent (row R j) w * -d + ent (row R j) q * ent b q = ent (row R j) q * ent b q - ent (row R j) w * d := by grind
      rwa [e2]
  intro i hi
  have := (ker_widen hl hA _).mp hk i hi
  have e : vec (b ++ [-d]) w = -d := by show ent (b ++ [-d]) w = _; rw [← hb]; exact ent_app_eq
  rw [e] at this
  have e3 : dot (row A i) (vec (b ++ [-d])) = dot (row A i) (vec b) := dot_congr _ _ _ fun c hc => by
    rw [hA _ (row_mem hi)] at hc
    exact ent_app_lt (by omega)
  rw [e3] at this
  have e2 : dot (row A i) (vec b) + ent g i * -d = dot (row A i) (vec b) - ent g i * d := by grind
  rwa [e2] at this
set_option maxHeartbeats 2000000 in
theorem solution_fields_ok (cf : CF) (τ : Tp) {p : Int} (hp : p = 2 ∨ p = 3 ∨ p = 5 ∨ p = 7) {w : Nat} {A : List Row} {g : List Int} (hA : ∀ r ∈ A, r.length = w) (hl : A.length = g.length) (hw : w ≤ 900) (hAs : A.length ≤ 1000)
    (hred : Post (cf Law.F_reduced [dM (widen A g), .int ((w : Int) + 1), .int p] τ) fun d τ' => τ' = τ ∧ ∃ R pl, d = .tup [dM (R.take pl.length), dN pl] ∧ PS p (w + 1) (widen A g) (w + 1) R pl) :
    Post (run cf 10 Law.b_solution_fields [dM A, .int (w : Int), dI g, .int p] τ) fun d τ' => τ' = τ ∧ ∃ R pl, PS p (w + 1) (widen A g) (w + 1) R pl ∧ ((w ∈ pl ∧ d = .non) ∨ (w ∉ pl ∧ ∃ x, d = dI x ∧ x.length = w ∧ (∀ e ∈ x, 0 ≤ e ∧ e < p) ∧ ∀ i, i < A.length → p ∣ dot (row A i) (vec x) - ent g i)) := by
  have hP := Pr_small hp
  have hpp : 0 < p := by omega
  obtain ⟨_, τ, e, rfl, R, pl, rfl, hR⟩ := hred
  unfold run
  refine .fin ?_
  simp [-List.map_take, Law.b_solution_fields, start, List.replicate, zlen (show (A.map dI).length ≤ LIM by simp; unfold LIM; omega)]
  rw [wide_ok cf τ hA (by omega) fun r a hr => ⟨_, rfl, by simp [binop_app (xs := r.map D.int) (ys := [.int a]) (by simp; unfold LIM; omega)]⟩]
  simp [-List.map_take, e]
  by_cases hm : w ∈ pl
  · simp [cmp_isin, isIn_nat, hm]
    exact .ok ⟨rfl, R, pl, hR, .inl ⟨hm, rfl⟩⟩
  · simp [-List.map_take, cmp_isin, isIn_nat, hm, binop_zeros (show w ≤ 1000 by omega)]
    refine .bind (.forI (SfIn p w A (dI g) R pl τ) ⟨rfl, List.replicate w 0, none, none, none, rfl, by simp, fun e he => by simp at he; omega, fun c _ => ent_rep _ _, fun j q hj => by omega⟩ ?_ ?_)
    · rintro k x hx ρ τ2 ⟨rfl, b, i7, i8, i9, rfl, hbl, hbr, hb0, hbk⟩
      obtain ⟨a, d, ha, hd, rfl⟩ := zipL_get hx
      refine ⟨_, rfl, ?_⟩
      have hk : k < pl.length := by simpa using len_of hd
      have hq : pl[k]? = some pl[k] := List.getElem?_eq_getElem hk
      rw [dN_get hq] at hd
      cases hd
      have hcnt := hR.e.cnt
      rw [dM_get (by simp; omega), row_take hk] at ha
      cases ha
      have hkw : (row R k).length = w + 1 := hR.e.wid _ (row_mem (by omega))
      have hqw : pl[k] < w := by
        have := hR.e.lt _ (List.getElem_mem hk)
        have : pl[k] ≠ w := fun z => hm (z ▸ List.getElem_mem hk)
        omega
      have hr := hR.r _ (row_mem (show k < R.length by omega)) _ (ent_mem (k := w) (by omega))
      simp [-List.map_take, dI_get (show w < (row R k).length by omega), stAt, setIx_dI _ (show pl[k] < b.length by omega)]
      refine .ok ⟨rfl, b.set pl[k] (ent (row R k) w), _, _, _, by simp [-List.map_take]; exact ⟨rfl, rfl, rfl⟩, by simpa using hbl, set_rng hbr hr, fun c hc => ?_, fun j q hj hjq => ?_⟩
      · rw [ent_set (by omega), if_neg (fun z => hc (by rw [z]; exact List.getElem_mem hk))]; exact hb0 c hc
      · rw [ent_set (by omega)]
        by_cases ej : j = k
        · subst ej
          rw [hq] at hjq
          cases hjq
          simp
        · rw [if_neg fun (z : q = pl[k]) => ej (inc_inj hR.e.inc hjq (by rw [z]; exact hq))]
          exact hbk j q (by omega) hjq
    · rintro ρ τ2 ⟨rfl, b, i7, i8, i9, rfl, hbl, hbr, hb0, hbk⟩
      rw [zipL_len] at hbk
      have hcnt := hR.e.cnt
      simp
      refine .ok ⟨rfl, R, pl, hR, .inr ⟨hm, b, rfl, hbl, hbr, fun i hi => ?_⟩⟩
      have := sol_of hP hl hA hR.e hm hbl (d := 1) hb0 (fun j q hq => by
        have hj := len_of hq
        rw [hbk j q (by simp; omega) hq]
        have h3 := Int.dvd_trans (hR.m j q hq) (Int.dvd_mul_right (ent (row R j) q - 1) (ent (row R j) w))
        have e : (ent (row R j) q - 1) * ent (row R j) w = ent (row R j) q * ent (row R j) w - ent (row R j) w * 1 := by grind
        rwa [e] at h3) i hi
      simpa using this
end Py.Wa

namespace Py.Wa
open Lin
/-! ### the greatest common divisor -/
/-- the two numbers are of one sign, the second the less -/
def Nrm (a b : Int) : Prop := (0 ≤ b ∧ b ≤ a) ∨ (a ≤ b ∧ b ≤ 0)
theorem gcd_step (a b : Int) : Int.gcd b (a - a.fdiv b * b) = Int.gcd a b := by
  have : a - a.fdiv b * b = a + b * (- a.fdiv b) := by grind
  rw [this, Int.gcd_comm]; simp
theorem fmod_eq (a b : Int) : a - a.fdiv b * b = a.fmod b := by
  have := Int.fmod_add_mul_fdiv a b
  grind
theorem nrm_step {a b : Int} (hb : b ≠ 0) : Nrm b (a - a.fdiv b * b) ∧ (a - a.fdiv b * b).natAbs < b.natAbs := by
  rw [fmod_eq]
  rcases Int.lt_or_gt_of_ne hb with h | h
  · have e := Int.neg_fmod_neg a b
    have h1 := Int.fmod_nonneg_of_pos (-a) (show 0 < -b by omega)
    have h2 := Int.fmod_lt_of_pos (-a) (show 0 < -b by omega)
    rw [e] at h1 h2
    exact ⟨.inr (by omega), by omega⟩
  · have h1 := Int.fmod_nonneg_of_pos a h
    have h2 := Int.fmod_lt_of_pos a h
    exact ⟨.inl (by omega), by omega⟩
theorem euc {a b : Int} (hb : b ≠ 0) (hn : Nrm a b) : a.natAbs = (a.fdiv b).natAbs * b.natAbs + (a - a.fdiv b * b).natAbs := by
  have key : ∀ a b : Int, 0 ≤ b → b ≤ a → b ≠ 0 → a.natAbs = (a.fdiv b).natAbs * b.natAbs + (a.fmod b).natAbs := by
    intro a b h0 h1 h2
    rw [Int.fdiv_eq_ediv_of_nonneg _ h0, Int.fmod_eq_emod_of_nonneg _ h0]
    have e := Int.mul_ediv_add_emod a b
    have q0 : 0 ≤ a / b := Int.ediv_nonneg (by omega) h0
    have r0 := Int.emod_nonneg a h2
    have m0 : 0 ≤ b * (a / b) := Int.mul_nonneg h0 q0
    have : a.natAbs = (b * (a / b)).natAbs + (a % b).natAbs := by omega
    rw [this, Int.natAbs_mul, Nat.mul_comm]
  rw [fmod_eq]
  rcases hn with ⟨h1, h2⟩ | ⟨h1, h2⟩
  · exact key a b h1 h2 hb
  · have := key (-a) (-b) (by omega) (by omega) (by omega)
    rw [Int.neg_fmod_neg, Int.neg_fdiv_neg] at this
    simpa using this
theorem fdiv_le (a b : Int) (hb : b ≠ 0) : (a.fdiv b).natAbs ≤ a.natAbs + 1 := by
  have h := (nrm_step (a := a) hb).2
  have e : a.fdiv b * b = a - (a - a.fdiv b * b) := by omega
  have e2 : (a.fdiv b * b).natAbs ≤ a.natAbs + (a - a.fdiv b * b).natAbs := by
    generalize a - a.fdiv b * b = r at e h ⊢
    rw [e]; omega
  rw [Int.natAbs_mul] at e2
  generalize (a.fdiv b).natAbs = q at e2 ⊢
  generalize (a - a.fdiv b * b).natAbs = r at h e2
  have hb' : 1 ≤ b.natAbs := by omega
  generalize b.natAbs = n at h e2 hb'
  by_cases hq : q ≤ a.natAbs + 1
  · exact hq
  · have : (a.natAbs + 2) * n ≤ q * n := Nat.mul_le_mul_right _ (by omega)
    have h3 : a.natAbs ≤ a.natAbs * n := Nat.le_mul_of_pos_right _ hb'
    have : (a.natAbs + 2) * n = a.natAbs * n + 2 * n := by grind
    omega
theorem coef {x y q M : Nat} (hx : x ≤ M) (hy : y ≤ M) : x + q * y ≤ (q + 1) * M := by
  have := Nat.mul_le_mul_left q hy
  have e : (q + 1) * M = q * M + M := by grind
  omega
/-- bounds of the next turn -/
theorem next_bound {a b : Int} {M C : Nat} (hb : b ≠ 0) (hn : Nrm a b) (h : M * a.natAbs * b.natAbs ≤ C) : ((a.fdiv b).natAbs + 1) * M * b.natAbs * (a - a.fdiv b * b).natAbs ≤ C := by
  have e := euc hb hn
  have l := (nrm_step (a := a) hb).2
  generalize (a.fdiv b).natAbs = q at e ⊢
  generalize (a - a.fdiv b * b).natAbs = r at e l ⊢
  generalize a.natAbs = x at e h
  generalize b.natAbs = y at e h l ⊢
  subst e
  refine Nat.le_trans ?_ h
  have h1 : (q + 1) * r ≤ q * y + r := by
    have := Nat.mul_le_mul_left q (Nat.le_of_lt l)
    have e : (q + 1) * r = q * r + r := by grind
    omega
  have h2 := Nat.mul_le_mul_left (M * y) h1
  have e1 : M * y * ((q + 1) * r) = (q + 1) * M * y * r := by grind
  have e2 : M * y * (q * y + r) = M * (q * y + r) * y := by grind
  omega
theorem next_meas {a b : Int} {m : Nat} (hb : b ≠ 0) (hn : Nrm a b) (h : a.natAbs * b.natAbs < 2 ^ m) : ∃ m', m = m' + 1 ∧ b.natAbs * (a - a.fdiv b * b).natAbs < 2 ^ m' := by
  have e := euc hb hn
  have l := (nrm_step (a := a) hb).2
  have hab : b.natAbs ≤ a.natAbs := by rcases hn with h | h <;> omega
  generalize (a - a.fdiv b * b).natAbs = r at e l ⊢
  have hq : 1 ≤ (a.fdiv b).natAbs := by
    by_cases z : (a.fdiv b).natAbs = 0
    · rw [z] at e; omega
    · omega
  generalize (a.fdiv b).natAbs = q at e hq
  have hb' : 1 ≤ b.natAbs := by omega
  generalize a.natAbs = x at e h hab
  generalize b.natAbs = y at e h hab l hb' ⊢
  have h1 : y + r ≤ x := by
    have := Nat.mul_le_mul_right y hq
    omega
  have h2 : 2 * (y * r) ≤ x * y := by
    have a1 := Nat.mul_le_mul_right y h1
    have a2 := Nat.mul_le_mul_left y (Nat.le_of_lt l)
    have e1 : (y + r) * y = y * y + y * r := by grind
    omega
  cases m with
  | zero =>
    have : 1 * 1 ≤ x * y := Nat.mul_le_mul (by omega) hb'
    simp at h; omega
  | succ m =>
    refine ⟨m, rfl, ?_⟩
    rw [Nat.pow_succ] at h
    omega
/-- what the loop of common holds behind its first turn -/
def CmSt (G : Nat) (τ0 : Tp) (a b : Int) (m : Nat) (ρ : Loc) (τ : Tp) : Prop := τ = τ0 ∧
  ((m = 2001 ∧ ρ = [some (.int a), some (.int b), some (.tup [.int 1, .int 0]), some (.tup [.int 0, .int 1]), none]) ∨
  ∃ (a b x0 x1 y0 y1 : Int) (j : Option D) (M : Nat), ρ = [some (.int a), some (.int b), some (.tup [.int x0, .int x1]), some (.tup [.int y0, .int y1]), j] ∧ Int.gcd a b = G ∧ a.natAbs < 2 ^ 1000 ∧ b.natAbs < 2 ^ 1000 ∧ Nrm a b ∧
    x0.natAbs ≤ M ∧ x1.natAbs ≤ M ∧ y0.natAbs ≤ M ∧ y1.natAbs ≤ M ∧ (b ≠ 0 → M * a.natAbs * b.natAbs ≤ 2 ^ 3001) ∧ a.natAbs * b.natAbs < 2 ^ m)
theorem sm_of {i : Int} {n : Nat} (h : i.natAbs < 2 ^ n) (hn : n ≤ 4000) : smallI i = true := smallI_of (Nat.lt_of_lt_of_le h (Nat.pow_le_pow_right (by decide) hn))
set_option maxHeartbeats 2000000 in
theorem common_ok (cf : CF) (τ : Tp) (a b : Int) (ha : a.natAbs < 2 ^ 1000) (hb : b.natAbs < 2 ^ 1000) :
    Post (run cf 5 Law.b_common [.int a, .int b] τ) fun d τ' => τ' = τ ∧ ∃ x y, d = .tup [.int (Int.gcd a b : Int), .int x, .int y] := by
  unfold run
  refine .fin ?_
  simp [Law.b_common, start, List.replicate]
  refine .bind (Post.whl (CmSt (Int.gcd a b) τ a b) (fun m ρ τ' h => ?_) 2001 WFUEL (by unfold WFUEL; omega) ⟨rfl, .inl ⟨rfl, rfl⟩⟩)
  have fine : ∀ (a2 b2 x0 x1 y0 y1 : Int) (j : Option D), b2 = 0 → Int.gcd a2 b2 = Int.gcd a b → Post (evSs cf [.ret (.ite (.cmp .ge (.var 0) (.int 0)) (.tup [.var 0, .idx (.var 2) (.int 0), .idx (.var 2) (.int 1)]) (.tup [.neg (.var 0), .neg (.idx (.var 2) (.int 0)), .neg (.idx (.var 2) (.int 1))]))] [some (.int a2), some (.int b2), some (.tup [.int x0, .int x1]), some (.tup [.int y0, .int y1]), j] τ) (FinP fun d τ' => τ' = τ ∧ ∃ x y, d = .tup [.int (Int.gcd a b : Int), .int x, .int y]) := by
    intro a2 b2 x0 x1 y0 y1 j e g
    subst e
    rw [Int.gcd_zero_right] at g
    simp
    by_cases l : 0 ≤ a2
    · simp [l]
      refine .ok ⟨rfl, _, _, by rw [← g, Int.natAbs_of_nonneg l]⟩
    · simp [l]
      refine .ok ⟨rfl, _, _, by rw [← g, Int.ofNat_natAbs_of_nonpos (by omega)]⟩
  rcases h with ⟨rfl, ⟨rfl, rfl⟩ | ⟨a2, b2, x0, x1, y0, y1, j, M, rfl, g, ha2, hb2, hn, hx0, hx1, hy0, hy1, hM, hm⟩⟩
  · by_cases e : b = 0
    · simp [e]
      refine .ok ?_
      have := fine a b 1 0 0 1 none e rfl
      simpa [e] using this
    · simp [e]
      refine .ok ?_
      simp
      have hq := fdiv_le a b e
      have l := nrm_step (a := a) e
      have sb : smallI b = true := sm_of hb (by omega)
      have sq : smallI (a.fdiv b) = true := smallI_of (by
        have : (2:Nat) ^ 1000 + 1 < 2 ^ 4000 := by decide +kernel
        omega)
      have s1 : smallI 1 = true := by decide +kernel
      have s0 : smallI 0 = true := by decide +kernel
      simp [binop_fdiv e sb, binop_mul sq sb, binop_mul sq s0, binop_mul sq s1]
      refine .ok ⟨rfl, .inr ⟨b, _, 0, 1, _, _, _, (a.fdiv b).natAbs + 1, rfl, gcd_step a b, hb, by omega, l.1, by omega, by omega, by omega, by omega, fun hr => ?_, ?_⟩⟩
      · have h1 : ((a.fdiv b).natAbs + 1) * b.natAbs ≤ (2 ^ 1000 + 1) * 2 ^ 1000 := Nat.mul_le_mul (by omega) (by omega)
        have h2 := Nat.mul_le_mul h1 (show (a - a.fdiv b * b).natAbs ≤ 2 ^ 1000 by omega)
        exact Nat.le_trans h2 (by decide +kernel)
      · have h1 : b.natAbs * (a - a.fdiv b * b).natAbs ≤ b.natAbs * 2 ^ 1000 := Nat.mul_le_mul_left _ (by omega)
        have h2 : b.natAbs * 2 ^ 1000 < 2 ^ 1000 * 2 ^ 1000 := Nat.mul_lt_mul_of_pos_right hb (by decide +kernel)
        rw [← Nat.pow_add] at h2
        omega
  · by_cases e : b2 = 0
    · simp [e]
      refine .ok ?_
      have := fine a2 b2 x0 x1 y0 y1 j e g
      simpa [e] using this
    · simp [e]
      refine .ok ?_
      obtain ⟨m', em, hm'⟩ := next_meas e hn hm
      refine ⟨m', em, ?_⟩
      have hq := fdiv_le a2 b2 e
      have l := nrm_step (a := a2) e
      have hM' := hM e
      have hM2 : M ≤ 2 ^ 3001 := by
        have : M * 1 * 1 ≤ M * a2.natAbs * b2.natAbs := Nat.mul_le_mul (Nat.mul_le_mul_left _ (by rcases hn with h | h <;> omega)) (by omega)
        omega
      have sb : smallI b2 = true := sm_of hb2 (by omega)
      have sq : smallI (a2.fdiv b2) = true := smallI_of (by
        have : (2:Nat) ^ 1000 + 1 < 2 ^ 4000 := by decide +kernel
        omega)
      have hC : (2:Nat) ^ 3001 < 2 ^ 4000 := by decide +kernel
      have s1 : smallI y0 = true := smallI_of (by omega)
      have s0 : smallI y1 = true := smallI_of (by omega)
      simp [binop_fdiv e sb, binop_mul sq sb, binop_mul sq s0, binop_mul sq s1]
      have c0 := coef (q := (a2.fdiv b2).natAbs) hx0 hy0
      have c1 := coef (q := (a2.fdiv b2).natAbs) hx1 hy1
      rw [← Int.natAbs_mul] at c0 c1
      have c2 : M ≤ ((a2.fdiv b2).natAbs + 1) * M := Nat.le_mul_of_pos_left _ (by omega)
      refine .ok ⟨rfl, .inr ⟨b2, _, y0, y1, _, _, _, ((a2.fdiv b2).natAbs + 1) * M, rfl, (gcd_step a2 b2).trans g, hb2, by omega, l.1, by omega, by omega, ?_, ?_, fun hr => next_bound e hn hM', hm'⟩⟩
      · generalize a2.fdiv b2 * y0 = u at c0
        omega
      · generalize a2.fdiv b2 * y1 = u at c1
        omega
end Py.Wa

namespace Py.Wa
open Lin
/-! ### rows without a common divisor -/
def gcdF (g : Nat) (r : Row) : Nat := r.foldl (fun (g : Nat) x => Int.gcd (g : Int) x) g
abbrev gcdL (r : Row) : Nat := gcdF 0 r
theorem gcdF_dvd : ∀ (r : Row) (g : Nat), (gcdF g r : Int) ∣ (g : Int) ∧ ∀ e ∈ r, (gcdF g r : Int) ∣ e
  | [], g => ⟨Int.dvd_refl _, fun e he => by simp at he⟩
  | a :: r, g => by
    obtain ⟨h1, h2⟩ := gcdF_dvd r (Int.gcd (g : Int) a)
    have e : gcdF g (a :: r) = gcdF (Int.gcd (g : Int) a) r := rfl
    rw [e]
    refine ⟨Int.dvd_trans h1 (Int.gcd_dvd_left _ _), fun x hx => ?_⟩
    simp only [List.mem_cons] at hx
    rcases hx with rfl | hx
    · exact Int.dvd_trans h1 (Int.gcd_dvd_right _ _)
    · exact h2 x hx
theorem gcdF_greatest {d : Int} : ∀ (r : Row) (g : Nat), d ∣ (g : Int) → (∀ e ∈ r, d ∣ e) → d ∣ (gcdF g r : Int)
  | [], g, h, _ => h
  | a :: r, g, h, hr => gcdF_greatest r _ (Int.dvd_coe_gcd h (hr a (by simp))) fun e he => hr e (by simp [he])
theorem gcdF_take {g : Nat} {r : Row} {k : Nat} (h : k < r.length) : gcdF g (r.take (k + 1)) = Int.gcd (gcdF g (r.take k) : Int) (ent r k) := by
  unfold gcdF
  rw [List.take_succ, List.foldl_append, List.getElem?_eq_getElem h]
  simp [ent, List.getD_eq_getElem?_getD, List.getElem?_eq_getElem h]
def clr (r : Row) : Row := if 1 < gcdL r then r.map (· / (gcdL r : Int)) else r
def Bd (n : Nat) (R : List Row) : Prop := ∀ r ∈ R, ∀ e ∈ r, e.natAbs < 2 ^ n
theorem gcdF_bound {n : Nat} : ∀ (r : Row) (g : Nat), g < 2 ^ n → (∀ e ∈ r, e.natAbs < 2 ^ n) → gcdF g r < 2 ^ n
  | [], g, h, _ => h
  | a :: r, g, h, hr => by
    refine gcdF_bound r (Int.gcd (g : Int) a) ?_ fun e he => hr e (by simp [he])
    by_cases z : Int.gcd (g : Int) a = 0
    · rw [z]; exact Nat.two_pow_pos n
    · have hg := Int.gcd_dvd_left (g : Int) a
      by_cases z2 : g = 0
      · subst z2
        simp
        exact hr a (by simp)
      · have := Nat.le_of_dvd (by omega) (Int.natCast_dvd_natCast.mp hg)
        omega
/-- the divisor of a row -/
theorem clr_spec (r : Row) : ∃ g : Int, 0 < g ∧ (∀ x, g * dot (clr r) x = dot r x) ∧ (clr r).length = r.length ∧ (∀ c, g * ent (clr r) c = ent r c) ∧ ∀ n : Nat, (∀ e ∈ r, e.natAbs < n) → ∀ e ∈ clr r, e.natAbs < n := by
  unfold clr
  split
  · rename_i h
    have hd := (gcdF_dvd r 0).2
    refine ⟨(gcdL r : Int), by omega, fun x => ?_, by simp, fun c => ?_, fun n hn e he => ?_⟩
    · generalize (gcdL r : Int) = g at hd
      clear h
      induction r generalizing x with
      | nil => simp [dot]
      | cons a r ih =>
        have e1 : g * (a / g) = a := Int.mul_ediv_cancel' (hd a (by simp))
        have e2 := ih (fun i => x (i + 1)) fun e he => hd e (by simp [he])
        simp only [List.map_cons, dot]
        have : g * (a / g * x 0 + dot (r.map (· / g)) fun i => x (i + 1)) = (g * (a / g)) * x 0 + g * dot (r.map (· / g)) fun i => x (i + 1) := by grind
        rw [this, e1, e2]
    · by_cases hc : c < r.length
      · have : ent (r.map (· / (gcdL r : Int))) c = ent r c / (gcdL r : Int) := by
          unfold ent
          simp [List.getD_eq_getElem?_getD, List.getElem?_eq_getElem hc]
        rw [this]
        exact Int.mul_ediv_cancel' (hd _ (ent_mem hc))
      · rw [ent_out (r := r) (by omega), ent_out (by rw [List.length_map]; omega)]; simp
    · obtain ⟨a, ha, rfl⟩ := List.mem_map.mp he
      have := hn a ha
      have h2 : (a / (gcdL r : Int)).natAbs ≤ a.natAbs := by
        have e1 : (gcdL r : Int) * (a / (gcdL r : Int)) = a := Int.mul_ediv_cancel' (hd a ha)
        generalize a / (gcdL r : Int) = q at e1 ⊢
        rw [← e1, Int.natAbs_mul]
        exact Nat.le_mul_of_pos_left _ (by simp; omega)
      omega
  · exact ⟨1, by decide, fun x => by simp, rfl, fun c => by simp, fun n hn => hn⟩
/-- what is asked of common -/
def CmOk (cf : CF) : Prop := ∀ (τ : Tp) (a b : Int), a.natAbs < 2 ^ 1000 → b.natAbs < 2 ^ 1000 → ∃ x y : Int, cf Law.F_common [.int a, .int b] τ = .ok (.tup [.int (Int.gcd a b : Int), .int x, .int y]) τ
def ClSt (r : Row) (τ0 : Tp) (k : Nat) (ρ : Loc) (τ : Tp) : Prop := τ = τ0 ∧ ∃ j, ρ = [some (dI r), some (.int (gcdL (r.take k) : Int)), j]
theorem cleared_ok (cf : CF) (hc : CmOk cf) (τ : Tp) (r : Row) (hr : ∀ e ∈ r, e.natAbs < 2 ^ 1000) (hl : r.length ≤ 1000) : Post (run cf 3 Law.b_cleared [dI r] τ) fun d τ' => τ' = τ ∧ d = dI (clr r) := by
  unfold run
  refine .fin ?_
  simp [Law.b_cleared, start, List.replicate]
  refine .bind (.fra (ClSt r τ) ⟨rfl, none, rfl⟩ ?_ ?_)
  · rintro k x hx ρ τ' ⟨rfl, j, rfl⟩
    have hk : k < r.length := by simpa using len_of hx
    rw [dI_get hk] at hx
    cases hx
    refine ⟨_, rfl, ?_⟩
    obtain ⟨x, y, e⟩ := hc τ' (gcdL (r.take k) : Int) (ent r k) (by
      have := gcdF_bound (r.take k) 0 (n := 1000) (Nat.two_pow_pos _) fun e he => hr e (List.mem_of_mem_take he)
      simpa using this) (hr _ (ent_mem hk))
    simp [e]
    exact .ok ⟨rfl, _, by rw [show gcdL (r.take (k + 1)) = _ from gcdF_take hk]⟩
  · rintro ρ τ' ⟨rfl, j, rfl⟩
    simp only [List.length_map, List.take_length]
    by_cases h : 1 < gcdL r
    · have hs : smallI (gcdL r : Int) = true := sm_of (n := 1000) (by
        have := gcdF_bound r 0 (n := 1000) (Nat.two_pow_pos _) hr
        simpa using this) (by omega)
      simp [show (1 : Int) < (gcdL r : Int) by omega, show r.length ≤ LIM by unfold LIM; omega]
      rw [lcRun_all D.int (fun a => D.int (a / (gcdL r : Int))) r fun a _ => ⟨_, rfl, by simp [binop_fdiv_pos (show 0 < (gcdL r : Int) by omega) hs]⟩]
      simp
      refine .ok ⟨rfl, ?_⟩
      unfold clr
      rw [if_pos h]
      simp [Function.comp_def]
    · simp [show ¬ (1 : Int) < (gcdL r : Int) by omega]
      refine .ok ⟨rfl, ?_⟩
      unfold clr
      rw [if_neg h]
/-! ### elimination over the fractions -/
def Pos (R : List Row) (pl : List Nat) : Prop := ∀ j q, pl[j]? = some q → 0 < ent (row R j) q
structure QS (w : Nat) (A : List Row) (c : Nat) (R : List Row) (pl : List Nat) : Prop where
  e : Ech false true 0 w A c R pl
  m : Pos R pl
theorem z_dvd {a : Int} : (0 : Int) ∣ a ↔ a = 0 := Int.zero_dvd
theorem QS.swap {w : Nat} {A R : List Row} {c : Nat} {pl : List Nat} (h : QS w A c R pl) {k : Nat} (hk : k < R.length) (hs : pl.length ≤ k) : QS w A c (Lin.swap R pl.length k) pl where
  e := h.e.swap hk hs
  m j q hq := by
    have hj := len_of hq
    rw [row_swap (by omega) hk, if_neg (by omega), if_neg (by omega)]
    exact h.m j q hq
theorem QS.op {w : Nat} {A R : List Row} {c : Nat} {pl : List Nat} (h : QS w A c R pl) {i : Nat} {r : Row} {γ α β : Int} (o : Op false 0 w R pl.length i r γ α β) (hγ : 0 < γ) (hα : i ≠ pl.length → 0 < α) (hi : i < R.length) (hs : pl.length < R.length) : QS w A c (R.set i r) pl where
  e := h.e.op Pr_zero o hi hs
  m j q hq := by
    have hj := len_of hq
    rw [row_set hi]
    split
    · rename_i e
      subst e
      have l := o.lin (unit q)
      rw [dot_unit, dot_unit, dot_unit] at l
      have z := z_dvd.mp (h.e.low pl.length (Nat.le_refl _) q (h.e.lt q (List.mem_of_getElem? hq)))
      rw [z, z_dvd] at l
      have hp := Int.mul_pos (hα (by omega)) (h.m j q hq)
      have : 0 < γ * ent r q := by omega
      rcases Int.lt_or_le 0 (ent r q) with z2 | z2
      · exact z2
      · have := Int.mul_nonneg (Int.le_of_lt hγ) (show 0 ≤ -ent r q by omega)
        rw [Int.mul_neg] at this
        omega
    · exact h.m j q hq
theorem Bd.mono {n m : Nat} (hnm : n ≤ m) {R : List Row} (h : Bd n R) : Bd m R := fun r hr e he => Nat.lt_of_lt_of_le (h r hr e he) (Nat.pow_le_pow_right (by decide) hnm)
theorem Bd.set {n : Nat} {R : List Row} (h : Bd n R) {i : Nat} {r : Row} (hr : ∀ e ∈ r, e.natAbs < 2 ^ n) : Bd n (R.set i r) := fun s hs => by
  rcases List.mem_or_eq_of_mem_set hs with z | z
  · exact h s z
  · rw [z]; exact hr
theorem Bd.swap {n : Nat} {R : List Row} (h : Bd n R) {s k : Nat} (hs : s < R.length) (hk : k < R.length) : Bd n (Lin.swap R s k) := (h.set (h _ (row_mem hk))).set (h _ (row_mem hs))
theorem sub_bound {n : Nat} {a b c d : Int} (ha : a.natAbs < 2 ^ n) (hb : b.natAbs < 2 ^ n) (hc : c.natAbs < 2 ^ n) (hd : d.natAbs < 2 ^ n) : (a * b - c * d).natAbs < 2 ^ (2 * n + 1) := by
  have h1 : a.natAbs * b.natAbs < 2 ^ n * 2 ^ n := Nat.lt_of_le_of_lt (Nat.mul_le_mul_left _ (Nat.le_of_lt hb)) (Nat.mul_lt_mul_of_pos_right ha (Nat.two_pow_pos _))
  have h2 : c.natAbs * d.natAbs < 2 ^ n * 2 ^ n := Nat.lt_of_le_of_lt (Nat.mul_le_mul_left _ (Nat.le_of_lt hd)) (Nat.mul_lt_mul_of_pos_right hc (Nat.two_pow_pos _))
  rw [← Int.natAbs_mul] at h1 h2
  rw [Nat.pow_succ, Nat.two_mul, Nat.pow_add]
  omega
theorem zipWith_mem {f : Int → Int → Int} : ∀ {r g : Row} {e : Int}, e ∈ List.zipWith f r g → ∃ a b, a ∈ r ∧ b ∈ g ∧ e = f a b
  | [], _, e, h => by simp at h
  | _ :: _, [], e, h => by simp at h
  | a :: r, b :: g, e, h => by
    simp only [List.zipWith_cons_cons, List.mem_cons] at h
    rcases h with rfl | h
    · exact ⟨a, b, by simp, by simp, rfl⟩
    · obtain ⟨a, b, h1, h2, h3⟩ := zipWith_mem h
      exact ⟨a, b, by simp [h1], by simp [h2], h3⟩
theorem op_neg {w : Nat} {R : List Row} {s : Nat} (hw : (row R s).length = w) : Op false 0 w R s s ((row R s).map fun a => -a) 1 (-1) 0 where
  wid := by simpa using hw
  γ0 := by decide
  α0 := by decide
  β0 _ := rfl
  lin x := by
    have := dot_map (p := 0) (γ := 1) (α := -1) (fun a => -a) (fun a => by
      have e : 1 * -a - -1 * a = 0 := by omega
      rw [e]; simp) (row R s) x
    have e : (1 : Int) * dot ((row R s).map fun a => -a) x - (-1 * dot (row R s) x - 0 * dot (row R s) x) = 1 * dot ((row R s).map fun a => -a) x - -1 * dot (row R s) x := by omega
    rwa [e]
  g1 h := by cases h
abbrev elR (pv sh : Int) (r g : Row) : Row := List.zipWith (fun a b => pv * a - sh * b) r g
theorem dot_elR (pv sh : Int) {r g : Row} (h : r.length = g.length) (x : Vec) : dot (elR pv sh r g) x = pv * dot r x - sh * dot g x := by
  have := dot_zipWith (p := 0) (γ := 1) (α := pv) (β := sh) (fun a b => pv * a - sh * b) (fun a b => by
    have e : 1 * (pv * a - sh * b) - (pv * a - sh * b) = 0 := by omega
    rw [e]; simp) r g h x
  have := z_dvd.mp this
  rw [Int.one_mul] at this
  exact Int.eq_of_sub_eq_zero this
theorem op_clr {w : Nat} {R : List Row} {s i : Nat} (hw : (row R s).length = w) (hw2 : (row R i).length = w) (hi : i ≠ s) {pv : Int} (hp : pv ≠ 0) (sh : Int) : ∃ g : Int, 0 < g ∧ Op false 0 w R s i (clr (elR pv sh (row R i) (row R s))) g pv sh := by
  obtain ⟨g, g0, gd, gl, _, _⟩ := clr_spec (elR pv sh (row R i) (row R s))
  exact ⟨g, g0, {
    wid := by rw [gl]; simp [hw, hw2]
    γ0 := fun z => by have := z_dvd.mp z; omega
    α0 := fun z => hp (z_dvd.mp z)
    β0 := fun h => absurd h hi
    lin := fun x => by
      rw [gd, dot_elR _ _ (by rw [hw, hw2])]
      simp
    g1 := fun h => by cases h }⟩
structure QM (w : Nat) (A : List Row) (c : Nat) (n : Nat) (R1 : List Row) (pl : List Nat) (k : Nat) (R : List Row) : Prop where
  s : QS w A c R pl
  len : R.length = R1.length
  piv : row R pl.length = row R1 pl.length
  rest : ∀ i, k ≤ i → row R i = row R1 i
  done : ∀ i, i < k → i ≠ pl.length → ent (row R i) c = 0
  bd : Bd (2 * n + 1) R
theorem QM.init {w : Nat} {A : List Row} {c n : Nat} {R : List Row} {pl : List Nat} (h : QS w A c R pl) (hb : Bd n R) : QM w A c n R pl 0 R :=
  ⟨h, rfl, rfl, fun _ _ => rfl, fun i hi => by omega, hb.mono (by omega)⟩
theorem QM.next {w : Nat} {A : List Row} {c n : Nat} {R1 : List Row} {pl : List Nat} {k : Nat} {R : List Row} (h : QM w A c n R1 pl k R) (hz : k = pl.length ∨ ent (row R k) c = 0) : QM w A c n R1 pl (k + 1) R where
  s := h.s
  len := h.len
  piv := h.piv
  rest i hi := h.rest i (by omega)
  done i hi ne := by
    by_cases e : i = k
    · subst e
      exact hz.resolve_left ne
    · exact h.done i (by omega) ne
  bd := h.bd
theorem QM.elim {w : Nat} {A : List Row} {c n : Nat} {R1 : List Row} {pl : List Nat} {k : Nat} {R : List Row} (h : QM w A c n R1 pl k R) (hb : Bd n R1) (hk : k < R1.length) (hs : pl.length < R1.length) (hc : c < w) (h1 : 0 < ent (row R1 pl.length) c) (ne : k ≠ pl.length) :
    (∀ e ∈ elR (ent (row R1 pl.length) c) (ent (row R k) c) (row R k) (row R pl.length), e.natAbs < 2 ^ (2 * n + 1)) ∧
    QM w A c n R1 pl (k + 1) (R.set k (clr (elR (ent (row R1 pl.length) c) (ent (row R k) c) (row R k) (row R pl.length)))) := by
  have hlen := h.len
  have w1 : (row R pl.length).length = w := h.s.e.wid _ (row_mem (by omega))
  have w2 : (row R k).length = w := h.s.e.wid _ (row_mem (by omega))
  obtain ⟨g, g0, o⟩ := op_clr (R := R) (s := pl.length) (i := k) w1 w2 ne (pv := ent (row R1 pl.length) c) (by omega) (ent (row R k) c)
  have hbd : ∀ e ∈ elR (ent (row R1 pl.length) c) (ent (row R k) c) (row R k) (row R pl.length), e.natAbs < 2 ^ (2 * n + 1) := fun e he => by
    obtain ⟨a, b, ha, hb', rfl⟩ := zipWith_mem he
    rw [h.rest k (Nat.le_refl _)] at ha ⊢
    rw [h.piv] at hb' w1
    rw [h.rest k (Nat.le_refl _)] at w2
    exact sub_bound (hb _ (row_mem hs) _ (ent_mem (by omega))) (hb _ (row_mem hk) _ ha) (hb _ (row_mem hk) _ (ent_mem (by omega))) (hb _ (row_mem hs) _ hb')
  refine ⟨hbd, h.s.op o g0 (fun _ => h1) (by omega) (by omega), by simpa using hlen, ?_, fun i hi => ?_, fun i hi ni => ?_, h.bd.set ?_⟩
  · rw [row_set (by omega), if_neg (fun z => ne z.symm)]; exact h.piv
  · rw [row_set (by omega), if_neg (by omega)]; exact h.rest i (by omega)
  · rw [row_set (by omega)]
    split
    · rename_i e
      subst e
      have l := z_dvd.mp (o.lin (unit c))
      rw [dot_unit, dot_unit, dot_unit] at l
      have hpv : ent (row R pl.length) c = ent (row R1 pl.length) c := by rw [h.piv]
      rw [hpv, Int.mul_comm (ent (row R i) c)] at l
      have : g * ent (clr (elR (ent (row R1 pl.length) c) (ent (row R i) c) (row R i) (row R pl.length))) c = 0 := by omega
      rcases Int.mul_eq_zero.mp this with z | z
      · omega
      · exact z
    · exact h.done i (by omega) ni
  · exact (clr_spec _).choose_spec.2.2.2.2 _ hbd
theorem QM.fin {w : Nat} {A : List Row} {c n : Nat} {R1 : List Row} {pl : List Nat} {k : Nat} {R : List Row} (h : QM w A c n R1 pl k R) (hk : R1.length ≤ k) (hs : pl.length < R1.length) (h1 : 0 < ent (row R1 pl.length) c) :
    QS w A (c + 1) R (pl ++ [c]) := by
  have := h.len
  refine ⟨h.s.e.take (by omega) (by rw [h.piv]; exact fun z => by have := z_dvd.mp z; omega) (fun i hi ne _ => by rw [h.done i (by omega) ne]; simp), fun j q hq => ?_⟩
  by_cases l : j < pl.length
  · rw [List.getElem?_append_left l] at hq
    exact h.s.m j q hq
  · rw [List.getElem?_append_right (by omega)] at hq
    by_cases ej : j = pl.length
    · subst ej
      simp at hq
      subst hq
      rw [h.piv]; exact h1
    · rw [List.getElem?_eq_none (by simp; omega)] at hq; cases hq
end Py.Wa

namespace Py.Wa
open Lin
/-- bits behind s pivots -/
def bits (n : Nat) : Nat → Nat
  | 0 => n
  | s + 1 => 2 * bits n s + 1
/-- slots of reduced_rows at the head of its loop -/
def RrSt (n : Nat) (w : Nat) (A : List Row) (τ0 : Tp) (c : Nat) (ρ : Loc) (τ : Tp) : Prop := τ = τ0 ∧ ∃ R pl j5 j6 j7 j8 j9 j10 j11 j12, ρ = [some (dM A), some (.int (w : Int)), some (dM R), some (dN pl), some (.int (pl.length : Int)), j5, j6, j7, j8, j9, j10, j11, j12] ∧ QS w A c R pl ∧ Bd (bits n pl.length) R
def RrIn (n : Nat) (w : Nat) (A : List Row) (τ0 : Tp) (c : Nat) (R1 : List Row) (pl : List Nat) (j6 : Option D) (k : Nat) (ρ : Loc) (τ : Tp) : Prop := τ = τ0 ∧ ∃ R j8 j9 j10 j11 j12, ρ = [some (dM A), some (.int (w : Int)), some (dM R), some (dN pl), some (.int (pl.length : Int)), some (.int (c : Int)), j6, some (.int (ent (row R1 pl.length) c)), j8, j9, j10, j11, j12] ∧ QM w A c n R1 pl k R
def ClOk (cf : CF) : Prop := ∀ (τ : Tp) (r : Row), (∀ e ∈ r, e.natAbs < 2 ^ 1000) → r.length ≤ 1000 → cf Law.F_cleared [dI r] τ = .ok (dI (clr r)) τ
theorem QS.start {w : Nat} {A : List Row} (hA : ∀ r ∈ A, r.length = w) : QS w A 0 (A.map clr) [] := by
  refine ⟨Ech.start (fun r hr => ?_) (by simp) (fun x => ?_) (fun h => by cases h), fun j q hq => by simp at hq⟩
  · obtain ⟨s, hs, rfl⟩ := List.mem_map.mp hr
    obtain ⟨g, _, _, e, _⟩ := clr_spec s
    rw [e]; exact hA s hs
  · constructor
    · intro k r hr
      obtain ⟨s, hs, rfl⟩ := List.mem_map.mp hr
      obtain ⟨g, g0, e, _⟩ := clr_spec s
      have := z_dvd.mp (k s hs)
      rw [← e, Int.mul_eq_zero] at this
      rw [this.resolve_left (by omega)]; simp
    · intro k s hs
      have := z_dvd.mp (k _ (List.mem_map_of_mem hs))
      obtain ⟨g, g0, e, _⟩ := clr_spec s
      rw [← e, this]; simp
set_option maxHeartbeats 2000000 in
theorem reduced_rows_ok (cf : CF) (hcl : ClOk cf) (τ : Tp) (n : Nat) (hn : bits n 4 ≤ 1000) {w : Nat} {A : List Row} (hA : ∀ r ∈ A, r.length = w) (hAs : A.length ≤ 4) (hw : w ≤ 900) (hb : Bd n A) :
    Post (run cf 13 Law.b_reduced_rows [dM A, .int (w : Int)] τ) fun d τ' => τ' = τ ∧ ∃ R pl, d = .tup [dM (R.take pl.length), dN pl] ∧ QS w A w R pl ∧ Bd (bits n pl.length) R := by
  have hbn : ∀ s, s ≤ 4 → bits n s ≤ 1000 := fun s hs => by
    have : s = 0 ∨ s = 1 ∨ s = 2 ∨ s = 3 ∨ s = 4 := by omega
    rcases this with rfl | rfl | rfl | rfl | rfl <;> simp only [bits] at hn ⊢ <;> omega
  unfold run
  refine .fin ?_
  simp [Law.b_reduced_rows, start, List.replicate, show A.length ≤ LIM by unfold LIM; omega]
  rw [lcRun_all dI (fun r => dI (clr r)) A fun r hr => ⟨_, rfl, by
    simp [hcl τ r (fun e he => (hb.mono (hbn 0 (by omega))) r hr e he) (by rw [hA r hr]; omega)]⟩]
  simp
  rw [rng_nat _ (by omega)]
  simp
  have hb0 : Bd (bits n 0) (A.map clr) := fun r hr => by
    obtain ⟨s, hs, rfl⟩ := List.mem_map.mp hr
    exact (clr_spec s).choose_spec.2.2.2.2 _ (hb s hs)
  have eA : A.map (fun r => dI (clr r)) = (A.map clr).map dI := by simp [Function.comp_def]
  refine .bind (.forI (RrSt n w A τ) ⟨rfl, A.map clr, [], none, none, none, none, none, none, none, none, by rw [eA]; rfl, .start hA, hb0⟩ ?_ ?_)
  · rintro c x hx ρ τ' ⟨rfl, R, pl, j5, j6, j7, j8, j9, j10, j11, j12, rfl, hR, hbR⟩
    refine ⟨_, rfl, ?_⟩
    have hc : c < w := by simpa using len_of hx
    simp [List.getElem?_range hc] at hx
    subst hx
    have hRl := hR.e.len
    have hcnt := hR.e.cnt
    simp
    rw [rng2_nat _ _ (by omega) (by omega)]
    simp [show R.length - pl.length ≤ LIM by unfold LIM; omega]
    rw [lcRun_map (fun (k : Nat) => D.int (k : Int)) (fun k => decide (ent (row R k) c ≠ 0)) (fun k => .int (k : Int)) _ fun k hk => ⟨_, rfl, by
      simp at hk
      have hk1 : k < R.length := by omega
      have hcw : c < (row R k).length := by rw [hR.e.wid _ (row_mem hk1)]; exact hc
      simp [dM_get hk1, dI_get hcw], fun _ => by simp⟩]
    rcases ex_head (p := fun k => decide (ent (row R k) c ≠ 0)) (xs := List.range' pl.length (R.length - pl.length)) with ⟨e, h0⟩ | ⟨k, r, e, h0, h1⟩
    · rw [e]
      simp
      refine .ok ⟨rfl, R, pl, _, _, _, _, _, _, _, _, rfl, ⟨hR.e.skip fun i h1 h2 => ?_, hR.m⟩, hbR⟩
      have := h0 i (by simp; omega)
      simp at this
      rw [this]; simp
    · rw [e]
      simp at h0 h1
      have hk1 : k < R.length := by omega
      have hs : pl.length < R.length := by omega
      have hbs : bits n pl.length ≤ 1000 := hbn _ (by omega)
      have hbs1 : 2 * bits n pl.length + 1 ≤ 1000 := hbn (pl.length + 1) (by omega)
      simp only [Py.R.bind_ok, List.map_cons]
      simp [stAt, dM_get hk1, dM_get hs, setIx_dM _ hs]
      rw [setIx_dM _ (by simpa using hk1), show (R.set pl.length (row R k)).set k (row R pl.length) = Lin.swap R pl.length k from rfl]
      have hS := hR.swap hk1 h0.1
      have hSb := hbR.swap hs hk1
      have hS0 : row (Lin.swap R pl.length k) pl.length = row R k := by
        rw [row_swap hs hk1]
        by_cases e : pl.length = k
        · subst e; simp
        · simp [e]
      have hSl : (Lin.swap R pl.length k).length = R.length := swap_len R pl.length k
      have n1 : ent (row (Lin.swap R pl.length k) pl.length) c ≠ 0 := by rw [hS0]; exact h1
      clear h1
      generalize Lin.swap R pl.length k = R2 at hS hSl n1 hSb
      have hs2 : pl.length < R2.length := by omega
      have hw2 : (row R2 pl.length).length = w := hS.e.wid _ (row_mem hs2)
      have flip : ∃ R3, QS w A c R3 pl ∧ R3.length = R2.length ∧ Bd (bits n pl.length) R3 ∧ 0 < ent (row R3 pl.length) c ∧ ∃ j11', evS cf (.iff (.cmp .lt (.idx (.idx (.var 2) (.var 4)) (.var 5)) (.int 0))
          [.six 2 (.var 4) (.lc (.neg (.var 11)) [11] (.nm 11) (.val (.idx (.var 2) (.var 4))) [])]
          []) [some (dM A), some (.int (w : Int)), some (dM R2), some (dN pl), some (.int (pl.length : Int)), some (.int (c : Int)), some (.lst (.int (k : Int) :: List.map (fun (k : Nat) => D.int (k : Int)) r)), j7, j8, j9, j10, j11, j12] τ' = .ok (.nx [some (dM A), some (.int (w : Int)), some (dM R3), some (dN pl), some (.int (pl.length : Int)), some (.int (c : Int)), some (.lst (.int (k : Int) :: List.map (fun (k : Nat) => D.int (k : Int)) r)), j7, j8, j9, j10, j11', j12]) τ' := by
        by_cases neg : ent (row R2 pl.length) c < 0
        · have o := op_neg (R := R2) (s := pl.length) hw2
          refine ⟨R2.set pl.length ((row R2 pl.length).map fun a => -a), hS.op o (by decide) (fun z => absurd rfl z) hs2 hs2, by simp, hSb.set fun e he => ?_, ?_, j11, ?_⟩
          · obtain ⟨a, ha, rfl⟩ := List.mem_map.mp he
            have := hSb _ (row_mem hs2) a ha
            omega
          · rw [row_set hs2, if_pos rfl]
            have l := z_dvd.mp (o.lin (unit c))
            rw [dot_unit, dot_unit] at l
            omega
          · simp [dM_get hs2, dI_get (show c < (row R2 pl.length).length by omega), neg, show (row R2 pl.length).length ≤ LIM by rw [hw2]; unfold LIM; omega]
            rw [lcRun_all D.int (fun a => D.int (-a)) _ fun a ha => ⟨_, rfl, by simp⟩]
            have hm : (row R2 pl.length).map (fun a => D.int (-a)) = ((row R2 pl.length).map fun a => -a).map D.int := by simp [Function.comp_def]
            simp [-List.map_map, -List.map_set, stAt, hm, setIx_dM _ hs2]
        · exact ⟨R2, hS, rfl, hSb, by omega, j11, by simp [dM_get hs2, dI_get (show c < (row R2 pl.length).length by omega), neg]⟩
      obtain ⟨R3, hS3, hl3, hb3, hp3, j11', e3⟩ := flip
      simp only [Py.R.of_some, Py.R.bind_ok, thn_nx, eSs_cons]
      rw [e3]
      clear e3
      have hs3 : pl.length < R3.length := by omega
      have hw3 : (row R3 pl.length).length = w := hS3.e.wid _ (row_mem hs3)
      simp [dM_get hs3, dI_get (show c < (row R3 pl.length).length by omega)]
      refine .bind (.forI (RrIn (bits n pl.length) w A τ' c R3 pl (some (.lst (.int (k : Int) :: List.map (fun (k : Nat) => D.int (k : Int)) r)))) ⟨rfl, R3, _, _, _, _, _, rfl, .init hS3 hb3⟩ ?_ ?_)
      · rintro i x hx ρ τ2 ⟨rfl, R4, i8, i9, i10, i11, i12, rfl, hM⟩
        rw [enmL_get] at hx
        have hi : i < R3.length := by
          rw [Option.map_eq_some_iff] at hx
          obtain ⟨d, hd, _⟩ := hx
          simpa using len_of hd
        rw [dM_get hi] at hx
        simp at hx
        subst hx
        refine ⟨_, rfl, ?_⟩
        have hi4 := hM.len
        have hr4 : row R4 i = row R3 i := hM.rest i (Nat.le_refl _)
        have hw4 : (row R3 i).length = w := hS3.e.wid _ (row_mem hi)
        by_cases e1 : i = pl.length
        · subst e1
          simp
          exact .ok ⟨rfl, R4, _, _, _, _, _, rfl, hM.next (.inl rfl)⟩
        · by_cases e2 : ent (row R3 i) c = 0
          · simp [dI_get (show c < (row R3 i).length by omega), e2, show ¬ ((i : Int) = (pl.length : Int)) by omega]
            exact .ok ⟨rfl, R4, _, _, _, _, _, rfl, hM.next (.inr (by rw [hr4]; exact e2))⟩
          · have hs4 : pl.length < R4.length := by omega
            have hN := hM.elim hb3 hi hs3 hc hp3 e1
            simp only [hr4] at hN
            obtain ⟨hNb, hN⟩ := hN
            have hp4 : row R4 pl.length = row R3 pl.length := hM.piv
            have bsm : ∀ j, j < R3.length → ∀ e ∈ row R3 j, smallI e = true := fun j hj e he => sm_of (hb3 _ (row_mem hj) e he) (by omega)
            simp [-List.map_map, -List.map_set, dI_get (show c < (row R3 i).length by omega), e2, show ¬ ((i : Int) = (pl.length : Int)) by omega, dM_get hs4, zlen (show ((row R3 i).map D.int).length ≤ LIM by simp [hw4]; unfold LIM; omega)]
            have hz : ∀ (ρ : Loc), (∀ a b : Int, ∃ ρ', bindT ρ (.tp [11, 12]) (.tup [.int a, .int b]) = some ρ' ∧ (smallI a = true → smallI b = true → evE cf (.bin .sub (.bin .mul (.var 7) (.var 11)) (.bin .mul (.var 10) (.var 12))) ρ' τ2 = .ok (.int (ent (row R3 pl.length) c * a - ent (row R3 i) c * b)) τ2)) →
                lcRun cf (.bin .sub (.bin .mul (.var 7) (.var 11)) (.bin .mul (.var 10) (.var 12))) [] (.tp [11, 12]) ρ (zipL ((row R3 i).map D.int) ((row R4 pl.length).map D.int)) τ2 = .ok ((elR (ent (row R3 pl.length) c) (ent (row R3 i) c) (row R3 i) (row R4 pl.length)).map D.int) τ2 := by
              intro ρ h
              rw [zipL_map, lcRun_all _ (fun q => .int (ent (row R3 pl.length) c * q.1 - ent (row R3 i) c * q.2))]
              · rw [elR, ← zip_map_eq, List.map_map]; rfl
              · intro q hq
                have hq' := List.of_mem_zip (a := q.1) (b := q.2) hq
                obtain ⟨ρ', h1, h2⟩ := h q.1 q.2
                exact ⟨ρ', h1, h2 (bsm i hi _ hq'.1) (bsm _ hs3 _ (hp4 ▸ hq'.2))⟩
            rw [hz _ fun a b => ⟨_, rfl, fun ha hb => by simp [binop_mul (bsm _ hs3 _ (ent_mem (show c < (row R3 pl.length).length by omega))) ha, binop_mul (bsm i hi _ (ent_mem (show c < (row R3 i).length by omega))) hb]⟩]
            simp [-List.map_map, -List.map_set, -List.map_zipWith, stAt]
            rw [hcl τ2 _ (fun e he => Nat.lt_of_lt_of_le (hNb e he) (Nat.pow_le_pow_right (by decide) hbs1)) (by simp [elR, hw4]; omega)]
            simp [-List.map_map, -List.map_set, -List.map_zipWith, setIx_dM _ (show i < R4.length by omega)]
            exact .ok ⟨rfl, _, _, _, _, _, _, rfl, hN⟩
      · rintro ρ τ2 ⟨rfl, R4, i8, i9, i10, i11, i12, rfl, hM⟩
        have hF := hM.fin (by rw [enmL_len]; simp) hs3 hp3
        simp [show pl.length < LIM by unfold LIM; omega]
        exact .ok ⟨rfl, R4, pl ++ [c], _, _, _, _, _, _, _, _, by simp; exact ⟨rfl, rfl, rfl, rfl, rfl, rfl, rfl, rfl⟩, hF, by simpa [bits] using hM.bd⟩
  · rintro ρ τ' ⟨rfl, R, pl, j5, j6, j7, j8, j9, j10, j11, j12, rfl, hR, hbR⟩
    simp [slice_to _ _ (show pl.length ≤ (R.map dI).length by simpa using hR.e.cnt)]
    exact .ok ⟨rfl, R, pl, by simp [List.map_take], by simpa using hR, hbR⟩
end Py.Wa

namespace Py.Wa
open Lin
theorem rank_rational_ok (cf : CF) (τ : Tp) {w n : Nat} {A : List Row}
    (hred : Post (cf Law.F_reduced_rows [dM A, .int (w : Int)] τ) fun d τ' => τ' = τ ∧ ∃ R pl, d = .tup [dM (R.take pl.length), dN pl] ∧ QS w A w R pl ∧ Bd (bits n pl.length) R) :
    Post (run cf 2 Law.b_rank_rational [dM A, .int (w : Int)] τ) fun d τ' => τ' = τ ∧ ∃ R pl, d = .int ((pl.length : Nat) : Int) ∧ QS w A w R pl := by
  obtain ⟨_, τ, e, rfl, R, pl, rfl, hR, _⟩ := hred
  unfold run
  refine .fin ?_
  simp [Law.b_rank_rational, start, List.replicate, e]
  exact .ok ⟨rfl, R, pl, rfl, hR⟩
/-! ### gcd, lowest -/
def GcSt (G : Nat) (τ0 : Tp) (m : Nat) (ρ : Loc) (τ : Tp) : Prop := τ = τ0 ∧ ∃ a b : Int, ρ = [some (.int a), some (.int b)] ∧ 0 ≤ a ∧ 0 ≤ b ∧ Int.gcd a b = G ∧ (m = 2001 ∨ (b ≤ a ∧ a.natAbs * b.natAbs < 2 ^ m)) ∧ a.natAbs < 2 ^ 1000 ∧ b.natAbs < 2 ^ 1000
set_option maxHeartbeats 2000000 in
theorem law_gcd_ok (cf : CF) (τ : Tp) (a b : Int) (ha : a.natAbs < 2 ^ 1000) (hb : b.natAbs < 2 ^ 1000) :
    Post (run cf 2 Law.b__law_gcd [.int a, .int b] τ) fun d τ' => τ' = τ ∧ d = .int (Int.gcd a b : Int) := by
  unfold run
  refine .fin ?_
  simp [Law.b__law_gcd, start, List.replicate]
  have ea : (if a < 0 then -a else a) = (a.natAbs : Int) := by split <;> omega
  have eb : (if b < 0 then -b else b) = (b.natAbs : Int) := by split <;> omega
  rw [ea, eb]
  refine .bind (Post.whl (GcSt (Int.gcd a b) τ) (fun m ρ τ' h => ?_) 2001 WFUEL (by unfold WFUEL; omega) ⟨rfl, _, _, rfl, by omega, by omega, by simp [Int.gcd], .inl rfl, by simpa using ha, by simpa using hb⟩)
  obtain ⟨rfl, x, y, rfl, hx, hy, g, hm, hx2, hy2⟩ := h
  by_cases e : y = 0
  · subst e
    simp
    refine .ok ?_
    simp
    refine .ok ⟨rfl, ?_⟩
    rw [← g, Int.gcd_zero_right, Int.natAbs_of_nonneg hx]
  · simp [show 0 < y by omega]
    refine .ok ?_
    have r0 := Int.emod_nonneg x e
    have r1 := Int.emod_lt_of_pos x (show 0 < y by omega)
    have g2 : Int.gcd y (x % y) = Int.gcd a b := by
      rw [← g]
      have := gcd_step x y
      rwa [fmod_eq, Int.fmod_eq_emod_of_nonneg _ hy] at this
    have nx : ∃ m', m = m' + 1 ∧ (x % y ≤ y ∧ y.natAbs * (x % y).natAbs < 2 ^ m') := by
      rcases hm with rfl | ⟨h1, h2⟩
      · refine ⟨2000, rfl, by omega, ?_⟩
        have h1 : y.natAbs * (x % y).natAbs ≤ y.natAbs * 2 ^ 1000 := Nat.mul_le_mul_left _ (by omega)
        have h2 : y.natAbs * 2 ^ 1000 < 2 ^ 1000 * 2 ^ 1000 := Nat.mul_lt_mul_of_pos_right hy2 (by decide +kernel)
        rw [← Nat.pow_add] at h2
        omega
      · obtain ⟨m', e1, e2⟩ := next_meas e (.inl ⟨hy, h1⟩) h2
        rw [fmod_eq, Int.fmod_eq_emod_of_nonneg _ hy] at e2
        exact ⟨m', e1, by omega, e2⟩
    obtain ⟨m', em, h1, h2⟩ := nx
    refine ⟨m', em, ?_⟩
    simp [binop_mod_pos (show 0 < y by omega)]
    exact .ok ⟨rfl, y, x % y, rfl, hy, r0, g2, .inr ⟨h1, h2⟩, hy2, by omega⟩
def LoSt (r : Row) (d : Int) (τ0 : Tp) (k : Nat) (ρ : Loc) (τ : Tp) : Prop := τ = τ0 ∧ ∃ (j : Option D) (s : Int), ρ = [some (dI r), some (.int d), some (.int s), j] ∧ ((k = 0 ∧ s = d) ∨ (0 < k ∧ s = (gcdF d.natAbs (r.take k) : Int)))
/-- lowest terms -/
structure Low (r : Row) (d : Int) (x : Row) (b s : Int) : Prop where
  s0 : s ≠ 0
  len : x.length = r.length
  num : ∀ c, s * ent x c = ent r c
  den : s * b = d
  pos : 0 < b
  one : gcdF b.natAbs x = 1
def LowQ (r : Row) (d : Int) (τ0 : Tp) (v : D) (τ : Tp) : Prop := τ = τ0 ∧ ∃ x b s, v = .tup [tI x, .int b] ∧ Low r d x b s
theorem exact_fdiv {a s : Int} (hs : s ≠ 0) (h : s ∣ a) : s * a.fdiv s = a := by
  obtain ⟨k, rfl⟩ := h
  rw [Int.mul_fdiv_cancel_left _ hs]
theorem lowest_ok (cf : CF) (hc : CmOk cf) (τ : Tp) (r : Row) (d : Int) (hr : ∀ e ∈ r, e.natAbs < 2 ^ 1000) (hd : d.natAbs < 2 ^ 1000) (d0 : d ≠ 0) (hn : r ≠ []) (hl : r.length ≤ 1000) :
    Post (run cf 4 Law.b_lowest [dI r, .int d] τ) (LowQ r d τ) := by
  unfold run
  refine .fin ?_
  simp [Law.b_lowest, start, List.replicate]
  have hgb : ∀ k, gcdF d.natAbs (r.take k) < 2 ^ 1000 := fun k => gcdF_bound _ _ hd fun e he => hr e (List.mem_of_mem_take he)
  refine .bind (.fra (LoSt r d τ) ⟨rfl, none, d, rfl, .inl ⟨rfl, rfl⟩⟩ ?_ ?_)
  · rintro k x hx ρ τ' ⟨rfl, j, s, rfl, hs⟩
    have hk : k < r.length := by simpa using len_of hx
    rw [dI_get hk] at hx
    cases hx
    refine ⟨_, rfl, ?_⟩
    have hsb : s.natAbs < 2 ^ 1000 := by
      rcases hs with ⟨_, rfl⟩ | ⟨_, rfl⟩
      · exact hd
      · simpa using hgb k
    obtain ⟨x, y, e⟩ := hc τ' s (ent r k) hsb (hr _ (ent_mem hk))
    simp [e]
    refine .ok ⟨rfl, _, _, rfl, .inr ⟨by omega, ?_⟩⟩
    rw [gcdF_take hk]
    rcases hs with ⟨rfl, rfl⟩ | ⟨_, rfl⟩
    · show _ = ((Int.gcd (s.natAbs : Int) _ : Nat) : Int)
      simp [Int.gcd]
    · rfl
  · rintro ρ τ' ⟨rfl, j, s, rfl, hs⟩
    have hl0 : 0 < r.length := List.length_pos_iff.mpr hn
    simp at hs
    have hs : s = (gcdF d.natAbs r : Int) := by
      rcases hs with ⟨h, _⟩ | ⟨_, h⟩
      · exact absurd h hn
      · exact h
    obtain ⟨g1, g2⟩ := gcdF_dvd r d.natAbs
    rw [← hs] at g1 g2
    have gd : s ∣ d := Int.dvd_natAbs.mp g1
    have s0 : s ≠ 0 := fun z => by rw [z] at gd; exact d0 (Int.zero_dvd.mp gd)
    have sp : 0 < s := by have : 0 ≤ s := by rw [hs]; omega
                          omega
    have sb : s.natAbs < 2 ^ 1000 := by
      have := hgb r.length
      rw [List.take_length] at this
      rw [hs]; simpa using this
    -- the signed divisor
    have key : ∀ t : Int, t ≠ 0 → t.natAbs = s.natAbs → 0 < d.fdiv t → smallI t = true → t ∣ d → (∀ e ∈ r, t ∣ e) → Post (evSs cf [.ret (.tup [.bi .tuple (.lc (.bin .fdiv (.var 3) (.var 2)) [3] (.nm 3) (.val (.var 0)) []), .bin .fdiv (.var 1) (.var 2)])] [some (dI r), some (.int d), some (.int t), j] τ') (FinP (LowQ r d τ')) := by
      intro t t0 ta tp ts td te
      simp [show r.length ≤ LIM by unfold LIM; omega]
      rw [lcRun_all D.int (fun a => D.int (a.fdiv t)) r fun a ha => ⟨_, rfl, by simp [binop_fdiv t0 ts]⟩]
      simp [binop_fdiv t0 ts]
      refine .ok ⟨rfl, r.map fun a => a.fdiv t, d.fdiv t, t, by simp [Function.comp_def], t0, by simp, fun c => ?_, exact_fdiv t0 td, tp, ?_⟩
      · by_cases hcl : c < r.length
        · have : ent (r.map fun a => a.fdiv t) c = (ent r c).fdiv t := by
            unfold ent
            simp [List.getD_eq_getElem?_getD, List.getElem?_eq_getElem hcl]
          rw [this]
          exact exact_fdiv t0 (te _ (ent_mem hcl))
        · rw [ent_out (r := r) (by omega), ent_out (by rw [List.length_map]; omega)]; simp
      · obtain ⟨h1, h2⟩ := gcdF_dvd (r.map fun a => a.fdiv t) (d.fdiv t).natAbs
        generalize gcdF (d.fdiv t).natAbs (r.map fun a => a.fdiv t) = u at h1 h2
        have h3 : (t.natAbs : Int) * (u : Int) ∣ s := by
          rw [hs]
          refine gcdF_greatest r _ ?_ fun e he => ?_
          · have e1 : (d.natAbs : Int) = (t.natAbs : Int) * ((d.fdiv t).natAbs : Int) := by
              rw [← Int.natCast_mul, ← Int.natAbs_mul, exact_fdiv t0 td]
            rw [e1]
            exact Int.mul_dvd_mul_left _ h1
          · have e1 : e = t * e.fdiv t := (exact_fdiv t0 (te e he)).symm
            rw [e1]
            exact Int.mul_dvd_mul (Int.natAbs_dvd.mpr (Int.dvd_refl _)) (h2 _ (List.mem_map_of_mem he))
        rw [ta] at h3
        have h4 : (s.natAbs : Int) = s := Int.natAbs_of_nonneg (by omega)
        rw [h4] at h3
        obtain ⟨k, hk⟩ := h3
        have h5 : s * ((u : Int) * k - 1) = 0 := by grind
        have h6 := (Int.mul_eq_zero.mp h5).resolve_left s0
        have h7 : (u : Int) ∣ 1 := ⟨k, by omega⟩
        have := Int.le_of_dvd (by decide) h7
        have : (u : Int) ≠ 0 := fun z => by rw [z] at h7; exact absurd (Int.zero_dvd.mp h7) (by decide)
        omega
    have hfd : ∀ t : Int, t ≠ 0 → t ∣ d → (0 < d ↔ 0 < t) → 0 < d.fdiv t := fun t t0 td hh => by
      have e := exact_fdiv t0 td
      generalize d.fdiv t = q at e ⊢
      rcases Int.lt_trichotomy q 0 with z | z | z
      · rcases Int.lt_or_lt_of_ne t0 with y | y
        · have := Int.mul_pos_of_neg_of_neg y z
          omega
        · have := Int.mul_neg_of_pos_of_neg y z
          omega
      · subst z; simp at e; omega
      · exact z
    by_cases neg : d < 0
    · simp [neg]
      have := key (-s) (by omega) (by omega) (hfd _ (by omega) (Int.neg_dvd.mpr gd) (by omega)) (sm_of (n := 1000) (by omega) (by omega)) (Int.neg_dvd.mpr gd) fun e he => Int.neg_dvd.mpr (g2 e he)
      simpa using this
    · simp [neg]
      have := key s s0 rfl (hfd _ s0 gd (by omega)) (sm_of sb (by omega)) gd g2
      simpa using this
end Py.Wa

namespace Py.Wa
open Lin
theorem mul_lt_pow {a b : Int} {n m : Nat} (ha : a.natAbs < 2 ^ n) (hb : b.natAbs ≤ 2 ^ m) : (a * b).natAbs < 2 ^ (n + m) := by
  rw [Int.natAbs_mul, Nat.pow_add]
  exact Nat.lt_of_le_of_lt (Nat.mul_le_mul_left _ hb) (Nat.mul_lt_mul_of_pos_right ha (Nat.two_pow_pos _))
/-- the common multiple of the pivots, one turn -/
theorem whole_step {W v : Int} {k B : Nat} (hW : 0 < W) (hv : 0 < v) (hWb : W.natAbs ≤ 2 ^ (k * B)) (hvb : v.natAbs < 2 ^ B) :
    let q := v.fdiv (Int.gcd W v : Int)
    (Int.gcd W v : Int) ≠ 0 ∧ (Int.gcd W v : Int).natAbs ≤ v.natAbs ∧ q.natAbs ≤ v.natAbs ∧ 0 < W * q ∧ W ∣ W * q ∧ v ∣ W * q ∧ (W * q).natAbs ≤ 2 ^ ((k + 1) * B) := by
  intro q
  have hg0 : 0 < Int.gcd W v := Int.gcd_pos_of_ne_zero_right _ (by omega)
  have hg : ((Int.gcd W v : Nat) : Int) ≠ 0 := by omega
  have hgv : ((Int.gcd W v : Nat) : Int) ∣ v := Int.gcd_dvd_right _ _
  have hgW : ((Int.gcd W v : Nat) : Int) ∣ W := Int.gcd_dvd_left _ _
  have e := exact_fdiv hg hgv
  have hq : (q : Int) = v.fdiv (Int.gcd W v : Int) := rfl
  rw [← hq] at e
  have q0 : 0 < q := by
    rcases Int.lt_or_le 0 q with z | z
    · exact z
    · have := Int.mul_nonneg (show (0 : Int) ≤ (Int.gcd W v : Int) by omega) (show 0 ≤ -q by omega)
      rw [Int.mul_neg] at this
      omega
  have ab : (Int.gcd W v : Int).natAbs * q.natAbs = v.natAbs := by rw [← Int.natAbs_mul, e]
  have qa : q.natAbs ≤ v.natAbs := by rw [← ab]; exact Nat.le_mul_of_pos_left _ (by omega)
  refine ⟨hg, ?_, qa, Int.mul_pos hW q0, Int.dvd_mul_right _ _, ?_, ?_⟩
  · rw [← ab]; exact Nat.le_mul_of_pos_right _ (by omega)
  · obtain ⟨u, hu⟩ := hgW
    exact ⟨u, by rw [hu, ← e]; grind⟩
  · rw [Int.natAbs_mul, Nat.add_mul, Nat.one_mul, Nat.pow_add]
    exact Nat.mul_le_mul hWb (by omega)
/-- what the loop for the common multiple knows -/
structure Whl (R : List Row) (pl : List Nat) (B : Nat) (k : Nat) (W : Int) : Prop where
  pos : 0 < W
  dv : ∀ j q, j < k → pl[j]? = some q → ent (row R j) q ∣ W
  bd : W.natAbs ≤ 2 ^ (k * B)
theorem Whl.init (R : List Row) (pl : List Nat) (B : Nat) : Whl R pl B 0 1 := ⟨by decide, fun j q hj => by omega, by simp⟩
theorem Whl.step {w : Nat} {A R : List Row} {pl : List Nat} {B k : Nat} {W : Int} (h : Whl R pl B k W) (hR : QS w A w R pl) (hb : Bd B R) {q : Nat} (hq : pl[k]? = some q) : Whl R pl B (k + 1) (W * (ent (row R k) q).fdiv (Int.gcd W (ent (row R k) q) : Int)) := by
  have hk := len_of hq
  have hc := hR.e.cnt
  have hqw := hR.e.lt _ (List.mem_of_getElem? hq)
  have hkw : (row R k).length = w := hR.e.wid _ (row_mem (by omega))
  obtain ⟨_, _, _, h4, h5, h6, h7⟩ := whole_step h.pos (hR.m k q hq) h.bd (hb _ (row_mem (by omega)) _ (ent_mem (by omega)))
  refine ⟨h4, fun j q2 hj hjq => ?_, h7⟩
  by_cases e : j = k
  · subst e
    rw [hq] at hjq
    cases hjq
    exact h6
  · exact Int.dvd_trans (h.dv j q2 (by omega) hjq) h5
def KrSt (p : Nat) (w : Nat) (A : List Row) (R : List Row) (pl : List Nat) (τ0 : Tp) (c : Nat) (ρ : Loc) (τ : Tp) : Prop := τ = τ0 ∧ ∃ B j3 j6 j7 j8 j9, ρ = [some (dM A), some (.int (w : Int)), some (dM B), j3, some (dM (R.take pl.length)), some (dN pl), j6, j7, j8, j9] ∧ B.length = (frees c pl).length ∧ ∀ k f, (frees c pl)[k]? = some f → Good 0 w A pl f (row B k) ∧ ∀ e ∈ row B k, e.natAbs < 2 ^ p
def KrWh (w : Nat) (A B : List Row) (R : List Row) (pl : List Nat) (n : Nat) (f : Nat) (j7 : Option D) (τ0 : Tp) (k : Nat) (ρ : Loc) (τ : Tp) : Prop := τ = τ0 ∧ ∃ W j8 j9, ρ = [some (dM A), some (.int (w : Int)), some (dM B), some (.int (f : Int)), some (dM (R.take pl.length)), some (dN pl), some (.int W), j7, j8, j9] ∧ Whl R pl n k W
def KrIn (w : Nat) (A B : List Row) (R : List Row) (pl : List Nat) (n : Nat) (W : Int) (f : Nat) (τ0 : Tp) (k : Nat) (ρ : Loc) (τ : Tp) : Prop := τ = τ0 ∧ ∃ b j8 j9, ρ = [some (dM A), some (.int (w : Int)), some (dM B), some (.int (f : Int)), some (dM (R.take pl.length)), some (dN pl), some (.int W), some (dI b), j8, j9] ∧
  b.length = w ∧ (∀ e ∈ b, e.natAbs < 2 ^ (5 * n)) ∧ ent b f = W ∧ (∀ c, c ∉ pl → c ≠ f → ent b c = 0) ∧ ∀ j q, j < k → pl[j]? = some q → ent (row R j) q * ent b q = -ent (row R j) f * W
theorem set_bd {n : Nat} {b : Row} (h : ∀ e ∈ b, e.natAbs < n) {k : Nat} {a : Int} (ha : a.natAbs < n) : ∀ e ∈ b.set k a, e.natAbs < n := fun e he => by
  rcases List.mem_or_eq_of_mem_set he with z | z
  · exact h e z
  · rw [z]; exact ha
theorem fdiv_abs_le {a b : Int} (hb : b ≠ 0) (h : b ∣ a) : (a.fdiv b).natAbs ≤ a.natAbs := by
  have e := exact_fdiv hb h
  have : b.natAbs * (a.fdiv b).natAbs = a.natAbs := by rw [← Int.natAbs_mul, e]
  rw [← this]; exact Nat.le_mul_of_pos_left _ (by omega)
set_option maxHeartbeats 4000000 in
theorem kernel_rational_ok (cf : CF) (hcm : CmOk cf) (hcl : ClOk cf) (τ : Tp) {n B : Nat} (hB : bits n 4 ≤ B) (hn : 5 * B ≤ 1000) (hB0 : 0 < B) {w : Nat} {A : List Row} (hw : w ≤ 900) (hAs : A.length ≤ 4)
    (hred : Post (cf Law.F_reduced_rows [dM A, .int (w : Int)] τ) fun d τ' => τ' = τ ∧ ∃ R pl, d = .tup [dM (R.take pl.length), dN pl] ∧ QS w A w R pl ∧ Bd (bits n pl.length) R) :
    Post (run cf 10 Law.b_kernel_rational [dM A, .int (w : Int)] τ) fun d τ' => τ' = τ ∧ ∃ R pl N, d = dM N ∧ QS w A w R pl ∧ N.length = (frees w pl).length ∧ (∀ k f, (frees w pl)[k]? = some f → Good 0 w A pl f (row N k)) ∧ Bd (5 * B) N := by
  obtain ⟨_, τ, e, rfl, R, pl, rfl, hR, hbR⟩ := hred
  unfold run
  refine .fin ?_
  simp [-List.map_take, Law.b_kernel_rational, start, List.replicate, e]
  clear e
  have hcnt := hR.e.cnt
  have hlen := hR.e.len
  have hbn : bits n pl.length ≤ B := by
    have : pl.length = 0 ∨ pl.length = 1 ∨ pl.length = 2 ∨ pl.length = 3 ∨ pl.length = 4 := by omega
    rcases this with h | h | h | h | h <;> rw [h] <;> simp only [bits] at hB ⊢ <;> omega
  have hb := hbR.mono hbn
  have hkB : pl.length * B ≤ 4 * B := Nat.mul_le_mul_right _ (by omega)
  rw [rng_nat _ (by omega)]
  simp [-List.map_take]
  refine .bind (.forI (KrSt (5 * B) w A R pl τ) ⟨rfl, [], none, none, none, none, none, rfl, rfl, fun k f h => absurd (len_of h) (by simp [frees])⟩ ?_ ?_)
  · rintro f x hx ρ τ' ⟨rfl, N, j3, j6, j7, j8, j9, rfl, hN, hG⟩
    refine ⟨_, rfl, ?_⟩
    have hf : f < w := by simpa using len_of hx
    simp [List.getElem?_range hf] at hx
    subst hx
    by_cases hm : f ∈ pl
    · simp [-List.map_take, cmp_isin, isIn_nat, hm]
      exact .ok ⟨rfl, N, _, _, _, _, _, rfl, by rw [frees_succ, if_pos hm]; exact hN, by rw [frees_succ, if_pos hm]; exact hG⟩
    · simp [-List.map_take, cmp_isin, isIn_nat, hm]
      refine .bind (.fra (KrWh w A N R pl B f j7 τ') ⟨rfl, 1, j8, j9, rfl, .init R pl B⟩ ?_ ?_)
      · rintro k x hx ρ τ2 ⟨rfl, W, i8, i9, rfl, hW⟩
        obtain ⟨a, d, ha, hd, rfl⟩ := zipL_get hx
        refine ⟨_, rfl, ?_⟩
        have hk : k < pl.length := by simpa using len_of hd
        have hq : pl[k]? = some pl[k] := List.getElem?_eq_getElem hk
        rw [dN_get hq] at hd
        cases hd
        rw [dM_get (by simp; omega), row_take hk] at ha
        cases ha
        have hkw : (row R k).length = w := hR.e.wid _ (row_mem (by omega))
        have hqw : pl[k] < w := hR.e.lt _ (List.getElem_mem hk)
        have hvb := hb _ (row_mem (show k < R.length by omega)) _ (ent_mem (show pl[k] < (row R k).length by omega))
        obtain ⟨g0, g1, g2, g3, g4, g5, g6⟩ := whole_step hW.pos (hR.m k _ hq) hW.bd hvb
        have hk4 : k * B ≤ 4 * B := Nat.mul_le_mul_right _ (by omega)
        have hWs : W.natAbs < 2 ^ 1000 := Nat.lt_of_le_of_lt hW.bd (Nat.pow_lt_pow_right (by decide) (by omega))
        have hvs : (ent (row R k) pl[k]).natAbs < 2 ^ 1000 := Nat.lt_of_lt_of_le hvb (Nat.pow_le_pow_right (by decide) (by omega))
        obtain ⟨x, y, e⟩ := hcm τ2 W (ent (row R k) pl[k]) hWs hvs
        simp [-List.map_take, dI_get (show pl[k] < (row R k).length by omega), e, binop_fdiv g0 (sm_of (n := 1000) (Nat.lt_of_le_of_lt g1 hvs) (by omega)), binop_mul (sm_of hWs (by omega)) (sm_of (n := 1000) (Nat.lt_of_le_of_lt g2 hvs) (by omega))]
        exact .ok ⟨rfl, _, _, _, rfl, hW.step hR hb hq⟩
      · rintro ρ τ2 ⟨rfl, W, i8, i9, rfl, hW⟩
        have hkl : (zipL ((R.take pl.length).map dI) (pl.map fun (k : Nat) => D.int (k : Int))).length = pl.length := by rw [zipL_len]; simp; omega
        rw [hkl] at hW
        have hWb : W.natAbs ≤ 2 ^ (4 * B) := Nat.le_trans hW.bd (Nat.pow_le_pow_right (by decide) hkB)
        have hWb5 : W.natAbs < 2 ^ (5 * B) := Nat.lt_of_le_of_lt hWb (Nat.pow_lt_pow_right (by decide) (by omega))
        have hWs : smallI W = true := sm_of (n := 1000) (Nat.lt_of_lt_of_le hWb5 (Nat.pow_le_pow_right (by decide) hn)) (by omega)
        simp [-List.map_take, binop_zeros (show w ≤ 1000 by omega), stAt]
        rw [setIx_nat _ _ _ (by simpa using hf)]
        have e1 : (List.replicate w (D.int 0)).set f (D.int W) = ((List.replicate w 0).set f W).map D.int := by simp [List.map_set]
        simp [-List.map_take, -List.map_set, e1]
        refine .bind (.forI (KrIn w A N R pl B W f τ2) ⟨rfl, (List.replicate w 0).set f W, i8, i9, by simp, by simp, ?_, ?_, ?_, fun j q hj => by omega⟩ ?_ ?_)
        · exact set_bd (fun e he => by
            simp at he
            rw [he.2]
            exact Nat.two_pow_pos _) hWb5
        · rw [ent_set (by simpa using hf)]; simp
        · intro c hc ne
          rw [ent_set (by simpa using hf), if_neg ne, ent_rep]
        · rintro k x hx ρ τ3 ⟨rfl, b, i8, i9, rfl, hbl, hbr, hb1, hb0, hbk⟩
          obtain ⟨a, d, ha, hd, rfl⟩ := zipL_get hx
          refine ⟨_, rfl, ?_⟩
          have hk : k < pl.length := by simpa using len_of hd
          have hq : pl[k]? = some pl[k] := List.getElem?_eq_getElem hk
          rw [dN_get hq] at hd
          cases hd
          rw [dM_get (by simp; omega), row_take hk] at ha
          cases ha
          have hkw : (row R k).length = w := hR.e.wid _ (row_mem (by omega))
          have hqw : pl[k] < w := hR.e.lt _ (List.getElem_mem hk)
          have hne : pl[k] ≠ f := fun z => hm (z ▸ List.getElem_mem hk)
          have hvb := hb _ (row_mem (show k < R.length by omega)) _ (ent_mem (show pl[k] < (row R k).length by omega))
          have hfb := hb _ (row_mem (show k < R.length by omega)) _ (ent_mem (show f < (row R k).length by omega))
          have hv0 := hR.m k _ hq
          have hdv : ent (row R k) pl[k] ∣ -ent (row R k) f * W := Int.dvd_trans (hW.dv k _ hk hq) (Int.dvd_mul_left _ _)
          have hsz : (-ent (row R k) f * W).natAbs < 2 ^ (5 * B) := by
            have := mul_lt_pow (a := -ent (row R k) f) (by rw [Int.natAbs_neg]; exact hfb) hWb
            rwa [show B + 4 * B = 5 * B by omega] at this
          simp [-List.map_take, dI_get (show f < (row R k).length by omega), dI_get (show pl[k] < (row R k).length by omega), binop_mul (i := -ent (row R k) f) (sm_of (n := B) (by rw [Int.natAbs_neg]; exact hfb) (by omega)) hWs, binop_fdiv (i := -ent (row R k) f * W) (show ent (row R k) pl[k] ≠ 0 by omega) (sm_of hvb (by omega))]
          simp [-List.map_take, stAt, setIx_dI _ (show pl[k] < b.length by omega)]
          refine .ok ⟨rfl, b.set pl[k] ((-ent (row R k) f * W).fdiv (ent (row R k) pl[k])), _, _, by simp [-List.map_take]; exact ⟨rfl, rfl⟩, by simpa using hbl, set_bd hbr (Nat.lt_of_le_of_lt (fdiv_abs_le (by omega) hdv) hsz), ?_, fun c hc ne => ?_, fun j q hj hjq => ?_⟩
          · rw [ent_set (by omega), if_neg (fun z => hne z.symm)]; exact hb1
          · rw [ent_set (by omega), if_neg (fun z => hc (by rw [z]; exact List.getElem_mem hk))]; exact hb0 c hc ne
          · rw [ent_set (by omega)]
            by_cases ej : j = k
            · subst ej
              rw [hq] at hjq
              cases hjq
              simp only [if_true]
              exact exact_fdiv (by omega) hdv
            · rw [if_neg fun (z : q = pl[k]) => ej (inc_inj hR.e.inc hjq (by rw [z]; exact hq))]
              exact hbk j q (by omega) hjq
        · rintro ρ τ3 ⟨rfl, b, i8, i9, rfl, hbl, hbr, hb1, hb0, hbk⟩
          rw [hkl] at hbk
          have hBs : N.length < LIM := by
            have : (frees f pl).length ≤ f := Nat.le_trans (List.length_filter_le _ _) (by simp)
            unfold LIM; omega
          simp [-List.map_take, hBs, hcl τ3 b (fun e he => Nat.lt_of_lt_of_le (hbr e he) (Nat.pow_le_pow_right (by decide) hn)) (by omega)]
          obtain ⟨g, g0, gd, gl, ge, gb⟩ := clr_spec b
          have hW0 := hW.pos
          have hgood : Good 0 w A pl f (clr b) := ⟨by rw [gl]; exact hbl, fun z => by
              have z := z_dvd.mp z
              have := ge f
              rw [z, hb1] at this
              simp at this
              omega, fun c h1 h2 => by
              have := ge c
              rw [hb0 c h1 h2, Int.mul_eq_zero] at this
              exact this.resolve_left (by omega), fun r hr => by
              have hk := ker_free Pr_zero hR.e hm (b := b) (fun c h1 h2 => by rw [hb0 c h1 h2]; simp) (fun j q hq => by
                have := hbk j q (len_of hq) hq
                rw [hb1, this]
                have e : ent (row R j) f * W + -ent (row R j) f * W = 0 := by grind
                rw [e]; simp) r hr
              have e0 := z_dvd.mp hk
              have e1 : dot r (vec b) = g * dot r (vec (clr b)) := by
                have := dot_lin r g 0 (vec (clr b)) (vec (clr b))
                have e2 : (fun i => g * vec (clr b) i + 0 * vec (clr b) i) = vec b := by funext i; simp only [Int.zero_mul, Int.add_zero]; exact ge i
                rw [e2] at this
                omega
              rw [e1, Int.mul_eq_zero] at e0
              rw [e0.resolve_left (by omega)]; simp⟩
          refine .ok ⟨rfl, N ++ [clr b], _, _, _, _, _, by simp [-List.map_take]; exact ⟨rfl, rfl, rfl, rfl, rfl⟩, by rw [frees_succ, if_neg hm]; simp [hN], ?_⟩
          intro k g hg
          rw [frees_succ, if_neg hm] at hg
          by_cases l : k < N.length
          · rw [List.getElem?_append_left (by omega)] at hg
            have : row (N ++ [clr b]) k = row N k := by unfold row; rw [List.getD_eq_getElem?_getD, List.getElem?_append_left l, List.getD_eq_getElem?_getD]
            rw [this]; exact hG k g hg
          · have e : k = N.length := by have := len_of hg; simp at this; omega
            subst e
            rw [List.getElem?_append_right (by omega), hN] at hg
            simp at hg
            subst hg
            have : row (N ++ [clr b]) N.length = clr b := by unfold row; rw [List.getD_eq_getElem?_getD, List.getElem?_append_right (Nat.le_refl _)]; simp
            rw [this]; exact ⟨hgood, gb _ hbr⟩
  · rintro ρ τ' ⟨rfl, N, j3, j6, j7, j8, j9, rfl, hN, hG⟩
    simp at hN hG
    simp
    refine .ok ⟨rfl, R, pl, N, rfl, hR, hN, fun k f h => (hG k f h).1, fun r hr => ?_⟩
    obtain ⟨k, hk, rfl⟩ := mem_row hr
    exact (hG k _ (List.getElem?_eq_getElem (by simpa using (by omega : k < (frees w pl).length)))).2
end Py.Wa

namespace Py.Wa
open Lin
/-! ### solutions over the fractions -/
def SrWh (w : Nat) (A : List Row) (g : D) (R : List Row) (pl : List Nat) (n : Nat) (τ0 : Tp) (k : Nat) (ρ : Loc) (τ : Tp) : Prop := τ = τ0 ∧ ∃ W j7 j8 j9, ρ = [some (dM A), some (.int (w : Int)), some g, some (.int W), none, some (dM (R.take pl.length)), some (dN pl), j7, j8, j9] ∧ Whl R pl n k W
def SrIn (w : Nat) (A : List Row) (g : D) (R : List Row) (pl : List Nat) (n : Nat) (W : Int) (τ0 : Tp) (k : Nat) (ρ : Loc) (τ : Tp) : Prop := τ = τ0 ∧ ∃ b j7 j8 j9, ρ = [some (dM A), some (.int (w : Int)), some g, some (.int W), some (dI b), some (dM (R.take pl.length)), some (dN pl), j7, j8, j9] ∧
  b.length = w ∧ (∀ e ∈ b, e.natAbs < 2 ^ (5 * n)) ∧ (∀ c, c ∉ pl → ent b c = 0) ∧ ∀ j q, j < k → pl[j]? = some q → ent (row R j) q * ent b q = ent (row R j) w * W
def LwOk (cf : CF) : Prop := ∀ (τ : Tp) (r : Row) (d : Int), (∀ e ∈ r, e.natAbs < 2 ^ 1000) → d.natAbs < 2 ^ 1000 → d ≠ 0 → r ≠ [] → r.length ≤ 1000 → Post (cf Law.F_lowest [dI r, .int d] τ) (LowQ r d τ)
def SrQ (w : Nat) (A : List Row) (g : List Int) (n : Nat) (τ0 : Tp) (d : D) (τ : Tp) : Prop := τ = τ0 ∧ ∃ R pl, QS (w + 1) (widen A g) (w + 1) R pl ∧ ((w ∈ pl ∧ d = .non) ∨ (w ∉ pl ∧ ∃ x b, d = .tup [tI x, .int b] ∧ x.length = w ∧ 0 < b ∧ gcdF b.natAbs x = 1 ∧ b.natAbs < 2 ^ (5 * n) ∧ (∀ e ∈ x, e.natAbs < 2 ^ (5 * n)) ∧ ∀ i, i < A.length → dot (row A i) (vec x) = ent g i * b))
set_option maxHeartbeats 4000000 in
theorem solution_rational_ok (cf : CF) (hcm : CmOk cf) (hlw : LwOk cf) (τ : Tp) {n B : Nat} (hB : bits n 4 ≤ B) (hn : 5 * B ≤ 1000) (hB0 : 0 < B) {w : Nat} {A : List Row} {g : List Int} (hw : w ≤ 800) (hw0 : 0 < w) (hAs : A.length ≤ 4) (hA : ∀ r ∈ A, r.length = w) (hl : A.length = g.length)
    (hred : Post (cf Law.F_reduced_rows [dM (widen A g), .int ((w : Int) + 1)] τ) fun d τ' => τ' = τ ∧ ∃ R pl, d = .tup [dM (R.take pl.length), dN pl] ∧ QS (w + 1) (widen A g) (w + 1) R pl ∧ Bd (bits n pl.length) R) :
    Post (run cf 10 Law.b_solution_rational [dM A, .int (w : Int), dI g] τ) (SrQ w A g B τ) := by
  obtain ⟨_, τ, e, rfl, R, pl, rfl, hR, hbR⟩ := hred
  unfold run
  refine .fin ?_
  simp [-List.map_take, Law.b_solution_rational, start, List.replicate, zlen (show (A.map dI).length ≤ LIM by simp; unfold LIM; omega)]
  rw [wide_ok cf τ hA (by omega) fun r a hr => ⟨_, rfl, by simp [binop_app (xs := r.map D.int) (ys := [.int a]) (by simp; unfold LIM; omega)]⟩]
  simp [-List.map_take, e]
  clear e
  have hcnt := hR.e.cnt
  have hlen := hR.e.len
  rw [widen_len] at hlen
  have hbn : bits n pl.length ≤ B := by
    have : pl.length = 0 ∨ pl.length = 1 ∨ pl.length = 2 ∨ pl.length = 3 ∨ pl.length = 4 := by omega
    rcases this with h | h | h | h | h <;> rw [h] <;> simp only [bits] at hB ⊢ <;> omega
  have hb := hbR.mono hbn
  have hkB : pl.length * B ≤ 4 * B := Nat.mul_le_mul_right _ (by omega)
  by_cases hm : w ∈ pl
  · simp [cmp_isin, isIn_nat, hm]
    exact .ok ⟨rfl, R, pl, hR, .inl ⟨hm, rfl⟩⟩
  · simp [-List.map_take, cmp_isin, isIn_nat, hm]
    refine .bind (.fra (SrWh w A (dI g) R pl B τ) ⟨rfl, 1, _, _, _, rfl, .init R pl B⟩ ?_ ?_)
    · rintro k x hx ρ τ2 ⟨rfl, W, i7, i8, i9, rfl, hW⟩
      obtain ⟨a, d, ha, hd, rfl⟩ := zipL_get hx
      refine ⟨_, rfl, ?_⟩
      have hk : k < pl.length := by simpa using len_of hd
      have hq : pl[k]? = some pl[k] := List.getElem?_eq_getElem hk
      rw [dN_get hq] at hd
      cases hd
      rw [dM_get (by simp; omega), row_take hk] at ha
      cases ha
      have hkw : (row R k).length = w + 1 := hR.e.wid _ (row_mem (by omega))
      have hqw : pl[k] < w + 1 := hR.e.lt _ (List.getElem_mem hk)
      have hvb := hb _ (row_mem (show k < R.length by omega)) _ (ent_mem (show pl[k] < (row R k).length by omega))
      obtain ⟨g0, g1, g2, g3, g4, g5, g6⟩ := whole_step hW.pos (hR.m k _ hq) hW.bd hvb
      have hk4 : k * B ≤ 4 * B := Nat.mul_le_mul_right _ (by omega)
      have hWs : W.natAbs < 2 ^ 1000 := Nat.lt_of_le_of_lt hW.bd (Nat.pow_lt_pow_right (by decide) (by omega))
      have hvs : (ent (row R k) pl[k]).natAbs < 2 ^ 1000 := Nat.lt_of_lt_of_le hvb (Nat.pow_le_pow_right (by decide) (by omega))
      obtain ⟨x, y, e⟩ := hcm τ2 W (ent (row R k) pl[k]) hWs hvs
      simp [-List.map_take, dI_get (show pl[k] < (row R k).length by omega), e, binop_fdiv g0 (sm_of (n := 1000) (Nat.lt_of_le_of_lt g1 hvs) (by omega)), binop_mul (sm_of hWs (by omega)) (sm_of (n := 1000) (Nat.lt_of_le_of_lt g2 hvs) (by omega))]
      exact .ok ⟨rfl, _, _, _, _, rfl, hW.step hR hb hq⟩
    · rintro ρ τ2 ⟨rfl, W, i7, i8, i9, rfl, hW⟩
      have hkl : (zipL ((R.take pl.length).map dI) (pl.map fun (k : Nat) => D.int (k : Int))).length = pl.length := by rw [zipL_len]; simp; omega
      rw [hkl] at hW
      have hWb : W.natAbs ≤ 2 ^ (4 * B) := Nat.le_trans hW.bd (Nat.pow_le_pow_right (by decide) hkB)
      have hWb5 : W.natAbs < 2 ^ (5 * B) := Nat.lt_of_le_of_lt hWb (Nat.pow_lt_pow_right (by decide) (by omega))
      have hWs : smallI W = true := sm_of (n := 1000) (Nat.lt_of_lt_of_le hWb5 (Nat.pow_le_pow_right (by decide) hn)) (by omega)
      simp [-List.map_take, binop_zeros (show w ≤ 1000 by omega)]
      refine .bind (.forI (SrIn w A (dI g) R pl B W τ2) ⟨rfl, List.replicate w 0, _, _, _, rfl, by simp, fun e he => by simp at he; rw [he.2]; exact Nat.two_pow_pos _, fun c _ => ent_rep _ _, fun j q hj => by omega⟩ ?_ ?_)
      · rintro k x hx ρ τ3 ⟨rfl, b, i7, i8, i9, rfl, hbl, hbr, hb0, hbk⟩
        obtain ⟨a, d, ha, hd, rfl⟩ := zipL_get hx
        refine ⟨_, rfl, ?_⟩
        have hk : k < pl.length := by simpa using len_of hd
        have hq : pl[k]? = some pl[k] := List.getElem?_eq_getElem hk
        rw [dN_get hq] at hd
        cases hd
        rw [dM_get (by simp; omega), row_take hk] at ha
        cases ha
        have hkw : (row R k).length = w + 1 := hR.e.wid _ (row_mem (by omega))
        have hqw : pl[k] < w := by
          have := hR.e.lt _ (List.getElem_mem hk)
          have : pl[k] ≠ w := fun z => hm (z ▸ List.getElem_mem hk)
          omega
        have hvb := hb _ (row_mem (show k < R.length by omega)) _ (ent_mem (show pl[k] < (row R k).length by omega))
        have hfb := hb _ (row_mem (show k < R.length by omega)) _ (ent_mem (show w < (row R k).length by omega))
        have hv0 := hR.m k _ hq
        have hdv : ent (row R k) pl[k] ∣ ent (row R k) w * W := Int.dvd_trans (hW.dv k _ hk hq) (Int.dvd_mul_left _ _)
        have hsz : (ent (row R k) w * W).natAbs < 2 ^ (5 * B) := by
          have := mul_lt_pow hfb hWb
          rwa [show B + 4 * B = 5 * B by omega] at this
        simp [-List.map_take, dI_get (show w < (row R k).length by omega), dI_get (show pl[k] < (row R k).length by omega), binop_mul (sm_of hfb (by omega)) hWs, binop_fdiv (i := ent (row R k) w * W) (show ent (row R k) pl[k] ≠ 0 by omega) (sm_of hvb (by omega))]
        simp [-List.map_take, stAt, setIx_dI _ (show pl[k] < b.length by omega)]
        refine .ok ⟨rfl, b.set pl[k] ((ent (row R k) w * W).fdiv (ent (row R k) pl[k])), _, _, _, by simp [-List.map_take]; exact ⟨rfl, rfl, rfl⟩, by simpa using hbl, set_bd hbr (Nat.lt_of_le_of_lt (fdiv_abs_le (by omega) hdv) hsz), fun c hc => ?_, fun j q hj hjq => ?_⟩
        · rw [ent_set (by omega), if_neg (fun z => hc (by rw [z]; exact List.getElem_mem hk))]; exact hb0 c hc
        · rw [ent_set (by omega)]
          by_cases ej : j = k
          · subst ej
            rw [hq] at hjq
            cases hjq
            simp only [if_true]
            exact exact_fdiv (by omega) hdv
          · rw [if_neg fun (z : q = pl[k]) => ej (inc_inj hR.e.inc hjq (by rw [z]; exact hq))]
            exact hbk j q (by omega) hjq
      · rintro ρ τ3 ⟨rfl, b, i7, i8, i9, rfl, hbl, hbr, hb0, hbk⟩
        rw [hkl] at hbk
        obtain ⟨v, τ4, e, rfl, x, bt, s, rfl, hL⟩ := hlw τ3 b W (fun e he => Nat.lt_of_lt_of_le (hbr e he) (Nat.pow_le_pow_right (by decide) hn)) (Nat.lt_of_lt_of_le hWb5 (Nat.pow_le_pow_right (by decide) hn)) (by have := hW.pos; omega) (fun z => by rw [z] at hbl; simp at hbl; omega) (by omega)
        simp [-List.map_take, e]
        have hs1 : 1 ≤ s.natAbs := by have := hL.s0; omega
        refine .ok ⟨rfl, R, pl, hR, .inr ⟨hm, x, bt, rfl, by rw [hL.len, hbl], hL.pos, hL.one, ?_, fun e he => ?_, fun i hi => ?_⟩⟩
        · have := hL.den
          have h2 : s.natAbs * bt.natAbs = W.natAbs := by rw [← Int.natAbs_mul, this]
          exact Nat.lt_of_le_of_lt (by rw [← h2]; exact Nat.le_mul_of_pos_left _ hs1) hWb5
        · obtain ⟨c, hc, rfl⟩ := List.mem_iff_getElem.mp he
          have e1 : x[c] = ent x c := by simp [ent, List.getD_eq_getElem?_getD, List.getElem?_eq_getElem hc]
          have h2 : s.natAbs * (ent x c).natAbs = (ent b c).natAbs := by rw [← Int.natAbs_mul, hL.num c]
          rw [e1]
          refine Nat.lt_of_le_of_lt (show _ ≤ (ent b c).natAbs by rw [← h2]; exact Nat.le_mul_of_pos_left _ hs1) (hbr _ (ent_mem (by rw [← hL.len]; exact hc)))
        · have := z_dvd.mp (sol_of Pr_zero hl hA hR.e hm hbl (d := W) hb0 (fun j q hq => by
            rw [hbk j q (len_of hq) hq]; simp) i hi)
          have e1 : dot (row A i) (vec b) = s * dot (row A i) (vec x) := by
            have := dot_lin (row A i) s 0 (vec x) (vec x)
            have e2 : (fun i => s * vec x i + 0 * vec x i) = vec b := by funext i; simp only [Int.zero_mul, Int.add_zero]; exact hL.num i
            rw [e2] at this
            omega
          rw [e1, ← hL.den] at this
          have h3 : s * (dot (row A i) (vec x) - ent g i * bt) = 0 := by grind
          have := (Int.mul_eq_zero.mp h3).resolve_left hL.s0
          omega
end Py.Wa

namespace Py.Wa
open Lin
/-! ### the law's own rank over the fractions -/
theorem op_el {w : Nat} {R : List Row} {s i : Nat} (hw : (row R s).length = w) (hw2 : (row R i).length = w) (hi : i ≠ s) {pv : Int} (hp : pv ≠ 0) (sh : Int) : Op true 0 w R s i (elR pv sh (row R i) (row R s)) 1 pv sh where
  wid := by simp [hw, hw2]
  γ0 := by decide
  α0 z := hp (z_dvd.mp z)
  β0 h := absurd h hi
  lin x := by rw [dot_elR _ _ (by rw [hw, hw2])]; simp
  g1 _ := rfl
structure FM (w : Nat) (A : List Row) (c : Nat) (n : Nat) (R1 : List Row) (pl : List Nat) (k : Nat) (R : List Row) : Prop where
  s : Ech true false 0 w A c R pl
  len : R.length = R1.length
  piv : row R pl.length = row R1 pl.length
  rest : ∀ i, k ≤ i → row R i = row R1 i
  done : ∀ i, i < k → pl.length < i → ent (row R i) c = 0
  bd : Bd (2 * n + 1) R
theorem FM.elim {w : Nat} {A : List Row} {c n : Nat} {R1 : List Row} {pl : List Nat} {k : Nat} {R : List Row} (h : FM w A c n R1 pl k R) (hb : Bd n R1) (hk : k < R1.length) (hs : pl.length < k) (hc : c < w) (h1 : ent (row R1 pl.length) c ≠ 0) :
    FM w A c n R1 pl (k + 1) (R.set k (elR (ent (row R1 pl.length) c) (ent (row R k) c) (row R k) (row R pl.length))) := by
  have hlen := h.len
  have w1 : (row R pl.length).length = w := h.s.wid _ (row_mem (by omega))
  have w2 : (row R k).length = w := h.s.wid _ (row_mem (by omega))
  have o := op_el (R := R) (s := pl.length) (i := k) w1 w2 (by omega) (pv := ent (row R1 pl.length) c) h1 (ent (row R k) c)
  refine ⟨h.s.op Pr_zero o (by omega) (by omega), by simpa using hlen, ?_, fun i hi => ?_, fun i hi ni => ?_, h.bd.set fun e he => ?_⟩
  · rw [row_set (by omega), if_neg (by omega)]; exact h.piv
  · rw [row_set (by omega), if_neg (by omega)]; exact h.rest i (by omega)
  · rw [row_set (by omega)]
    split
    · rename_i e
      subst e
      have l := z_dvd.mp (o.lin (unit c))
      rw [dot_unit, dot_unit, dot_unit] at l
      have hpv : ent (row R pl.length) c = ent (row R1 pl.length) c := by rw [h.piv]
      rw [hpv, Int.mul_comm (ent (row R i) c)] at l
      omega
    · exact h.done i (by omega) ni
  · obtain ⟨a, b, ha, hb', rfl⟩ := zipWith_mem he
    rw [h.rest k (Nat.le_refl _)] at ha w2 ⊢
    rw [h.piv] at hb' w1
    exact sub_bound (hb _ (row_mem (by omega)) _ (ent_mem (by omega))) (hb _ (row_mem hk) _ ha) (hb _ (row_mem hk) _ (ent_mem (by omega))) (hb _ (row_mem (by omega)) _ hb')
theorem FM.fin {w : Nat} {A : List Row} {c n : Nat} {R1 : List Row} {pl : List Nat} {k : Nat} {R : List Row} (h : FM w A c n R1 pl k R) (hk : R1.length ≤ k) (hs : pl.length < R1.length) (h1 : ent (row R1 pl.length) c ≠ 0) :
    Ech true false 0 w A (c + 1) R (pl ++ [c]) := by
  have := h.len
  refine h.s.take (by omega) (by rw [h.piv]; exact fun z => h1 (z_dvd.mp z)) (fun i hi ne hh => ?_)
  rcases hh with hh | hh
  · cases hh
  · rw [h.done i (by omega) hh]; simp
def LfSt (n : Nat) (w : Nat) (A : List Row) (τ0 : Tp) (c : Nat) (ρ : Loc) (τ : Tp) : Prop := τ = τ0 ∧ ∃ R pl j3 j4 j5 j6 j7 j8 j9 j10, ρ = [some (dM R), some (.int (w : Int)), some (.int ((pl.length : Nat) : Int)), j3, j4, j5, j6, j7, j8, j9, j10] ∧ Ech true false 0 w A c R pl ∧ Bd (bits n pl.length) R
def LfIn (n : Nat) (w : Nat) (A : List Row) (τ0 : Tp) (c : Nat) (R1 : List Row) (pl : List Nat) (k : Nat) (ρ : Loc) (τ : Tp) : Prop := τ = τ0 ∧ ∃ R j4 j5 j6 j7 j8 j9 j10, ρ = [some (dM R), some (.int (w : Int)), some (.int ((pl.length : Nat) : Int)), some (.int (c : Int)), j4, j5, j6, j7, j8, j9, j10] ∧ FM w A c n R1 pl (pl.length + 1 + k) R
def LfQ (w : Nat) (A : List Row) (τ0 : Tp) (d : D) (τ : Tp) : Prop := τ = τ0 ∧ ∃ R pl, d = .int ((pl.length : Nat) : Int) ∧ Ech true false 0 w A w R pl
set_option maxHeartbeats 4000000 in
theorem law_full_ok (cf : CF) (τ : Tp) {n : Nat} (hn : bits n 2 ≤ 4000) {w : Nat} {A : List Row} (hA : ∀ r ∈ A, r.length = w) (hAs : A.length ≤ 4) (hw : w ≤ 900) (hb : Bd n A) :
    Post (run cf 11 Law.b__law_full [dM A, .int (w : Int)] τ) (LfQ w A τ) := by
  have hbn : ∀ s, s ≤ 2 → bits n s ≤ 4000 := fun s hs => by
    have : s = 0 ∨ s = 1 ∨ s = 2 := by omega
    rcases this with rfl | rfl | rfl <;> simp only [bits] at hn ⊢ <;> omega
  unfold run
  refine .fin ?_
  simp [Law.b__law_full, start, List.replicate, show A.length ≤ LIM by unfold LIM; omega]
  rw [lcRun_all dI (fun r => dI r) A fun r hr => ⟨_, rfl, by simp⟩]
  simp
  rw [rng_nat _ (by omega)]
  simp
  refine .bind (.forI (LfSt n w A τ) ⟨rfl, A, [], none, none, none, none, none, none, none, none, rfl, Ech.start hA rfl (fun _ => Iff.rfl) (fun _ h => h), hb⟩ ?_ ?_)
  · rintro c x hx ρ τ' ⟨rfl, R, pl, j3, j4, j5, j6, j7, j8, j9, j10, rfl, hR, hbR⟩
    refine ⟨_, rfl, ?_⟩
    have hc : c < w := by simpa using len_of hx
    simp [List.getElem?_range hc] at hx
    subst hx
    have hRl := hR.len
    have hcnt := hR.cnt
    simp
    rw [rng2_nat _ _ (by omega) (by omega)]
    simp [show R.length - pl.length ≤ LIM by unfold LIM; omega]
    rw [lcRun_map (fun (k : Nat) => D.int (k : Int)) (fun k => decide (ent (row R k) c ≠ 0)) (fun k => .int (k : Int)) _ fun k hk => ⟨_, rfl, by
      simp at hk
      have hk1 : k < R.length := by omega
      have hcw : c < (row R k).length := by rw [hR.wid _ (row_mem hk1)]; exact hc
      simp [dM_get hk1, dI_get hcw], fun _ => by simp⟩]
    rcases ex_head (p := fun k => decide (ent (row R k) c ≠ 0)) (xs := List.range' pl.length (R.length - pl.length)) with ⟨e, h0⟩ | ⟨k, r, e, h0, h1⟩
    · rw [e]
      simp [cmpop, DEP]
      refine .ok ⟨rfl, R, pl, _, _, _, _, _, _, _, _, rfl, hR.skip fun i h1 h2 => ?_, hbR⟩
      have := h0 i (by simp; omega)
      simp at this
      rw [this]; simp
    · rw [e]
      simp at h0 h1
      have hk1 : k < R.length := by omega
      have hs : pl.length < R.length := by omega
      simp only [Py.R.bind_ok, List.map_cons]
      simp [cmpop, DEP, stAt, dM_get hk1, dM_get hs, setIx_dM _ hs]
      rw [setIx_dM _ (by simpa using hk1), show (R.set pl.length (row R k)).set k (row R pl.length) = Lin.swap R pl.length k from rfl]
      have hS := hR.swap hk1 h0.1
      have hSb := hbR.swap hs hk1
      have hS0 : row (Lin.swap R pl.length k) pl.length = row R k := by
        rw [row_swap hs hk1]
        by_cases e : pl.length = k
        · subst e; simp
        · simp [e]
      have hSl : (Lin.swap R pl.length k).length = R.length := swap_len R pl.length k
      have n1 : ent (row (Lin.swap R pl.length k) pl.length) c ≠ 0 := by rw [hS0]; exact h1
      clear h1
      generalize Lin.swap R pl.length k = R2 at hS hSl n1 hSb
      have hs2 : pl.length < R2.length := by omega
      have hw2 : (row R2 pl.length).length = w := hS.wid _ (row_mem hs2)
      simp
      rw [show ((pl.length : Int) + 1) = ((pl.length + 1 : Nat) : Int) by omega, rng2_nat _ _ (by omega) (by omega)]
      simp
      refine .bind (.forI (LfIn (bits n pl.length) w A τ' c R2 pl) ⟨rfl, R2, _, _, _, _, _, _, _, rfl, ⟨hS, rfl, rfl, fun _ _ => rfl, fun i h1 h2 => by omega, hSb.mono (by omega)⟩⟩ ?_ ?_)
      · rintro i x hx ρ τ2 ⟨rfl, R4, i4, i5, i6, i7, i8, i9, i10, rfl, hM⟩
        have hi : i < R2.length - (pl.length + 1) := by simpa using len_of hx
        simp [List.getElem?_range' hi] at hx
        subst hx
        have hbs : bits n pl.length ≤ 4000 := hbn _ (by omega)
        have hi4 := hM.len
        have hii : pl.length + 1 + i < R4.length := by omega
        have hr4 := hM.rest _ (Nat.le_refl _)
        have hw4 : (row R4 (pl.length + 1 + i)).length = w := hM.s.wid _ (row_mem hii)
        have hs4 : pl.length < R4.length := by omega
        have hN := hM.elim hSb (by omega) (by omega) hc n1
        have hp4 : row R4 pl.length = row R2 pl.length := hM.piv
        have bsm : ∀ j, j < R2.length → ∀ e ∈ row R2 j, smallI e = true := fun j hj e he => sm_of (hSb _ (row_mem hj) e he) hbs
        have ei : (pl.length : Int) + 1 + (i : Int) = ((pl.length + 1 + i : Nat) : Int) := by omega
        generalize hk2 : pl.length + 1 + i = k2 at hii hr4 hw4 hN ei
        refine ⟨_, rfl, ?_⟩
        rw [ei]
        simp [-List.map_map, -List.map_set, dM_get hii, dM_get hs4, dI_get (show c < (row R4 k2).length by omega), dI_get (show c < (row R4 pl.length).length by rw [hp4]; omega), zlen (show ((row R4 k2).map D.int).length ≤ LIM by simp [hw4]; unfold LIM; omega)]
        rw [zipL_map, lcRun_all _ (fun q => .int (ent (row R2 pl.length) c * q.1 - ent (row R4 k2) c * q.2)) _ fun q hq => ⟨_, rfl, by
          have hq' := List.of_mem_zip (a := q.1) (b := q.2) hq
          have s1 := bsm _ hs2 _ (ent_mem (show c < (row R2 pl.length).length by omega))
          have s2 := bsm k2 (by omega) _ (hr4 ▸ hq'.1)
          have s3 : smallI (ent (row R4 k2) c) = true := by rw [hr4] at hw4 ⊢; exact bsm k2 (by omega) _ (ent_mem (by omega))
          have s4 := bsm _ hs2 _ (hp4 ▸ hq'.2)
          simp [hp4, binop_mul s1 s2, binop_mul s3 s4]⟩]
        have hm : (List.zip (row R4 k2) (row R4 pl.length)).map (fun q => D.int (ent (row R2 pl.length) c * q.1 - ent (row R4 k2) c * q.2)) = (elR (ent (row R2 pl.length) c) (ent (row R4 k2) c) (row R4 k2) (row R4 pl.length)).map D.int := by
          rw [elR, ← zip_map_eq, List.map_map]; rfl
        rw [hm]
        simp [-List.map_map, -List.map_set, -List.map_zipWith, stAt, setIx_dM _ hii]
        exact .ok ⟨rfl, _, _, _, _, _, _, _, _, rfl, by rw [show pl.length + 1 + (i + 1) = k2 + 1 by omega]; exact hN⟩
      · rintro ρ τ2 ⟨rfl, R4, i4, i5, i6, i7, i8, i9, i10, rfl, hM⟩
        have hF := hM.fin (by simp; omega) hs2 n1
        simp
        exact .ok ⟨rfl, R4, pl ++ [c], _, _, _, _, _, _, _, _, by simp; exact ⟨rfl, rfl, rfl, rfl, rfl, rfl, rfl, rfl⟩, hF, by simpa [bits] using hM.bd⟩
  · rintro ρ τ' ⟨rfl, R, pl, j3, j4, j5, j6, j7, j8, j9, j10, rfl, hR, hbR⟩
    simp
    exact .ok ⟨rfl, R, pl, rfl, by simpa using hR⟩
end Py.Wa

namespace Py.Wa
open Lin
theorem sum_zip : ∀ (r x : Row), (List.zipWith (· * ·) r x).sum = dot r (vec x)
  | [], x => by simp [dot]
  | a :: r, [] => by
    simp only [List.zipWith_nil_right, List.sum_nil]
    have : vec [] = fun _ => 0 := by funext i; simp [ent]
    rw [this, dot_zero]
  | a :: r, b :: x => by
    have := sum_zip r x
    simp only [List.zipWith_cons_cons, List.sum_cons, dot, this]
    rfl
/-- what is asked of the callees -/
structure K4 (cf : CF) : Prop where
  tape : ∀ ns : List Int, ns.length ≤ 63 → Post (cf Law.F__law_tape [.scr ns] none) TpQ
  take : ∀ (n : Nat) (m : Int) (τ : Tp), 0 < m → m < 1000000 → TB (n + 1) τ → Post (cf Law.F__law_take [.tape, .int m] τ) (TakeQ n m)
  times : ∀ (τ : Tp) (m : List (List Int)) (x : List Int), (∀ r ∈ m, ∀ e ∈ r, smallI e) → (∀ e ∈ x, smallI e) → m.length ≤ LIM → (∀ r ∈ m, r.length ≤ LIM) → cf Law.F__law_times [dM m, dI x] τ = .ok (dI (tim m x)) τ
  timesT : ∀ (τ : Tp) (m : List (List Int)) (x : List Int), (∀ r ∈ m, ∀ e ∈ r, smallI e) → (∀ e ∈ x, smallI e) → m.length ≤ LIM → (∀ r ∈ m, r.length ≤ LIM) → cf Law.F__law_times [dM m, tI x] τ = .ok (dI (tim m x)) τ
  rank : ∀ (τ : Tp) {p : Int}, (p = 2 ∨ p = 3 ∨ p = 5 ∨ p = 7) → ∀ {w : Nat} {A : List Row}, (∀ r ∈ A, r.length = w) → A.length ≤ 1000 → w ≤ 1000 → (A = [] → w = 0) → Post (cf Law.F__law_rank [dM A, .int p] τ) fun d τ' => τ' = τ ∧ ∃ R pl, d = .int ((pl.length : Nat) : Int) ∧ PS p w A w R pl
  rankf : ∀ (τ : Tp) {p : Int}, (p = 2 ∨ p = 3 ∨ p = 5 ∨ p = 7) → ∀ {w : Nat} {A : List Row}, (∀ r ∈ A, r.length = w) → A.length ≤ 1000 → w ≤ 1000 → Post (cf Law.F_rank_fields [dM A, .int (w : Int), .int p] τ) fun d τ' => τ' = τ ∧ ∃ R pl, d = .int ((pl.length : Nat) : Int) ∧ PS p w A w R pl
  kerf : ∀ (τ : Tp) {p : Int}, (p = 2 ∨ p = 3 ∨ p = 5 ∨ p = 7) → ∀ {w : Nat} {A : List Row}, (∀ r ∈ A, r.length = w) → A.length ≤ 1000 → w ≤ 1000 → Post (cf Law.F_kernel_fields [dM A, .int (w : Int), .int p] τ) fun d τ' => τ' = τ ∧ ∃ R pl B, d = dM B ∧ PS p w A w R pl ∧ B.length = (frees w pl).length ∧ (∀ k f, (frees w pl)[k]? = some f → Good p w A pl f (row B k)) ∧ Rng p B
  solf : ∀ (τ : Tp) {p : Int}, (p = 2 ∨ p = 3 ∨ p = 5 ∨ p = 7) → ∀ {w : Nat} {A : List Row} {g : List Int}, (∀ r ∈ A, r.length = w) → A.length = g.length → w ≤ 900 → A.length ≤ 1000 → Post (cf Law.F_solution_fields [dM A, .int (w : Int), dI g, .int p] τ) fun d τ' => τ' = τ ∧ ∃ R pl, PS p (w + 1) (widen A g) (w + 1) R pl ∧ ((w ∈ pl ∧ d = .non) ∨ (w ∉ pl ∧ ∃ x, d = dI x ∧ x.length = w ∧ (∀ e ∈ x, 0 ≤ e ∧ e < p) ∧ ∀ i, i < A.length → p ∣ dot (row A i) (vec x) - ent g i))
  full : ∀ (τ : Tp) {n : Nat}, bits n 2 ≤ 4000 → ∀ {w : Nat} {A : List Row}, (∀ r ∈ A, r.length = w) → A.length ≤ 4 → w ≤ 900 → Bd n A → Post (cf Law.F__law_full [dM A, .int (w : Int)] τ) (LfQ w A τ)
  gcd : ∀ (τ : Tp) (a b : Int), a.natAbs < 2 ^ 1000 → b.natAbs < 2 ^ 1000 → cf Law.F__law_gcd [.int a, .int b] τ = .ok (.int (Int.gcd a b : Int)) τ
  rankr : ∀ (τ : Tp) (n : Nat), bits n 4 ≤ 1000 → ∀ {w : Nat} {A : List Row}, (∀ r ∈ A, r.length = w) → A.length ≤ 4 → w ≤ 900 → Bd n A → Post (cf Law.F_rank_rational [dM A, .int (w : Int)] τ) fun d τ' => τ' = τ ∧ ∃ R pl, d = .int ((pl.length : Nat) : Int) ∧ QS w A w R pl
  kerr : ∀ (τ : Tp) {n B : Nat}, bits n 4 ≤ B → 5 * B ≤ 1000 → 0 < B → ∀ {w : Nat} {A : List Row}, (∀ r ∈ A, r.length = w) → A.length ≤ 4 → w ≤ 900 → Bd n A → Post (cf Law.F_kernel_rational [dM A, .int (w : Int)] τ) fun d τ' => τ' = τ ∧ ∃ R pl N, d = dM N ∧ QS w A w R pl ∧ N.length = (frees w pl).length ∧ (∀ k f, (frees w pl)[k]? = some f → Good 0 w A pl f (row N k)) ∧ Bd (5 * B) N
  solr : ∀ (τ : Tp) {n B : Nat}, bits n 4 ≤ B → 5 * B ≤ 1000 → 0 < B → ∀ {w : Nat} {A : List Row} {g : List Int}, (∀ r ∈ A, r.length = w) → A.length = g.length → 0 < w → w ≤ 800 → A.length ≤ 4 → Bd n (widen A g) → Post (cf Law.F_solution_rational [dM A, .int (w : Int), dI g] τ) (SrQ w A g B τ)
  low : LwOk cf
/-- all the law's matrix and goal keep to -/
structure Inp (w : Nat) (A : List Row) (g : List Int) : Prop where
  w0 : 0 < w
  w4 : w ≤ 4
  a4 : A.length ≤ 4
  a0 : 0 < A.length
  wid : ∀ r ∈ A, r.length = w
  len : A.length = g.length
  bd : Bd 3 A
  gb : ∀ e ∈ g, e.natAbs < 2 ^ 6
theorem widen_cons_mem {A : List Row} {g : List Int} {r : Row} (h : r ∈ widen A g) : ∃ a b, a ∈ A ∧ b ∈ g ∧ r = a ++ [b] := by
  rw [← widen_zip] at h
  obtain ⟨q, hq, rfl⟩ := List.mem_map.mp h
  have := List.of_mem_zip (a := q.1) (b := q.2) hq
  exact ⟨_, _, this.1, this.2, rfl⟩
theorem Inp.wbd {w : Nat} {A : List Row} {g : List Int} (h : Inp w A g) : Bd 6 (widen A g) := fun r hr e he => by
  obtain ⟨a, b, ha, hb, rfl⟩ := widen_cons_mem hr
  simp only [List.mem_append, List.mem_singleton] at he
  rcases he with he | rfl
  · exact h.bd.mono (by decide) a ha e he
  · exact h.gb _ hb
theorem bd_small {n : Nat} (hn : n ≤ 4000) {R : List Row} (h : Bd n R) : ∀ r ∈ R, ∀ e ∈ r, smallI e = true := fun r hr e he => sm_of (h r hr e he) hn
def primeBody : List S :=
  [.asg (.nm 7) (.call Law.F__law_rank [.var 3, .var 6]),
      .iff (.cmp .ne (.call Law.F_rank_fields [.var 3, .var 13, .var 6]) (.var 7))
        [.ret (.bl false)]
        [],
      .asg (.nm 8) (.call Law.F_kernel_fields [.var 3, .var 13, .var 6]),
      .iff (.or (.cmp .ne (.bi .len (.var 8)) (.bin .sub (.var 13) (.var 7))) (.cmp .ne (.call Law.F__law_rank [.var 8, .var 6]) (.bi .len (.var 8))))
        [.ret (.bl false)]
        [],
      .iff (.bi .any (.lc (.or (.bi .any (.lc (.cmp .ne (.bin .mod (.bi .int (.var 20)) (.var 6)) (.int 0)) [20] (.nm 20) (.val (.call Law.F__law_times [.var 3, .var 21])) [])) (.bi .any (.lc (.not (.chn .le .lt (.int 0) (.var 20) (.var 6))) [20] (.nm 20) (.val (.var 21)) []))) [21] (.nm 21) (.val (.var 8)) []))
        [.ret (.bl false)]
        [],
      .asg (.nm 9) (.call Law.F_solution_fields [.var 3, .var 13, .var 4, .var 6]),
      .iff (.cmp .ne (.cmp .is (.var 9) (.non)) (.cmp .gt (.call Law.F__law_rank [.var 5, .var 6]) (.var 7)))
        [.ret (.bl false)]
        [],
      .iff (.and (.cmp .isnot (.var 9) (.non)) (.bi .any (.lc (.cmp .ne (.bin .mod (.bi .int (.bin .sub (.var 20) (.var 22))) (.var 6)) (.int 0)) [20, 22] (.tp [20, 22]) (.zip (.call Law.F__law_times [.var 3, .var 9]) (.var 4)) [])))
        [.ret (.bl false)]
        []]
/-- slots at the head of the loop over the primes -/
def PrSt (w : Nat) (A : List Row) (g : List Int) (s0 s2 s12 : Option D) (τ0 : Tp) (ρ : Loc) (τ : Tp) : Prop := τ = τ0 ∧ ∃ j6 j7 j8 j9 j10 j11 j14 j15 j16 j17 j18 j19 j20 j21 j22, ρ = [s0, some .tape, s2, some (dM A), some (dI g), some (dM (widen A g)), j6, j7, j8, j9, j10, j11, s12, some (.int (w : Int)), j14, j15, j16, j17, j18, j19, j20, j21, j22]
theorem tim_dvd {p : Int} {M : List Row} {b : Row} (h : Ker p M (vec b)) : ∀ e ∈ tim M b, p ∣ e := fun e he => by
  obtain ⟨r, hr, rfl⟩ := List.mem_map.mp he
  rw [sum_zip]
  exact h r hr
theorem any_false {α : Type} (xs : List α) : xs.any (fun _ => false) = false := by simp
theorem Wide.cases {p : Int} (hp : Pr p) {g1 r1 g2 r2 : Bool} {w : Nat} {A R R' : List Row} {g : List Int} {pl pl' : List Nat} (hl : A.length = g.length) (hw : ∀ r ∈ A, r.length = w) (h : Ech g1 r1 p w A w R pl) (h' : Ech g2 r2 p (w + 1) (widen A g) (w + 1) R' pl') :
    (w ∈ pl' ∧ pl'.length = pl.length + 1) ∨ (w ∉ pl' ∧ pl'.length = pl.length) := by
  rcases h.wide hp hl hw h' with e | e
  · refine .inr ⟨fun z => ?_, by rw [e]⟩
    rw [e] at z
    exact Nat.lt_irrefl _ (h.lt _ z)
  · exact .inl ⟨by rw [e]; simp, by rw [e]; simp⟩
set_option maxHeartbeats 4000000 in
theorem prime_turn (cf : CF) (K : K4 cf) {w : Nat} {A : List Row} {g : List Int} (hI : Inp w A g) {p : Int} (hp : p = 2 ∨ p = 3 ∨ p = 5 ∨ p = 7) (s0 s2 s12 : Option D) (τ : Tp) (j7 j8 j9 j10 j11 j14 j15 j16 j17 j18 j19 j20 j21 j22 : Option D) :
    Post (evSs cf primeBody [s0, some .tape, s2, some (dM A), some (dI g), some (dM (widen A g)), some (.int p), j7, j8, j9, j10, j11, s12, some (.int (w : Int)), j14, j15, j16, j17, j18, j19, j20, j21, j22] τ) (Turn (PrSt w A g s0 s2 s12 τ) (PrSt w A g s0 s2 s12 τ) fun _ _ => False) := by
  have hP := Pr_small hp
  have hpp : 0 < p := by omega
  have := hI.w4
  have := hI.a4
  have sA := bd_small (by decide) hI.bd
  obtain ⟨_, τ, e1, rfl, R1, pl, rfl, h1⟩ := K.rank τ hp hI.wid (by omega) (by omega) (fun z => by have := hI.a0; rw [z] at this; simp at this)
  obtain ⟨_, τ, e2, rfl, R2, pl2, rfl, h2⟩ := K.rankf τ hp hI.wid (by omega) (by omega)
  obtain ⟨_, τ, e3, rfl, R3, pl3, N, rfl, h3, hN, hG, hNr⟩ := K.kerf τ hp hI.wid (by omega) (by omega)
  obtain rfl := h1.e.uniq hP h2.e
  obtain rfl := h1.e.uniq hP h3.e
  have hfl := frees_len h1.e.inc h1.e.lt
  have hNl := basis_li hP hN hG
  have hgood : ∀ k, k < N.length → Ker p A (vec (row N k)) ∧ (row N k).length = w := fun k hk => by
    have := hG k _ (List.getElem?_eq_getElem (by omega))
    exact ⟨this.ker, this.len⟩
  have hNw : ∀ r ∈ N, r.length = w := fun r hr => by
    obtain ⟨k, hk, rfl⟩ := mem_row hr
    exact (hgood k hk).2
  have hNb : ∀ r ∈ N, Ker p A (vec r) := fun r hr => by
    obtain ⟨k, hk, rfl⟩ := mem_row hr
    exact (hgood k hk).1
  have e4 : ∃ τ', τ' = τ ∧ cf Law.F__law_rank [dM N, .int p] τ = .ok (.int (N.length : Int)) τ' := by
    by_cases z : N = []
    · obtain ⟨_, τ, e, rfl, R, q, rfl, h⟩ := K.rank τ hp (w := 0) (A := N) (fun r hr => by rw [z] at hr; simp at hr) (by omega) (by omega) (fun _ => rfl)
      exact ⟨τ, rfl, by rw [← h.e.full hP hNl]; exact e⟩
    · obtain ⟨_, τ, e, rfl, R, q, rfl, h⟩ := K.rank τ hp (w := w) (A := N) hNw (by omega) (by omega) (fun y => absurd y z)
      exact ⟨τ, rfl, by rw [← h.e.full hP hNl]; exact e⟩
  obtain ⟨τ, rfl, e4⟩ := e4
  unfold primeBody
  simp [e1, e2, e3, e4, show (N.length : Int) = (w : Int) - (pl.length : Int) by omega, show N.length ≤ LIM by unfold LIM; omega]
  rw [lcRun_all dI (fun _ => .bl false) N fun b hb => ⟨_, rfl, by
    have sb : ∀ e ∈ b, smallI e = true := fun e he => sm_rng hp (hNr b hb e he)
    have bw := hNw b hb
    simp [-List.map_map, K.times _ A b sA sb (by unfold LIM; omega) (fun r hr => by rw [hI.wid r hr]; unfold LIM; omega), show A.length ≤ LIM by unfold LIM; omega]
    rw [lcRun_all D.int (fun _ => .bl false) (tim A b) fun e he => ⟨_, rfl, by
      simp [binop_mod_pos hpp, Int.emod_eq_zero_of_dvd (tim_dvd (hNb b hb) e he)]⟩]
    have ea := bi1_any (fun _ => false) (tim A b)
    simp only [any_false] at ea
    simp only [Py.R.bind_ok, ea, Py.R.of_some, truth_bl]
    simp [bw, show w ≤ LIM by unfold LIM; omega]
    rw [lcRun_all D.int (fun _ => .bl false) b fun e he => ⟨_, rfl, by
      have := hNr b hb e he
      simp [this.1, this.2]⟩]
    have eb := bi1_any (fun _ => false) b
    simp only [any_false] at eb
    simp only [Py.R.bind_ok, eb, Py.R.of_some]⟩]
  have eN := bi1_any (fun _ => false) N
  simp only [any_false] at eN
  simp only [Py.R.bind_ok, eN, Py.R.of_some, asB_ok, truth_bl]
  obtain ⟨told, τ, e5, rfl, R5, pl5, h5, hs⟩ := K.solf τ hp hI.wid hI.len (by omega) (by omega)
  obtain ⟨_, τ, e6, rfl, R6, pl6, rfl, h6⟩ := K.rank τ hp (w := w + 1) (A := widen A g) (widen_mem hI.wid) (by rw [widen_len]; omega) (by omega) (fun z => by
    have := congrArg List.length z
    rw [widen_len, List.length_nil] at this
    have := hI.a0
    have := hI.len
    omega)
  obtain rfl := h5.e.uniq hP h6.e
  simp [e5]
  rcases hs with ⟨hm, rfl⟩ | ⟨hm, x, rfl, hxl, hxr, hx⟩
  · rcases Wide.cases hP hI.len hI.wid h1.e h5.e with ⟨_, c⟩ | ⟨c, _⟩
    · simp [e6, c, show (pl.length : Int) < (pl.length : Int) + 1 by omega]
      exact .ok ⟨rfl, _, _, _, _, _, _, _, _, _, _, _, _, _, _, _, rfl⟩
    · exact absurd hm c
  · rcases Wide.cases hP hI.len hI.wid h1.e h5.e with ⟨c, _⟩ | ⟨_, c⟩
    · exact absurd c hm
    · have sx : ∀ e ∈ x, smallI e = true := fun e he => sm_rng hp (hxr e he)
      simp [-List.map_map, e6, c, K.times _ A x sA sx (by unfold LIM; omega) (fun r hr => by rw [hI.wid r hr]; unfold LIM; omega), zlen (show ((tim A x).map D.int).length ≤ LIM by simp; unfold LIM; omega)]
      rw [zipL_map, lcRun_all _ (fun _ => .bl false) _ fun q hq => ⟨_, rfl, by
        obtain ⟨i, hi, eq⟩ := List.mem_iff_getElem.mp hq
        have hiA : i < A.length := by simp at hi; omega
        have : p ∣ q.1 - q.2 := by
          have := hx i hiA
          rw [← eq]
          simp only [List.getElem_zip, List.getElem_map]
          rw [sum_zip]
          have e1 : A[i]'hiA = row A i := by simp [row, List.getD_eq_getElem?_getD, List.getElem?_eq_getElem hiA]
          have e2 : g[i]'(by have := hI.len; omega) = ent g i := by simp [ent, List.getD_eq_getElem?_getD, List.getElem?_eq_getElem (show i < g.length by have := hI.len; omega)]
          rw [e1, e2]
          exact this
        simp [binop_mod_pos hpp, Int.emod_eq_zero_of_dvd this]⟩]
      have eb := bi1_any (fun _ => false) (List.zip (tim A x) g)
      simp only [any_false] at eb
      simp only [Py.R.bind_ok, eb, Py.R.of_some, asB_ok, truth_bl]
      simp
      exact .ok ⟨rfl, _, _, _, _, _, _, _, _, _, _, _, _, _, _, _, rfl⟩
end Py.Wa

namespace Py.Wa
open Lin
def ratBody : List S :=
  [.asg (.nm 7) (.call Law.F__law_full [.var 3, .var 13]),
    .asg (.nm 8) (.call Law.F_kernel_rational [.var 3, .var 13]),
    .iff (.or (.cmp .ne (.call Law.F_rank_rational [.var 3, .var 13]) (.var 7)) (.or (.cmp .ne (.bi .len (.var 8)) (.bin .sub (.var 13) (.var 7))) (.or (.cmp .ne (.call Law.F__law_full [.var 8, .var 13]) (.bi .len (.var 8))) (.bi .any (.lc (.bi .any (.call Law.F__law_times [.var 3, .var 21])) [21] (.nm 21) (.val (.var 8)) [])))))
      [.ret (.bl false)]
      [],
    .asg (.nm 9) (.call Law.F_solution_rational [.var 3, .var 13, .var 4]),
    .iff (.cmp .ne (.cmp .is (.var 9) (.non)) (.cmp .gt (.call Law.F__law_full [.var 5, .bin .add (.var 13) (.int 1)]) (.var 7)))
      [.ret (.bl false)]
      [],
    .iff (.cmp .isnot (.var 9) (.non))
      [.asg (.tp [16, 15]) (.var 9),
      .asg (.nm 10) (.var 15),
      .fra (.nm 11) (.val (.var 16)) 10 (.call Law.F__law_gcd [.var 10, .var 11]),
      .iff (.or (.cmp .lt (.var 15) (.int 1)) (.or (.cmp .ne (.var 10) (.int 1)) (.cmp .ne (.call Law.F__law_times [.var 3, .var 16]) (.lc (.bin .mul (.var 20) (.var 15)) [20] (.nm 20) (.val (.var 4)) []))))
        [.ret (.bl false)]
        []]
      []]
theorem deqs_ints (xs ys : List Int) : deqs (xs.map .int) (ys.map .int) = decide (xs = ys) := by
  induction xs generalizing ys with
  | nil => cases ys <;> simp [deqs]
  | cons x xs ih => cases ys with
    | nil => simp
    | cons y ys =>
      simp only [List.map_cons, deqs, ih, deq_int]
      by_cases e : x = y <;> simp [e]
theorem cmp_ne_ints (xs ys : List Int) : cmpop .ne (dI xs) (dI ys) = some (decide (xs ≠ ys)) := by
  simp [-List.map_map, cmpop, DEP, deqs_ints]
def GlSt (x : List Int) (b : Int) (ρ0 : Loc) (τ0 : Tp) (k : Nat) (ρ : Loc) (τ : Tp) : Prop := τ = τ0 ∧ ∃ j, ρ = (ρ0.set 10 (some (.int (gcdF b.natAbs (x.take k) : Int)))).set 11 j
def RtSt (w : Nat) (A : List Row) (g : List Int) (s0 s2 s12 : Option D) (τ0 : Tp) (fl : Fl) (τ : Tp) : Prop := ∃ ρ, fl = .nx ρ ∧ PrSt w A g s0 s2 s12 τ0 ρ τ
set_option maxHeartbeats 4000000 in
theorem rat_turn (cf : CF) (K : K4 cf) {w : Nat} {A : List Row} {g : List Int} (hI : Inp w A g) (s0 s2 s12 : Option D) (τ : Tp) (j6 j7 j8 j9 j10 j11 j14 j15 j16 j17 j18 j19 j20 j21 j22 : Option D) :
    Post (evSs cf ratBody [s0, some .tape, s2, some (dM A), some (dI g), some (dM (widen A g)), j6, j7, j8, j9, j10, j11, s12, some (.int (w : Int)), j14, j15, j16, j17, j18, j19, j20, j21, j22] τ) (RtSt w A g s0 s2 s12 τ) := by
  have := hI.w4
  have := hI.a4
  have sA := bd_small (by decide) hI.bd
  obtain ⟨_, τ, e1, rfl, R1, pl, rfl, h1⟩ := K.full τ (n := 3) (by decide) hI.wid (by omega) (by omega) hI.bd
  obtain ⟨_, τ, e2, rfl, R2, pl2, rfl, h2⟩ := K.rankr τ 3 (by decide) hI.wid (by omega) (by omega) hI.bd
  obtain ⟨_, τ, e3, rfl, R3, pl3, N, rfl, h3, hN, hG, hNr⟩ := K.kerr τ (n := 3) (B := 63) (by decide) (by decide) (by decide) hI.wid (by omega) (by omega) hI.bd
  obtain rfl := h1.uniq Pr_zero h2.e
  obtain rfl := h1.uniq Pr_zero h3.e
  have hfl := frees_len h1.inc h1.lt
  have hNl := basis_li Pr_zero hN hG
  have hgood : ∀ k, k < N.length → Ker 0 A (vec (row N k)) ∧ (row N k).length = w := fun k hk => by
    have := hG k _ (List.getElem?_eq_getElem (by omega))
    exact ⟨this.ker, this.len⟩
  have hNw : ∀ r ∈ N, r.length = w := fun r hr => by
    obtain ⟨k, hk, rfl⟩ := mem_row hr
    exact (hgood k hk).2
  have hNb : ∀ r ∈ N, Ker 0 A (vec r) := fun r hr => by
    obtain ⟨k, hk, rfl⟩ := mem_row hr
    exact (hgood k hk).1
  obtain ⟨_, τ, e4, rfl, R4, q4, rfl, h4⟩ := K.full τ (n := 315) (by decide) hNw (by omega) (by omega) hNr
  have h4l := h4.full Pr_zero hNl
  unfold ratBody
  simp [e1, e2, e3, e4, show (N.length : Int) = (w : Int) - (pl.length : Int) by omega, show N.length ≤ LIM by unfold LIM; omega, show (q4.length : Int) = (w : Int) - (pl.length : Int) by omega]
  rw [lcRun_all dI (fun _ => .bl false) N fun b hb => ⟨_, rfl, by
    have sb : ∀ e ∈ b, smallI e = true := fun e he => sm_of (hNr b hb e he) (by omega)
    simp [-List.map_map, K.times _ A b sA sb (by unfold LIM; omega) (fun r hr => by rw [hI.wid r hr]; unfold LIM; omega)]
    rw [bi1_anyI]
    have : (tim A b).any (· != 0) = false := by
      rw [List.any_eq_false]
      intro e he
      have := z_dvd.mp (tim_dvd (hNb b hb) e he)
      simp [this]
    simp [this]⟩]
  have eN := bi1_any (fun _ => false) N
  simp only [any_false] at eN
  simp only [Py.R.bind_ok, eN, Py.R.of_some, asB_ok, truth_bl]
  obtain ⟨told, τ, e5, rfl, R5, pl5, h5, hs⟩ := K.solr τ (n := 6) (B := 111) (by decide) (by decide) (by decide) hI.wid hI.len hI.w0 (by omega) (by omega) hI.wbd
  obtain ⟨_, τ, e6, rfl, R6, pl6, rfl, h6⟩ := K.full τ (n := 6) (by decide) (w := w + 1) (A := widen A g) (widen_mem hI.wid) (by rw [widen_len]; omega) (by omega) hI.wbd
  obtain rfl := h5.e.uniq Pr_zero h6
  have e6' : cf Law.F__law_full [dM (widen A g), .int ((w : Int) + 1)] τ = .ok (.int (pl5.length : Int)) τ := e6
  simp [e5]
  rcases hs with ⟨hm, rfl⟩ | ⟨hm, x, b, rfl, hxl, hb0, hb1, hbb, hxb, hx⟩
  · rcases Wide.cases Pr_zero hI.len hI.wid h1 h5.e with ⟨_, c⟩ | ⟨c, _⟩
    · simp [e6', c, show (pl.length : Int) < (pl.length : Int) + 1 by omega]
      exact .ok ⟨_, rfl, rfl, _, _, _, _, _, _, _, _, _, _, _, _, _, _, _, rfl⟩
    · exact absurd hm c
  · rcases Wide.cases Pr_zero hI.len hI.wid h1 h5.e with ⟨c, _⟩ | ⟨_, c⟩
    · exact absurd c hm
    · have sx : ∀ e ∈ x, smallI e = true := fun e he => sm_of (hxb e he) (by omega)
      simp [-List.map_map, e6', c]
      refine .bind (.bind (.fra (GlSt x b [s0, some .tape, s2, some (dM A), some (dI g), some (dM (widen A g)), j6, some (.int (pl.length : Int)), some (dM N), some (.tup [tI x, .int b]), some (.int b), j11, s12, some (.int (w : Int)), j14, some (.int b), some (tI x), j17, j18, j19, j20, j21, j22] τ) ⟨rfl, j11, by simp [gcdF, Int.natAbs_of_nonneg (Int.le_of_lt hb0)]⟩ ?_ ?_))
      · rintro k y hy ρ τ2 ⟨rfl, j, rfl⟩
        have hk : k < x.length := by simpa using len_of hy
        rw [dI_get hk] at hy
        cases hy
        refine ⟨_, rfl, ?_⟩
        simp
        have hgb : ((gcdF b.natAbs (x.take k) : Nat) : Int).natAbs < 2 ^ 1000 := by
          rw [Int.natAbs_natCast]
          exact gcdF_bound _ _ (Nat.lt_of_lt_of_le hbb (Nat.pow_le_pow_right (by decide) (by decide))) fun e he => Nat.lt_of_lt_of_le (hxb e (List.mem_of_mem_take he)) (Nat.pow_le_pow_right (by decide) (by decide))
        rw [K.gcd _ _ _ hgb (Nat.lt_of_lt_of_le (hxb _ (ent_mem hk)) (Nat.pow_le_pow_right (by decide) (by decide)))]
        exact .ok ⟨rfl, _, by rw [gcdF_take hk]; rfl⟩
      · rintro ρ τ2 ⟨rfl, j, rfl⟩
        have hgl : g.length ≤ LIM := by have := hI.len; unfold LIM; omega
        simp [-List.map_map, hb1, show ¬ b < 1 by omega, hgl, K.timesT _ A x sA sx (by unfold LIM; omega) (fun r hr => by rw [hI.wid r hr]; unfold LIM; omega)]
        rw [lcRun_all D.int (fun e => .int (e * b)) g fun e he => ⟨_, rfl, by simp [binop_mul (sm_of (hI.gb e he) (by omega)) (sm_of hbb (by omega))]⟩]
        have em : g.map (fun e => D.int (e * b)) = (g.map fun e => e * b).map .int := by simp [Function.comp_def]
        have et : tim A x = g.map fun e => e * b := by
          refine List.ext_getElem (by simp [hI.len]) fun i h1 h2 => ?_
          simp at h1 h2
          simp only [List.getElem_map]
          rw [sum_zip]
          have := hx i h1
          have e1 : A[i] = row A i := by simp [row, List.getD_eq_getElem?_getD, List.getElem?_eq_getElem h1]
          have e2 : g[i] = ent g i := by simp [ent, List.getD_eq_getElem?_getD, List.getElem?_eq_getElem h2]
          rw [e1, e2, this]
        rw [em]
        simp only [Py.R.bind_ok, cmp_ne_ints, et]
        simp
        exact .ok (.ok ⟨_, rfl, rfl, _, _, _, _, _, _, _, _, _, _, _, _, _, _, _, rfl⟩)
end Py.Wa

namespace Py.Wa
open Lin
def lowBody : List S :=
  [.asg (.tp [14, 15]) (.tup [.lc (.bin .sub (.call Law.F__law_take [.var 1, .int 30]) (.int 15)) [19] (.nm 19) (.rng (.var 13)) [], .idx (.lst [.int 1, .neg (.int 2), .int 6, .neg (.int 9)]) (.call Law.F__law_take [.var 1, .int 4])]),
    .asg (.tp [16, 17]) (.call Law.F_lowest [.var 14, .var 15]),
    .asg (.nm 10) (.var 17),
    .fra (.nm 11) (.val (.var 16)) 10 (.call Law.F__law_gcd [.var 10, .var 11]),
    .iff (.or (.cmp .lt (.var 17) (.int 1)) (.or (.cmp .ne (.var 10) (.int 1)) (.cmp .ne (.lc (.bin .mul (.var 11) (.var 15)) [11] (.nm 11) (.val (.var 16)) []) (.lc (.bin .mul (.var 20) (.var 17)) [20] (.nm 20) (.val (.var 14)) []))))
      [.ret (.bl false)]
      []]
/-- slots of law at the head of its loop -/
def LwSt (ns : List Int) (n : Nat) (ρ : Loc) (τ : Tp) : Prop := TB n τ ∧ ∃ j2 j3 j4 j5 j6 j7 j8 j9 j10 j11 j12 j13 j14 j15 j16 j17 j18 j19 j20 j21 j22, ρ = [some (.scr ns), some .tape, j2, j3, j4, j5, j6, j7, j8, j9, j10, j11, j12, j13, j14, j15, j16, j17, j18, j19, j20, j21, j22]
def LwFl (ns : List Int) (n : Nat) (fl : Fl) (τ : Tp) : Prop := ∃ ρ, fl = .nx ρ ∧ LwSt ns n ρ τ
theorem mem_map_int {ds : List D} {lo hi : Int} (h : ∀ d ∈ ds, ∃ k, d = D.int k ∧ lo ≤ k ∧ k < hi) : ∃ us : List Int, ds = us.map .int ∧ us.length = ds.length ∧ ∀ a ∈ us, lo ≤ a ∧ a < hi := enc_of D.int _ ds h
set_option maxHeartbeats 4000000 in
theorem low_turn (cf : CF) (K : K4 cf) (ns : List Int) {w : Nat} (hw : 0 < w) (hw4 : w ≤ 4) (n : Nat) (τ : Tp) (hT : TB (n + 6) τ) (j2 j3 j4 j5 j6 j7 j8 j9 j10 j11 j12 j14 j15 j16 j17 j18 j19 j20 j21 j22 : Option D) :
    Post (evSs cf lowBody [some (.scr ns), some .tape, j2, j3, j4, j5, j6, j7, j8, j9, j10, j11, j12, some (.int (w : Int)), j14, j15, j16, j17, j18, j19, j20, j21, j22] τ) (LwFl ns n) := by
  unfold lowBody
  simp
  rw [rng_nat _ (by omega)]
  simp [show w ≤ LIM by unfold LIM; omega]
  repeat refine Post.bind ?_
  refine (Post.lcT 1 (fun d => ∃ k, d = D.int k ∧ (-15 : Int) ≤ k ∧ k < 15) _ (fun x hx => ⟨_, rfl, fun m τ h => ?_⟩) (n + 2) τ (hT.mono (by simp; omega))).mono ?_
  · obtain ⟨_, τ1, e, k, rfl, h0, h1, h2⟩ := K.take m 30 τ (by decide) (by decide) h
    simp [e]
    exact .ok ⟨⟨_, rfl, by omega, by omega⟩, h2⟩
  · rintro ds τ1 ⟨hl, hd, hT1⟩
    obtain ⟨us, rfl, hul, hus⟩ := mem_map_int hd
    obtain ⟨_, τ2, e, k, rfl, h0, h1, hT2⟩ := K.take (n + 1) 4 τ1 (by decide) (by decide) hT1
    have hub : us.length = w := by simpa using hl
    have hb : ∃ b : Int, at? [D.int 1, D.int (-2), D.int 6, D.int (-9)] k = some (.int b) ∧ b ≠ 0 ∧ b.natAbs < 16 := by
      have : k = 0 ∨ k = 1 ∨ k = 2 ∨ k = 3 := by omega
      rcases this with rfl | rfl | rfl | rfl
      · exact ⟨1, rfl, by decide, by decide⟩
      · exact ⟨-2, rfl, by decide, by decide⟩
      · exact ⟨6, rfl, by decide, by decide⟩
      · exact ⟨-9, rfl, by decide, by decide⟩
    obtain ⟨b, eb, b0, bb⟩ := hb
    have hur : ∀ e ∈ us, e.natAbs < 16 := fun e he => by have := hus e he; omega
    have h16 : (16 : Nat) < 2 ^ 1000 := by decide +kernel
    obtain ⟨v, τ3, e3, rfl, x, bt, s, rfl, hL⟩ := K.low τ2 us b (fun e he => by have := hur e he; omega) (by omega) b0 (fun z => by rw [z] at hub; simp at hub; omega) (by omega)
    have hs1 : 1 ≤ s.natAbs := by have := hL.s0; omega
    have hbt : bt.natAbs < 16 := by
      have h2 : s.natAbs * bt.natAbs = b.natAbs := by rw [← Int.natAbs_mul, hL.den]
      have := Nat.le_mul_of_pos_left bt.natAbs hs1
      omega
    have hxe : ∀ c, (ent x c).natAbs < 16 := fun c => by
      have h2 : s.natAbs * (ent x c).natAbs = (ent us c).natAbs := by rw [← Int.natAbs_mul, hL.num c]
      have h3 := Nat.le_mul_of_pos_left (ent x c).natAbs hs1
      by_cases hc : c < us.length
      · have := hur _ (ent_mem hc)
        omega
      · rw [ent_out (r := us) (by omega)] at h2
        simp at h2
        omega
    have hxb : ∀ e ∈ x, e.natAbs < 16 := fun e he => by
      obtain ⟨c, hc, rfl⟩ := List.mem_iff_getElem.mp he
      have e1 : x[c] = ent x c := by simp [ent, List.getD_eq_getElem?_getD, List.getElem?_eq_getElem hc]
      rw [e1]; exact hxe c
    have hxl := hL.len
    have hbp := hL.pos
    simp [Post_ok, e, eb, e3]
    repeat refine Post.bind ?_
    refine .fra (GlSt x bt [some (.scr ns), some .tape, j2, j3, j4, j5, j6, j7, j8, j9, some (.int bt), j11, j12, some (.int (w : Int)), some (dI us), some (.int b), some (tI x), some (.int bt), j18, j19, j20, j21, j22] τ3) ⟨rfl, j11, by simp [gcdF, Int.natAbs_of_nonneg (Int.le_of_lt hbp)]⟩ ?_ ?_
    · rintro k y hy ρ τ2 ⟨rfl, j, rfl⟩
      have hk : k < x.length := by simpa using len_of hy
      rw [dI_get hk] at hy
      cases hy
      refine ⟨_, rfl, ?_⟩
      simp
      have hgb : ((gcdF bt.natAbs (x.take k) : Nat) : Int).natAbs < 2 ^ 1000 := by
        rw [Int.natAbs_natCast]
        exact gcdF_bound _ _ (by omega) fun e he => by have := hxb e (List.mem_of_mem_take he); omega
      rw [K.gcd _ _ _ hgb (by have := hxe k; omega)]
      exact .ok ⟨rfl, _, by rw [gcdF_take hk]; rfl⟩
    · rintro ρ τ2 ⟨rfl, j, rfl⟩
      have sm16 : ∀ e : Int, e.natAbs < 16 → smallI e = true := fun e he => sm_of (n := 1000) (by omega) (by omega)
      simp [-List.map_map, hL.one, show ¬ bt < 1 by omega, show x.length ≤ LIM by unfold LIM; omega, show us.length ≤ LIM by unfold LIM; omega]
      rw [lcRun_all D.int (fun e => .int (e * b)) x fun e he => ⟨_, rfl, by simp [binop_mul (sm16 e (hxb e he)) (sm16 b bb)]⟩]
      simp [-List.map_map, show us.length ≤ LIM by unfold LIM; omega]
      rw [lcRun_all D.int (fun e => .int (e * bt)) us fun e he => ⟨_, rfl, by simp [binop_mul (sm16 e (hur e he)) (sm16 bt hbt)]⟩]
      have e1 : x.map (fun e => D.int (e * b)) = (x.map fun e => e * b).map .int := by simp [Function.comp_def]
      have e2 : us.map (fun e => D.int (e * bt)) = (us.map fun e => e * bt).map .int := by simp [Function.comp_def]
      have e3 : (x.map fun e => e * b) = us.map fun e => e * bt := by
        refine List.ext_getElem (by simp [hxl]) fun i h1 h2 => ?_
        simp at h1 h2
        simp only [List.getElem_map]
        have e1 : x[i] = ent x i := by simp [ent, List.getD_eq_getElem?_getD, List.getElem?_eq_getElem h1]
        have e2 : us[i] = ent us i := by simp [ent, List.getD_eq_getElem?_getD, List.getElem?_eq_getElem h2]
        rw [e1, e2, ← hL.num i, ← hL.den]
        grind
      rw [e1, e2]
      simp only [Py.R.bind_ok, cmp_ne_ints, e3]
      simp
      exact .ok ⟨_, rfl, hT2.mono (by omega), _, _, _, _, _, _, _, _, _, _, _, _, _, _, _, _, _, _, _, _, _, rfl⟩
end Py.Wa

namespace Py.Wa
open Lin
theorem eSs_app (cf : CF) (a b : List S) (ρ : Loc) (τ : Tp) : evSs cf (a ++ b) ρ τ = (evSs cf a ρ τ).bind (thn cf b) := by
  induction a generalizing ρ τ with
  | nil => simp
  | cons s a ih =>
    simp only [List.cons_append, eSs_cons]
    cases evS cf s ρ τ with
    | ok fl τ => cases fl <;> simp [ih]
    | ex k ds τ => rfl
    | bad => rfl
def drawBody : List S :=
  [.asg (.tp [12, 13]) (.tup [.bin .add (.int 1) (.call Law.F__law_take [.var 1, .int 4]), .bin .add (.int 1) (.call Law.F__law_take [.var 1, .int 4])]),
    .asg (.nm 3) (.lc (.lc (.ite (.cmp .gt (.call Law.F__law_take [.var 1, .int 3]) (.int 0)) (.bin .sub (.call Law.F__law_take [.var 1, .int 9]) (.int 4)) (.int 0)) [19] (.nm 19) (.rng (.var 13)) []) [18] (.nm 18) (.rng (.var 12)) []),
    .asg (.nm 4) (.call Law.F__law_times [.var 3, .lc (.bin .sub (.call Law.F__law_take [.var 1, .int 7]) (.int 3)) [19] (.nm 19) (.rng (.var 13)) []]),
    .iff (.cmp .eq (.call Law.F__law_take [.var 1, .int 2]) (.int 0))
      [.asg (.nm 4) (.lc (.bin .sub (.call Law.F__law_take [.var 1, .int 9]) (.int 4)) [18] (.nm 18) (.rng (.var 12)) [])]
      [],
    .asg (.nm 5) (.lc (.bin .add (.var 14) (.lst [.var 20])) [14, 20] (.tp [14, 20]) (.zip (.var 3) (.var 4)) [])]
def DrFl (ns : List Int) (n : Nat) (fl : Fl) (τ : Tp) : Prop := ∃ (w : Nat) (A : List Row) (g : List Int) (j2 j6 j7 j8 j9 j10 j11 j12 j14 j15 j16 j17 j18 j19 j20 j21 j22 : Option D), fl = .nx [some (.scr ns), some .tape, j2, some (dM A), some (dI g), some (dM (widen A g)), j6, j7, j8, j9, j10, j11, j12, some (.int (w : Int)), j14, j15, j16, j17, j18, j19, j20, j21, j22] ∧ Inp w A g ∧ TB n τ
def IsRow (w : Nat) (d : D) : Prop := ∃ r : Row, d = dI r ∧ (r.length = w ∧ ∀ e ∈ r, e.natAbs < 2 ^ 3)
theorem tim_bound {A : List Row} {x : Row} {w : Nat} (hw : w ≤ 4) (hA : ∀ r ∈ A, r.length = w ∧ ∀ e ∈ r, e.natAbs ≤ 4) (hx : ∀ e ∈ x, e.natAbs ≤ 3) : ∀ e ∈ tim A x, e.natAbs < 2 ^ 6 := fun e he => by
  obtain ⟨r, hr, rfl⟩ := List.mem_map.mp he
  obtain ⟨h1, h2⟩ := hA r hr
  have key : ∀ (r x : Row), (∀ e ∈ r, e.natAbs ≤ 4) → (∀ e ∈ x, e.natAbs ≤ 3) → ((List.zipWith (· * ·) r x).sum).natAbs ≤ r.length * 12 := by
    intro r
    induction r with
    | nil => intro x _ _; simp
    | cons a r ih =>
      intro x hr hx
      cases x with
      | nil => simp
      | cons b x =>
        have := ih x (fun e he => hr e (by simp [he])) (fun e he => hx e (by simp [he]))
        have h3 : a.natAbs * b.natAbs ≤ 4 * 3 := Nat.mul_le_mul (hr a (by simp)) (hx b (by simp))
        rw [← Int.natAbs_mul] at h3
        simp only [List.zipWith_cons_cons, List.sum_cons, List.length_cons]
        omega
  have := key r x h2 hx
  rw [h1] at this
  omega
set_option maxHeartbeats 4000000 in
theorem draw_turn (cf : CF) (K : K4 cf) (ns : List Int) (n : Nat) (τ : Tp) (hT : TB (n + 50) τ) (j2 j3 j4 j5 j6 j7 j8 j9 j10 j11 j12 j13 j14 j15 j16 j17 j18 j19 j20 j21 j22 : Option D) :
    Post (evSs cf drawBody [some (.scr ns), some .tape, j2, j3, j4, j5, j6, j7, j8, j9, j10, j11, j12, j13, j14, j15, j16, j17, j18, j19, j20, j21, j22] τ) (DrFl ns n) := by
  unfold drawBody
  obtain ⟨_, τ1, e1, k1, rfl, h10, h11, hT1⟩ := K.take (n + 49) 4 τ (by decide) (by decide) hT
  obtain ⟨_, τ2, e2, k2, rfl, h20, h21, hT2⟩ := K.take (n + 48) 4 τ1 (by decide) (by decide) hT1
  obtain ⟨h, eh⟩ : ∃ h : Nat, 1 + k1 = (h : Int) := ⟨(1 + k1).toNat, by omega⟩
  obtain ⟨w, ew⟩ : ∃ w : Nat, 1 + k2 = (w : Int) := ⟨(1 + k2).toNat, by omega⟩
  simp [e1, e2, eh, ew]
  rw [rng_nat _ (by omega)]
  simp [show h ≤ LIM by unfold LIM; omega]
  repeat refine Post.bind ?_
  refine (Post.lcT 8 (fun d => ∃ r : Row, d = dI r ∧ (r.length = w ∧ ∀ e ∈ r, e.natAbs ≤ 4)) _ (fun x hx => ⟨_, rfl, fun m τ hm => ?_⟩) (n + 16) τ2 (hT2.mono (by simp; omega))).mono ?_
  · simp
    rw [rng_nat _ (by omega)]
    simp [show w ≤ LIM by unfold LIM; omega]
    repeat refine Post.bind ?_
    refine (Post.lcT 2 (fun d => ∃ k, d = D.int k ∧ (-4 : Int) ≤ k ∧ k < 5) _ (fun y hy => ⟨_, rfl, fun m τ hm => ?_⟩) m τ (hm.mono (by simp; omega))).mono ?_
    · obtain ⟨_, τ3, e3, k3, rfl, h30, h31, hT3⟩ := K.take (m + 1) 3 τ (by decide) (by decide) hm
      by_cases z : 0 < k3
      · obtain ⟨_, τ4, e4, k4, rfl, h40, h41, hT4⟩ := K.take m 9 τ3 (by decide) (by decide) hT3
        simp [e3, z, e4]
        exact .ok ⟨⟨_, rfl, by omega, by omega⟩, hT4⟩
      · simp [e3, z]
        exact .ok ⟨⟨_, rfl, by omega, by omega⟩, hT3.mono (by omega)⟩
    · rintro ds τ3 ⟨hl, hd, hT3⟩
      obtain ⟨us, rfl, hul, hus⟩ := mem_map_int hd
      refine .ok ⟨⟨us, rfl, by simpa using hl, fun e he => by have := hus e he; omega⟩, hT3⟩
  · rintro ds τ3 ⟨hl, hd, hT3⟩
    obtain ⟨A, rfl, hAl, hA⟩ := enc_of dI (fun r : Row => r.length = w ∧ ∀ e ∈ r, e.natAbs ≤ 4) ds hd
    simp at hl
    simp [Post_ok]
    rw [rng_nat _ (by omega)]
    simp [show w ≤ LIM by unfold LIM; omega]
    repeat refine Post.bind ?_
    refine (Post.lcT 1 (fun d => ∃ k, d = D.int k ∧ (-3 : Int) ≤ k ∧ k < 4) _ (fun y hy => ⟨_, rfl, fun m τ hm => ?_⟩) (n + 12) τ3 (hT3.mono (by simp; omega))).mono ?_
    · obtain ⟨_, τ3, e3, k3, rfl, h30, h31, hT3⟩ := K.take m 7 τ (by decide) (by decide) hm
      simp [e3]
      exact .ok ⟨⟨_, rfl, by omega, by omega⟩, hT3⟩
    · rintro ds τ4 ⟨hl4, hd, hT4⟩
      obtain ⟨x, rfl, hxl, hx⟩ := mem_map_int hd
      have sA : ∀ r ∈ A, ∀ e ∈ r, smallI e = true := fun r hr e he => by have := (hA r hr).2 e he; exact smallI_62 (by omega)
      have sx : ∀ e ∈ x, smallI e = true := fun e he => by have := hx e he; exact smallI_62 (by omega)
      obtain ⟨_, τ5, e5, k5, rfl, h50, h51, hT5⟩ := K.take (n + 11) 2 τ4 (by decide) (by decide) hT4
      simp [-List.map_map, Post_ok, K.times _ A x sA sx (by unfold LIM; omega) (fun r hr => by rw [(hA r hr).1]; unfold LIM; omega), e5]
      have fine : ∀ (g : List Int) (j18 : Option D) (τ : Tp), TB n τ → g.length = A.length → (∀ e ∈ g, e.natAbs < 2 ^ 6) → Post (thn cf [.asg (.nm 5) (.lc (.bin .add (.var 14) (.lst [.var 20])) [14, 20] (.tp [14, 20]) (.zip (.var 3) (.var 4)) [])] (.nx [some (.scr ns), some .tape, j2, some (dM A), some (dI g), j5, j6, j7, j8, j9, j10, j11, some (.int (h : Int)), some (.int (w : Int)), j14, j15, j16, j17, j18, j19, j20, j21, j22]) τ) (DrFl ns n) := by
        intro g j18 τ hT hg hgb
        simp [zlen (show (A.map dI).length ≤ LIM by simp; unfold LIM; omega)]
        rw [wide_ok cf τ (fun r hr => (hA r hr).1) (by omega) fun r a hr => ⟨_, rfl, by simp [binop_app (xs := r.map D.int) (ys := [.int a]) (by simp; unfold LIM; omega)]⟩]
        simp
        exact .ok ⟨w, A, g, _, _, _, _, _, _, _, _, _, _, _, _, _, _, _, _, _, rfl, ⟨by omega, by omega, by omega, by omega, fun r hr => (hA r hr).1, hg.symm, fun r hr e he => by have := (hA r hr).2 e he; omega, hgb⟩, hT⟩
      by_cases z : k5 = 0
      · simp [z]
        rw [rng_nat _ (by omega)]
        simp [show h ≤ LIM by unfold LIM; omega]
        repeat refine Post.bind ?_
        refine (Post.lcT 1 (fun d => ∃ k, d = D.int k ∧ (-4 : Int) ≤ k ∧ k < 5) _ (fun y hy => ⟨_, rfl, fun m τ hm => ?_⟩) n τ5 (hT5.mono (by simp; omega))).mono ?_
        · obtain ⟨_, τ3, e3, k3, rfl, h30, h31, hT3⟩ := K.take m 9 τ (by decide) (by decide) hm
          simp [e3]
          exact .ok ⟨⟨_, rfl, by omega, by omega⟩, hT3⟩
        · rintro ds τ6 ⟨hl6, hd, hT6⟩
          obtain ⟨g, rfl, hgl, hg⟩ := mem_map_int hd
          have := fine g j18 τ6 hT6 (by simp at hl6; omega) fun e he => by have := hg e he; omega
          simpa [Post_ok] using this
      · have := fine (tim A x) j18 τ5 (hT5.mono (by omega)) (by simp) (tim_bound (by omega) hA fun e he => by have := hx e he; omega)
        simpa [z] using this
end Py.Wa

namespace Py.Wa
open Lin
theorem law_body_eq : Law.b_law = [.asg (.nm 1) (.call Law.F__law_tape [.var 0]), .frr (.nm 2) (.rng (.int 3)) (drawBody ++ (.frr (.nm 6) (.val (.tup [.int 2, .int 3, .int 5, .int 7])) primeBody :: (ratBody ++ lowBody))), .ret (.bl true)] := rfl
def LawSt (ns : List Int) (k : Nat) (ρ : Loc) (τ : Tp) : Prop := LwSt ns (1000 - 100 * k) ρ τ
def LawPr (ns : List Int) (n : Nat) (w : Nat) (A : List Row) (g : List Int) (s2 s12 : Option D) (k : Nat) (ρ : Loc) (τ : Tp) : Prop := TB n τ ∧ PrSt w A g (some (.scr ns)) s2 s12 τ ρ τ
def LawQ (d : D) (τ : Tp) : Prop := d = .bl true
set_option maxHeartbeats 4000000 in
theorem law_ok (cf : CF) (K : K4 cf) (ns : List Int) (hn : ns.length ≤ 63) : Post (run cf 23 Law.b_law [.scr ns] none) LawQ := by
  rw [law_body_eq]
  unfold run
  refine .fin ?_
  obtain ⟨_, τ, e, rfl, hT⟩ := K.tape ns hn
  simp [start, List.replicate, e]
  rw [show rng? (.int 0) (.int 3) = some ((List.range 3).map fun (k : Nat) => D.int (k : Int)) from rng_nat 3 (by decide)]
  simp only [R.of_some, R.bind_ok]
  refine .bind (.forI (LawSt ns) ⟨hT.mono (by decide), _, _, _, _, _, _, _, _, _, _, _, _, _, _, _, _, _, _, _, _, _, rfl⟩ ?_ ?_)
  · rintro k x hx ρ τ ⟨hT, j2, j3, j4, j5, j6, j7, j8, j9, j10, j11, j12, j13, j14, j15, j16, j17, j18, j19, j20, j21, j22, rfl⟩
    have hk : k < 3 := by simpa using len_of hx
    refine ⟨_, rfl, ?_⟩
    rw [eSs_app]
    refine .bind ((draw_turn cf K ns (1000 - 100 * k - 50) τ (hT.mono (by omega)) (some x) j3 j4 j5 j6 j7 j8 j9 j10 j11 j12 j13 j14 j15 j16 j17 j18 j19 j20 j21 j22).mono ?_)
    rintro fl τ1 ⟨w, A, g, j2, j6, j7, j8, j9, j10, j11, j12, j14, j15, j16, j17, j18, j19, j20, j21, j22, rfl, hI, hT1⟩
    rw [thn_nx, eSs_cons, eS_frr, eI_val, eE_tup]
    simp only [eL_cons, eL_nil, eE_int, R.bind_ok, seqOf_tup, R.of_some]
    refine .bind (.forI (LawPr ns (1000 - 100 * k - 50) w A g j2 j12) ⟨hT1, rfl, _, _, _, _, _, _, _, _, _, _, _, _, _, _, _, rfl⟩ ?_ ?_)
    · rintro i x hx ρ τ ⟨hT, _, j6, j7, j8, j9, j10, j11, j14, j15, j16, j17, j18, j19, j20, j21, j22, rfl⟩
      refine ⟨_, rfl, ?_⟩
      have hp : ∃ p : Int, x = .int p ∧ (p = 2 ∨ p = 3 ∨ p = 5 ∨ p = 7) := by
        have := len_of hx
        simp at this
        have : i = 0 ∨ i = 1 ∨ i = 2 ∨ i = 3 := by omega
        rcases this with rfl | rfl | rfl | rfl <;> simp at hx <;> subst hx <;> simp
      obtain ⟨p, rfl, hp⟩ := hp
      refine (prime_turn cf K hI hp (some (.scr ns)) j2 j12 τ j7 j8 j9 j10 j11 j14 j15 j16 j17 j18 j19 j20 j21 j22).mono ?_
      rintro fl τ2 h
      cases fl with
      | nx ρ => obtain ⟨rfl, h⟩ := h; exact ⟨hT, rfl, h⟩
      | ct ρ => obtain ⟨rfl, h⟩ := h; exact ⟨hT, rfl, h⟩
      | bk ρ => obtain ⟨rfl, h⟩ := h; exact ⟨hT, rfl, h⟩
      | rt d => exact h.elim
    · rintro ρ τ ⟨hT, _, j6, j7, j8, j9, j10, j11, j14, j15, j16, j17, j18, j19, j20, j21, j22, rfl⟩
      rw [thn_nx, eSs_app]
      refine .bind ((rat_turn cf K hI (some (.scr ns)) j2 j12 τ j6 j7 j8 j9 j10 j11 j14 j15 j16 j17 j18 j19 j20 j21 j22).mono ?_)
      rintro fl τ2 ⟨ρ, rfl, rfl, j6, j7, j8, j9, j10, j11, j14, j15, j16, j17, j18, j19, j20, j21, j22, rfl⟩
      rw [thn_nx]
      refine (low_turn cf K ns hI.w0 hI.w4 (1000 - 100 * (k + 1)) τ2 (hT.mono (by omega)) _ _ _ _ _ _ _ _ _ _ _ _ _ _ _ _ _ _ _ _).mono ?_
      rintro fl τ3 ⟨ρ, rfl, h⟩
      exact h
  · rintro ρ τ _
    simp
    exact .ok rfl
/-! ### the functions by depth -/
theorem post_of {r : R D} {d : D} {τ : Tp} (h : Post r fun v τ' => τ' = τ ∧ v = d) : r = .ok d τ := by
  obtain ⟨v, τ', e, rfl, rfl⟩ := h
  exact e
theorem cm4 (n : Nat) : CmOk (evF Law.PF (n + 1)) := fun τ a b ha hb => by
  obtain ⟨v, τ', e, rfl, x, y, rfl⟩ := common_ok (evF Law.PF n) τ a b ha hb
  exact ⟨x, y, (evF_step (P := Law.PF) (f := Law.F_common) rfl rfl n τ').trans e⟩
theorem cl4 (n : Nat) : ClOk (evF Law.PF (n + 2)) := fun τ r hr hl =>
  (evF_step (P := Law.PF) (f := Law.F_cleared) rfl rfl (n + 1) τ).trans (post_of (cleared_ok (evF Law.PF (n + 1)) (cm4 n) τ r hr hl))
theorem lw4 (n : Nat) : LwOk (evF Law.PF (n + 2)) := fun τ r d h1 h2 h3 h4 h5 => by
  rw [evF_step (P := Law.PF) (f := Law.F_lowest) rfl rfl (n + 1) τ]
  exact lowest_ok (evF Law.PF (n + 1)) (cm4 n) τ r d h1 h2 h3 h4 h5
theorem inv4 (n : Nat) {p : Int} (hp : p = 2 ∨ p = 3 ∨ p = 5 ∨ p = 7) (m : Int) (τ : Tp) (h0 : 0 < m) (h1 : m < p) : ∃ k, evF Law.PF (n + 1) Law.F_inverse [.int m, .int p] τ = .ok (.int k) τ ∧ 0 < k ∧ k < p ∧ p ∣ m * k - 1 := by
  rw [evF_step (P := Law.PF) (f := Law.F_inverse) rfl rfl n τ]
  exact inverse_ok (evF Law.PF n) τ p m hp h0 h1
theorem red4 (n : Nat) (τ : Tp) {p : Int} (hp : p = 2 ∨ p = 3 ∨ p = 5 ∨ p = 7) {w : Nat} {A : List Row} (hA : ∀ r ∈ A, r.length = w) (hAs : A.length ≤ 1000) (hw : w ≤ 1000) :
    Post (evF Law.PF (n + 2) Law.F_reduced [dM A, .int (w : Int), .int p] τ) fun d τ' => τ' = τ ∧ ∃ R pl, d = .tup [dM (R.take pl.length), dN pl] ∧ PS p w A w R pl := by
  rw [evF_step (P := Law.PF) (f := Law.F_reduced) rfl rfl (n + 1) τ]
  exact reduced_ok (evF Law.PF (n + 1)) τ hp hA hAs hw fun m τ h0 h1 => inv4 n hp m τ h0 h1
theorem rr4 (n : Nat) (τ : Tp) (b : Nat) (hn : bits b 4 ≤ 1000) {w : Nat} {A : List Row} (hA : ∀ r ∈ A, r.length = w) (hAs : A.length ≤ 4) (hw : w ≤ 900) (hb : Bd b A) :
    Post (evF Law.PF (n + 3) Law.F_reduced_rows [dM A, .int (w : Int)] τ) fun d τ' => τ' = τ ∧ ∃ R pl, d = .tup [dM (R.take pl.length), dN pl] ∧ QS w A w R pl ∧ Bd (bits b pl.length) R := by
  rw [evF_step (P := Law.PF) (f := Law.F_reduced_rows) rfl rfl (n + 2) τ]
  exact reduced_rows_ok (evF Law.PF (n + 2)) (cl4 n) τ b hn hA hAs hw hb
theorem k4 (n : Nat) : K4 (evF Law.PF (n + 4)) where
  tape ns hn := by
    rw [evF_step (P := Law.PF) (f := Law.F__law_tape) rfl rfl (n + 3) none]
    exact tape_ok _ ns hn
  take k m τ h0 h1 h := by
    rw [evF_step (P := Law.PF) (f := Law.F__law_take) rfl rfl (n + 3) τ]
    exact take_ok _ h0 h1 h
  times τ m x h1 h2 h3 h4 := by
    rw [evF_step (P := Law.PF) (f := Law.F__law_times) rfl rfl (n + 3) τ]
    exact law_times _ m x τ h1 h2 h3 h4
  timesT τ m x h1 h2 h3 h4 := by
    rw [evF_step (P := Law.PF) (f := Law.F__law_times) rfl rfl (n + 3) τ]
    exact law_timesT _ m x τ h1 h2 h3 h4
  rank τ p hp w A h1 h2 h3 h4 := by
    rw [evF_step (P := Law.PF) (f := Law.F__law_rank) rfl rfl (n + 3) τ]
    exact law_rank_ok _ τ hp h1 h2 h3 h4
  rankf τ p hp w A h1 h2 h3 := by
    rw [evF_step (P := Law.PF) (f := Law.F_rank_fields) rfl rfl (n + 3) τ]
    exact rank_fields_ok _ τ (red4 (n + 1) τ hp h1 h2 h3)
  kerf τ p hp w A h1 h2 h3 := by
    rw [evF_step (P := Law.PF) (f := Law.F_kernel_fields) rfl rfl (n + 3) τ]
    exact kernel_fields_ok _ τ hp h3 h2 (red4 (n + 1) τ hp h1 h2 h3)
  solf τ p hp w A g h1 h2 h3 h4 := by
    rw [evF_step (P := Law.PF) (f := Law.F_solution_fields) rfl rfl (n + 3) τ]
    exact solution_fields_ok _ τ hp h1 h2 h3 h4 (red4 (n + 1) τ hp (w := w + 1) (widen_mem h1) (by rw [widen_len]; omega) (by omega))
  full τ b hb w A h1 h2 h3 h4 := by
    rw [evF_step (P := Law.PF) (f := Law.F__law_full) rfl rfl (n + 3) τ]
    exact law_full_ok _ τ hb h1 h2 h3 h4
  gcd τ a b ha hb := by
    rw [evF_step (P := Law.PF) (f := Law.F__law_gcd) rfl rfl (n + 3) τ]
    exact post_of (law_gcd_ok _ τ a b ha hb)
  rankr τ b hb w A h1 h2 h3 h4 := by
    rw [evF_step (P := Law.PF) (f := Law.F_rank_rational) rfl rfl (n + 3) τ]
    exact rank_rational_ok _ τ (rr4 n τ b hb h1 h2 h3 h4)
  kerr τ b B hb h5 h0 w A h1 h2 h3 h4 := by
    rw [evF_step (P := Law.PF) (f := Law.F_kernel_rational) rfl rfl (n + 3) τ]
    exact kernel_rational_ok _ (cm4 (n + 2)) (cl4 (n + 1)) τ hb h5 h0 h3 h2 (rr4 n τ b (by omega) h1 h2 h3 h4)
  solr τ b B hb h5 h0 w A g h1 hl hw0 hw h2 h4 := by
    rw [evF_step (P := Law.PF) (f := Law.F_solution_rational) rfl rfl (n + 3) τ]
    exact solution_rational_ok _ (cm4 (n + 2)) (lw4 (n + 1)) τ hb h5 h0 hw hw0 h2 h1 hl (rr4 n τ b (by omega) (w := w + 1) (widen_mem h1) (by rw [widen_len]; omega) (by omega) h4)
  low := lw4 (n + 2)
theorem law4 (ns : List Int) (hn : ns.length ≤ 63) : ∃ τ, evF Law.PF 8 Law.F_law [.scr ns] none = .ok (.bl true) τ := by
  obtain ⟨d, τ, e, rfl⟩ := law_ok (evF Law.PF 7) (k4 3) ns hn
  exact ⟨τ, (evF_step (P := Law.PF) (f := Law.F_law) rfl rfl 7 none).trans e⟩
end Py.Wa

/-! EvB: how data stand in the heap; who owns them. -/
namespace Py
open PySem (Str Addr)
open L2 (V HO Hp upd)
/-- the module that all runs in -/
class Kf where
  K : PySem.W.Frag
variable [kf : Kf]

/-- the law's script: a list that nobody writes -/
def Scr (H : Hp) (a : Addr) (ns : List Int) : Prop := (∃ o, H a = some (.frz o (.lst (ns.map V.int)))) ∨ ∀ H', L2.SqL kf.K H' a (ns.map V.int)
theorem Scr.mono {H H' : Hp} {a : Addr} {ns : List Int} (hf : ∀ a o u, H a = some (.frz o u) → H' a = some (.frz o u)) (h : Scr H a ns) : Scr H' a ns := h.imp (fun ⟨o, h⟩ => ⟨o, hf _ _ _ h⟩) id
/-! ### reading -/
mutual
/-- d stands at v, its lists within Z -/
def Rp (H : Hp) (Z : Addr → Prop) (ta : Option Addr) : D → V → Prop
  | .non, v => v = .non
  | .bl b, v => v = .bl b
  | .int i, v => v = .int i
  | .str s, v => v = .str s ∧ s.length ≤ LIM
  | .tup ds, v => ∃ a vs, v = .ref a ∧ H a = some (.tup vs) ∧ Rps H Z ta ds vs
  | .lst ds, v => ∃ a vs, v = .ref a ∧ Z a ∧ H a = some (.lst vs) ∧ Rps H Z ta ds vs
  | .dct _ _, _ => False
  | .tape, v => ∃ a, ta = some a ∧ v = .ref a
  | .scr ns, v => ∃ a, v = .ref a ∧ Scr H a ns
def Rps (H : Hp) (Z : Addr → Prop) (ta : Option Addr) : List D → List V → Prop
  | [], vs => vs = []
  | d :: ds, vs => ∃ v r, vs = v :: r ∧ Rp H Z ta d v ∧ Rps H Z ta ds r
end
mutual
/-- the k outer layers are owned: by the addresses A, in order -/
def Ow (H : Hp) (Z : Addr → Prop) (ta : Option Addr) : Nat → D → V → List Addr → Prop
  | k, .lst ds, v, A => match k with
    | 0 => A = [] ∧ Rp H Z ta (.lst ds) v
    | k + 1 => ∃ a vs A', v = .ref a ∧ A = a :: A' ∧ H a = some (.lst vs) ∧ Ows H Z ta k ds vs A'
  | k, .tup ds, v, A => match k with
    | 0 => A = [] ∧ Rp H Z ta (.tup ds) v
    | k + 1 => ∃ a vs, v = .ref a ∧ H a = some (.tup vs) ∧ Ows H Z ta k ds vs A
  | _, .non, v, A => A = [] ∧ v = .non
  | _, .bl b, v, A => A = [] ∧ v = .bl b
  | _, .int i, v, A => A = [] ∧ v = .int i
  | _, .str s, v, A => A = [] ∧ v = .str s ∧ s.length ≤ LIM
  | _, .dct _ _, _, _ => False
  | _, .tape, v, A => A = [] ∧ ∃ a, ta = some a ∧ v = .ref a
  | _, .scr ns, v, A => A = [] ∧ ∃ a, v = .ref a ∧ Scr H a ns
def Ows (H : Hp) (Z : Addr → Prop) (ta : Option Addr) : Nat → List D → List V → List Addr → Prop
  | _, [], vs, A => vs = [] ∧ A = []
  | k, d :: ds, vs, A => ∃ v r A1 A2, vs = v :: r ∧ A = A1 ++ A2 ∧ Ow H Z ta k d v A1 ∧ Ows H Z ta k ds r A2
end
theorem Rps.len {H : Hp} {Z : Addr → Prop} {ta : Option Addr} : ∀ {ds : List D} {vs : List V}, Rps H Z ta ds vs → ds.length = vs.length
  | [], _, h => by unfold Rps at h; subst h; rfl
  | d :: ds, _, h => by
    unfold Rps at h
    obtain ⟨v, r, rfl, _, h⟩ := h
    simp [Rps.len h]
theorem Ows.len {H : Hp} {Z : Addr → Prop} {ta : Option Addr} {k : Nat} : ∀ {ds : List D} {vs : List V} {A : List Addr}, Ows H Z ta k ds vs A → ds.length = vs.length
  | [], _, _, h => by unfold Ows at h; obtain ⟨rfl, _⟩ := h; rfl
  | d :: ds, _, _, h => by
    unfold Ows at h
    obtain ⟨v, r, A1, A2, rfl, _, _, h⟩ := h
    simp [Ows.len h]

/-! ### level 0 is reading -/
theorem Ow.zero {H : Hp} {Z : Addr → Prop} {ta : Option Addr} {d : D} {v : V} {A : List Addr} : Ow H Z ta 0 d v A ↔ A = [] ∧ Rp H Z ta d v := by
  cases d <;> simp [Ow, Rp]
theorem Rps.nil {H : Hp} {Z : Addr → Prop} {ta : Option Addr} : Rps H Z ta [] [] := by simp [Rps]
theorem Rps.cons {H : Hp} {Z : Addr → Prop} {ta : Option Addr} {d : D} {v : V} {ds : List D} {vs : List V} (h : Rp H Z ta d v) (t : Rps H Z ta ds vs) : Rps H Z ta (d :: ds) (v :: vs) := by
  unfold Rps; exact ⟨v, vs, rfl, h, t⟩
theorem Ows.zero {H : Hp} {Z : Addr → Prop} {ta : Option Addr} : ∀ {ds : List D} {vs : List V} {A : List Addr}, Ows H Z ta 0 ds vs A ↔ A = [] ∧ Rps H Z ta ds vs
  | [], vs, A => by simp [Ows, Rps, and_comm]
  | d :: ds, vs, A => by
    unfold Ows Rps
    constructor
    · rintro ⟨v, r, A1, A2, rfl, rfl, h1, h2⟩
      obtain ⟨e1, g1⟩ := Ow.zero.mp h1
      obtain ⟨e2, g2⟩ := Ows.zero.mp h2
      exact ⟨by rw [e1, e2]; rfl, v, r, rfl, g1, g2⟩
    · rintro ⟨rfl, v, r, rfl, h1, h2⟩
      exact ⟨v, r, [], [], rfl, rfl, Ow.zero.mpr ⟨rfl, h1⟩, Ows.zero.mpr ⟨rfl, h2⟩⟩

/-! ### items -/
theorem Rps.get {H : Hp} {Z : Addr → Prop} {ta : Option Addr} : ∀ {ds : List D} {vs : List V} {i : Nat} {d : D}, Rps H Z ta ds vs → ds[i]? = some d → ∃ v, vs[i]? = some v ∧ Rp H Z ta d v
  | [], _, _, _, _, e => by simp at e
  | d0 :: ds, vs, i, d, h, e => by
    unfold Rps at h
    obtain ⟨v, r, rfl, h1, h2⟩ := h
    cases i with
    | zero => simp at e; subst e; exact ⟨v, rfl, h1⟩
    | succ i => simp at e; simpa using Rps.get h2 e
theorem Rps.app {H : Hp} {Z : Addr → Prop} {ta : Option Addr} : ∀ {ds es : List D} {vs ws : List V}, Rps H Z ta ds vs → Rps H Z ta es ws → Rps H Z ta (ds ++ es) (vs ++ ws)
  | [], _, _, _, h, t => by unfold Rps at h; subst h; exact t
  | d :: ds, _, _, _, h, t => by
    unfold Rps at h
    obtain ⟨v, r, rfl, h1, h2⟩ := h
    exact Rps.cons h1 (Rps.app h2 t)
theorem Rps.take {H : Hp} {Z : Addr → Prop} {ta : Option Addr} : ∀ {ds : List D} {vs : List V} (n : Nat), Rps H Z ta ds vs → Rps H Z ta (ds.take n) (vs.take n)
  | ds, vs, 0, _ => by simp [Rps]
  | [], vs, n + 1, h => by unfold Rps at h; subst h; simp [Rps]
  | d :: ds, _, n + 1, h => by
    unfold Rps at h
    obtain ⟨v, r, rfl, h1, h2⟩ := h
    exact Rps.cons h1 (Rps.take n h2)
theorem Rps.drop {H : Hp} {Z : Addr → Prop} {ta : Option Addr} : ∀ {ds : List D} {vs : List V} (n : Nat), Rps H Z ta ds vs → Rps H Z ta (ds.drop n) (vs.drop n)
  | ds, vs, 0, h => h
  | [], vs, n + 1, h => by unfold Rps at h; subst h; simp [Rps]
  | d :: ds, _, n + 1, h => by
    unfold Rps at h
    obtain ⟨v, r, rfl, h1, h2⟩ := h
    exact Rps.drop n h2
theorem Rps.rev {H : Hp} {Z : Addr → Prop} {ta : Option Addr} : ∀ {ds : List D} {vs : List V}, Rps H Z ta ds vs → Rps H Z ta ds.reverse vs.reverse
  | [], vs, h => by unfold Rps at h; subst h; simp [Rps]
  | d :: ds, _, h => by
    unfold Rps at h
    obtain ⟨v, r, rfl, h1, h2⟩ := h
    simp only [List.reverse_cons]
    exact Rps.app (Rps.rev h2) (Rps.cons h1 Rps.nil)
theorem Rps.rep {H : Hp} {Z : Addr → Prop} {ta : Option Addr} {ds : List D} {vs : List V} (h : Rps H Z ta ds vs) : ∀ n : Nat, Rps H Z ta (List.replicate n ds).flatten (List.replicate n vs).flatten
  | 0 => by simp [Rps]
  | n + 1 => by simp only [List.replicate_succ, List.flatten_cons]; exact Rps.app h (Rps.rep h n)
theorem Rps.set {H : Hp} {Z : Addr → Prop} {ta : Option Addr} {d : D} {v : V} (hd : Rp H Z ta d v) : ∀ {ds : List D} {vs : List V} (i : Nat), Rps H Z ta ds vs → Rps H Z ta (ds.set i d) (vs.set i v)
  | [], vs, i, h => by unfold Rps at h; subst h; simp [Rps]
  | d0 :: ds, _, i, h => by
    unfold Rps at h
    obtain ⟨w, r, rfl, h1, h2⟩ := h
    cases i with
    | zero => exact Rps.cons hd h2
    | succ i => exact Rps.cons h1 (Rps.set hd i h2)

/-! ### growing -/
mutual
theorem Rp.mono {H H' : Hp} {Z Z' : Addr → Prop} {ta ta' : Option Addr} (ht : ∀ a xs, H a = some (.tup xs) → H' a = some (.tup xs)) (hf : ∀ a o u, H a = some (.frz o u) → H' a = some (.frz o u)) (hz : ∀ a, Z a → Z' a) (hl : ∀ a o, Z a → H a = some o → H' a = some o) (hta : ∀ a, ta = some a → ta' = some a) :
    ∀ (d : D) (v : V), Rp H Z ta d v → Rp H' Z' ta' d v
  | .non, v, h => h
  | .bl _, v, h => h
  | .int _, v, h => h
  | .str _, v, h => h
  | .dct _ _, v, h => h
  | .tup ds, v, h => by
    unfold Rp at h ⊢
    obtain ⟨a, vs, e, h1, h2⟩ := h
    exact ⟨a, vs, e, ht a vs h1, Rps.mono ht hf hz hl hta ds vs h2⟩
  | .lst ds, v, h => by
    unfold Rp at h ⊢
    obtain ⟨a, vs, e, h0, h1, h2⟩ := h
    exact ⟨a, vs, e, hz a h0, hl a _ h0 h1, Rps.mono ht hf hz hl hta ds vs h2⟩
  | .tape, v, h => by
    unfold Rp at h ⊢
    obtain ⟨a, e, h⟩ := h
    exact ⟨a, hta a e, h⟩
  | .scr ns, v, h => by
    unfold Rp at h ⊢
    obtain ⟨a, e, h⟩ := h
    exact ⟨a, e, h.mono hf⟩
theorem Rps.mono {H H' : Hp} {Z Z' : Addr → Prop} {ta ta' : Option Addr} (ht : ∀ a xs, H a = some (.tup xs) → H' a = some (.tup xs)) (hf : ∀ a o u, H a = some (.frz o u) → H' a = some (.frz o u)) (hz : ∀ a, Z a → Z' a) (hl : ∀ a o, Z a → H a = some o → H' a = some o) (hta : ∀ a, ta = some a → ta' = some a) :
    ∀ (ds : List D) (vs : List V), Rps H Z ta ds vs → Rps H' Z' ta' ds vs
  | [], vs, h => h
  | d :: ds, vs, h => by
    unfold Rps at h ⊢
    obtain ⟨v, r, e, h1, h2⟩ := h
    exact ⟨v, r, e, Rp.mono ht hf hz hl hta d v h1, Rps.mono ht hf hz hl hta ds r h2⟩
end
mutual
theorem Ow.mono {H H' : Hp} {Z Z' : Addr → Prop} {ta ta' : Option Addr} (ht : ∀ a xs, H a = some (.tup xs) → H' a = some (.tup xs)) (hf : ∀ a o u, H a = some (.frz o u) → H' a = some (.frz o u)) (hz : ∀ a, Z a → Z' a) (hl : ∀ a o, Z a → H a = some o → H' a = some o) (hta : ∀ a, ta = some a → ta' = some a) :
    ∀ (k : Nat) (d : D) (v : V) (A : List Addr), (∀ a ∈ A, ∀ o, H a = some o → H' a = some o) → Ow H Z ta k d v A → Ow H' Z' ta' k d v A
  | k, .lst ds, v, A, hA, h => by
    cases k with
    | zero =>
      obtain ⟨e, h⟩ := Ow.zero.mp h
      exact Ow.zero.mpr ⟨e, Rp.mono ht hf hz hl hta _ _ h⟩
    | succ k =>
      unfold Ow at h ⊢
      obtain ⟨a, vs, A', e, e2, h1, h2⟩ := h
      subst e2
      exact ⟨a, vs, A', e, rfl, hA a List.mem_cons_self _ h1, Ows.mono ht hf hz hl hta k ds vs A' (fun b hb => hA b (List.mem_cons_of_mem _ hb)) h2⟩
  | k, .tup ds, v, A, hA, h => by
    cases k with
    | zero =>
      obtain ⟨e, h⟩ := Ow.zero.mp h
      exact Ow.zero.mpr ⟨e, Rp.mono ht hf hz hl hta _ _ h⟩
    | succ k =>
      unfold Ow at h ⊢
      obtain ⟨a, vs, e, h1, h2⟩ := h
      exact ⟨a, vs, e, ht _ _ h1, Ows.mono ht hf hz hl hta k ds vs A hA h2⟩
  | _, .non, v, A, _, h => by unfold Ow at h ⊢; exact h
  | _, .bl _, v, A, _, h => by unfold Ow at h ⊢; exact h
  | _, .int _, v, A, _, h => by unfold Ow at h ⊢; exact h
  | _, .str _, v, A, _, h => by unfold Ow at h ⊢; exact h
  | _, .dct _ _, v, A, _, h => by unfold Ow at h ⊢; exact h
  | _, .tape, v, A, _, h => by
    unfold Ow at h ⊢
    obtain ⟨e, a, h, h2⟩ := h
    exact ⟨e, a, hta a h, h2⟩
  | _, .scr ns, v, A, _, h => by
    unfold Ow at h ⊢
    obtain ⟨e, a, h, h2⟩ := h
    exact ⟨e, a, h, h2.mono hf⟩
theorem Ows.mono {H H' : Hp} {Z Z' : Addr → Prop} {ta ta' : Option Addr} (ht : ∀ a xs, H a = some (.tup xs) → H' a = some (.tup xs)) (hf : ∀ a o u, H a = some (.frz o u) → H' a = some (.frz o u)) (hz : ∀ a, Z a → Z' a) (hl : ∀ a o, Z a → H a = some o → H' a = some o) (hta : ∀ a, ta = some a → ta' = some a) :
    ∀ (k : Nat) (ds : List D) (vs : List V) (A : List Addr), (∀ a ∈ A, ∀ o, H a = some o → H' a = some o) → Ows H Z ta k ds vs A → Ows H' Z' ta' k ds vs A
  | _, [], vs, A, _, h => by unfold Ows at h ⊢; exact h
  | k, d :: ds, vs, A, hA, h => by
    unfold Ows at h ⊢
    obtain ⟨v, r, A1, A2, e, e2, h1, h2⟩ := h
    subst e2
    exact ⟨v, r, A1, A2, e, rfl, Ow.mono ht hf hz hl hta k d v A1 (fun b hb => hA b (List.mem_append_left _ hb)) h1, Ows.mono ht hf hz hl hta k ds r A2 (fun b hb => hA b (List.mem_append_right _ hb)) h2⟩
end
/-- only Z grows -/
theorem Rp.z {H : Hp} {Z Z' : Addr → Prop} {ta : Option Addr} {d : D} {v : V} (hz : ∀ a, Z a → Z' a) (h : Rp H Z ta d v) : Rp H Z' ta d v :=
  Rp.mono (fun _ _ e => e) (fun _ _ _ e => e) hz (fun _ _ _ e => e) (fun _ e => e) d v h
theorem Rps.z {H : Hp} {Z Z' : Addr → Prop} {ta : Option Addr} {d : List D} {v : List V} (hz : ∀ a, Z a → Z' a) (h : Rps H Z ta d v) : Rps H Z' ta d v :=
  Rps.mono (fun _ _ e => e) (fun _ _ _ e => e) hz (fun _ _ _ e => e) (fun _ e => e) d v h
theorem Ow.z {H : Hp} {Z Z' : Addr → Prop} {ta : Option Addr} {k : Nat} {d : D} {v : V} {A : List Addr} (hz : ∀ a, Z a → Z' a) (h : Ow H Z ta k d v A) : Ow H Z' ta k d v A :=
  Ow.mono (fun _ _ e => e) (fun _ _ _ e => e) hz (fun _ _ _ e => e) (fun _ e => e) k d v A (fun _ _ _ e => e) h
theorem Ows.z {H : Hp} {Z Z' : Addr → Prop} {ta : Option Addr} {k : Nat} {d : List D} {v : List V} {A : List Addr} (hz : ∀ a, Z a → Z' a) (h : Ows H Z ta k d v A) : Ows H Z' ta k d v A :=
  Ows.mono (fun _ _ e => e) (fun _ _ _ e => e) hz (fun _ _ _ e => e) (fun _ e => e) k d v A (fun _ _ _ e => e) h

/-! ### giving up layers -/
mutual
theorem Ow.weak {H : Hp} {Z : Addr → Prop} {ta : Option Addr} : ∀ (k k' : Nat) (d : D) (v : V) (A : List Addr), k' ≤ k → Ow H Z ta k d v A →
    ∃ A' B, A.Perm (A' ++ B) ∧ ∀ Z' : Addr → Prop, (∀ a, Z a → Z' a) → (∀ b ∈ B, Z' b) → Ow H Z' ta k' d v A'
  | k, k', .lst ds, v, A, hk, h => by
    cases k with
    | zero =>
      have e : k' = 0 := by omega
      subst e
      obtain ⟨e, g⟩ := Ow.zero.mp h
      refine ⟨[], [], by rw [e]; exact .refl _, fun Z' hz _ => Ow.zero.mpr ⟨rfl, g.z hz⟩⟩
    | succ k =>
      unfold Ow at h
      obtain ⟨a, vs, A', e, e2, h1, h2⟩ := h
      subst e2
      cases k' with
      | zero =>
        obtain ⟨A2, B, p, q⟩ := Ows.weak k 0 ds vs A' (Nat.zero_le _) h2
        refine ⟨[], a :: A', .refl _, fun Z' hz hb => Ow.zero.mpr ⟨rfl, ?_⟩⟩
        have q' := q Z' hz fun b hB => hb b (List.mem_cons_of_mem _ (p.symm.subset (List.mem_append_right _ hB)))
        unfold Rp
        exact ⟨a, vs, e, hb a List.mem_cons_self, h1, (Ows.zero.mp q').2⟩
      | succ k' =>
        obtain ⟨A2, B, p, q⟩ := Ows.weak k k' ds vs A' (Nat.le_of_succ_le_succ hk) h2
        refine ⟨a :: A2, B, .cons a p, fun Z' hz hb => ?_⟩
        unfold Ow
        exact ⟨a, vs, A2, e, rfl, h1, q Z' hz hb⟩
  | k, k', .tup ds, v, A, hk, h => by
    cases k with
    | zero =>
      have e : k' = 0 := by omega
      subst e
      obtain ⟨e, g⟩ := Ow.zero.mp h
      refine ⟨[], [], by rw [e]; exact .refl _, fun Z' hz _ => Ow.zero.mpr ⟨rfl, g.z hz⟩⟩
    | succ k =>
      unfold Ow at h
      obtain ⟨a, vs, e, h1, h2⟩ := h
      cases k' with
      | zero =>
        obtain ⟨A2, B, p, q⟩ := Ows.weak k 0 ds vs A (Nat.zero_le _) h2
        refine ⟨[], A, .refl _, fun Z' hz hb => Ow.zero.mpr ⟨rfl, ?_⟩⟩
        have q' := q Z' hz fun b hB => hb b (p.symm.subset (List.mem_append_right _ hB))
        unfold Rp
        exact ⟨a, vs, e, h1, (Ows.zero.mp q').2⟩
      | succ k' =>
        obtain ⟨A2, B, p, q⟩ := Ows.weak k k' ds vs A (Nat.le_of_succ_le_succ hk) h2
        refine ⟨A2, B, p, fun Z' hz hb => ?_⟩
        unfold Ow
        exact ⟨a, vs, e, h1, q Z' hz hb⟩
  | k, k', .non, v, A, _, h => by unfold Ow at h; obtain ⟨rfl, h⟩ := h; exact ⟨[], [], .refl _, fun Z' _ _ => by unfold Ow; exact ⟨rfl, h⟩⟩
  | k, k', .bl _, v, A, _, h => by unfold Ow at h; obtain ⟨rfl, h⟩ := h; exact ⟨[], [], .refl _, fun Z' _ _ => by unfold Ow; exact ⟨rfl, h⟩⟩
  | k, k', .int _, v, A, _, h => by unfold Ow at h; obtain ⟨rfl, h⟩ := h; exact ⟨[], [], .refl _, fun Z' _ _ => by unfold Ow; exact ⟨rfl, h⟩⟩
  | k, k', .str _, v, A, _, h => by unfold Ow at h; obtain ⟨rfl, h⟩ := h; exact ⟨[], [], .refl _, fun Z' _ _ => by unfold Ow; exact ⟨rfl, h⟩⟩
  | k, k', .dct _ _, v, A, _, h => by unfold Ow at h; exact h.elim
  | k, k', .tape, v, A, _, h => by unfold Ow at h; obtain ⟨rfl, h⟩ := h; exact ⟨[], [], .refl _, fun Z' _ _ => by unfold Ow; exact ⟨rfl, h⟩⟩
  | k, k', .scr _, v, A, _, h => by unfold Ow at h; obtain ⟨rfl, h⟩ := h; exact ⟨[], [], .refl _, fun Z' _ _ => by unfold Ow; exact ⟨rfl, h⟩⟩
theorem Ows.weak {H : Hp} {Z : Addr → Prop} {ta : Option Addr} : ∀ (k k' : Nat) (ds : List D) (vs : List V) (A : List Addr), k' ≤ k → Ows H Z ta k ds vs A →
    ∃ A' B, A.Perm (A' ++ B) ∧ ∀ Z' : Addr → Prop, (∀ a, Z a → Z' a) → (∀ b ∈ B, Z' b) → Ows H Z' ta k' ds vs A'
  | k, k', [], vs, A, _, h => by
    unfold Ows at h
    obtain ⟨rfl, rfl⟩ := h
    exact ⟨[], [], .refl _, fun Z' _ _ => by unfold Ows; exact ⟨rfl, rfl⟩⟩
  | k, k', d :: ds, vs, A, hk, h => by
    unfold Ows at h
    obtain ⟨v, r, A1, A2, e, e2, h1, h2⟩ := h
    subst e2
    obtain ⟨A1', B1, p1, q1⟩ := Ow.weak k k' d v A1 hk h1
    obtain ⟨A2', B2, p2, q2⟩ := Ows.weak k k' ds r A2 hk h2
    refine ⟨A1' ++ A2', B1 ++ B2, ?_, fun Z' hz hb => ?_⟩
    · refine (p1.append p2).trans ?_
      simp only [List.append_assoc]
      refine .append_left _ ?_
      rw [← List.append_assoc, ← List.append_assoc]
      exact .append_right _ List.perm_append_comm
    · unfold Ows
      exact ⟨v, r, A1', A2', e, rfl, q1 Z' hz fun b hB => hb b (List.mem_append_left _ hB), q2 Z' hz fun b hB => hb b (List.mem_append_right _ hB)⟩
end
/-- all is given up -/
theorem Ow.rp {H : Hp} {Z Z' : Addr → Prop} {ta : Option Addr} {k : Nat} {d : D} {v : V} {A : List Addr} (h : Ow H Z ta k d v A) (hz : ∀ a, Z a → Z' a) (hA : ∀ a ∈ A, Z' a) : Rp H Z' ta d v := by
  obtain ⟨A', B, p, q⟩ := Ow.weak k 0 d v A (Nat.zero_le _) h
  exact (Ow.zero.mp (q Z' hz fun b hb => hA b (p.symm.subset (List.mem_append_right _ hb)))).2
abbrev All : Addr → Prop := fun _ => True
theorem Ow.rd {H : Hp} {Z : Addr → Prop} {ta : Option Addr} {k : Nat} {d : D} {v : V} {A : List Addr} (h : Ow H Z ta k d v A) : Rp H All ta d v := h.rp (fun _ _ => trivial) fun _ _ => trivial
theorem Ows.rd {H : Hp} {Z : Addr → Prop} {ta : Option Addr} {k : Nat} {ds : List D} {vs : List V} {A : List Addr} (h : Ows H Z ta k ds vs A) : Rps H All ta ds vs := by
  obtain ⟨A', B, p, q⟩ := Ows.weak k 0 ds vs A (Nat.zero_le _) h
  exact (Ows.zero.mp (q All (fun _ _ => trivial) fun _ _ => trivial)).2
/-- items of an owned row -/
theorem Ows.get {H : Hp} {Z : Addr → Prop} {ta : Option Addr} {k : Nat} : ∀ {ds : List D} {vs : List V} {A : List Addr} {i : Nat} {d : D} {v : V}, Ows H Z ta k ds vs A → ds[i]? = some d → vs[i]? = some v → ∃ A', A'.Sublist A ∧ Ow H Z ta k d v A'
  | [], _, _, _, _, _, _, e, _ => by simp at e
  | d0 :: ds, vs, A, i, d, v, h, e, e2 => by
    unfold Ows at h
    obtain ⟨w, r, A1, A2, rfl, rfl, h1, h2⟩ := h
    cases i with
    | zero =>
      simp at e e2
      subst e e2
      exact ⟨A1, List.sublist_append_left _ _, h1⟩
    | succ i =>
      simp at e e2
      obtain ⟨A', s, q⟩ := Ows.get h2 e e2
      exact ⟨A', s.trans (List.sublist_append_right _ _), q⟩

/-! ### a way within -/
inductive Sub (H : Hp) : Nat → D → V → D → V → Prop where
  | here {d : D} {v : V} : Sub H 0 d v d v
  | lst {n : Nat} {a : Addr} {ds : List D} {vs : List V} {i : Nat} {d1 d : D} {v1 v : V} : H a = some (.lst vs) → ds[i]? = some d1 → vs[i]? = some v1 → Sub H n d1 v1 d v → Sub H (n + 1) (.lst ds) (.ref a) d v
  | tup {n : Nat} {a : Addr} {ds : List D} {vs : List V} {i : Nat} {d1 d : D} {v1 v : V} : H a = some (.tup vs) → ds[i]? = some d1 → vs[i]? = some v1 → Sub H n d1 v1 d v → Sub H (n + 1) (.tup ds) (.ref a) d v
theorem Sub.mono {H H' : Hp} {n : Nat} {d e : D} {v w : V} (ht : ∀ a xs, H a = some (.tup xs) → H' a = some (.tup xs)) (hl : ∀ a xs, H a = some (.lst xs) → H' a = some (.lst xs)) (h : Sub H n d v e w) : Sub H' n d v e w := by
  induction h with
  | here => exact .here
  | lst a b c _ ih => exact .lst (hl _ _ a) b c ih
  | tup a b c _ ih => exact .tup (ht _ _ a) b c ih
theorem Sub.trans {H : Hp} {n m : Nat} {d e f : D} {v w u : V} (h : Sub H n d v e w) (h' : Sub H m e w f u) : Sub H (n + m) d v f u := by
  induction h with
  | here => simpa using h'
  | lst a b c _ ih => rw [Nat.add_right_comm]; exact .lst a b c (ih h')
  | tup a b c _ ih => rw [Nat.add_right_comm]; exact .tup a b c (ih h')
theorem Sub.ow {H : Hp} {Z : Addr → Prop} {ta : Option Addr} {n : Nat} {d e : D} {v w : V} (h : Sub H n d v e w) : ∀ {k : Nat} {A : List Addr}, Ow H Z ta k d v A → ∃ A', A'.Sublist A ∧ Ow H Z ta (k - n) e w A' := by
  induction h with
  | here => intro k A o; exact ⟨A, .refl _, o⟩
  | @lst n a ds vs i d1 d v1 v ha hd hv _ ih =>
    intro k A o
    cases k with
    | zero =>
      obtain ⟨eA, o2⟩ := Ow.zero.mp o
      subst eA
      unfold Rp at o2
      obtain ⟨b, ws, e, _, hb, o3⟩ := o2
      cases e
      rw [ha] at hb
      cases hb
      obtain ⟨v', e', o'⟩ := Rps.get o3 hd
      rw [hv] at e'
      cases e'
      obtain ⟨A', s, q⟩ := ih (k := 0) (A := []) (Ow.zero.mpr ⟨rfl, o'⟩)
      simp only [Nat.zero_sub] at q ⊢
      exact ⟨A', s, q⟩
    | succ k =>
      unfold Ow at o
      obtain ⟨b, ws, A', e, rfl, hb, o⟩ := o
      cases e
      rw [ha] at hb
      cases hb
      obtain ⟨A2, s, q⟩ := Ows.get o hd hv
      obtain ⟨A3, s', q'⟩ := ih q
      rw [Nat.add_sub_add_right]
      exact ⟨A3, s'.trans (s.trans (List.sublist_cons_self _ _)), q'⟩
  | @tup n a ds vs i d1 d v1 v ha hd hv _ ih =>
    intro k A o
    cases k with
    | zero =>
      obtain ⟨eA, o2⟩ := Ow.zero.mp o
      subst eA
      unfold Rp at o2
      obtain ⟨b, ws, e, hb, o3⟩ := o2
      cases e
      rw [ha] at hb
      cases hb
      obtain ⟨v', e', o'⟩ := Rps.get o3 hd
      rw [hv] at e'
      cases e'
      obtain ⟨A', s, q⟩ := ih (k := 0) (A := []) (Ow.zero.mpr ⟨rfl, o'⟩)
      simp only [Nat.zero_sub] at q ⊢
      exact ⟨A', s, q⟩
    | succ k =>
      unfold Ow at o
      obtain ⟨b, ws, e, hb, o⟩ := o
      cases e
      rw [ha] at hb
      cases hb
      obtain ⟨A2, s, q⟩ := Ows.get o hd hv
      obtain ⟨A3, s', q'⟩ := ih q
      rw [Nat.add_sub_add_right]
      exact ⟨A3, s'.trans s, q'⟩
end Py

/-! EvC: the slots' state, how it grows, what an expression hands on. -/
namespace Py
open PySem (Str Addr)
open L2 (V HO Hp upd)
variable [kf : Kf]

def lev (L : List Nat) (i : Nat) : Nat := L.getD i 0
abbrev Fps := List (List Addr)
abbrev fpa (As : Fps) (i : Nat) : List Addr := As.getD i []

/-- what stands in the slots -/
structure Sta (H : Hp) (Z : Addr → Prop) (ta : Option Addr) (L : List Nat) (ρ : Loc) (σ : List (Option V)) (As : Fps) : Prop where
  len1 : σ.length = ρ.length
  len2 : As.length = ρ.length
  slot : ∀ i d, look ρ i = some d → ∃ v, σ[i]? = some (some v) ∧ Ow H Z ta (lev L i) d v (fpa As i)
  nod : As.flatten.Nodup
  sep : ∀ a ∈ As.flatten, ¬ Z a ∧ H a ≠ none ∧ ta ≠ some a
  zin : ∀ a, Z a → H a ≠ none ∧ ta ≠ some a
  tk : ∀ a, ta = some a → ∃ kvs, H a = some (.dK kvs)

/-- how all may change while an expression is reckoned -/
structure Gw (H : Hp) (Z : Addr → Prop) (ta : Option Addr) (As : Fps) (H' : Hp) (Z' : Addr → Prop) (ta' : Option Addr) (As' : Fps) : Prop where
  keep : ∀ a o, H a = some o → ta ≠ some a → H' a = some o
  ex : ∀ a, H a ≠ none → H' a ≠ none
  tad : ∀ a, ta = some a → ta' = some a
  tnew : ∀ a, ta' = some a → ta = some a ∨ H a = none
  z : ∀ a, Z a → Z' a
  znew : ∀ a, Z' a → Z a ∨ a ∈ As.flatten ∨ H a = none
  sub : ∀ a ∈ As'.flatten, a ∈ As.flatten
theorem Gw.refl {H : Hp} {Z : Addr → Prop} {ta : Option Addr} {As : Fps} : Gw H Z ta As H Z ta As :=
  ⟨fun _ _ e _ => e, fun _ e => e, fun _ e => e, fun _ e => .inl e, fun _ e => e, fun _ e => .inl e, fun _ e => e⟩
theorem Gw.trans {H H1 H2 : Hp} {Z Z1 Z2 : Addr → Prop} {ta t1 t2 : Option Addr} {As A1 A2 : Fps} (a : Gw H Z ta As H1 Z1 t1 A1) (b : Gw H1 Z1 t1 A1 H2 Z2 t2 A2) : Gw H Z ta As H2 Z2 t2 A2 := by
  have back : ∀ c, H1 c = none → H c = none := fun c e => by
    cases q : H c with
    | none => rfl
    | some o => exact absurd e (a.ex c (by rw [q]; exact Option.some_ne_none _))
  refine ⟨fun c o e n => ?_, fun c e => b.ex c (a.ex c e), fun c e => b.tad c (a.tad c e), fun c e => ?_, fun c e => b.z c (a.z c e), fun c e => ?_, fun c e => a.sub c (b.sub c e)⟩
  · refine b.keep c o (a.keep c o e n) fun q => ?_
    rcases a.tnew c q with q | q
    · exact n q
    · rw [e] at q; cases q
  · rcases b.tnew c e with e | e
    · exact a.tnew c e
    · exact .inr (back c e)
  · rcases b.znew c e with e | e | e
    · exact a.znew c e
    · exact .inr (.inl (a.sub c e))
    · exact .inr (.inr (back c e))
/-- where nothing is written -/
theorem Gw.lstK {H H' : Hp} {Z Z' : Addr → Prop} {ta ta' : Option Addr} {As As' : Fps} (g : Gw H Z ta As H' Z' ta' As') (tk : ∀ a, ta = some a → ∃ kvs, H a = some (.dK kvs)) {a : Addr} {xs : List V} (e : H a = some (.lst xs)) : H' a = some (.lst xs) :=
  g.keep a _ e fun q => by obtain ⟨k, z⟩ := tk a q; rw [e] at z; cases z
theorem Gw.tupK {H H' : Hp} {Z Z' : Addr → Prop} {ta ta' : Option Addr} {As As' : Fps} (g : Gw H Z ta As H' Z' ta' As') (tk : ∀ a, ta = some a → ∃ kvs, H a = some (.dK kvs)) {a : Addr} {xs : List V} (e : H a = some (.tup xs)) : H' a = some (.tup xs) :=
  g.keep a _ e fun q => by obtain ⟨k, z⟩ := tk a q; rw [e] at z; cases z
theorem Gw.frzK {H H' : Hp} {Z Z' : Addr → Prop} {ta ta' : Option Addr} {As As' : Fps} (g : Gw H Z ta As H' Z' ta' As') (tk : ∀ a, ta = some a → ∃ kvs, H a = some (.dK kvs)) {a : Addr} {o : PySem.Obj} {u : HO} (e : H a = some (.frz o u)) : H' a = some (.frz o u) :=
  g.keep a _ e fun q => by obtain ⟨k, z⟩ := tk a q; rw [e] at z; cases z
theorem Gw.rp {H H' : Hp} {Z Z' : Addr → Prop} {ta ta' : Option Addr} {As As' : Fps} (g : Gw H Z ta As H' Z' ta' As') (tk : ∀ a, ta = some a → ∃ kvs, H a = some (.dK kvs)) (zt : ∀ a, Z a → ta ≠ some a) {d : D} {v : V} (h : Rp H Z ta d v) : Rp H' Z' ta' d v :=
  Rp.mono (fun a xs e => g.tupK tk e) (fun a o u e => g.frzK tk e) g.z (fun a o z e => g.keep a o e (zt a z)) g.tad d v h
theorem Gw.rps {H H' : Hp} {Z Z' : Addr → Prop} {ta ta' : Option Addr} {As As' : Fps} (g : Gw H Z ta As H' Z' ta' As') (tk : ∀ a, ta = some a → ∃ kvs, H a = some (.dK kvs)) (zt : ∀ a, Z a → ta ≠ some a) {d : List D} {v : List V} (h : Rps H Z ta d v) : Rps H' Z' ta' d v :=
  Rps.mono (fun a xs e => g.tupK tk e) (fun a o u e => g.frzK tk e) g.z (fun a o z e => g.keep a o e (zt a z)) g.tad d v h
theorem Gw.ow {H H' : Hp} {Z Z' : Addr → Prop} {ta ta' : Option Addr} {As As' : Fps} (g : Gw H Z ta As H' Z' ta' As') (tk : ∀ a, ta = some a → ∃ kvs, H a = some (.dK kvs)) (zt : ∀ a, Z a → ta ≠ some a) {k : Nat} {d : D} {v : V} {A : List Addr} (hA : ∀ a ∈ A, ta ≠ some a) (h : Ow H Z ta k d v A) : Ow H' Z' ta' k d v A :=
  Ow.mono (fun a xs e => g.tupK tk e) (fun a o u e => g.frzK tk e) g.z (fun a o z e => g.keep a o e (zt a z)) g.tad k d v A (fun a ha o e => g.keep a o e (hA a ha)) h

/-- a value on the way, its own footprint -/
structure Tm (H : Hp) (Z : Addr → Prop) (ta : Option Addr) (As : Fps) (k : Nat) (d : D) (v : V) (A : List Addr) : Prop where
  ow : Ow H Z ta k d v A
  nod : A.Nodup
  sep : ∀ a ∈ A, ¬ Z a ∧ a ∉ As.flatten ∧ ta ≠ some a ∧ H a ≠ none
theorem Tm.gw {H H' : Hp} {Z Z' : Addr → Prop} {ta ta' : Option Addr} {As As' : Fps} {k : Nat} {d : D} {v : V} {A : List Addr} (t : Tm H Z ta As k d v A) (g : Gw H Z ta As H' Z' ta' As') (tk : ∀ a, ta = some a → ∃ kvs, H a = some (.dK kvs)) (zt : ∀ a, Z a → ta ≠ some a) : Tm H' Z' ta' As' k d v A := by
  refine ⟨g.ow tk zt (fun a ha => (t.sep a ha).2.2.1) t.ow, t.nod, fun a ha => ?_⟩
  obtain ⟨h1, h2, h3, h4⟩ := t.sep a ha
  refine ⟨fun z => ?_, fun z => h2 (g.sub a z), fun z => ?_, g.ex a h4⟩
  · rcases g.znew a z with z | z | z
    · exact h1 z
    · exact h2 z
    · exact h4 z
  · rcases g.tnew a z with z | z
    · exact h3 z
    · exact h4 z

/-- a value's make: its level where it is new; else the slots it may be within, and how deep -/
structure Ty where
  k : Nat
  rs : List (Nat × Nat)
structure Bor (H : Hp) (ρ : Loc) (σ : List (Option V)) (x dep : Nat) (d : D) (v : V) : Prop where
  ex : ∃ dx vx, look ρ x = some dx ∧ σ[x]? = some (some vx) ∧ Sub H dep dx vx d v
inductive Res (H : Hp) (Z : Addr → Prop) (ta : Option Addr) (As : Fps) (ρ : Loc) (σ : List (Option V)) (ty : Ty) (d : D) (v : V) (A : List Addr) : Prop where
  | tm : Tm H Z ta As ty.k d v A → Res H Z ta As ρ σ ty d v A
  | bo (x dep : Nat) : (x, dep) ∈ ty.rs → Bor H ρ σ x dep d v → Res H Z ta As ρ σ ty d v A
theorem Bor.gw {H H' : Hp} {Z Z' : Addr → Prop} {ta ta' : Option Addr} {As As' : Fps} {ρ : Loc} {σ : List (Option V)} {x dep : Nat} {d : D} {v : V} (b : Bor H ρ σ x dep d v) (g : Gw H Z ta As H' Z' ta' As') (tk : ∀ a, ta = some a → ∃ kvs, H a = some (.dK kvs)) : Bor H' ρ σ x dep d v := by
  obtain ⟨dx, vx, h1, h2, h3⟩ := b.ex
  exact ⟨dx, vx, h1, h2, h3.mono (fun _ _ e => g.tupK tk e) fun _ _ e => g.lstK tk e⟩
theorem Res.gw {H H' : Hp} {Z Z' : Addr → Prop} {ta ta' : Option Addr} {As As' : Fps} {ρ : Loc} {σ : List (Option V)} {ty : Ty} {d : D} {v : V} {A : List Addr} (r : Res H Z ta As ρ σ ty d v A) (g : Gw H Z ta As H' Z' ta' As') (tk : ∀ a, ta = some a → ∃ kvs, H a = some (.dK kvs)) (zt : ∀ a, Z a → ta ≠ some a) : Res H' Z' ta' As' ρ σ ty d v A := by
  cases r with
  | tm t => exact .tm (t.gw g tk zt)
  | bo x dep hm b => exact .bo x dep hm (b.gw g tk)

/-! ### lists of footprints -/
theorem mem_flat {As : Fps} {a : Addr} {i : Nat} (h : a ∈ fpa As i) : a ∈ As.flatten := by
  unfold fpa at h
  rw [List.getD_eq_getElem?_getD] at h
  cases e : As[i]? with
  | none => rw [e] at h; simp at h
  | some A =>
    rw [e] at h
    exact List.mem_flatten.mpr ⟨A, List.mem_of_getElem? e, by simpa using h⟩
theorem fpa_set {As : Fps} {i j : Nat} {A : List Addr} (hi : i < As.length) : fpa (As.set i A) j = if j = i then A else fpa As j := by
  unfold fpa
  rw [List.getD_eq_getElem?_getD, List.getD_eq_getElem?_getD, List.getElem?_set]
  by_cases e : i = j
  · subst e
    simp [hi]
  · rw [if_neg e, if_neg (Ne.symm e)]
theorem lev_set {L : List Nat} {i j m : Nat} (hi : i < L.length) : lev (L.set i m) j = if j = i then m else lev L j := by
  unfold lev
  rw [List.getD_eq_getElem?_getD, List.getD_eq_getElem?_getD, List.getElem?_set]
  by_cases e : i = j
  · subst e
    simp [hi]
  · rw [if_neg e, if_neg (Ne.symm e)]
theorem lev_set_le {L : List Nat} {i j m : Nat} : lev (L.set i m) j = lev L j ∨ (j = i ∧ lev (L.set i m) j = m) := by
  by_cases hi : i < L.length
  · rw [lev_set hi]
    by_cases e : j = i
    · rw [if_pos e]; exact .inr ⟨e, rfl⟩
    · rw [if_neg e]; exact .inl rfl
  · rw [List.set_eq_of_length_le (by omega)]
    exact .inl rfl
/-- the footprints with slot i's own part in front -/
theorem flat_perm {As : Fps} {i : Nat} (hi : i < As.length) : As.flatten.Perm (fpa As i ++ (As.set i []).flatten) := by
  induction As generalizing i with
  | nil => simp at hi
  | cons A As ih =>
    cases i with
    | zero => simp [fpa]
    | succ i =>
      simp only [List.flatten_cons, List.set_cons_succ]
      have e : fpa (A :: As) (i + 1) = fpa As i := by simp [fpa]
      rw [e]
      refine (List.Perm.append_left A (ih (by simpa using hi))).trans ?_
      rw [← List.append_assoc, ← List.append_assoc]
      exact .append_right _ List.perm_append_comm
theorem flat_set {As : Fps} {i : Nat} {A : List Addr} (hi : i < As.length) : (As.set i A).flatten.Perm (A ++ (As.set i []).flatten) := by
  have h := flat_perm (As := As.set i A) (i := i) (by simpa using hi)
  rw [fpa_set hi, if_pos rfl, List.set_set] at h
  exact h
theorem flat_nil_sub {As : Fps} {i : Nat} {a : Addr} (h : a ∈ (As.set i []).flatten) : a ∈ As.flatten := by
  by_cases hi : i < As.length
  · exact (flat_perm hi).symm.subset (List.mem_append_right _ h)
  · rw [List.set_eq_of_length_le (by omega)] at h
    exact h

/-! ### giving up a slot's layers -/
theorem look_lt {ρ : Loc} {i : Nat} {d : D} (h : look ρ i = some d) : i < ρ.length := by
  unfold look at h
  by_cases hi : i < ρ.length
  · exact hi
  · rw [List.getElem?_eq_none (by omega)] at h
    cases h
/-- at any slot: the level m or less -/
theorem Sta.weak1 {H : Hp} {Z : Addr → Prop} {ta : Option Addr} {L : List Nat} {ρ : Loc} {σ : List (Option V)} {As : Fps} (S : Sta H Z ta L ρ σ As) (x m : Nat) (hm : m ≤ lev L x) :
    ∃ Z' As', Sta H Z' ta (L.set x m) ρ σ As' ∧ Gw H Z ta As H Z' ta As' := by
  by_cases hs : ∃ d, look ρ x = some d
  · obtain ⟨d, hd⟩ := hs
    have hx : x < As.length := by rw [S.len2]; exact look_lt hd
    obtain ⟨v, hv, ow⟩ := S.slot x d hd
    obtain ⟨A', B, p, q⟩ := Ow.weak (lev L x) m d v (fpa As x) hm ow
    have pf := flat_perm hx
    have ps := flat_set (A := A') hx
    have pall : As.flatten.Perm ((A' ++ B) ++ (As.set x []).flatten) := pf.trans (p.append_right _)
    have nod : ((A' ++ B) ++ (As.set x []).flatten).Nodup := pall.nodup_iff.mp S.nod
    have hB : ∀ b ∈ B, b ∈ As.flatten := fun b hb => pall.symm.subset (List.mem_append_left _ (List.mem_append_right _ hb))
    have hsub : ∀ a ∈ (As.set x A').flatten, a ∈ As.flatten ∧ a ∉ B := fun a ha => by
      have h := ps.subset ha
      refine ⟨pall.symm.subset ?_, fun hb => ?_⟩
      · rcases List.mem_append.mp h with h | h
        · exact List.mem_append_left _ (List.mem_append_left _ h)
        · exact List.mem_append_right _ h
      · rw [List.nodup_append] at nod
        obtain ⟨n1, _, n3⟩ := nod
        rw [List.nodup_append] at n1
        rcases List.mem_append.mp h with h | h
        · exact n1.2.2 a h a hb rfl
        · exact n3 a (List.mem_append_right _ hb) a h rfl
    refine ⟨fun a => Z a ∨ a ∈ B, As.set x A', ⟨S.len1, by simpa using S.len2, fun i e hi => ?_, ?_, fun a ha => ?_, fun a ha => ?_, S.tk⟩, ⟨fun _ _ e _ => e, fun _ e => e, fun _ e => e, fun _ e => .inl e, fun _ e => .inl e, fun a ha => ?_, fun a ha => (hsub a ha).1⟩⟩
    · obtain ⟨w, hw, o⟩ := S.slot i e hi
      refine ⟨w, hw, ?_⟩
      rw [fpa_set hx]
      by_cases hix : i = x
      · subst hix
        rw [hd] at hi; cases hi
        rw [hv] at hw; cases hw
        rw [if_pos rfl]
        have z := q (fun a => Z a ∨ a ∈ B) (fun _ z => .inl z) fun _ z => .inr z
        rcases lev_set_le (L := L) (i := i) (j := i) (m := m) with h | ⟨_, h⟩
        · by_cases hl : i < L.length
          · rw [lev_set hl, if_pos rfl]; exact z
          · have e0 : lev L i = 0 := by unfold lev; rw [List.getD_eq_getElem?_getD, List.getElem?_eq_none (by omega)]; rfl
            rw [h, e0]
            have : m = 0 := by omega
            rw [this] at z
            exact z
        · rw [h]; exact z
      · rw [if_neg hix]
        rcases lev_set_le (L := L) (i := x) (j := i) (m := m) with h | ⟨h, _⟩
        · rw [h]; exact o.z fun _ z => .inl z
        · exact absurd h hix
    · refine ps.nodup_iff.mpr ?_
      rw [List.nodup_append] at nod
      obtain ⟨n1, n2, n3⟩ := nod
      rw [List.nodup_append] at n1
      refine List.nodup_append.mpr ⟨n1.1, n2, fun a ha b hb => n3 a (List.mem_append_left _ ha) b hb⟩
    · obtain ⟨h1, h2⟩ := hsub a ha
      obtain ⟨s1, s2, s3⟩ := S.sep a h1
      exact ⟨fun z => z.elim s1 h2, s2, s3⟩
    · rcases ha with ha | ha
      · exact S.zin a ha
      · exact (S.sep a (hB a ha)).2
    · rcases ha with ha | ha
      · exact .inl ha
      · exact .inr (.inl (hB a ha))
  · refine ⟨Z, As, ⟨S.len1, S.len2, fun i e hi => ?_, S.nod, S.sep, S.zin, S.tk⟩, .refl⟩
    obtain ⟨w, hw, o⟩ := S.slot i e hi
    refine ⟨w, hw, ?_⟩
    rcases lev_set_le (L := L) (i := x) (j := i) (m := m) with h | ⟨h, _⟩
    · rw [h]; exact o
    · subst h; exact absurd ⟨e, hi⟩ hs
def relax (L : List Nat) (j : Nat) : List (Nat × Nat) → List Nat
  | [] => L
  | (x, dep) :: rs => relax (L.set x (min (lev L x) (dep + j))) j rs
theorem Sta.relax {H : Hp} {ta : Option Addr} {ρ : Loc} {σ : List (Option V)} {j : Nat} : ∀ {rs : List (Nat × Nat)} {Z : Addr → Prop} {L : List Nat} {As : Fps}, Sta H Z ta L ρ σ As →
    ∃ Z' As', Sta H Z' ta (relax L j rs) ρ σ As' ∧ Gw H Z ta As H Z' ta As'
  | [], Z, L, As, S => ⟨Z, As, S, .refl⟩
  | (x, dep) :: rs, Z, L, As, S => by
    obtain ⟨Z1, A1, S1, g1⟩ := S.weak1 x (min (lev L x) (dep + j)) (Nat.min_le_left _ _)
    obtain ⟨Z2, A2, S2, g2⟩ := S1.relax (rs := rs) (j := j)
    exact ⟨Z2, A2, S2, g1.trans g2⟩
theorem relax_le : ∀ (rs : List (Nat × Nat)) (L : List Nat) (j i : Nat), lev (relax L j rs) i ≤ lev L i
  | [], L, j, i => Nat.le_refl _
  | (x, dep) :: rs, L, j, i => by
    refine Nat.le_trans (relax_le rs _ j i) ?_
    rcases lev_set_le (L := L) (i := x) (j := i) (m := min (lev L x) (dep + j)) with h | ⟨h1, h2⟩
    · exact Nat.le_of_eq h
    · rw [h2, h1]; exact Nat.min_le_left _ _
theorem relax_mem : ∀ {rs : List (Nat × Nat)} {L : List Nat} {j x dep : Nat}, (x, dep) ∈ rs → lev (relax L j rs) x ≤ dep + j
  | [], _, _, _, _, h => by cases h
  | (y, dp) :: rs, L, j, x, dep, h => by
    by_cases e : (x, dep) = (y, dp)
    · obtain ⟨e1, e2⟩ := Prod.mk.inj e
      subst e1 e2
      refine Nat.le_trans (relax_le rs _ j x) ?_
      rcases lev_set_le (L := L) (i := x) (j := x) (m := min (lev L x) (dep + j)) with h | ⟨_, h⟩
      · by_cases hl : x < L.length
        · rw [lev_set hl, if_pos rfl]; exact Nat.min_le_right _ _
        · rw [h]
          unfold lev
          rw [List.getD_eq_getElem?_getD, List.getElem?_eq_none (by omega)]
          exact Nat.zero_le _
      · rw [h]; exact Nat.min_le_right _ _
    · rcases List.mem_cons.mp h with h | h
      · exact absurd h e
      · exact relax_mem (rs := rs) h
theorem Sta.ext {H : Hp} {ta : Option Addr} {ρ : Loc} {σ : List (Option V)} {L L' : List Nat} {Z : Addr → Prop} {As : Fps} (S : Sta H Z ta L ρ σ As) (h : ∀ i, i < ρ.length → lev L' i = lev L i) : Sta H Z ta L' ρ σ As := by
  refine ⟨S.len1, S.len2, fun i e hi => ?_, S.nod, S.sep, S.zin, S.tk⟩
  rw [h i (look_lt hi)]
  exact S.slot i e hi
/-- all levels at once -/
theorem Sta.weaks {H : Hp} {ta : Option Addr} {ρ : Loc} {σ : List (Option V)} {L : List Nat} {Z : Addr → Prop} {As : Fps} (S : Sta H Z ta L ρ σ As) (L' : List Nat) (h : ∀ i, lev L' i ≤ lev L i) :
    ∃ Z' As', Sta H Z' ta L' ρ σ As' ∧ Gw H Z ta As H Z' ta As' := by
  have key : ∀ n, n ≤ ρ.length → ∃ Z' As' M, Sta H Z' ta M ρ σ As' ∧ Gw H Z ta As H Z' ta As' ∧ (∀ i, i < n → lev M i = lev L' i) ∧ ∀ i, n ≤ i → lev M i = lev L i := by
    intro n
    induction n with
    | zero => intro _; exact ⟨Z, As, L, S, .refl, fun i hi => absurd hi (Nat.not_lt_zero _), fun _ _ => rfl⟩
    | succ n ih =>
      intro hn
      obtain ⟨Z1, A1, M, S1, g1, h1, h2⟩ := ih (Nat.le_of_succ_le hn)
      obtain ⟨Z2, A2, S2, g2⟩ := S1.weak1 n (lev L' n) (by rw [h2 n (Nat.le_refl _)]; exact h n)
      refine ⟨Z2, A2, _, S2, g1.trans g2, fun i hi => ?_, fun i hi => ?_⟩
      · by_cases hl : n < M.length
        · rw [lev_set hl]
          by_cases e : i = n
          · rw [if_pos e, e]
          · rw [if_neg e]; exact h1 i (by omega)
        · rw [List.set_eq_of_length_le (by omega)]
          by_cases e : i = n
          · have e0 : lev M n = 0 := by unfold lev; rw [List.getD_eq_getElem?_getD, List.getElem?_eq_none (by omega)]; rfl
            have e1 : lev L n = 0 := by rw [← h2 n (Nat.le_refl _)]; exact e0
            have e2 := h n
            rw [e, e0]
            omega
          · exact h1 i (by omega)
      · rcases lev_set_le (L := M) (i := n) (j := i) (m := lev L' n) with q | ⟨q, _⟩
        · rw [q]; exact h2 i (by omega)
        · omega
  obtain ⟨Z', A', M, S', g, h1, _⟩ := key ρ.length (Nat.le_refl _)
  exact ⟨Z', A', S'.ext fun i hi => (h1 i hi).symm, g⟩

/-! ### taking a value's items -/
/-- at most j layers are owned -/
def Lo (H : Hp) (Z : Addr → Prop) (ta : Option Addr) (j : Nat) (d : D) (v : V) : Prop := ∃ k A, k ≤ j ∧ Ow H Z ta k d v A
/-- a value is used: j of its layers may stay owned -/
theorem Res.use {H : Hp} {Z : Addr → Prop} {ta : Option Addr} {As : Fps} {ρ : Loc} {σ : List (Option V)} {L : List Nat} {ty : Ty} {d : D} {v : V} {A : List Addr} (S : Sta H Z ta L ρ σ As) (r : Res H Z ta As ρ σ ty d v A) (j : Nat) :
    ∃ Z' As', Sta H Z' ta (Py.relax L j ty.rs) ρ σ As' ∧ (∀ a, Z a → Z' a) ∧ (∀ a ∈ As'.flatten, a ∈ As.flatten) ∧ (∀ a, Z' a → Z a ∨ a ∈ As.flatten ∨ a ∈ A) ∧ Lo H Z' ta j d v := by
  obtain ⟨Z1, A1, S1, g1⟩ := S.relax (rs := ty.rs) (j := j)
  have zn : ∀ a, Z1 a → Z a ∨ a ∈ As.flatten := fun a z => by
    rcases g1.znew a z with z | z | z
    · exact .inl z
    · exact .inr z
    · exact absurd z (S1.zin a ‹_›).1
  cases r with
  | tm t =>
    obtain ⟨A', B, p, q⟩ := Ow.weak ty.k (min ty.k j) d v A (Nat.min_le_left _ _) t.ow
    have hB : ∀ b ∈ B, b ∈ A := fun b hb => p.symm.subset (List.mem_append_right _ hb)
    refine ⟨fun a => Z1 a ∨ a ∈ B, A1, ⟨S1.len1, S1.len2, fun i e hi => ?_, S1.nod, fun a ha => ?_, fun a ha => ?_, S1.tk⟩, fun a z => .inl (g1.z a z), g1.sub, fun a z => ?_, ⟨_, A', Nat.min_le_right _ _, q _ (fun a z => .inl (g1.z a z)) fun _ z => .inr z⟩⟩
    · obtain ⟨w, hw, o⟩ := S1.slot i e hi
      exact ⟨w, hw, o.z fun _ z => .inl z⟩
    · obtain ⟨s1, s2, s3⟩ := S1.sep a ha
      exact ⟨fun z => z.elim s1 fun z => (t.sep a (hB a z)).2.1 (g1.sub a ha), s2, s3⟩
    · rcases ha with ha | ha
      · exact S1.zin a ha
      · obtain ⟨_, _, h3, h4⟩ := t.sep a (hB a ha)
        exact ⟨h4, h3⟩
    · rcases z with z | z
      · exact (zn a z).elim .inl fun z => .inr (.inl z)
      · exact .inr (.inr (hB a z))
  | bo x dep hm b =>
    refine ⟨Z1, A1, S1, g1.z, g1.sub, fun a z => (zn a z).elim .inl fun z => .inr (.inl z), ?_⟩
    obtain ⟨dx, vx, h1, h2, h3⟩ := b.ex
    obtain ⟨w, hw, o⟩ := S1.slot x dx h1
    rw [h2] at hw
    cases hw
    obtain ⟨A', _, o'⟩ := h3.ow o
    refine ⟨_, A', ?_, o'⟩
    have := relax_mem (L := L) (j := j) hm
    omega
theorem Lo.z {H : Hp} {Z Z' : Addr → Prop} {ta : Option Addr} {j : Nat} {d : D} {v : V} (hz : ∀ a, Z a → Z' a) (l : Lo H Z ta j d v) : Lo H Z' ta j d v :=
  let ⟨k, A, h, o⟩ := l; ⟨k, A, h, o.z hz⟩
theorem Lo.zero {H : Hp} {Z : Addr → Prop} {ta : Option Addr} {d : D} {v : V} (l : Lo H Z ta 0 d v) : Rp H Z ta d v := by
  obtain ⟨k, A, h, o⟩ := l
  have e : k = 0 := by omega
  subst e
  exact (Ow.zero.mp o).2
theorem Lo.rd {H : Hp} {Z : Addr → Prop} {ta : Option Addr} {j : Nat} {d : D} {v : V} (l : Lo H Z ta j d v) : Rp H All ta d v :=
  let ⟨_, _, _, o⟩ := l; o.rd
theorem Lo.lst {H : Hp} {Z : Addr → Prop} {ta : Option Addr} {ds : List D} {v : V} (l : Lo H Z ta 1 (.lst ds) v) : ∃ a vs, v = .ref a ∧ H a = some (.lst vs) ∧ Rps H Z ta ds vs := by
  obtain ⟨k, A, h, o⟩ := l
  cases k with
  | zero =>
    have h2 := (Ow.zero.mp o).2
    unfold Rp at h2
    obtain ⟨a, vs, e, _, h1, h2⟩ := h2
    exact ⟨a, vs, e, h1, h2⟩
  | succ k =>
    have e : k = 0 := by omega
    subst e
    unfold Ow at o
    obtain ⟨a, vs, A', e, _, h1, o⟩ := o
    exact ⟨a, vs, e, h1, (Ows.zero.mp o).2⟩
theorem Lo.tup {H : Hp} {Z : Addr → Prop} {ta : Option Addr} {ds : List D} {v : V} (l : Lo H Z ta 1 (.tup ds) v) : ∃ a vs, v = .ref a ∧ H a = some (.tup vs) ∧ Rps H Z ta ds vs := by
  obtain ⟨k, A, h, o⟩ := l
  cases k with
  | zero =>
    have h2 := (Ow.zero.mp o).2
    unfold Rp at h2
    exact h2
  | succ k =>
    have e : k = 0 := by omega
    subst e
    unfold Ow at o
    obtain ⟨a, vs, e, h1, o⟩ := o
    exact ⟨a, vs, e, h1, (Ows.zero.mp o).2⟩
/-- what is read alone -/
theorem Res.rd {H : Hp} {Z : Addr → Prop} {ta : Option Addr} {As : Fps} {ρ : Loc} {σ : List (Option V)} {L : List Nat} {ty : Ty} {d : D} {v : V} {A : List Addr} (S : Sta H Z ta L ρ σ As) (r : Res H Z ta As ρ σ ty d v A) : Rp H All ta d v := by
  obtain ⟨_, _, _, _, _, _, l⟩ := r.use S 0
  exact l.rd
end Py

/-! EvD: static looks: levels of slots (ty..), the text against the small language (chk..). -/
namespace Py
open PySem (Str Addr Expr Stmt Scope NameKind Const)

/-! ### levels -/
def minL : List Nat → List Nat → List Nat
  | a :: as, b :: bs => min a b :: minL as bs
  | _, _ => []
/-- what a comprehension's own slots are worth -/
def zeros (L : List Nat) : List Nat → List Nat
  | [] => L
  | i :: is => zeros (L.set i 0) is
def slotsT : T → List Nat
  | .nm i => [i]
  | .tp is => is
abbrev atom : Ty := ⟨9, []⟩
abbrev fresh1 : Ty := ⟨1, []⟩
def deeper (rs : List (Nat × Nat)) : List (Nat × Nat) := rs.map fun p => (p.1, p.2 + 1)
def keepsTop : Bi → Bool
  | .list => true
  | .tuple => true
  | _ => false
def leL : List Nat → List Nat → Bool
  | [], [] => true
  | a :: as, b :: bs => decide (a ≤ b) && leL as bs
  | _, _ => false
/-- one turn of a comprehension: fc the tests, fe the element; an element that is borrowed is given up -/
def lcStep (fc : List Nat → Option (List Nat)) (fe : List Nat → Option (Ty × List Nat)) (L : List Nat) : Option (Nat × List Nat) :=
  (fc L).bind fun L1 => (fe L1).map fun p => if p.1.rs.isEmpty then (p.1.k, minL L1 p.2) else (0, minL L1 (relax p.2 0 p.1.rs))
def lcTy (fc : List Nat → Option (List Nat)) (fe : List Nat → Option (Ty × List Nat)) (ow : List Nat) (L : List Nat) : Option (Nat × List Nat) :=
  (lcStep fc fe (zeros L ow)).bind fun q => (lcStep fc fe (zeros q.2 ow)).bind fun r =>
    if leL (zeros q.2 ow) (zeros r.2 ow) && leL (zeros q.2 ow) (zeros L ow) then some (r.1, zeros q.2 ow) else none
/-- layers that may stay owned while a value is walked -/
def jz (fz : Bool) : Nat := if fz then 0 else 1
mutual
def tyE (lv : Nat → Nat) : E → List Nat → Option (Ty × List Nat)
  | .var i, L => some (⟨9, [(i, 0)]⟩, L)
  | .int _, L => some (atom, L)
  | .bl _, L => some (atom, L)
  | .non, L => some (atom, L)
  | .str _, L => some (atom, L)
  | .tup es, L => (tyL lv true es L).map fun L => (fresh1, L)
  | .lst es, L => (tyL lv true es L).map fun L => (fresh1, L)
  | .bin _ a b, L => (tyE lv a L).bind fun p => (tyE lv b p.2).map fun q => (fresh1, relax (relax q.2 1 p.1.rs) 1 q.1.rs)
  | .neg a, L => (tyE lv a L).map fun p => (atom, p.2)
  | .not a, L => (tyE lv a L).map fun p => (atom, p.2)
  | .cmp _ a b, L => (tyE lv a L).bind fun p => (tyE lv b p.2).map fun q => (atom, q.2)
  | .chn _ _ a b c, L => (tyE lv a L).bind fun p => (tyE lv b p.2).bind fun q => (tyE lv c q.2).map fun r => (atom, minL q.2 r.2)
  | .and a b, L => (tyE lv a L).bind fun p => (tyE lv b p.2).map fun q => (⟨min p.1.k q.1.k, p.1.rs ++ q.1.rs⟩, minL p.2 q.2)
  | .or a b, L => (tyE lv a L).bind fun p => (tyE lv b p.2).map fun q => (⟨min p.1.k q.1.k, p.1.rs ++ q.1.rs⟩, minL p.2 q.2)
  | .ite c a b, L => (tyE lv c L).bind fun p => (tyE lv a p.2).bind fun q => (tyE lv b p.2).map fun r => (⟨min q.1.k r.1.k, q.1.rs ++ r.1.rs⟩, minL q.2 r.2)
  | .idx a i, L => (tyE lv a L).bind fun p => (tyE lv i p.2).map fun q => (⟨p.1.k - 1, deeper p.1.rs⟩, q.2)
  | .slN a, L => (tyE lv a L).map fun p => (fresh1, relax p.2 1 p.1.rs)
  | .slL a l, L => (tyE lv a L).bind fun p => (tyE lv l p.2).map fun q => (fresh1, relax q.2 1 p.1.rs)
  | .slU a l, L => (tyE lv a L).bind fun p => (tyE lv l p.2).map fun q => (fresh1, relax q.2 1 p.1.rs)
  | .slB a l u, L => (tyE lv a L).bind fun p => (tyE lv l p.2).bind fun q => (tyE lv u q.2).map fun r => (fresh1, relax r.2 1 p.1.rs)
  | .rev a, L => (tyE lv a L).map fun p => (fresh1, relax p.2 1 p.1.rs)
  | .bi b a, L => (tyE lv a L).map fun p => if keepsTop b then (fresh1, relax p.2 1 p.1.rs) else (atom, p.2)
  | .bi2 _ x y, L => (tyE lv x L).bind fun p => (tyE lv y p.2).map fun q => (atom, q.2)
  | .biI _ i, L => (tyI lv false i L).map fun L => (fresh1, L)
  | .call f es, L => (tyL lv true es L).map fun L => (⟨lv f, []⟩, L)
  | .cala _ es, L => (tyL lv false es L).map fun L => (atom, L)
  | .lc elt ow t it cs, L => (tyI lv false it L).bind fun L1 =>
    if (slotsT t).all (ow.contains ·) then (lcTy (fun L => tyCs lv cs L) (fun L => tyE lv elt L) ow L1).map fun q => (⟨q.1 + 1, []⟩, q.2) else none
  | .tge _ _, L => some (atom, L)
  | .tln _, L => some (atom, L)
  | .tce _ i, L => (tyE lv i L).map fun p => (atom, p.2)
def tyCs (lv : Nat → Nat) : List E → List Nat → Option (List Nat)
  | [], L => some L
  | [c], L => (tyE lv c L).map fun p => p.2
  | _, _ => none
def tyL (lv : Nat → Nat) (frz : Bool) : List E → List Nat → Option (List Nat)
  | [], L => some L
  | e :: es, L => (tyE lv e L).bind fun p => tyL lv frz es (if frz then relax p.2 0 p.1.rs else p.2)
def tyI (lv : Nat → Nat) (fz : Bool) : I → List Nat → Option (List Nat)
  | .val e, L => (tyE lv e L).map fun p => relax p.2 (jz fz) p.1.rs
  | .rng a, L => (tyE lv a L).map fun p => p.2
  | .rng2 a b, L => (tyE lv a L).bind fun p => (tyE lv b p.2).map fun q => q.2
  | .zip a b, L => (tyE lv a L).bind fun p => (tyE lv b p.2).map fun q => relax (relax q.2 (jz fz) p.1.rs) (jz fz) q.1.rs
  | .enm a, L => (tyE lv a L).map fun p => relax p.2 (jz fz) p.1.rs
end
end Py

/-! EvE: the text against the small language. -/
namespace Py
open PySem (Str Addr Expr Stmt Scope NameKind Const Comprehension Operator CmpOp)

/-- what is known of a def's text: the names of its slots, the functions by number, the levels of what they hand back -/
structure Cst where
  N : List Str
  fns : List Str
  lv : Nat → Nat

def visB (sc : Scope) (x : Str) : Bool := match sc.names.lookup x with
  | some .local => true
  | some .cell => true
  | some .free => true
  | _ => false
def gloB (sc : Scope) (x : Str) : Bool := match sc.names.lookup x with
  | some .globalImplicit => true
  | _ => false
def locB (sc : Scope) (fb : Option Scope) (x : Str) : Bool := match sc.names.lookup x with
  | some .local => true
  | some .cell => (match fb with
    | none => true
    | some s => s.names.lookup x == some .cell)
  | _ => false
def goodN (x : Str) : Bool := !(x == ("__debug__" : Str)) && !(x == ("__classdict__" : Str)) && !(x == ("__name__" : Str))
def slotB (C : Cst) (i : Nat) (x : Str) : Bool := decide (C.N[i]? = some x) && goodN x
def varB (C : Cst) (sc : Scope) (i : Nat) (x : Str) : Bool := slotB C i x && visB sc x
def tgtB (C : Cst) (sc : Scope) (fb : Option Scope) (i : Nat) (x : Str) : Bool := slotB C i x && locB sc fb x
def bopP : Bop → Operator
  | .add => .Add | .sub => .Sub | .mul => .Mult | .fdiv => .FloorDiv | .mod => .Mod
def copP : Cop → CmpOp
  | .eq => .Eq | .ne => .NotEq | .lt => .Lt | .le => .LtE | .gt => .Gt | .ge => .GtE | .isin => .In | .notin => .NotIn | .is => .Is | .isnot => .IsNot
def biN : Bi → Str
  | .len => "len" | .abs => "abs" | .int => "int" | .sum => "sum" | .any => "any" | .all => "all" | .max => "max" | .min => "min" | .list => "list" | .tuple => "tuple"
/-- names that must stand for what they are -/
def biAll : List Str := ["len", "abs", "int", "sum", "any", "all", "max", "min", "list", "tuple", "range", "zip", "enumerate"]

/-! ### an expression's parts -/
def xName : Expr → Option Str
  | .Name x _ => some x
  | _ => none
def xInt : Expr → Option Int
  | .Constant (.int i) _ _ => some i
  | _ => none
def xBl : Expr → Option Bool
  | .Constant (.bool i) _ _ => some i
  | _ => none
def xNon : Expr → Bool
  | .Constant .none _ _ => true
  | _ => false
def xStr : Expr → Option Str
  | .Constant (.str i) _ _ => some i
  | _ => none
def xTup : Expr → Option (List Expr)
  | .Tuple es _ _ => some es
  | _ => none
def xLst : Expr → Option (List Expr)
  | .List es _ => some es
  | _ => none
def xBin : Expr → Option (Expr × Operator × Expr)
  | .BinOp a o b _ => some (a, o, b)
  | _ => none
def xNeg : Expr → Option Expr
  | .UnaryOp .USub a _ => some a
  | _ => none
def xNot : Expr → Option Expr
  | .UnaryOp .Not a _ => some a
  | _ => none
def xCmp : Expr → Option (Expr × CmpOp × Expr)
  | .Compare a [o] [b] _ => some (a, o, b)
  | _ => none
def xChn : Expr → Option (Expr × CmpOp × Expr × CmpOp × Expr)
  | .Compare a [o, p] [b, c] _ => some (a, o, b, p, c)
  | _ => none
def xAnd : Expr → Option (Expr × Expr × List Expr × PySem.Pos)
  | .BoolOp .And (a :: b :: r) p => some (a, b, r, p)
  | _ => none
def xOr : Expr → Option (Expr × Expr × List Expr × PySem.Pos)
  | .BoolOp .Or (a :: b :: r) p => some (a, b, r, p)
  | _ => none
def xIte : Expr → Option (Expr × Expr × Expr)
  | .IfExp c a b _ => some (c, a, b)
  | _ => none
def xIdx : Expr → Option (Expr × Expr)
  | .Subscript a i _ => some (a, i)
  | _ => none
def xSl : Expr → Option (Expr × Option Expr × Option Expr)
  | .Subscript a (.Slice l u none _) _ => some (a, l, u)
  | _ => none
def xRev : Expr → Option Expr
  | .Subscript a (.Slice none none (some (.UnaryOp .USub (.Constant (.int 1) _ _) _)) _) _ => some a
  | _ => none
def xCall : Expr → Option (Str × List Expr)
  | .Call (.Name x _) es [] _ => some (x, es)
  | _ => none
def xLc : Expr → Option (Expr × Expr × Expr × List Expr × Scope)
  | .ListComp elt [⟨tg, iter, ifs, 0⟩] scope _ => some (elt, tg, iter, ifs, scope)
  | _ => none
def tgt1 : Expr → Option Str := xName
def tgtsOk (C : Cst) (sc : Scope) (fb : Option Scope) : List Nat → List Expr → Bool
  | [], [] => true
  | i :: is, e :: es => (match xName e with
    | some x => tgtB C sc fb i x
    | none => false) && tgtsOk C sc fb is es
  | _, _ => false
def chkT (C : Cst) (sc : Scope) (fb : Option Scope) : T → Expr → Bool
  | .nm i, e => (match xName e with
    | some x => tgtB C sc fb i x
    | none => false)
  | .tp is, e => (match xTup e with
    | some es => decide (is ≠ []) && tgtsOk C sc fb is es
    | none => false)
def isRng : I → Bool
  | .rng _ => true
  | .rng2 _ _ => true
  | _ => false
def xTge : Expr → Option (Str × Str)
  | .Subscript (.Name n _) (.Constant (.str s) _ _) _ => some (n, s)
  | _ => none
def tkey : Nat → Option Str
  | 0 => some "at"
  | 1 => some "left"
  | 2 => some "seed"
  | 3 => some "salt"
  | _ => none
/-- tape[key] -/
def fldB (C : Cst) (sc : Scope) (x : Nat) (k : Option Str) (e : Expr) : Bool := match xTge e with
  | some (n, s) => varB C sc x n && decide (k = some s)
  | none => false
def ownOf (C : Cst) (ow : List Nat) : List (Str × Nat) := ow.map fun i => (C.N.getD i "", i)
mutual
def chk (C : Cst) (sc : Scope) (fb : Option Scope) : E → Expr → Bool
  | .var i, e => (match xName e with
    | some x => varB C sc i x
    | none => false)
  | .int z, e => decide (xInt e = some z)
  | .bl z, e => decide (xBl e = some z)
  | .non, e => xNon e
  | .str z, e => decide (xStr e = some z) && decide (z.length ≤ LIM)
  | .tup es, e => (match xTup e with
    | some xs => decide (es.length ≤ 1000) && chkL C sc fb es xs
    | none => false)
  | .lst es, e => (match xLst e with
    | some xs => decide (es.length ≤ 1000) && chkL C sc fb es xs
    | none => false)
  | .bin o a b, e => (match xBin e with
    | some (x, p, y) => decide (p = bopP o) && chk C sc fb a x && chk C sc fb b y
    | none => false)
  | .neg a, e => (match xNeg e with
    | some x => chk C sc fb a x
    | none => false)
  | .not a, e => (match xNot e with
    | some x => chk C sc fb a x
    | none => false)
  | .cmp o a b, e => (match xCmp e with
    | some (x, p, y) => decide (p = copP o) && chk C sc fb a x && chk C sc fb b y
    | none => false)
  | .chn o p a b c, e => (match xChn e with
    | some (x, o', y, p', z) => decide (o' = copP o) && decide (p' = copP p) && chk C sc fb a x && chk C sc fb b y && chk C sc fb c z
    | none => false)
  | .and a b, e => (match xAnd e with
    | some (x, y, r, p) => chk C sc fb a x && (match r with
      | [] => chk C sc fb b y
      | _ => chk C sc fb b (.BoolOp .And (y :: r) p))
    | none => false)
  | .or a b, e => (match xOr e with
    | some (x, y, r, p) => chk C sc fb a x && (match r with
      | [] => chk C sc fb b y
      | _ => chk C sc fb b (.BoolOp .Or (y :: r) p))
    | none => false)
  | .ite c a b, e => (match xIte e with
    | some (z, x, y) => chk C sc fb c z && chk C sc fb a x && chk C sc fb b y
    | none => false)
  | .idx a i, e => (match xIdx e with
    | some (x, y) => chk C sc fb a x && chk C sc fb i y
    | none => false)
  | .slN a, e => (match xSl e with
    | some (x, none, none) => chk C sc fb a x
    | _ => false)
  | .slL a l, e => (match xSl e with
    | some (x, some y, none) => chk C sc fb a x && chk C sc fb l y
    | _ => false)
  | .slU a u, e => (match xSl e with
    | some (x, none, some z) => chk C sc fb a x && chk C sc fb u z
    | _ => false)
  | .slB a l u, e => (match xSl e with
    | some (x, some y, some z) => chk C sc fb a x && chk C sc fb l y && chk C sc fb u z
    | _ => false)
  | .rev a, e => (match xRev e with
    | some x => chk C sc fb a x
    | none => false)
  | .bi b a, e => (match xCall e with
    | some (n, [x]) => decide (n = biN b) && gloB sc n && chk C sc fb a x
    | _ => false)
  | .bi2 b a c, e => (match xCall e with
    | some (n, [x, y]) => decide (b = .max ∨ b = .min) && decide (n = biN b) && gloB sc n && chk C sc fb a x && chk C sc fb c y
    | _ => false)
  | .biI b i, e => (match xCall e with
    | some (n, [x]) => decide (b = .list ∨ b = .tuple) && isRng i && decide (n = biN b) && gloB sc n && chkI C sc fb (.nm 0) i x
    | _ => false)
  | .call f es, e => (match xCall e with
    | some (n, xs) => decide (C.fns[f]? = some n) && gloB sc n && goodN n && !es.isEmpty && decide (es.length ≤ 20) && chkL C sc fb es xs
    | none => false)
  | .cala f es, e => (match xCall e with
    | some (n, xs) => decide (C.fns[f]? = some n) && gloB sc n && goodN n && !es.isEmpty && decide (es.length ≤ 20) && chkL C sc fb es xs
    | none => false)
  | .lc elt ow t it cs, e => (match xLc e with
    | some (el, tg, iter, ifs, scope) => L2.blkC C.N sc scope (ownOf C ow) && chkT C (L2.relS scope sc) (some scope) t tg && chkI C sc fb t it iter &&
      chkL C (L2.relS scope sc) (some scope) cs ifs && chk C (L2.relS scope sc) (some scope) elt el
    | none => false)
  | .tge x k, e => fldB C sc x (tkey k) e
  | .tln x, e => (match xCall e with
    | some (n, [a]) => decide (n = ("len" : Str)) && gloB sc n && fldB C sc x (some "cells") a
    | _ => false)
  | .tce x i, e => (match xIdx e with
    | some (a, j) => fldB C sc x (some "cells") a && chk C sc fb i j
    | none => false)
def chkL (C : Cst) (sc : Scope) (fb : Option Scope) : List E → List Expr → Bool
  | [], [] => true
  | a :: as, e :: es => chk C sc fb a e && chkL C sc fb as es
  | _, _ => false
def chkI (C : Cst) (sc : Scope) (fb : Option Scope) (t : T) : I → Expr → Bool
  | .val a, e => chk C sc fb a e
  | .rng a, e => (match xCall e with
    | some (n, [x]) => decide (n = ("range" : Str)) && gloB sc n && chk C sc fb a x
    | _ => false)
  | .rng2 a b, e => (match xCall e with
    | some (n, [x, y]) => decide (n = ("range" : Str)) && gloB sc n && chk C sc fb a x && chk C sc fb b y
    | _ => false)
  | .zip a b, e => (match xCall e, t with
    | some (n, [x, y]), .tp _ => decide (n = ("zip" : Str)) && gloB sc n && chk C sc fb a x && chk C sc fb b y
    | _, _ => false)
  | .enm a, e => (match xCall e, t with
    | some (n, [x]), .tp _ => decide (n = ("enumerate" : Str)) && gloB sc n && chk C sc fb a x
    | _, _ => false)
end
end Py

/-! EvF: what an expression's rule says; new values; the frame of the proof. -/
namespace Py
open PySem (Str Addr Expr Stmt Scope NameKind Const Comprehension Operator CmpOp Value)
open L2
variable [kf : Kf]

/-! ### answers -/
def Sat {α : Type} : R α → (α → Tp → Prop) → (Nat → List D → Tp → Prop) → Prop
  | .ok a t, P, _ => P a t
  | .ex k ds t, _, X => X k ds t
  | .bad, _, _ => False
theorem Sat.bind {α β : Type} {r : R α} {f : α → Tp → R β} {P : β → Tp → Prop} {X : Nat → List D → Tp → Prop} (h : Sat (r.bind f) P X) : Sat r (fun a t => Sat (f a t) P X) X := by
  cases r <;> exact h
theorem Sat.mono {α : Type} {r : R α} {P P' : α → Tp → Prop} {X X' : Nat → List D → Tp → Prop} (h : Sat r P X) (hp : ∀ a t, P a t → P' a t) (hx : ∀ k ds t, X k ds t → X' k ds t) : Sat r P' X' := by
  cases r with
  | ok a t => exact hp a t h
  | ex k ds t => exact hx k ds t h
  | bad => exact h
theorem Sat.of {α : Type} {o : Option α} {t : Tp} {P : α → Tp → Prop} {X : Nat → List D → Tp → Prop} (h : Sat (R.of o t) P X) : ∃ a, o = some a ∧ P a t := by
  cases o with
  | none => exact h.elim
  | some a => exact ⟨a, rfl, h⟩

/-! ### the tape in the heap -/
def tapeKv (t : Tape) (tc : Addr) : List (Key × V) :=
  [(.inr "cells", .ref tc), (.inr "at", .int t.pos), (.inr "left", .int t.left), (.inr "seed", .int t.seed), (.inr "salt", .int t.salt)]
def TapeSt (H : Hp) (ta : Option Addr) : Tp → Prop
  | none => ta = none
  | some t => ∃ a tc o, ta = some a ∧ H a = some (.dK (tapeKv t tc)) ∧ H tc = some (.frz o (.lst (t.cells.map V.int)))
theorem TapeSt.upd {H : Hp} {ta : Option Addr} {τ : Tp} {p : Addr} {o : HO} (h : TapeSt H ta τ) (hp : H p = none) : TapeSt (upd H p o) ta τ := by
  cases τ with
  | none => exact h
  | some t =>
    obtain ⟨a, tc, ob, e, h1, h2⟩ := h
    exact ⟨a, tc, ob, e, by rw [upd_ne (ne_of_none h1 hp)]; exact h1, by rw [upd_ne (ne_of_none h2 hp)]; exact h2⟩

/-- how an error lies: its kind, its fields -/
abbrev XPr := Nat → List D → Hp → Value → Option Addr → Prop
def EPo (XP : XPr) (Ex : XK) (H : Hp) (Z : Addr → Prop) (ta : Option Addr) (As : Fps) : Nat → List D → Tp → Prop := fun k ds τ =>
  ∀ H' Z' ta' cls dx, Gw H Z ta As H' Z' ta' [] → TapeSt H' ta' τ → XP k ds H' cls dx → Ex cls dx H'
theorem EPo.gw {XP : XPr} {Ex : XK} {H H1 : Hp} {Z Z1 : Addr → Prop} {ta t1 : Option Addr} {As A1 : Fps} {k : Nat} {ds : List D} {τ : Tp} (h : EPo XP Ex H Z ta As k ds τ) (g : Gw H Z ta As H1 Z1 t1 A1) : EPo XP Ex H1 Z1 t1 A1 k ds τ :=
  fun H' Z' ta' cls dx g' T' x => h H' Z' ta' cls dx (g.trans g') T' x
def OPo (L : List Nat) (ρ : Loc) (σ : List (Option V)) (ty : Ty) (Q : VK) (H : Hp) (Z : Addr → Prop) (ta : Option Addr) (As : Fps) : D → Tp → Prop := fun d τ =>
  ∀ v H' Z' ta' As' A, Gw H Z ta As H' Z' ta' As' → Sta H' Z' ta' L ρ σ As' → TapeSt H' ta' τ → Res H' Z' ta' As' ρ σ ty d v A → (∀ a ∈ A, H a = none) → Q v H'
/-- an expression's reading -/
def tEv (cf : CF) (XP : XPr) (Ex : XK) (e : E) (L L' : List Nat) (ty : Ty) : TE := fun σ H Q =>
  ∃ Z ta As ρ τ, Sta H Z ta L ρ σ As ∧ TapeSt H ta τ ∧ Sat (evE cf e ρ τ) (OPo L' ρ σ ty Q H Z ta As) (EPo XP Ex H Z ta As)
/-- .. as a test -/
def tEvT (cf : CF) (XP : XPr) (Ex : XK) (e : E) (L L' : List Nat) : TT := fun σ H Q =>
  ∃ Z ta As ρ τ, Sta H Z ta L ρ σ As ∧ TapeSt H ta τ ∧ Sat (asB (evE cf e ρ τ))
    (fun b τ => ∀ H' Z' ta' As', Gw H Z ta As H' Z' ta' As' → Sta H' Z' ta' L' ρ σ As' → TapeSt H' ta' τ → Q b H') (EPo XP Ex H Z ta As)
theorem _root_.L2.PE.imp {X : Cx} {e : Expr} {t t' : TE} (h : PE X e t) (w : ∀ σ H Q, t' σ H Q → t σ H Q) : PE X e t' := ⟨fun pins s σ H Q I q => h.run pins s σ H Q I (w σ H Q q)⟩
theorem _root_.L2.PT.imp {X : Cx} {e : Expr} {t t' : TT} (h : PT X e t) (w : ∀ σ H Q, t' σ H Q → t σ H Q) : PT X e t' := ⟨fun pins s σ H Q I q => h.run pins s σ H Q I (w σ H Q q)⟩
theorem _root_.L2.PA.imp {X : Cx} {e : List Expr} {t t' : TA} (h : PA X e t) (w : ∀ σ H Q, t' σ H Q → t σ H Q) : PA X e t' := ⟨fun pos pins s σ H Q I q => h.run pos pins s σ H Q I (w σ H Q q)⟩

/-! ### use of values, with all that goes on -/
theorem Sta.zt {H : Hp} {Z : Addr → Prop} {ta : Option Addr} {L : List Nat} {ρ : Loc} {σ : List (Option V)} {As : Fps} (S : Sta H Z ta L ρ σ As) : ∀ a, Z a → ta ≠ some a := fun a z => (S.zin a z).2
theorem Res.useG {H H0 : Hp} {Z Z0 : Addr → Prop} {ta t0 : Option Addr} {As As0 : Fps} {ρ : Loc} {σ : List (Option V)} {L : List Nat} {ty : Ty} {d : D} {v : V} {A : List Addr} (S : Sta H Z ta L ρ σ As) (r : Res H Z ta As ρ σ ty d v A)
    (g : Gw H0 Z0 t0 As0 H Z ta As) (f : ∀ a ∈ A, H0 a = none) (j : Nat) :
    ∃ Z' As', Sta H Z' ta (relax L j ty.rs) ρ σ As' ∧ Gw H0 Z0 t0 As0 H Z' ta As' ∧ (∀ a, Z a → Z' a) ∧ Lo H Z' ta j d v ∧
      ∀ ty2 d2 v2 A2, (∀ a ∈ A2, a ∉ A) → Res H Z ta As ρ σ ty2 d2 v2 A2 → Res H Z' ta As' ρ σ ty2 d2 v2 A2 := by
  obtain ⟨Z', As', S', hz, hs, hn, l⟩ := r.use S j
  refine ⟨Z', As', S', ⟨g.keep, g.ex, g.tad, g.tnew, fun a z => hz a (g.z a z), fun a z => ?_, fun a ha => g.sub a (hs a ha)⟩, hz, l, fun ty2 d2 v2 A2 dj r2 => ?_⟩
  · rcases hn a z with z | z | z
    · exact g.znew a z
    · exact .inr (.inl (g.sub a z))
    · exact .inr (.inr (f a z))
  · cases r2 with
    | tm t =>
      refine .tm ⟨t.ow.z hz, t.nod, fun a ha => ?_⟩
      obtain ⟨s1, s2, s3, s4⟩ := t.sep a ha
      refine ⟨fun z => ?_, fun z => s2 (hs a z), s3, s4⟩
      rcases hn a z with z | z | z
      · exact s1 z
      · exact s2 z
      · exact dj a ha z
    | bo x dep hm b => exact .bo x dep hm b
theorem Res.there {H : Hp} {Z : Addr → Prop} {ta : Option Addr} {As : Fps} {ρ : Loc} {σ : List (Option V)} {ty : Ty} {d : D} {v : V} {A : List Addr} (r : Res H Z ta As ρ σ ty d v A) : ∃ A', Res H Z ta As ρ σ ty d v A' ∧ (∀ a ∈ A', H a ≠ none ∧ a ∈ A) := by
  cases r with
  | tm t => exact ⟨A, .tm t, fun a ha => ⟨(t.sep a ha).2.2.2, ha⟩⟩
  | bo x dep hm b => exact ⟨[], .bo x dep hm b, fun _ ha => by cases ha⟩
/-- two values are used, one reckoned ahead of the other -/
theorem use2 {H0 H1 H : Hp} {Z0 Z1 Z : Addr → Prop} {t0 t1 ta : Option Addr} {As0 As1 As : Fps} {ρ : Loc} {σ : List (Option V)} {L1 L : List Nat} {ty1 ty2 : Ty} {d1 d2 : D} {v1 v2 : V} {A1 A2 : List Addr}
    (S1 : Sta H1 Z1 t1 L1 ρ σ As1) (r1 : Res H1 Z1 t1 As1 ρ σ ty1 d1 v1 A1) (g1 : Gw H0 Z0 t0 As0 H1 Z1 t1 As1) (f1 : ∀ a ∈ A1, H0 a = none)
    (S : Sta H Z ta L ρ σ As) (r2 : Res H Z ta As ρ σ ty2 d2 v2 A2) (g2 : Gw H1 Z1 t1 As1 H Z ta As) (f2 : ∀ a ∈ A2, H1 a = none) (i j : Nat) :
    ∃ Z' As', Sta H Z' ta (relax (relax L i ty1.rs) j ty2.rs) ρ σ As' ∧ Gw H0 Z0 t0 As0 H Z' ta As' ∧ Lo H Z' ta i d1 v1 ∧ Lo H Z' ta j d2 v2 := by
  obtain ⟨A1', r1', q1⟩ := r1.there
  have r1h := r1'.gw g2 S1.tk S1.zt
  have g02 := g1.trans g2
  obtain ⟨Z', As', S', g', hz, l1, tr⟩ := r1h.useG S g02 (fun a ha => f1 a (q1 a ha).2) i
  have r2' := tr ty2 d2 v2 A2 (fun a ha hb => (q1 a hb).1 (f2 a ha)) r2
  have back : ∀ a ∈ A2, H0 a = none := fun a ha => by
    cases q : H0 a with
    | none => rfl
    | some o => exact absurd (f2 a ha) (g1.ex a (by rw [q]; exact Option.some_ne_none _))
  obtain ⟨Z2, As2, S2, g2', hz2, l2, _⟩ := r2'.useG S' g' back j
  exact ⟨Z2, As2, S2, g2', l1.z hz2, l2⟩
theorem fresh_back {H0 H1 : Hp} {Z0 Z1 : Addr → Prop} {t0 t1 : Option Addr} {As0 As1 : Fps} (g : Gw H0 Z0 t0 As0 H1 Z1 t1 As1) {A : List Addr} (f : ∀ a ∈ A, H1 a = none) : ∀ a ∈ A, H0 a = none := fun a ha => by
  cases q : H0 a with
  | none => rfl
  | some o => exact absurd (f a ha) (g.ex a (by rw [q]; exact Option.some_ne_none _))

/-! ### new values -/
inductive New (H : Hp) (Z : Addr → Prop) (ta : Option Addr) : D → V → Hp → Prop where
  | int (i : Int) : New H Z ta (.int i) (.int i) H
  | bl (b : Bool) : New H Z ta (.bl b) (.bl b) H
  | non : New H Z ta .non .non H
  | str (s : Str) : s.length ≤ LIM → New H Z ta (.str s) (.str s) H
  | lst (p : Addr) (ds : List D) (vs : List V) : H p = none → Rps H Z ta ds vs → New H Z ta (.lst ds) (.ref p) (upd H p (.lst vs))
  | tup (p : Addr) (ds : List D) (vs : List V) : H p = none → Rps H Z ta ds vs → New H Z ta (.tup ds) (.ref p) (upd H p (.tup vs))
  | same (a : Addr) (ds : List D) (vs : List V) : H a = some (.tup vs) → Rps H Z ta ds vs → New H Z ta (.tup ds) (.ref a) H
theorem upd_keep {H : Hp} {p a : Addr} {o u : HO} (hp : H p = none) (h : H a = some u) : upd H p o a = some u := by
  rw [upd_ne (ne_of_none h hp)]; exact h
theorem Rps.upd {H : Hp} {Z : Addr → Prop} {ta : Option Addr} {p : Addr} {o : HO} {ds : List D} {vs : List V} (hp : H p = none) (h : Rps H Z ta ds vs) : Rps (L2.upd H p o) Z ta ds vs :=
  Rps.mono (fun a xs e => upd_keep hp e) (fun a o u e => upd_keep hp e) (fun _ z => z) (fun a o _ e => upd_keep hp e) (fun _ e => e) ds vs h
theorem Ow.upd {H : Hp} {Z : Addr → Prop} {ta : Option Addr} {p : Addr} {o : HO} {k : Nat} {d : D} {v : V} {A : List Addr} (hp : H p = none) (h : Ow H Z ta k d v A) : Ow (L2.upd H p o) Z ta k d v A :=
  Ow.mono (fun a xs e => upd_keep hp e) (fun a o u e => upd_keep hp e) (fun _ z => z) (fun a o _ e => upd_keep hp e) (fun _ e => e) k d v A (fun a _ o e => upd_keep hp e) h
theorem Gw.upd {H : Hp} {Z : Addr → Prop} {ta : Option Addr} {As : Fps} {p : Addr} {o : HO} (hp : H p = none) : Gw H Z ta As (L2.upd H p o) Z ta As :=
  ⟨fun a u e _ => upd_keep hp e, fun a e => by
    by_cases h : a = p
    · subst h; exact absurd hp e
    · rw [upd_ne h]; exact e, fun _ e => e, fun _ e => .inl e, fun _ e => e, fun _ e => .inl e, fun _ e => e⟩
theorem Sta.upd {H : Hp} {Z : Addr → Prop} {ta : Option Addr} {L : List Nat} {ρ : Loc} {σ : List (Option V)} {As : Fps} {p : Addr} {o : HO} (S : Sta H Z ta L ρ σ As) (hp : H p = none) : Sta (L2.upd H p o) Z ta L ρ σ As := by
  have g := Gw.upd (Z := Z) (ta := ta) (As := As) (o := o) hp
  exact ⟨S.len1, S.len2, fun i d e => let ⟨v, h1, h2⟩ := S.slot i d e; ⟨v, h1, h2.upd hp⟩, S.nod, fun a ha => let ⟨s1, s2, s3⟩ := S.sep a ha; ⟨s1, g.ex a s2, s3⟩, fun a z => let ⟨s1, s2⟩ := S.zin a z; ⟨g.ex a s1, s2⟩,
    fun a e => let ⟨k, h⟩ := S.tk a e; ⟨k, upd_keep hp h⟩⟩
theorem New.fin {H : Hp} {Z : Addr → Prop} {ta : Option Addr} {L : List Nat} {ρ : Loc} {σ : List (Option V)} {As : Fps} {τ : Tp} {d : D} {v : V} {H' : Hp} (n : New H Z ta d v H') (S : Sta H Z ta L ρ σ As) (T : TapeSt H ta τ) :
    Gw H Z ta As H' Z ta As ∧ Sta H' Z ta L ρ σ As ∧ TapeSt H' ta τ ∧ ∃ A, Tm H' Z ta As 1 d v A ∧ ∀ a ∈ A, H a = none := by
  have nofp : ∀ {p : Addr}, H p = none → p ∉ As.flatten := fun hp z => (S.sep _ z).2.1 hp
  cases n with
  | int i => exact ⟨.refl, S, T, [], ⟨by unfold Ow; exact ⟨rfl, rfl⟩, .nil, fun _ h => by cases h⟩, fun _ h => by cases h⟩
  | bl i => exact ⟨.refl, S, T, [], ⟨by unfold Ow; exact ⟨rfl, rfl⟩, .nil, fun _ h => by cases h⟩, fun _ h => by cases h⟩
  | non => exact ⟨.refl, S, T, [], ⟨by unfold Ow; exact ⟨rfl, rfl⟩, .nil, fun _ h => by cases h⟩, fun _ h => by cases h⟩
  | str s hs => exact ⟨.refl, S, T, [], ⟨by unfold Ow; exact ⟨rfl, rfl, hs⟩, .nil, fun _ h => by cases h⟩, fun _ h => by cases h⟩
  | same a ds vs ha h => exact ⟨.refl, S, T, [], ⟨by unfold Ow; exact ⟨a, vs, rfl, ha, Ows.zero.mpr ⟨rfl, h⟩⟩, .nil, fun _ h => by cases h⟩, fun _ h => by cases h⟩
  | lst p ds vs hp h =>
    refine ⟨.upd hp, S.upd hp, T.upd hp, [p], ⟨?_, List.nodup_cons.mpr ⟨fun z => (by cases z), List.Pairwise.nil⟩, fun a ha => ?_⟩, fun a ha => ?_⟩
    · unfold Ow
      exact ⟨p, vs, [], rfl, rfl, upd_same, Ows.zero.mpr ⟨rfl, h.upd hp⟩⟩
    · have e : a = p := by simpa using ha
      subst e
      refine ⟨fun z => (S.zin a z).1 hp, nofp hp, fun z => ?_, by rw [upd_same]; exact Option.some_ne_none _⟩
      obtain ⟨k, q⟩ := S.tk a z
      rw [hp] at q; cases q
    · have e : a = p := by simpa using ha
      subst e; exact hp
  | tup p ds vs hp h =>
    refine ⟨.upd hp, S.upd hp, T.upd hp, [], ⟨?_, .nil, fun _ h => by cases h⟩, fun _ h => by cases h⟩
    unfold Ow
    exact ⟨p, vs, rfl, upd_same, Ows.zero.mpr ⟨rfl, h.upd hp⟩⟩
/-- a new value at the end of an expression -/
theorem New.done {H0 H : Hp} {Z0 Z : Addr → Prop} {t0 ta : Option Addr} {L : List Nat} {ρ : Loc} {σ : List (Option V)} {As0 As : Fps} {τ : Tp} {d : D} {v : V} {H' : Hp} {Q : VK} (n : New H Z ta d v H') (S : Sta H Z ta L ρ σ As) (T : TapeSt H ta τ)
    (g : Gw H0 Z0 t0 As0 H Z ta As) (q : OPo L ρ σ fresh1 Q H0 Z0 t0 As0 d τ) : Q v H' := by
  obtain ⟨g', S', T', A, t, f⟩ := n.fin S T
  exact q v H' Z ta As A (g.trans g') S' T' (.tm t) (fresh_back g f)
/-- an atom, read alone: nothing changes -/
theorem atom_done {H0 H : Hp} {Z0 Z : Addr → Prop} {t0 ta : Option Addr} {L : List Nat} {ρ : Loc} {σ : List (Option V)} {As0 As : Fps} {τ : Tp} {d : D} {v : V} {Q : VK} (ha : isAtom d = true) (hr : Rp H Z ta d v) (S : Sta H Z ta L ρ σ As) (T : TapeSt H ta τ)
    (g : Gw H0 Z0 t0 As0 H Z ta As) (q : OPo L ρ σ atom Q H0 Z0 t0 As0 d τ) : Q v H := by
  refine q v H Z ta As [] g S T (.tm ⟨?_, .nil, fun _ h => by cases h⟩) fun _ h => by cases h
  cases d with
  | non => unfold Ow; unfold Rp at hr; exact ⟨rfl, hr⟩
  | bl b => unfold Ow; unfold Rp at hr; exact ⟨rfl, hr⟩
  | int b => unfold Ow; unfold Rp at hr; exact ⟨rfl, hr⟩
  | str b => unfold Ow; unfold Rp at hr; exact ⟨rfl, hr⟩
  | _ => cases ha
end Py

/-! EvG: operations on values. -/
namespace Py
open PySem (Str Addr Expr Stmt Scope NameKind Const Comprehension Operator CmpOp Value PyData)
open L2
variable [kf : Kf]

variable {X : Cx}
theorem LIM_eq : PySem.sizeLine = LIM := rfl
theorem Lo.int {H : Hp} {Z : Addr → Prop} {ta : Option Addr} {j : Nat} {i : Int} {v : V} (l : Lo H Z ta j (.int i) v) : v = .int i := by
  obtain ⟨k, A, _, o⟩ := l
  unfold Ow at o
  exact o.2
theorem Lo.bl {H : Hp} {Z : Addr → Prop} {ta : Option Addr} {j : Nat} {i : Bool} {v : V} (l : Lo H Z ta j (.bl i) v) : v = .bl i := by
  obtain ⟨k, A, _, o⟩ := l
  unfold Ow at o
  exact o.2
theorem smallI_iff {i : Int} (h : smallI i = true) : i.natAbs < 2 ^ 4000 := of_decide_eq_true h

/-- a two-place rule that makes a new value -/
def OpN (X : Cx) (f : Value → Value → PySem.Sem Value) (op : D → D → Option D) : Prop :=
  ∃ r, OpR X f r ∧ ∀ H Z ta dx dy d v1 v2 (Q : VK), Lo H Z ta 1 dx v1 → Lo H Z ta 1 dy v2 → op dx dy = some d → (∀ v H', New H Z ta d v H' → Q v H') → r v1 v2 H Q

theorem n_add : OpN X (PySem.binaryOp .Add) (binop .add) := by
  refine ⟨_, op_add.or (op_catA.or op_cat), fun H Z ta dx dy d v1 v2 Q l1 l2 e q => ?_⟩
  cases dx with
  | int i =>
    cases dy with
    | int j =>
      simp only [binop, Option.some.injEq] at e
      subst e
      exact .inl ⟨i, j, l1.int, l2.int, q _ _ (.int _)⟩
    | _ => simp [binop] at e
  | tup xs =>
    cases dy with
    | tup ys =>
      simp only [binop] at e
      split at e
      · rename_i hl
        simp only [Option.some.injEq] at e
        subst e
        obtain ⟨a, vs, rfl, ha, ra⟩ := l1.tup
        obtain ⟨b, ws, rfl, hb, rb⟩ := l2.tup
        have n1 := ra.len
        have n2 := rb.len
        refine .inr (.inl ⟨a, b, vs, ws, rfl, rfl, SqT.of ha, SqT.of hb, by rw [← n1, ← n2]; exact hl, fun e => ?_, fun _ e => ?_, fun _ _ p hp => ?_⟩)
        · subst e
          have : xs = [] := by simpa using n1
          subst this
          exact q _ _ (.same b ys ws hb rb)
        · subst e
          have : ys = [] := by simpa using n2
          subst this
          rw [List.append_nil] at q
          exact q _ _ (.same a xs vs ha ra)
        · exact q _ _ (.tup p _ _ hp (ra.app rb))
      · cases e
    | _ => simp [binop] at e
  | lst xs =>
    cases dy with
    | lst ys =>
      simp only [binop] at e
      split at e
      · rename_i hl
        simp only [Option.some.injEq] at e
        subst e
        obtain ⟨a, vs, rfl, ha, ra⟩ := l1.lst
        obtain ⟨b, ws, rfl, hb, rb⟩ := l2.lst
        exact .inr (.inr ⟨a, b, vs, ws, rfl, rfl, ha, hb, by rw [← ra.len, ← rb.len]; exact hl, fun p hp => q _ _ (.lst p _ _ hp (ra.app rb))⟩)
      · cases e
    | _ => simp [binop] at e
  | _ => simp [binop] at e
theorem n_sub : OpN X (PySem.binaryOp .Sub) (binop .sub) := by
  refine ⟨_, op_sub, fun H Z ta dx dy d v1 v2 Q l1 l2 e q => ?_⟩
  cases dx with
  | int i =>
    cases dy with
    | int j =>
      simp only [binop, Option.some.injEq] at e
      subst e
      exact ⟨i, j, l1.int, l2.int, q _ _ (.int _)⟩
    | _ => simp [binop] at e
  | _ => simp [binop] at e
theorem n_mul : OpN X (PySem.binaryOp .Mult) (binop .mul) := by
  refine ⟨_, op_mulW.or op_rep, fun H Z ta dx dy d v1 v2 Q l1 l2 e q => ?_⟩
  cases dx with
  | int i =>
    cases dy with
    | int j =>
      simp only [binop] at e
      split at e
      · rename_i hs
        simp only [Option.some.injEq] at e
        subst e
        simp only [Bool.and_eq_true] at hs
        exact .inl ⟨i, j, l1.int, l2.int, wide_mul (smallI_iff hs.1) (smallI_iff hs.2) (by omega) (by omega) (by omega), q _ _ (.int _)⟩
      · cases e
    | _ => simp [binop] at e
  | lst xs =>
    cases dy with
    | int j =>
      simp only [binop] at e
      split at e
      · rename_i hs
        simp only [Option.some.injEq] at e
        subst e
        obtain ⟨a, vs, rfl, ha, ra⟩ := l1.lst
        refine .inr ⟨a, j, vs, rfl, l2.int, ha, by omega, by omega, by rw [← ra.len]; exact hs.1, fun p hp => ?_⟩
        exact q _ _ (.lst p _ _ hp (ra.rep _))
      · cases e
    | _ => simp [binop] at e
  | _ => simp [binop] at e
theorem op_fdivS : OpR X (PySem.binaryOp .FloorDiv) (rI (fun _ j => j ≠ 0 ∧ j.natAbs.log2 < 9000) fun i j => .int (i.fdiv j)) := opI fun _ _ _ _ _ _ _ hc q => PyProof.Rows.floordiv_int hc.1 q (.inl (PyProof.noPylong_of_log2 hc.2))
theorem n_fdiv : OpN X (PySem.binaryOp .FloorDiv) (binop .fdiv) := by
  refine ⟨_, op_fdivS, fun H Z ta dx dy d v1 v2 Q l1 l2 e q => ?_⟩
  cases dx with
  | int i =>
    cases dy with
    | int j =>
      simp only [binop] at e
      split at e
      · rename_i hs
        simp only [Option.some.injEq] at e
        subst e
        simp only [Bool.and_eq_true, decide_eq_true_eq] at hs
        exact ⟨i, j, l1.int, l2.int, ⟨hs.1, Nat.lt_of_lt_of_le (PySem.Flt.log2_lt_of (by omega) (smallI_iff hs.2)) (by omega)⟩, q _ _ (.int _)⟩
      · cases e
    | _ => simp [binop] at e
  | _ => simp [binop] at e
theorem n_mod : OpN X (PySem.binaryOp .Mod) (binop .mod) := by
  refine ⟨_, op_modN, fun H Z ta dx dy d v1 v2 Q l1 l2 e q => ?_⟩
  cases dx with
  | int i =>
    cases dy with
    | int j =>
      simp only [binop] at e
      split at e
      · cases e
      · rename_i hs
        simp only [Option.some.injEq] at e
        subst e
        exact ⟨i, j, l1.int, l2.int, hs, q _ _ (.int _)⟩
    | _ => simp [binop] at e
  | _ => simp [binop] at e
theorem n_bin (o : Bop) : OpN X (PySem.binaryOp (bopP o)) (binop o) := by
  cases o
  · exact n_add
  · exact n_sub
  · exact n_mul
  · exact n_fdiv
  · exact n_mod

/-! ### reading as plain data -/
mutual
def toPy : D → PyData
  | .non => .none | .bl b => .bool b | .int i => .int i | .str s => .str s
  | .tup xs => .tuple (toPys xs) | .lst xs => .list (toPys xs)
  | .dct _ _ => .none | .tape => .none | .scr _ => .none
def toPys : List D → List PyData
  | [] => []
  | x :: xs => toPy x :: toPys xs
end
mutual
theorem Rp.dp {K : PySem.W.Frag} {H : Hp} {Z : Addr → Prop} {ta : Option Addr} : ∀ (n : Nat) (d : D) (v : V), flat n d = true → Rp H Z ta d v → Dp K H v (toPy d)
  | _, .non, v, _, h => by unfold Rp at h; subst h; exact .non
  | _, .bl _, v, _, h => by unfold Rp at h; subst h; exact .bl _
  | _, .int _, v, _, h => by unfold Rp at h; subst h; exact .int _
  | _, .str _, v, f, h => by unfold Rp at h; obtain ⟨rfl, _⟩ := h; exact .str _
  | n, .tup xs, v, f, h => by
    unfold Rp at h
    obtain ⟨a, vs, rfl, ha, hr⟩ := h
    cases n with
    | zero => simp [flat] at f
    | succ n => exact .tup (SqT.of ha) (Rps.dp n xs vs (by simpa [flat] using f) hr)
  | n, .lst xs, v, f, h => by
    unfold Rp at h
    obtain ⟨a, vs, rfl, _, ha, hr⟩ := h
    cases n with
    | zero => simp [flat] at f
    | succ n => exact .lst (SqL.of ha) (Rps.dp n xs vs (by simpa [flat] using f) hr)
  | _, .dct _ _, _, f, _ => by simp [flat] at f
  | _, .tape, _, f, _ => by simp [flat] at f
  | _, .scr _, _, f, _ => by simp [flat] at f
theorem Rps.dp {K : PySem.W.Frag} {H : Hp} {Z : Addr → Prop} {ta : Option Addr} : ∀ (n : Nat) (ds : List D) (vs : List V), flats n ds = true → Rps H Z ta ds vs → DpAll K H vs (toPys ds)
  | _, [], vs, _, h => by unfold Rps at h; subst h; exact .nil
  | n, d :: ds, vs, f, h => by
    unfold Rps at h
    obtain ⟨v, r, rfl, h1, h2⟩ := h
    simp only [flats, Bool.and_eq_true] at f
    exact .cons (Rp.dp n d v f.1 h1) (Rps.dp n ds r f.2 h2)
end
mutual
theorem flat_lay : ∀ (n : Nat) (d : D), flat n d = true → (toPy d).canLay0 = true ∧ (toPy d).depth ≤ n
  | n, .non, _ => ⟨rfl, Nat.zero_le _⟩
  | n, .bl _, _ => ⟨rfl, Nat.zero_le _⟩
  | n, .int _, _ => ⟨rfl, Nat.zero_le _⟩
  | n, .str s, h => ⟨by simpa [toPy, PyData.canLay0, PyData.strOk, flat] using h, Nat.zero_le _⟩
  | n, .tup xs, h => by
    cases n with
    | zero => simp [flat] at h
    | succ n =>
      obtain ⟨h1, h2⟩ := flats_lay n xs (by simpa [flat] using h)
      exact ⟨by simpa [toPy, PyData.canLay0] using h1, by simpa [toPy, PyData.depth] using h2⟩
  | n, .lst xs, h => by
    cases n with
    | zero => simp [flat] at h
    | succ n =>
      obtain ⟨h1, h2⟩ := flats_lay n xs (by simpa [flat] using h)
      exact ⟨by simpa [toPy, PyData.canLay0] using h1, by simpa [toPy, PyData.depth] using h2⟩
  | n, .dct _ _, h => by simp [flat] at h
  | n, .tape, h => by simp [flat] at h
  | n, .scr _, h => by simp [flat] at h
theorem flats_lay : ∀ (n : Nat) (ds : List D), flats n ds = true → PyData.canLayAll0 (toPys ds) = true ∧ PyData.depthAll (toPys ds) ≤ n
  | n, [], _ => ⟨rfl, Nat.zero_le _⟩
  | n, d :: ds, h => by
    simp only [flats, Bool.and_eq_true] at h
    obtain ⟨h1, h2⟩ := flat_lay n d h.1
    obtain ⟨h3, h4⟩ := flats_lay n ds h.2
    exact ⟨by simp [toPys, PyData.canLayAll0, h1, h3], by simp only [toPys, PyData.depthAll]; omega⟩
end
theorem flat_shaped {d : D} (h : flat DEP d = true) : PySem.SeqAt.shaped (toPy d) = true := by
  obtain ⟨h1, h2⟩ := flat_lay DEP d h
  have h2 : (toPy d).depth ≤ 12 := h2
  unfold PySem.SeqAt.shaped
  rw [h1, decide_eq_true (by omega : (toPy d).depth ≤ 64)]
  rfl
mutual
theorem deq_eqv : ∀ (n m : Nat) (d e : D), flat n d = true → flat m e = true → deq d e = PyData.eqv (toPy d) (toPy e)
  | n, m, .non, e, _, h => by cases e <;> first | rfl | (simp [flat] at h)
  | n, m, .bl b, e, _, h => by cases e <;> first | rfl | (simp [flat] at h) | (simp [deq, toPy, PyData.eqv, b2i])
  | n, m, .int i, e, _, h => by cases e <;> first | rfl | (simp [flat] at h) | (simp [deq, toPy, PyData.eqv, b2i])
  | n, m, .str s, e, _, h => by cases e <;> first | rfl | (simp [flat] at h)
  | n, m, .tup xs, e, h0, h => by
    cases e with
    | tup ys =>
      cases n with
      | zero => simp [flat] at h0
      | succ n =>
        cases m with
        | zero => simp [flat] at h
        | succ m =>
          simp only [deq, toPy, PyData.eqv]
          exact deqs_eqv n m xs ys (by simpa [flat] using h0) (by simpa [flat] using h)
    | _ => first | rfl | (simp [flat] at h)
  | n, m, .lst xs, e, h0, h => by
    cases e with
    | lst ys =>
      cases n with
      | zero => simp [flat] at h0
      | succ n =>
        cases m with
        | zero => simp [flat] at h
        | succ m =>
          simp only [deq, toPy, PyData.eqv]
          exact deqs_eqv n m xs ys (by simpa [flat] using h0) (by simpa [flat] using h)
    | _ => first | rfl | (simp [flat] at h)
  | n, m, .dct _ _, e, h, _ => by simp [flat] at h
  | n, m, .tape, e, h, _ => by simp [flat] at h
  | n, m, .scr _, e, h, _ => by simp [flat] at h
theorem deqs_eqv : ∀ (n m : Nat) (ds es : List D), flats n ds = true → flats m es = true → deqs ds es = PyData.eqvAll (toPys ds) (toPys es)
  | _, _, [], [], _, _ => rfl
  | _, _, [], _ :: _, _, _ => rfl
  | _, _, _ :: _, [], _, _ => rfl
  | n, m, d :: ds, e :: es, h, h' => by
    simp only [flats, Bool.and_eq_true] at h h'
    simp only [deqs, toPys, PyData.eqvAll]
    rw [deq_eqv n m d e h.1 h'.1, deqs_eqv n m ds es h.2 h'.2]
end
theorem any_eqv {x : D} (hx : flat DEP x = true) : ∀ (ys : List D), flats DEP ys = true → (ys.any fun y => deq y x) = (toPys ys).any fun z => PyData.eqv z (toPy x)
  | [], _ => rfl
  | y :: ys, h => by
    simp only [flats, Bool.and_eq_true] at h
    simp only [List.any_cons, toPys]
    rw [deq_eqv _ _ y x h.1 hx, any_eqv hx ys h.2]
theorem flats_shaped {ds : List D} (h : flats DEP ds = true) : PySem.SeqAt.shaped (.list (toPys ds)) = true ∧ PySem.SeqAt.shaped (.tuple (toPys ds)) = true := by
  have a := flat_lay (DEP + 1) (.lst ds) (by simpa [flat] using h)
  obtain ⟨h1, h2⟩ := a
  have h2 : PyData.depth (.list (toPys ds)) ≤ 13 := h2
  constructor
  · unfold PySem.SeqAt.shaped
    have h1 : (PyData.list (toPys ds)).canLay0 = true := h1
    rw [h1, decide_eq_true (by omega : (PyData.list (toPys ds)).depth ≤ 64)]
    rfl
  · unfold PySem.SeqAt.shaped
    have h1 : (PyData.tuple (toPys ds)).canLay0 = true := h1
    have h3 : PyData.depth (.tuple (toPys ds)) ≤ 13 := h2
    rw [h1, decide_eq_true (by omega : (PyData.tuple (toPys ds)).depth ≤ 64)]
    rfl
end Py
namespace Py
open PySem (Str Addr Expr Stmt Scope NameKind Const Comprehension Operator CmpOp Value PyData)
open L2
variable [kf : Kf]
variable {X : Cx}
theorem room_tup {A : PySem.Around} {d : PyData} {ds : List PyData} (sd : PySem.SeqAt.shaped d = true) (hu : A.units + 65 < PySem.cLine) : A.units + 1 + min (PyData.depthAll ds) d.depth < PySem.cLine := by
  have h1 := PySem.SeqAt.depth_of_shaped sd
  have h2 : min (PyData.depthAll ds) d.depth ≤ d.depth := Nat.min_le_right _ _
  omega
def rInT (neg : Bool) (K : PySem.W.Frag) : R2 := fun x y H Q => ∃ d ds, Dp K H x d ∧ Dp K H y (.tuple ds) ∧ PySem.SeqAt.shaped d = true ∧ PySem.SeqAt.shaped (.tuple ds) = true ∧
  Q (.bl (if neg then !(ds.any fun z => PyData.eqv z d) else ds.any fun z => PyData.eqv z d)) H
theorem op_inT (hu : X.A.units + 65 < PySem.cLine) : OpR X (PySem.compareOp .In) (rInT false X.K) := by
  intro pins s σ H x y v u Q I rx ry h
  obtain ⟨d, ds, hd, he, sd, se, q⟩ := h
  obtain ⟨as, a1⟩ := Dp.reads I d x v hd rx
  obtain ⟨bs, a2⟩ := Dp.reads I (.tuple ds) y u he ry
  have lay : PyData.canLayAll0 ds = true := PySem.SeqAt.canLay_of_shaped se
  exact PySem.SeqAt.in_tuple_reads a2 a1 lay (PySem.SeqAt.canLay_of_shaped sd) (room_tup sd hu) ⟨.bl _, H, I, rfl, q⟩
theorem op_notInT (hu : X.A.units + 65 < PySem.cLine) : OpR X (PySem.compareOp .NotIn) (rInT true X.K) := by
  intro pins s σ H x y v u Q I rx ry h
  obtain ⟨d, ds, hd, he, sd, se, q⟩ := h
  obtain ⟨as, a1⟩ := Dp.reads I d x v hd rx
  obtain ⟨bs, a2⟩ := Dp.reads I (.tuple ds) y u he ry
  have lay : PyData.canLayAll0 ds = true := PySem.SeqAt.canLay_of_shaped se
  exact PySem.SeqAt.notIn_tuple_reads a2 a1 lay (PySem.SeqAt.canLay_of_shaped sd) (room_tup sd hu) ⟨.bl _, H, I, rfl, q⟩
/-- a comparison that reads alone -/
def CmN (X : Cx) (o : Cop) : Prop :=
  ∃ r, OpR X (PySem.compareOp (copP o)) r ∧ ∀ H Z ta dx dy b v1 v2 (Q : VK), Rp H Z ta dx v1 → Rp H Z ta dy v2 → cmpop o dx dy = some b → Q (.bl b) H → r v1 v2 H Q
theorem Rp.int' {H : Hp} {Z : Addr → Prop} {ta : Option Addr} {i : Int} {v : V} (h : Rp H Z ta (.int i) v) : v = .int i := by unfold Rp at h; exact h
theorem isNone_iff {H : Hp} {Z : Addr → Prop} {ta : Option Addr} {d : D} {v : V} (h : Rp H Z ta d v) : isNone d = decide (v = .non) := by
  cases d with
  | non => unfold Rp at h; subst h; rfl
  | bl _ => unfold Rp at h; subst h; rfl
  | int _ => unfold Rp at h; subst h; rfl
  | str _ => unfold Rp at h; obtain ⟨rfl, _⟩ := h; rfl
  | tup _ => unfold Rp at h; obtain ⟨a, vs, rfl, _⟩ := h; rfl
  | lst _ => unfold Rp at h; obtain ⟨a, vs, rfl, _⟩ := h; rfl
  | dct _ _ => unfold Rp at h; exact h.elim
  | tape => unfold Rp at h; obtain ⟨a, _, rfl⟩ := h; rfl
  | scr _ => unfold Rp at h; obtain ⟨a, rfl, _⟩ := h; rfl
theorem c_ints {op : CmpOp} {o : Cop} {g : Int → Int → Bool} (hr : OpR X (PySem.compareOp op) (rI0 fun i j => .bl (g i j))) (e : copP o = op)
    (h : ∀ dx dy b, cmpop o dx dy = some b → ∃ i j, dx = .int i ∧ dy = .int j ∧ b = g i j) : CmN X o := by
  subst e
  refine ⟨_, hr, fun H Z ta dx dy b v1 v2 Q r1 r2 e q => ?_⟩
  obtain ⟨i, j, rfl, rfl, rfl⟩ := h dx dy b e
  exact ⟨i, j, r1.int', r2.int', q⟩
theorem cmp_ints {o : Cop} (ho : o = .lt ∨ o = .le ∨ o = .gt ∨ o = .ge) {dx dy : D} {b : Bool} (h : cmpop o dx dy = some b) : ∃ i j, dx = .int i ∧ dy = .int j := by
  rcases ho with rfl | rfl | rfl | rfl <;>
  · cases dx with
    | int i =>
      cases dy with
      | int j => exact ⟨i, j, rfl, rfl⟩
      | _ => simp [cmpop] at h
    | _ => simp [cmpop] at h
theorem c_cmp (hu : X.A.units + 65 < PySem.cLine) (o : Cop) : CmN X o := by
  cases o with
  | eq =>
    refine ⟨_, op_eqD (by omega), fun H Z ta dx dy b v1 v2 Q r1 r2 e q => ?_⟩
    simp only [cmpop] at e
    split at e
    · rename_i f
      simp only [Bool.and_eq_true] at f
      simp only [Option.some.injEq] at e
      subst e
      rw [deq_eqv _ _ _ _ f.1 f.2] at q
      exact ⟨_, _, r1.dp DEP _ _ f.1, r2.dp DEP _ _ f.2, flat_shaped f.1, flat_shaped f.2, q⟩
    · cases e
  | ne =>
    refine ⟨_, op_neD (by omega), fun H Z ta dx dy b v1 v2 Q r1 r2 e q => ?_⟩
    simp only [cmpop] at e
    split at e
    · rename_i f
      simp only [Bool.and_eq_true] at f
      simp only [Option.some.injEq] at e
      subst e
      rw [deq_eqv _ _ _ _ f.1 f.2] at q
      exact ⟨_, _, r1.dp DEP _ _ f.1, r2.dp DEP _ _ f.2, flat_shaped f.1, flat_shaped f.2, q⟩
    · cases e
  | lt => exact c_ints op_lt rfl fun dx dy b h => by obtain ⟨i, j, rfl, rfl⟩ := cmp_ints (.inl rfl) h; exact ⟨i, j, rfl, rfl, by simpa [cmpop] using h.symm⟩
  | le => exact c_ints op_le rfl fun dx dy b h => by obtain ⟨i, j, rfl, rfl⟩ := cmp_ints (.inr (.inl rfl)) h; exact ⟨i, j, rfl, rfl, by simpa [cmpop] using h.symm⟩
  | gt => exact c_ints op_gt rfl fun dx dy b h => by obtain ⟨i, j, rfl, rfl⟩ := cmp_ints (.inr (.inr (.inl rfl))) h; exact ⟨i, j, rfl, rfl, by simpa [cmpop] using h.symm⟩
  | ge => exact c_ints op_ge rfl fun dx dy b h => by obtain ⟨i, j, rfl, rfl⟩ := cmp_ints (.inr (.inr (.inr rfl))) h; exact ⟨i, j, rfl, rfl, by simpa [cmpop] using h.symm⟩
  | isin =>
    refine ⟨_, (op_inD hu).or (op_inT hu), fun H Z ta dx dy b v1 v2 Q r1 r2 e q => ?_⟩
    simp only [cmpop] at e
    cases dy with
    | lst ys =>
      simp only [isIn] at e
      split at e
      · rename_i f
        simp only [Bool.and_eq_true] at f
        simp only [Option.some.injEq] at e
        subst e
        rw [any_eqv f.1 _ f.2] at q
        exact .inl ⟨_, _, r1.dp DEP _ _ f.1, r2.dp (DEP + 1) _ _ (by simpa [flat] using f.2), flat_shaped f.1, (flats_shaped f.2).1, q⟩
      · cases e
    | tup ys =>
      simp only [isIn] at e
      split at e
      · rename_i f
        simp only [Bool.and_eq_true] at f
        simp only [Option.some.injEq] at e
        subst e
        rw [any_eqv f.1 _ f.2] at q
        exact .inr ⟨_, _, r1.dp DEP _ _ f.1, r2.dp (DEP + 1) _ _ (by simpa [flat] using f.2), flat_shaped f.1, (flats_shaped f.2).2, q⟩
      · cases e
    | _ => simp [isIn] at e
  | notin =>
    refine ⟨_, (op_notInD hu).or (op_notInT hu), fun H Z ta dx dy b v1 v2 Q r1 r2 e q => ?_⟩
    simp only [cmpop] at e
    cases dy with
    | lst ys =>
      simp only [isIn] at e
      split at e
      · rename_i f
        simp only [Bool.and_eq_true] at f
        simp only [Option.map_some, Option.some.injEq] at e
        subst e
        rw [any_eqv f.1 _ f.2] at q
        exact .inl ⟨_, _, r1.dp DEP _ _ f.1, r2.dp (DEP + 1) _ _ (by simpa [flat] using f.2), flat_shaped f.1, (flats_shaped f.2).1, q⟩
      · cases e
    | tup ys =>
      simp only [isIn] at e
      split at e
      · rename_i f
        simp only [Bool.and_eq_true] at f
        simp only [Option.map_some, Option.some.injEq] at e
        subst e
        rw [any_eqv f.1 _ f.2] at q
        exact .inr ⟨_, _, r1.dp DEP _ _ f.1, r2.dp (DEP + 1) _ _ (by simpa [flat] using f.2), flat_shaped f.1, (flats_shaped f.2).2, q⟩
      · cases e
    | _ => simp [isIn] at e
  | is =>
    refine ⟨_, op_isN, fun H Z ta dx dy b v1 v2 Q r1 r2 e q => ?_⟩
    cases dy with
    | non =>
      simp only [cmpop, Option.some.injEq] at e
      subst e
      rw [isNone_iff r1] at q
      unfold Rp at r2
      exact ⟨r2, q⟩
    | _ => simp [cmpop] at e
  | isnot =>
    refine ⟨_, op_notN, fun H Z ta dx dy b v1 v2 Q r1 r2 e q => ?_⟩
    cases dy with
    | non =>
      simp only [cmpop, Option.some.injEq] at e
      subst e
      rw [isNone_iff r1] at q
      unfold Rp at r2
      exact ⟨r2, q⟩
    | _ => simp [cmpop] at e
end Py

/-! EvH: built-ins, places, slices, truth, on values. -/
namespace Py
open PySem (Str Addr Expr Stmt Scope NameKind Const Comprehension Operator CmpOp Value PyData)
open L2
variable [kf : Kf]
variable {X : Cx}

/-- truth -/
theorem tru_of {K : PySem.W.Frag} {H : Hp} {Z : Addr → Prop} {ta : Option Addr} {d : D} {v : V} {b : Bool} (h : Rp H Z ta d v) (e : truth d = some b) : TruV K v H b := by
  cases d with
  | non => unfold Rp at h; subst h; simp only [truth, Option.some.injEq] at e; exact e.symm
  | bl _ => unfold Rp at h; subst h; simp only [truth, Option.some.injEq] at e; exact e.symm
  | int i => unfold Rp at h; subst h; simp only [truth, Option.some.injEq] at e; exact e.symm
  | str s =>
    unfold Rp at h
    obtain ⟨rfl, hl⟩ := h
    simp only [truth, Option.some.injEq] at e
    refine ⟨hl, ?_⟩
    rw [← e]
    cases s.length with
    | zero => rfl
    | succ n =>
      have a : ((n + 1 : Nat) != 0) = true := by simp
      have b : (((n + 1 : Nat) : Int) != 0) = true := by simp; omega
      rw [a, b]
  | tup xs =>
    unfold Rp at h
    obtain ⟨a, vs, rfl, ha, hr⟩ := h
    simp only [truth, Option.some.injEq] at e
    refine .inr (.inl ⟨vs, SqT.of ha, ?_⟩)
    rw [← e]
    cases xs <;> (unfold Rps at hr)
    · subst hr; rfl
    · obtain ⟨v, r, rfl, _⟩ := hr; rfl
  | lst xs =>
    unfold Rp at h
    obtain ⟨a, vs, rfl, _, ha, hr⟩ := h
    simp only [truth, Option.some.injEq] at e
    refine .inl ⟨vs, SqL.of ha, ?_⟩
    rw [← e]
    cases xs <;> (unfold Rps at hr)
    · subst hr; rfl
    · obtain ⟨v, r, rfl, _⟩ := hr; rfl
  | dct _ _ => unfold Rp at h; exact h.elim
  | tape => cases e
  | scr _ => cases e

theorem ints_rps {H : Hp} {Z : Addr → Prop} {ta : Option Addr} : ∀ {ds : List D} {ns : List Int} {vs : List V}, intsD ds = some ns → Rps H Z ta ds vs → vs = ns.map V.int
  | [], ns, vs, e, h => by
    simp only [intsD, Option.some.injEq] at e
    unfold Rps at h
    subst e h
    rfl
  | d :: ds, ns, vs, e, h => by
    cases d with
    | int i =>
      simp only [intsD, Option.map_eq_some_iff] at e
      obtain ⟨ms, e, rfl⟩ := e
      unfold Rps at h
      obtain ⟨v, r, rfl, h1, h2⟩ := h
      rw [ints_rps e h2, h1.int']
      rfl
    | _ => simp [intsD] at e
theorem bools_rps {H : Hp} {Z : Addr → Prop} {ta : Option Addr} : ∀ {ds : List D} {ns : List Bool} {vs : List V}, boolsD ds = some ns → Rps H Z ta ds vs → vs = ns.map V.bl
  | [], ns, vs, e, h => by
    simp only [boolsD, Option.some.injEq] at e
    unfold Rps at h
    subst e h
    rfl
  | d :: ds, ns, vs, e, h => by
    cases d with
    | bl i =>
      simp only [boolsD, Option.map_eq_some_iff] at e
      obtain ⟨ms, e, rfl⟩ := e
      unfold Rps at h
      obtain ⟨v, r, rfl, h1, h2⟩ := h
      unfold Rp at h1
      rw [bools_rps e h2, h1]
      rfl
    | _ => simp [boolsD] at e
theorem foldl_max : ∀ (r : List Int) (x : Int), (r.foldl max x ∈ x :: r) ∧ ∀ y ∈ x :: r, y ≤ r.foldl max x
  | [], x => ⟨by simp, fun y h => by simp at h; subst h; exact Int.le_refl _⟩
  | z :: r, x => by
    obtain ⟨h1, h2⟩ := foldl_max r (max x z)
    simp only [List.foldl_cons]
    refine ⟨?_, fun y h => ?_⟩
    · rcases List.mem_cons.mp h1 with e | e
      · rw [e]
        by_cases q : x ≤ z
        · rw [Int.max_eq_right q]; simp
        · rw [Int.max_eq_left (by omega)]; simp
      · simp [e]
    · have b := h2 (max x z) List.mem_cons_self
      rcases List.mem_cons.mp h with rfl | h
      · omega
      · rcases List.mem_cons.mp h with rfl | h
        · omega
        · exact h2 y (List.mem_cons_of_mem _ h)
theorem foldl_min : ∀ (r : List Int) (x : Int), (r.foldl min x ∈ x :: r) ∧ ∀ y ∈ x :: r, r.foldl min x ≤ y
  | [], x => ⟨by simp, fun y h => by simp at h; subst h; exact Int.le_refl _⟩
  | z :: r, x => by
    obtain ⟨h1, h2⟩ := foldl_min r (min x z)
    simp only [List.foldl_cons]
    refine ⟨?_, fun y h => ?_⟩
    · rcases List.mem_cons.mp h1 with e | e
      · rw [e]
        by_cases q : x ≤ z
        · rw [Int.min_eq_left q]; simp
        · rw [Int.min_eq_right (by omega)]; simp
      · simp [e]
    · have b := h2 (min x z) List.mem_cons_self
      rcases List.mem_cons.mp h with rfl | h
      · omega
      · rcases List.mem_cons.mp h with rfl | h
        · omega
        · exact h2 y (List.mem_cons_of_mem _ h)
theorem Rp.lst' {H : Hp} {Z : Addr → Prop} {ta : Option Addr} {ds : List D} {v : V} (h : Rp H Z ta (.lst ds) v) : ∃ a vs, v = .ref a ∧ H a = some (.lst vs) ∧ Rps H Z ta ds vs := by
  unfold Rp at h
  obtain ⟨a, vs, e, _, h1, h2⟩ := h
  exact ⟨a, vs, e, h1, h2⟩
theorem Rp.tup' {H : Hp} {Z : Addr → Prop} {ta : Option Addr} {ds : List D} {v : V} (h : Rp H Z ta (.tup ds) v) : ∃ a vs, v = .ref a ∧ H a = some (.tup vs) ∧ Rps H Z ta ds vs := by
  unfold Rp at h
  exact h

/-- a built-in of one argument that hands back an atom: by its name a builtin function or a type -/
inductive BiK (X : Cx) (b : Bi) (P : (List V → Hp → VK → Prop) → Prop) : Prop where
  | fn (id : String) (r : List V → Hp → VK → Prop) : CallR X (.builtin id) r → PySem.bootBuiltins (biN b) = some (.builtin id) → P r → BiK X b P
  | ty (id : String) (r : List V → Hp → VK → Prop) : CallR X (.type id) r → PySem.bootBuiltins (biN b) = some (.type id) → P r → BiK X b P
def bi1P (b : Bi) (r : List V → Hp → VK → Prop) : Prop := ∀ H Z ta dx d v1 (Q : VK), Rp H Z ta dx v1 → bi1 b dx = some d → (∀ v, Rp H Z ta d v → isAtom d = true → Q v H) → r [v1] H Q
theorem truth_ints {prog : PySem.Program} {w : PySem.World} {A : PySem.Around} : ∀ {ns : List Int} {its : List PySem.Value}, Vals (ns.map V.int) its →
    PySem.TruthOf prog w A (fun i v => its.toArray[i]? = some v) (fun i => (ns.map (· != 0)).getD i false) := fun {ns its} h i v s Q E hv hq => by
  have hv' : its[i]? = some v := by simpa using hv
  have hl := h.length
  have hi : i < ns.length := by
    by_cases q : i < its.length
    · rw [List.length_map] at hl; omega
    · rw [List.getElem?_eq_none (by omega)] at hv'; cases hv'
  obtain ⟨u, hu, ru⟩ := h.get (i := i) (x := V.int ns[i]) (by rw [List.getElem?_map, List.getElem?_eq_getElem hi]; rfl)
  rw [hv'] at hu
  cases hu
  obtain ⟨t, rfl⟩ := ru
  refine PySem.P.truthy_int ?_
  have hg : (ns.map (· != 0)).getD i false = (ns[i] != 0) := by rw [List.getD_eq_getElem?_getD, List.getElem?_map, List.getElem?_eq_getElem hi]; rfl
  have hq : Q ((ns.map (· != 0)).getD i false) s := hq
  rw [hg] at hq
  exact hq
def rAnyI (K : PySem.W.Frag) : List V → Hp → VK → Prop := fun vs H Q => ∃ (a : Addr) (ns : List Int), vs = [V.ref a] ∧ SqL K H a (ns.map V.int) ∧ Q (.bl ((ns.map (· != 0)).any id)) H
theorem cr_anyI {X : Cx} (hc : X.calm = true) : CallR X (.builtin "any") (rAnyI X.K) := by
  intro pins s σ H vs us Q I r h
  obtain ⟨a, ns, rfl, hs, q⟩ := h
  obtain ⟨its, rv, hl, _⟩ := I.list hs
  rw [Vals.ref1 r]
  have hlen := rv.length
  refine PySem.call_any_walk (iter_any hl.isList fun s₂ e2 st hne => ?_)
  subst e2
  refine ⟨_, _, _, _, _, _, _, rfl, PySem.Walks.list (A := X.A.in1) (I.ok.hd hc) _ a hne its.toArray, st, truth_ints rv, fun h' tk hk => ?_⟩
  refine ⟨.bl _, H, I.kept fun b o eo => hk b o (fun hmem => ?_) (PySem.Heap.get?_push_of_some _ eo), ?_, q⟩
  · rcases List.mem_cons.mp hmem with e1 | hmem
    · exact absurd (e1 ▸ PySem.Heap.lt_size eo) (Nat.lt_irrefl _)
    · cases hmem
  · show PySem.Value.bool _ = PySem.Value.bool _
    rw [← any_range, List.size_toArray, ← hlen, List.length_map, List.length_map]
theorem b_atom (hc : X.calm = true) (b : Bi) (hb : keepsTop b = false) : BiK X b (bi1P b) := by
  cases b with
  | len =>
    refine .fn "len" _ call_len_seq (by decide +kernel) fun H Z ta dx d v1 Q h e q => ?_
    cases dx with
    | lst xs =>
      simp only [bi1, Option.some.injEq] at e
      subst e
      obtain ⟨a, vs, rfl, ha, hr⟩ := h.lst'
      refine ⟨a, vs, rfl, .inl (SqL.of ha), ?_⟩
      rw [← hr.len]
      exact q _ (by unfold Rp; rfl) rfl
    | tup xs =>
      simp only [bi1, Option.some.injEq] at e
      subst e
      obtain ⟨a, vs, rfl, ha, hr⟩ := h.tup'
      refine ⟨a, vs, rfl, .inr (SqT.of ha), ?_⟩
      rw [← hr.len]
      exact q _ (by unfold Rp; rfl) rfl
    | _ => simp [bi1] at e
  | abs =>
    refine .fn "abs" _ call_abs (by decide +kernel) fun H Z ta dx d v1 Q h e q => ?_
    cases dx with
    | int i =>
      simp only [bi1, Option.some.injEq] at e
      subst e
      exact ⟨i, by rw [h.int'], q _ (by unfold Rp; rfl) rfl⟩
    | _ => simp [bi1] at e
  | int =>
    refine .ty "int" _ call_int1 (by decide +kernel) fun H Z ta dx d v1 Q h e q => ?_
    cases dx with
    | int i =>
      simp only [bi1, Option.some.injEq] at e
      subst e
      exact .inl ⟨i, by rw [h.int'], q _ (by unfold Rp; rfl) rfl⟩
    | bl i =>
      simp only [bi1, Option.some.injEq] at e
      subst e
      unfold Rp at h
      subst h
      exact .inr ⟨i, rfl, q _ (by unfold Rp; rfl) rfl⟩
    | _ => simp [bi1] at e
  | sum =>
    refine .fn "sum" _ (cr_sum hc) (by decide +kernel) fun H Z ta dx d v1 Q h e q => ?_
    cases dx with
    | lst xs =>
      simp only [bi1, Option.map_eq_some_iff] at e
      obtain ⟨ns, e, rfl⟩ := e
      obtain ⟨a, vs, rfl, ha, hr⟩ := h.lst'
      rw [ints_rps e hr] at ha
      exact ⟨a, ns, rfl, SqL.of ha, q _ (by unfold Rp; rfl) rfl⟩
    | _ => simp [bi1] at e
  | any =>
    refine .fn "any" _ (CallR.or (cr_any hc) (cr_anyI hc)) (by decide +kernel) fun H Z ta dx d v1 Q h e q => ?_
    cases dx with
    | lst xs =>
      simp only [bi1] at e
      obtain ⟨a, vs, rfl, ha, hr⟩ := h.lst'
      split at e
      · rename_i bs eb
        cases e
        rw [bools_rps eb hr] at ha
        exact .inl ⟨a, bs, rfl, SqL.of ha, q _ (by unfold Rp; rfl) rfl⟩
      · simp only [Option.map_eq_some_iff] at e
        obtain ⟨ns, e, rfl⟩ := e
        rw [ints_rps e hr] at ha
        exact .inr ⟨a, ns, rfl, SqL.of ha, q _ (by unfold Rp; rfl) rfl⟩
    | _ => simp [bi1] at e
  | all =>
    refine .fn "all" _ (cr_all hc) (by decide +kernel) fun H Z ta dx d v1 Q h e q => ?_
    cases dx with
    | lst xs =>
      simp only [bi1, Option.map_eq_some_iff] at e
      obtain ⟨ns, e, rfl⟩ := e
      obtain ⟨a, vs, rfl, ha, hr⟩ := h.lst'
      rw [bools_rps e hr] at ha
      exact ⟨a, ns, rfl, SqL.of ha, q _ (by unfold Rp; rfl) rfl⟩
    | _ => simp [bi1] at e
  | max =>
    refine .fn "max" _ (cr_max hc) (by decide +kernel) fun H Z ta dx d v1 Q h e q => ?_
    cases dx with
    | lst xs =>
      simp only [bi1, Option.map_eq_some_iff, Option.bind_eq_some_iff] at e
      obtain ⟨m, ⟨ns, e, em⟩, rfl⟩ := e
      obtain ⟨a, vs, rfl, ha, hr⟩ := h.lst'
      rw [ints_rps e hr] at ha
      cases ns with
      | nil => cases em
      | cons x r =>
        simp only [lmax, Option.some.injEq] at em
        subst em
        obtain ⟨f1, f2⟩ := foldl_max r x
        refine ⟨a, x :: r, rfl, SqL.of ha, Nat.succ_pos _, fun m hm hle => ?_⟩
        have : m = r.foldl max x := Int.le_antisymm (f2 m hm) (hle _ f1)
        subst this
        exact q _ (by unfold Rp; rfl) rfl
    | _ => simp [bi1] at e
  | min =>
    refine .fn "min" _ (cr_min hc) (by decide +kernel) fun H Z ta dx d v1 Q h e q => ?_
    cases dx with
    | lst xs =>
      simp only [bi1, Option.map_eq_some_iff, Option.bind_eq_some_iff] at e
      obtain ⟨m, ⟨ns, e, em⟩, rfl⟩ := e
      obtain ⟨a, vs, rfl, ha, hr⟩ := h.lst'
      rw [ints_rps e hr] at ha
      cases ns with
      | nil => cases em
      | cons x r =>
        simp only [lmin, Option.some.injEq] at em
        subst em
        obtain ⟨f1, f2⟩ := foldl_min r x
        refine ⟨a, x :: r, rfl, SqL.of ha, Nat.succ_pos _, fun m hm hle => ?_⟩
        have : m = r.foldl min x := Int.le_antisymm (hle _ f1) (f2 m hm)
        subst this
        exact q _ (by unfold Rp; rfl) rfl
    | _ => simp [bi1] at e
  | list => cases hb
  | tuple => cases hb
def bi1Q (b : Bi) (r : List V → Hp → VK → Prop) : Prop := ∀ H Z ta dx d v1 (Q : VK), Lo H Z ta 1 dx v1 → bi1 b dx = some d → (∀ v H', New H Z ta d v H' → Q v H') → r [v1] H Q
theorem b_copy (b : Bi) (hb : keepsTop b = true) : BiK X b (bi1Q b) := by
  cases b with
  | list =>
    refine .ty "list" _ call_list_of (by decide +kernel) fun H Z ta dx d v1 Q h e q => ?_
    cases dx with
    | lst xs =>
      simp only [bi1, Option.some.injEq] at e
      subst e
      obtain ⟨a, vs, rfl, ha, hr⟩ := h.lst
      exact ⟨a, vs, rfl, .inl (SqL.of ha), fun p hp => q _ _ (.lst p _ _ hp hr)⟩
    | tup xs =>
      simp only [bi1, Option.some.injEq] at e
      subst e
      obtain ⟨a, vs, rfl, ha, hr⟩ := h.tup
      exact ⟨a, vs, rfl, .inr (SqT.of ha), fun p hp => q _ _ (.lst p _ _ hp hr)⟩
    | _ => simp [bi1] at e
  | tuple =>
    refine .ty "tuple" _ call_tuple_of (by decide +kernel) fun H Z ta dx d v1 Q h e q => ?_
    cases dx with
    | lst xs =>
      simp only [bi1, Option.some.injEq] at e
      subst e
      obtain ⟨a, vs, rfl, ha, hr⟩ := h.lst
      exact ⟨a, vs, rfl, .inl ⟨SqL.of ha, fun p hp => q _ _ (.tup p _ _ hp hr)⟩⟩
    | tup xs =>
      simp only [bi1, Option.some.injEq] at e
      subst e
      obtain ⟨a, vs, rfl, ha, hr⟩ := h.tup
      exact ⟨a, vs, rfl, .inr ⟨SqT.of ha, q _ _ (.same a _ _ ha hr)⟩⟩
    | _ => simp [bi1] at e
  | _ => cases hb
def bi2P (b : Bi) (r : List V → Hp → VK → Prop) : Prop := ∀ H Z ta dx dy d v1 v2 (Q : VK), Rp H Z ta dx v1 → Rp H Z ta dy v2 → bi2 b dx dy = some d → (∀ v, Rp H Z ta d v → isAtom d = true → Q v H) → r [v1, v2] H Q
theorem b_two (hc : X.calm = true) (b : Bi) (hb : b = .max ∨ b = .min) : BiK X b (bi2P b) := by
  rcases hb with rfl | rfl
  · refine .fn "max" _ (call_max2 hc) (by decide +kernel) fun H Z ta dx dy d v1 v2 Q h1 h2 e q => ?_
    cases dx with
    | int i =>
      cases dy with
      | int j =>
        simp only [bi2, Option.some.injEq] at e
        subst e
        exact ⟨i, j, by rw [h1.int', h2.int'], q _ (by unfold Rp; rfl) rfl⟩
      | _ => simp [bi2] at e
    | _ => simp [bi2] at e
  · refine .fn "min" _ (call_min2 hc) (by decide +kernel) fun H Z ta dx dy d v1 v2 Q h1 h2 e q => ?_
    cases dx with
    | int i =>
      cases dy with
      | int j =>
        simp only [bi2, Option.some.injEq] at e
        subst e
        exact ⟨i, j, by rw [h1.int', h2.int'], q _ (by unfold Rp; rfl) rfl⟩
      | _ => simp [bi2] at e
    | _ => simp [bi2] at e
theorem bi2_two {b : Bi} {x y d : D} (h : bi2 b x y = some d) : b = .max ∨ b = .min := by
  cases b <;> first | exact .inl rfl | exact .inr rfl | (simp [bi2] at h)

/-! ### places, slices -/
theorem at_same {α : Type} (xs : List α) (i : Int) : atI xs i = at? xs i := by
  unfold atI ixN at?
  by_cases h : 0 ≤ i
  · rw [if_pos h, if_pos h]
    by_cases h2 : i < xs.length
    · rw [if_pos h2]; rfl
    · rw [if_neg h2]
      rw [List.getElem?_eq_none (by omega)]
      rfl
  · rw [if_neg h, if_neg h]
    by_cases h2 : -(xs.length : Int) ≤ i
    · rw [if_pos h2, if_pos h2]; rfl
    · rw [if_neg h2, if_neg h2]; rfl
theorem at_get {α : Type} {xs : List α} {i : Int} {v : α} (h : at? xs i = some v) : ∃ j : Nat, xs[j]? = some v ∧ ∀ {β : Type} (ys : List β), ys.length = xs.length → at? ys i = ys[j]? := by
  unfold at? at h
  by_cases h0 : 0 ≤ i
  · rw [if_pos h0] at h
    exact ⟨_, h, fun ys _ => by unfold at?; rw [if_pos h0]⟩
  · rw [if_neg h0] at h
    split at h
    · rename_i h1
      exact ⟨_, h, fun ys e => by unfold at?; rw [if_neg h0, e, if_pos h1]⟩
    · cases h
theorem clip_same (n d : Nat) (o : Option Int) (hd : d ≤ n) : HT.sIx n d o = clip n d o := by
  cases o with
  | none => rfl
  | some i =>
    have h := HT.clip_eq i n d
    unfold clip
    by_cases h0 : 0 ≤ i
    · rw [if_neg (by omega)] at h
      simp only [if_pos h0]
      omega
    · rw [if_pos (by omega)] at h
      simp only [if_neg h0]
      omega
theorem cut_same (vs : List V) (l u : Option Int) : cutV vs l u = cut vs l u := by
  unfold cutV cut
  rw [clip_same _ _ l (Nat.zero_le _), clip_same _ _ u (Nat.le_refl _)]
theorem Rps.cut {H : Hp} {Z : Addr → Prop} {ta : Option Addr} {ds : List D} {vs : List V} (l u : Option Int) (h : Rps H Z ta ds vs) : Rps H Z ta (Py.cut ds l u) (Py.cut vs l u) := by
  unfold Py.cut
  rw [h.len]
  exact (h.drop _).take _
theorem sl_rule : ∃ r, SlR X r ∧ ∀ H Z ta dx d v1 l u (Q : VK), Lo H Z ta 1 dx v1 → slice dx l u = some d → (∀ v H', New H Z ta d v H' → Q v H') → r v1 l u H Q := by
  refine ⟨_, sl_list.or sl_tupA, fun H Z ta dx d v1 l u Q h e q => ?_⟩
  cases dx with
  | lst xs =>
    simp only [slice, Option.some.injEq] at e
    subst e
    obtain ⟨a, vs, rfl, ha, hr⟩ := h.lst
    refine .inl ⟨a, vs, rfl, SqL.of ha, fun p hp => ?_⟩
    rw [cut_same]
    exact q _ _ (.lst p _ _ hp (hr.cut l u))
  | tup xs =>
    simp only [slice, Option.some.injEq] at e
    subst e
    obtain ⟨a, vs, rfl, ha, hr⟩ := h.tup
    refine .inr ⟨a, vs, rfl, SqT.of ha, fun hw => ?_, fun _ p hp => ?_⟩
    · rw [clip_same _ _ l (Nat.zero_le _), clip_same _ _ u (Nat.le_refl _)] at hw
      have e : Py.cut xs l u = xs := by
        unfold Py.cut
        rw [hr.len, hw.1, hw.2, List.drop_zero, Nat.sub_zero, ← hr.len, List.take_length]
      rw [e] at q
      exact q _ _ (.same a _ _ ha hr)
    · rw [cut_same]
      exact q _ _ (.tup p _ _ hp (hr.cut l u))
  | _ => simp [slice] at e
end Py

/-! EvI: the rules of expressions, one a construct. -/
namespace Py
open PySem (Str Addr Expr Stmt Scope NameKind Const Comprehension Operator CmpOp Value PyData)
open L2
variable [kf : Kf]

/-- what a call promises -/
def spF (cf : CF) (XP : XPr) (f lv np : Nat) : Sp := fun vs H Q E => ∃ Z ta ds τ, vs.length = np ∧ Rps H Z ta ds vs ∧ (∀ a, Z a → H a ≠ none ∧ ta ≠ some a) ∧ (∀ a, ta = some a → ∃ kvs, H a = some (.dK kvs)) ∧ TapeSt H ta τ ∧
  Sat (cf f ds τ) (fun d τ' => ∀ v H' Z' ta' A, Gw H Z ta [] H' Z' ta' [] → (∀ a, Z' a → H' a ≠ none ∧ ta' ≠ some a) → (∀ a, ta' = some a → ∃ kvs, H' a = some (.dK kvs)) → TapeSt H' ta' τ' → Tm H' Z' ta' [] lv d v A → (∀ a ∈ A, H a = none) → Q v H')
    (EPo XP E H Z ta [])
structure FnK (X : Cx) (cf : CF) (XP : XPr) (Ex : XK) (lv f : Nat) (x : Str) : Prop where
  ex : ∃ CX k fa fd ps, FnOk X.prog X.w X.K X.mg X.base CX k fa fd ps (spF cf XP f lv ps.length) ∧ Room k X.A ∧ X.mg x = some (.ref fa) ∧ PySem.W.keepIn X.K (.ref fa) = true ∧ Binds X.K fd ps [] ∧ Passes CX X Ex ∧ (∀ X' : Cx, Passes CX X' fun _ _ _ => False) ∧ ∀ ds τ, ds.length ≠ ps.length → cf f ds τ = .bad
/-- the proof's context fits the static look -/
structure Cmp (C : Cst) (cf : CF) (XP : XPr) (Ex : XK) (sc : Scope) (fb : Option Scope) (X : Cx) : Prop where
  hN : X.N = C.N
  hK : X.K = kf.K
  nd : X.N.Nodup
  hsc : X.env.scope = sc
  calm : X.calm = true
  hfb : ∀ x, (match fb with
    | none => true
    | some s => s.names.lookup x == some .cell) = true → X.fn x = true
  bi : ∀ x ∈ biAll, X.mg x = none
  hu : X.A.units + 65 < PySem.cLine
  fn : ∀ f x, C.fns[f]? = some x → FnK X cf XP Ex (C.lv f) f x

section
variable {C : Cst} {cf : CF} {XP : XPr} {Ex : XK} {sc : Scope} {fb : Option Scope} {X : Cx} {L La Lb Lc : List Nat} {ty ty1 ty2 : Ty} {a b c i : E} {x y z : Expr} {pos : PySem.Pos}

theorem Cmp.gl (M : Cmp C cf XP Ex sc fb X) {n : Str} (h : gloB sc n = true) : Gl X n := by
  show X.env.scope.names.lookup n = _
  rw [M.hsc]
  unfold gloB at h
  split at h
  · assumption
  · cases h
theorem Cmp.vis (M : Cmp C cf XP Ex sc fb X) {n : Str} (h : visB sc n = true) : Vis X.env.scope n := by
  rw [M.hsc]
  unfold visB at h
  split at h
  · exact .inl (by assumption)
  · exact .inr (.inl (by assumption))
  · exact .inr (.inr (by assumption))
  · cases h
theorem good_dbg {n : Str} (h : goodN n = true) : (n == ("__debug__" : Str)) = false ∧ (n == ("__classdict__" : Str)) = false ∧ n ≠ "__name__" := by
  unfold goodN at h
  simp only [Bool.and_eq_true, Bool.not_eq_true'] at h
  exact ⟨h.1.1, h.1.2, fun e => by rw [e] at h; simp at h⟩

theorem s_var {n : Str} {j : Nat} (M : Cmp C cf XP Ex sc fb X) (h : varB C sc j n = true) : PE X (.Name n pos) (tEv cf XP Ex (.var j) L L ⟨9, [(j, 0)]⟩) := by
  simp only [varB, slotB, Bool.and_eq_true, decide_eq_true_eq] at h
  obtain ⟨⟨h1, h2⟩, h3⟩ := h
  obtain ⟨g1, g2, _⟩ := good_dbg h2
  refine (pe_var (i := j) (by rw [M.hN]; exact h1) (M.vis h3) g1 g2).imp fun σ H Q ⟨Z, ta, As, ρ, τ, S, T, q⟩ => ?_
  obtain ⟨d, hd, q⟩ := q.of
  obtain ⟨v, hv, _⟩ := S.slot j d hd
  refine ⟨v, hv, ?_⟩
  exact q v H Z ta As [] .refl S T (.bo j 0 (List.mem_singleton.mpr rfl) ⟨d, v, hd, hv, .here⟩) fun _ h => by cases h
theorem s_int {z : Int} {k : Nat} : PE X (.Constant (.int z) k pos) (tEv cf XP Ex (.int z) L L atom) :=
  pe_int.imp fun σ H Q ⟨Z, ta, As, ρ, τ, S, T, q⟩ => atom_done (d := .int z) rfl (by unfold Rp; rfl) S T .refl q
theorem s_bl {z : Bool} {k : Nat} : PE X (.Constant (.bool z) k pos) (tEv cf XP Ex (.bl z) L L atom) :=
  pe_bl.imp fun σ H Q ⟨Z, ta, As, ρ, τ, S, T, q⟩ => atom_done (d := .bl z) rfl (by unfold Rp; rfl) S T .refl q
theorem s_non {k : Nat} : PE X (.Constant .none k pos) (tEv cf XP Ex .non L L atom) :=
  pe_non.imp fun σ H Q ⟨Z, ta, As, ρ, τ, S, T, q⟩ => atom_done (d := .non) rfl (by unfold Rp; rfl) S T .refl q
theorem s_str {z : Str} {k : Nat} (h : z.length ≤ LIM) : PE X (.Constant (.str z) k pos) (tEv cf XP Ex (.str z) L L atom) :=
  pe_str.imp fun σ H Q ⟨Z, ta, As, ρ, τ, S, T, q⟩ => atom_done (d := .str z) rfl (by unfold Rp; exact ⟨rfl, h⟩) S T .refl q

/-- a part of an expression, then the rest -/
theorem tEv.go {e : E} {σ : L2.St} {H : Hp} {Z : Addr → Prop} {ta : Option Addr} {As : Fps} {ρ : Loc} {τ : Tp} {β : Type} {f : D → Tp → R β} {P : β → Tp → Prop} {Q : VK} (S : Sta H Z ta L ρ σ As) (T : TapeSt H ta τ)
    (h : Sat ((evE cf e ρ τ).bind f) P (EPo XP Ex H Z ta As))
    (k : ∀ d τ1 v H1 Z1 t1 As1 A1, Gw H Z ta As H1 Z1 t1 As1 → Sta H1 Z1 t1 La ρ σ As1 → TapeSt H1 t1 τ1 → Res H1 Z1 t1 As1 ρ σ ty d v A1 → (∀ a ∈ A1, H a = none) → Sat (f d τ1) P (EPo XP Ex H1 Z1 t1 As1) → Q v H1) :
    tEv cf XP Ex e L La ty σ H Q := by
  refine ⟨Z, ta, As, ρ, τ, S, T, h.bind.mono (fun d τ1 h1 => ?_) fun _ _ _ q => q⟩
  intro v H1 Z1 t1 As1 A1 g S1 T1 r f1
  exact k d τ1 v H1 Z1 t1 As1 A1 g S1 T1 r f1 (h1.mono (fun _ _ q => q) fun _ _ _ q => q.gw g)
theorem OPo.gw {ρ : Loc} {σ : List (Option V)} {Q : VK} {H H1 : Hp} {Z Z1 : Addr → Prop} {ta t1 : Option Addr} {As As1 : Fps} {d : D} {τ : Tp} (h : OPo L ρ σ ty Q H Z ta As d τ) (g : Gw H Z ta As H1 Z1 t1 As1) : OPo L ρ σ ty Q H1 Z1 t1 As1 d τ :=
  fun v H' Z' ta' As' A g' S' T' r f => h v H' Z' ta' As' A (g.trans g') S' T' r (fresh_back g f)

theorem s_bin {o : Bop} (ha : PE X x (tEv cf XP Ex a L La ty1)) (hb : PE X y (tEv cf XP Ex b La Lb ty2)) : PE X (.BinOp x (bopP o) y pos) (tEv cf XP Ex (.bin o a b) L (relax (relax Lb 1 ty1.rs) 1 ty2.rs) fresh1) := by
  obtain ⟨r, ok, rule⟩ := n_bin (X := X) o
  refine (pe_op ok ha hb).imp fun σ H Q ⟨Z, ta, As, ρ, τ, S, T, q⟩ => ?_
  refine tEv.go S T q fun d τ1 v H1 Z1 t1 As1 A1 g1 S1 T1 r1 f1 q => ?_
  refine tEv.go S1 T1 q fun d2 τ2 v2 H2 Z2 t2 As2 A2 g2 S2 T2 r2 f2 q => ?_
  obtain ⟨d3, e, q⟩ := q.of
  obtain ⟨Z', As', S', g', l1, l2⟩ := use2 S1 r1 g1 f1 S2 r2 g2 f2 1 1
  exact rule H2 Z' t2 d d2 d3 v v2 Q l1 l2 e fun w H' n => n.done S' T2 g' q
theorem s_neg (ha : PE X x (tEv cf XP Ex a L La ty1)) : PE X (.UnaryOp .USub x pos) (tEv cf XP Ex (.neg a) L La atom) := by
  refine (pe_un un_neg ha).imp fun σ H Q ⟨Z, ta, As, ρ, τ, S, T, q⟩ => ?_
  refine tEv.go S T q fun d τ1 v H1 Z1 t1 As1 A1 g1 S1 T1 r1 f1 q => ?_
  obtain ⟨d3, e, q⟩ := q.of
  cases d with
  | int j =>
    simp only [isInt, Option.map_some, Option.some.injEq] at e
    subst e
    have h := r1.rd S1
    exact ⟨j, h.int', atom_done rfl (by unfold Rp; rfl) S1 T1 g1 q⟩
  | _ => simp [isInt] at e
theorem s_not (ha : PE X x (tEv cf XP Ex a L La ty1)) : PE X (.UnaryOp .Not x pos) (tEv cf XP Ex (.not a) L La atom) := by
  refine (pe_notT ha).imp fun σ H Q ⟨Z, ta, As, ρ, τ, S, T, q⟩ => ?_
  refine tEv.go S T q fun d τ1 v H1 Z1 t1 As1 A1 g1 S1 T1 r1 f1 q => ?_
  obtain ⟨d3, e, q⟩ := q.of
  simp only [Option.map_eq_some_iff] at e
  obtain ⟨k, e, rfl⟩ := e
  exact ⟨k, tru_of (r1.rd S1) e, atom_done rfl (by unfold Rp; rfl) S1 T1 g1 q⟩
theorem s_cmp (M : Cmp C cf XP Ex sc fb X) {o : Cop} (hm : PySem.behindInMarks (copP o) y = false) (ha : PE X x (tEv cf XP Ex a L La ty1)) (hb : PE X y (tEv cf XP Ex b La Lb ty2)) : PE X (.Compare x [copP o] [y] pos) (tEv cf XP Ex (.cmp o a b) L Lb atom) := by
  obtain ⟨r, ok, rule⟩ := c_cmp M.hu o
  refine (pe_cmpR ok ha hb hm).imp fun σ H Q ⟨Z, ta, As, ρ, τ, S, T, q⟩ => ?_
  refine tEv.go S T q fun d τ1 v H1 Z1 t1 As1 A1 g1 S1 T1 r1 f1 q => ?_
  refine tEv.go S1 T1 q fun d2 τ2 v2 H2 Z2 t2 As2 A2 g2 S2 T2 r2 f2 q => ?_
  obtain ⟨d3, e, q⟩ := q.of
  simp only [Option.map_eq_some_iff] at e
  obtain ⟨k, e, rfl⟩ := e
  exact rule H2 All t2 d d2 k v v2 Q ((r1.gw g2 S1.tk S1.zt).rd S2) (r2.rd S2) e (atom_done rfl (by unfold Rp; rfl) S2 T2 (g1.trans g2) q)
theorem s_cmpT (M : Cmp C cf XP Ex sc fb X) {o : Cop} (hm : PySem.behindInMarks (copP o) y = false) (ha : PE X x (tEv cf XP Ex a L La ty1)) (hb : PE X y (tEv cf XP Ex b La Lb ty2)) : PT X (.Compare x [copP o] [y] pos) (tEvT cf XP Ex (.cmp o a b) L Lb) := by
  obtain ⟨r, ok, rule⟩ := c_cmp M.hu o
  refine (pt_cmpR ok ha hb hm).imp fun σ H Q ⟨Z, ta, As, ρ, τ, S, T, q⟩ => ?_
  have q := q.bind
  refine tEv.go S T q fun d τ1 v H1 Z1 t1 As1 A1 g1 S1 T1 r1 f1 q => ?_
  refine tEv.go S1 T1 q fun d2 τ2 v2 H2 Z2 t2 As2 A2 g2 S2 T2 r2 f2 q => ?_
  obtain ⟨d3, e, q⟩ := q.of
  simp only [Option.map_eq_some_iff] at e
  obtain ⟨k, e, rfl⟩ := e
  exact rule H2 All t2 d d2 k v v2 _ ((r1.gw g2 S1.tk S1.zt).rd S2) (r2.rd S2) e ⟨k, rfl, q H2 Z2 t2 As2 (g1.trans g2) S2 T2⟩
/-- a test by its value's truth -/
theorem s_truth (ha : PE X x (tEv cf XP Ex a L La ty1)) (he : ∀ whole, PySem.isTrue x X.env whole = (do let v ← whole; PySem.standAt x.pos; PySem.holding [v] (PySem.truthy v))) : PT X x (tEvT cf XP Ex a L La) := by
  refine (pt_truth ha he).imp fun σ H Q ⟨Z, ta, As, ρ, τ, S, T, q⟩ => ?_
  refine tEv.go S T q fun d τ1 v H1 Z1 t1 As1 A1 g1 S1 T1 r1 f1 q => ?_
  obtain ⟨k, e, q⟩ := q.of
  exact ⟨k, tru_of (r1.rd S1) e, q H1 Z1 t1 As1 g1 S1 T1⟩
theorem s_notT (ha : PT X x (tEvT cf XP Ex a L La)) : PT X (.UnaryOp .Not x pos) (tEvT cf XP Ex (.not a) L La) := by
  refine (pt_not ha).imp fun σ H Q ⟨Z, ta, As, ρ, τ, S, T, q⟩ => ?_
  refine ⟨Z, ta, As, ρ, τ, S, T, ?_⟩
  have h : Sat (asB (evE cf a ρ τ)) (fun b τ' => Sat (R.of (truth (.bl (!b))) τ') (fun b τ => ∀ H' Z' ta' As', Gw H Z ta As H' Z' ta' As' → Sta H' Z' ta' La ρ σ As' → TapeSt H' ta' τ → Q b H') (EPo XP Ex H Z ta As)) (EPo XP Ex H Z ta As) := by
    have q : Sat ((((evE cf a ρ τ).bind fun x τ => R.of ((truth x).map fun b => D.bl (!b)) τ)).bind fun d τ => R.of (truth d) τ) _ _ := q
    unfold asB
    cases e : evE cf a ρ τ with
    | ok d t =>
      rw [e] at q
      simp only [R.bind_ok] at q ⊢
      cases e2 : truth d with
      | none => rw [e2] at q; exact q.elim
      | some k => rw [e2] at q; exact q
    | ex k ds t => rw [e] at q; exact q
    | bad => rw [e] at q; exact q
  exact h
end
end Py

/-! EvJ: the rules of expressions, further. -/
namespace Py
open PySem (Str Addr Expr Stmt Scope NameKind Const Comprehension Operator CmpOp Value PyData)
open L2
variable [kf : Kf]
section
variable {C : Cst} {cf : CF} {XP : XPr} {Ex : XK} {sc : Scope} {fb : Option Scope} {X : Cx} {L La Lb Lc : List Nat} {ty ty1 ty2 ty3 : Ty} {a b c i : E} {x y z : Expr} {pos : PySem.Pos}

theorem lev_zero {a : Nat} {as : List Nat} : lev (a :: as) 0 = a := rfl
theorem lev_succ {a i : Nat} {as : List Nat} : lev (a :: as) (i + 1) = lev as i := by unfold lev; rw [List.getD_cons_succ]
theorem lev_minL : ∀ (as bs : List Nat) (i : Nat), lev (minL as bs) i ≤ lev as i ∧ lev (minL as bs) i ≤ lev bs i
  | [], bs, i => by simp [minL, lev]
  | a :: as, [], i => by simp [minL, lev]
  | a :: as, b :: bs, 0 => ⟨Nat.min_le_left _ _, Nat.min_le_right _ _⟩
  | a :: as, b :: bs, i + 1 => by
    have h := lev_minL as bs i
    have e : minL (a :: as) (b :: bs) = min a b :: minL as bs := rfl
    rw [e, lev_succ, lev_succ, lev_succ]
    exact h
/-- a value with more than is asked -/
theorem OPo.take {L' : List Nat} {ty' : Ty} {ρ : Loc} {σ : List (Option V)} {Q : VK} {H0 H : Hp} {Z0 Z : Addr → Prop} {t0 ta : Option Addr} {As0 As : Fps} {d : D} {τ : Tp} {v : V} {A : List Addr}
    (q : OPo L' ρ σ ty' Q H0 Z0 t0 As0 d τ) (g : Gw H0 Z0 t0 As0 H Z ta As) (S : Sta H Z ta L ρ σ As) (T : TapeSt H ta τ) (r : Res H Z ta As ρ σ ty d v A) (f : ∀ a ∈ A, H0 a = none)
    (hl : ∀ i, lev L' i ≤ lev L i) (hk : ty'.k ≤ ty.k) (hr : ∀ p ∈ ty.rs, p ∈ ty'.rs) : Q v H := by
  obtain ⟨Z1, As1, S1, g1⟩ := S.weaks L' hl
  have r1 := r.gw g1 S.tk S.zt
  have g01 := g.trans g1
  cases r1 with
  | bo w dep hm bo => exact q v H Z1 ta As1 A g01 S1 T (.bo w dep (hr _ hm) bo) f
  | tm t =>
    obtain ⟨A', B, p, o⟩ := Ow.weak ty.k ty'.k d v A hk t.ow
    have hB : ∀ b ∈ B, b ∈ A := fun b hb => p.symm.subset (List.mem_append_right _ hb)
    have hA : ∀ b ∈ A', b ∈ A := fun b hb => p.symm.subset (List.mem_append_left _ hb)
    have nd : (A' ++ B).Nodup := p.nodup_iff.mp t.nod
    rw [List.nodup_append] at nd
    have zz : ∀ a, Z1 a → (fun a => Z1 a ∨ a ∈ B) a := fun a z => .inl z
    refine q v H (fun a => Z1 a ∨ a ∈ B) ta As1 A' ⟨g01.keep, g01.ex, g01.tad, g01.tnew, fun a z => .inl (g01.z a z), fun a z => ?_, g01.sub⟩
      ⟨S1.len1, S1.len2, fun j e hj => let ⟨w, hw, ow⟩ := S1.slot j e hj; ⟨w, hw, ow.z zz⟩, S1.nod, fun a ha => ?_, fun a z => ?_, S1.tk⟩ T (.tm ⟨o _ zz fun b hb => .inr hb, nd.1, fun a ha => ?_⟩) fun a ha => f a (hA a ha)
    · rcases z with z | z
      · exact g01.znew a z
      · exact .inr (.inr (f a (hB a z)))
    · obtain ⟨s1, s2, s3⟩ := S1.sep a ha
      exact ⟨fun z => z.elim s1 fun z => (t.sep a (hB a z)).2.1 ha, s2, s3⟩
    · rcases z with z | z
      · exact S1.zin a z
      · obtain ⟨_, _, s3, s4⟩ := t.sep a (hB a z)
        exact ⟨s4, s3⟩
    · obtain ⟨s1, s2, s3, s4⟩ := t.sep a (hA a ha)
      exact ⟨fun z => z.elim s1 fun z => nd.2.2 a ha a z rfl, s2, s3, s4⟩
/-- an expression's reading with another end -/
theorem tEv.imp {e : E} {σ : List (Option V)} {H : Hp} {Z : Addr → Prop} {ta : Option Addr} {As : Fps} {ρ : Loc} {τ : Tp} {P : D → Tp → Prop} {Q : VK} (S : Sta H Z ta L ρ σ As) (T : TapeSt H ta τ)
    (h : Sat (evE cf e ρ τ) P (EPo XP Ex H Z ta As)) (k : ∀ d τ1 v H1 Z1 t1 As1 A1, P d τ1 → Gw H Z ta As H1 Z1 t1 As1 → Sta H1 Z1 t1 La ρ σ As1 → TapeSt H1 t1 τ1 → Res H1 Z1 t1 As1 ρ σ ty d v A1 → (∀ a ∈ A1, H a = none) → Q v H1) :
    tEv cf XP Ex e L La ty σ H Q :=
  ⟨Z, ta, As, ρ, τ, S, T, h.mono (fun d τ1 p v H1 Z1 t1 As1 A1 g S1 T1 r f => k d τ1 v H1 Z1 t1 As1 A1 p g S1 T1 r f) fun _ _ _ q => q⟩
theorem tEvT.go {e : E} {σ : List (Option V)} {H : Hp} {Z : Addr → Prop} {ta : Option Addr} {As : Fps} {ρ : Loc} {τ : Tp} {β : Type} {f : Bool → Tp → R β} {P : β → Tp → Prop} {Q : Bool → Hp → Prop} (S : Sta H Z ta L ρ σ As) (T : TapeSt H ta τ)
    (h : Sat ((asB (evE cf e ρ τ)).bind f) P (EPo XP Ex H Z ta As))
    (k : ∀ d τ1 H1 Z1 t1 As1, Gw H Z ta As H1 Z1 t1 As1 → Sta H1 Z1 t1 La ρ σ As1 → TapeSt H1 t1 τ1 → Sat (f d τ1) P (EPo XP Ex H1 Z1 t1 As1) → Q d H1) : tEvT cf XP Ex e L La σ H Q := by
  refine ⟨Z, ta, As, ρ, τ, S, T, h.bind.mono (fun d τ1 h1 => ?_) fun _ _ _ q => q⟩
  intro H1 Z1 t1 As1 g S1 T1
  exact k d τ1 H1 Z1 t1 As1 g S1 T1 (h1.mono (fun _ _ q => q) fun _ _ _ q => q.gw g)
theorem tEvT.imp {e : E} {σ : List (Option V)} {H : Hp} {Z : Addr → Prop} {ta : Option Addr} {As : Fps} {ρ : Loc} {τ : Tp} {P : Bool → Tp → Prop} {Q : Bool → Hp → Prop} (S : Sta H Z ta L ρ σ As) (T : TapeSt H ta τ)
    (h : Sat (asB (evE cf e ρ τ)) P (EPo XP Ex H Z ta As)) (k : ∀ d τ1 H1 Z1 t1 As1, P d τ1 → Gw H Z ta As H1 Z1 t1 As1 → Sta H1 Z1 t1 La ρ σ As1 → TapeSt H1 t1 τ1 → Q d H1) : tEvT cf XP Ex e L La σ H Q :=
  ⟨Z, ta, As, ρ, τ, S, T, h.mono (fun d τ1 p H1 Z1 t1 As1 g S1 T1 => k d τ1 H1 Z1 t1 As1 p g S1 T1) fun _ _ _ q => q⟩
/-- what is wanted of a test -/
abbrev BPo (L : List Nat) (ρ : Loc) (σ : List (Option V)) (Q : Bool → Hp → Prop) (H : Hp) (Z : Addr → Prop) (ta : Option Addr) (As : Fps) : Bool → Tp → Prop := fun b τ =>
  ∀ H' Z' ta' As', Gw H Z ta As H' Z' ta' As' → Sta H' Z' ta' L ρ σ As' → TapeSt H' ta' τ → Q b H'
theorem BPo.take {L' : List Nat} {ρ : Loc} {σ : List (Option V)} {Q : Bool → Hp → Prop} {H0 H : Hp} {Z0 Z : Addr → Prop} {t0 ta : Option Addr} {As0 As : Fps} {d : Bool} {τ : Tp}
    (q : BPo L' ρ σ Q H0 Z0 t0 As0 d τ) (g : Gw H0 Z0 t0 As0 H Z ta As) (S : Sta H Z ta L ρ σ As) (T : TapeSt H ta τ) (hl : ∀ i, lev L' i ≤ lev L i) : Q d H := by
  obtain ⟨Z1, As1, S1, g1⟩ := S.weaks L' hl
  exact q H Z1 ta As1 (g.trans g1) S1 T

theorem s_and {rest : List Expr} (ha : PE X x (tEv cf XP Ex a L La ty1)) (hb : PE X (.BoolOp .And (y :: rest) pos) (tEv cf XP Ex b La Lb ty2)) :
    PE X (.BoolOp .And (x :: y :: rest) pos) (tEv cf XP Ex (.and a b) L (minL La Lb) ⟨min ty1.k ty2.k, ty1.rs ++ ty2.rs⟩) := by
  refine (pe_andT ha hb).imp fun σ H Q ⟨Z, ta, As, ρ, τ, S, T, q⟩ => ?_
  refine tEv.go S T q fun d τ1 v H1 Z1 t1 As1 A1 g1 S1 T1 r1 f1 q => ?_
  obtain ⟨k, e, q⟩ := q.bind.of
  refine ⟨k, tru_of (r1.rd S1) e, ?_⟩
  cases k with
  | false => exact q.take g1 S1 T1 r1 f1 (fun i => (lev_minL _ _ i).1) (Nat.min_le_left _ _) fun p hp => List.mem_append_left _ hp
  | true => exact tEv.imp S1 T1 q fun d τ1 v H1 Z1 t1 As1 A1 p g S1 T1 r f => (OPo.gw p g1).take g S1 T1 r f (fun i => (lev_minL _ _ i).2) (Nat.min_le_right _ _) fun p hp => List.mem_append_right _ hp
theorem s_or {rest : List Expr} (ha : PE X x (tEv cf XP Ex a L La ty1)) (hb : PE X (.BoolOp .Or (y :: rest) pos) (tEv cf XP Ex b La Lb ty2)) :
    PE X (.BoolOp .Or (x :: y :: rest) pos) (tEv cf XP Ex (.or a b) L (minL La Lb) ⟨min ty1.k ty2.k, ty1.rs ++ ty2.rs⟩) := by
  refine (pe_orT ha hb).imp fun σ H Q ⟨Z, ta, As, ρ, τ, S, T, q⟩ => ?_
  refine tEv.go S T q fun d τ1 v H1 Z1 t1 As1 A1 g1 S1 T1 r1 f1 q => ?_
  obtain ⟨k, e, q⟩ := q.bind.of
  refine ⟨k, tru_of (r1.rd S1) e, ?_⟩
  cases k with
  | true => exact q.take g1 S1 T1 r1 f1 (fun i => (lev_minL _ _ i).1) (Nat.min_le_left _ _) fun p hp => List.mem_append_left _ hp
  | false => exact tEv.imp S1 T1 q fun d τ1 v H1 Z1 t1 As1 A1 p g S1 T1 r f => (OPo.gw p g1).take g S1 T1 r f (fun i => (lev_minL _ _ i).2) (Nat.min_le_right _ _) fun p hp => List.mem_append_right _ hp
theorem asB_and {ρ : Loc} {τ : Tp} {P : Bool → Tp → Prop} {W : Nat → List D → Tp → Prop} (h : Sat (asB (evE cf (.and a b) ρ τ)) P W) : Sat ((asB (evE cf a ρ τ)).bind fun k τ => if k then asB (evE cf b ρ τ) else .ok false τ) P W := by
  unfold asB at *
  rw [show evE cf (.and a b) ρ τ = (evE cf a ρ τ).bind fun x τ => (R.of (truth x) τ).bind fun k τ => if k then evE cf b ρ τ else .ok x τ by rw [evE]] at h
  cases e : evE cf a ρ τ with
  | ok d t =>
    rw [e] at h
    simp only [R.bind_ok] at h ⊢
    cases e2 : truth d with
    | none => rw [e2] at h; exact h
    | some k =>
      rw [e2] at h
      simp only [R.of_some, R.bind_ok] at h ⊢
      cases k with
      | true => exact h
      | false =>
        simp only [Bool.false_eq_true, if_false, R.bind_ok, e2, R.of_some] at h ⊢
        exact h
  | ex k ds t => rw [e] at h; exact h
  | bad => rw [e] at h; exact h
theorem asB_or {ρ : Loc} {τ : Tp} {P : Bool → Tp → Prop} {W : Nat → List D → Tp → Prop} (h : Sat (asB (evE cf (.or a b) ρ τ)) P W) : Sat ((asB (evE cf a ρ τ)).bind fun k τ => if k then .ok true τ else asB (evE cf b ρ τ)) P W := by
  unfold asB at *
  rw [show evE cf (.or a b) ρ τ = (evE cf a ρ τ).bind fun x τ => (R.of (truth x) τ).bind fun k τ => if k then .ok x τ else evE cf b ρ τ by rw [evE]] at h
  cases e : evE cf a ρ τ with
  | ok d t =>
    rw [e] at h
    simp only [R.bind_ok] at h ⊢
    cases e2 : truth d with
    | none => rw [e2] at h; exact h
    | some k =>
      rw [e2] at h
      simp only [R.of_some, R.bind_ok] at h ⊢
      cases k with
      | false => exact h
      | true =>
        simp only [if_true, R.bind_ok, e2, R.of_some] at h ⊢
        exact h
  | ex k ds t => rw [e] at h; exact h
  | bad => rw [e] at h; exact h
theorem s_andT {rest : List Expr} (ha : PT X x (tEvT cf XP Ex a L La)) (hb : PW X (.BoolOp .And (y :: rest) pos) (tEvT cf XP Ex b La Lb)) :
    PW X (.BoolOp .And (x :: y :: rest) pos) (tEvT cf XP Ex (.and a b) L (minL La Lb)) := by
  have w := pw_and ha hb
  refine ⟨fun wh pins s σ H Q I ⟨Z, ta, As, ρ, τ, S, T, q⟩ => w.run wh pins s σ H Q I ?_⟩
  refine tEvT.go S T (asB_and q) fun d τ1 H1 Z1 t1 As1 g1 S1 T1 q => ?_
  cases d with
  | false => exact BPo.take q g1 S1 T1 fun i => (lev_minL _ _ i).1
  | true => exact tEvT.imp S1 T1 q fun d τ1 H1 Z1 t1 As1 p g S1 T1 => BPo.take p (g1.trans g) S1 T1 fun i => (lev_minL _ _ i).2
theorem s_orT {rest : List Expr} (ha : PT X x (tEvT cf XP Ex a L La)) (hb : PW X (.BoolOp .Or (y :: rest) pos) (tEvT cf XP Ex b La Lb)) :
    PW X (.BoolOp .Or (x :: y :: rest) pos) (tEvT cf XP Ex (.or a b) L (minL La Lb)) := by
  have w := pw_or ha hb
  refine ⟨fun wh pins s σ H Q I ⟨Z, ta, As, ρ, τ, S, T, q⟩ => w.run wh pins s σ H Q I ?_⟩
  refine tEvT.go S T (asB_or q) fun d τ1 H1 Z1 t1 As1 g1 S1 T1 q => ?_
  cases d with
  | true => exact BPo.take q g1 S1 T1 fun i => (lev_minL _ _ i).1
  | false => exact tEvT.imp S1 T1 q fun d τ1 H1 Z1 t1 As1 p g S1 T1 => BPo.take p (g1.trans g) S1 T1 fun i => (lev_minL _ _ i).2
theorem s_ite (hc : PT X z (tEvT cf XP Ex c L La)) (ha : PE X x (tEv cf XP Ex a La Lb ty1)) (hb : PE X y (tEv cf XP Ex b La Lc ty2)) :
    PE X (.IfExp z x y pos) (tEv cf XP Ex (.ite c a b) L (minL Lb Lc) ⟨min ty1.k ty2.k, ty1.rs ++ ty2.rs⟩) := by
  refine (pe_ifExp hc ha hb).imp fun σ H Q ⟨Z, ta, As, ρ, τ, S, T, q⟩ => ?_
  refine tEvT.go S T q fun k τ1 H1 Z1 t1 As1 g1 S1 T1 q => ?_
  cases k with
  | true => exact tEv.imp S1 T1 q fun d τ1 v H1 Z1 t1 As1 A1 p g S1 T1 r f => (OPo.gw p g1).take g S1 T1 r f (fun i => (lev_minL _ _ i).1) (Nat.min_le_left _ _) fun p hp => List.mem_append_left _ hp
  | false => exact tEv.imp S1 T1 q fun d τ1 v H1 Z1 t1 As1 A1 p g S1 T1 r f => (OPo.gw p g1).take g S1 T1 r f (fun i => (lev_minL _ _ i).2) (Nat.min_le_right _ _) fun p hp => List.mem_append_right _ hp
theorem s_chn (M : Cmp C cf XP Ex sc fb X) {o p : Cop} (hm : PySem.lastMarks [copP o, copP p] [y, z] = false) (ha : PE X x (tEv cf XP Ex a L La ty1)) (hb : PE X y (tEv cf XP Ex b La Lb ty2)) (hc : PE X z (tEv cf XP Ex c Lb Lc ty3)) :
    PE X (.Compare x [copP o, copP p] [y, z] pos) (tEv cf XP Ex (.chn o p a b c) L (minL Lb Lc) atom) := by
  obtain ⟨r1, ok1, rule1⟩ := c_cmp M.hu o
  obtain ⟨r2, ok2, rule2⟩ := c_cmp M.hu p
  refine (pe_chain ok1 ok2 ha hb hc hm).imp fun σ H Q ⟨Z, ta, As, ρ, τ, S, T, q⟩ => ?_
  refine tEv.go S T q fun d τ1 v H1 Z1 t1 As1 A1 g1 S1 T1 w1 f1 q => ?_
  refine tEv.go S1 T1 q fun d2 τ2 v2 H2 Z2 t2 As2 A2 g2 S2 T2 w2 f2 q => ?_
  obtain ⟨k, e, q⟩ := q.bind.of
  refine rule1 H2 All t2 d d2 k v v2 _ ((w1.gw g2 S1.tk S1.zt).rd S2) (w2.rd S2) e ⟨k, rfl, ?_⟩
  have g02 := g1.trans g2
  cases k with
  | false =>
    refine OPo.take (ty := atom) (A := []) q g02 S2 T2 (.tm ⟨by unfold Ow; exact ⟨rfl, rfl⟩, .nil, fun _ h => by cases h⟩) (fun _ h => by cases h) (fun i => (lev_minL _ _ i).1) (Nat.le_refl _) fun _ h => h
  | true =>
    refine tEv.go S2 T2 q fun d3 τ3 v3 H3 Z3 t3 As3 A3 g3 S3 T3 w3 f3 q => ?_
    obtain ⟨d4, e, q⟩ := q.of
    simp only [Option.map_eq_some_iff] at e
    obtain ⟨k, e, rfl⟩ := e
    refine rule2 H3 All t3 d2 d3 k v2 v3 Q ((w2.gw g3 S2.tk S2.zt).rd S3) (w3.rd S3) e ?_
    refine OPo.take (ty := atom) (A := []) q (g02.trans g3) S3 T3 (.tm ⟨by unfold Ow; exact ⟨rfl, rfl⟩, .nil, fun _ h => by cases h⟩) (fun _ h => by cases h) (fun i => (lev_minL _ _ i).2) (Nat.le_refl _) fun _ h => h
theorem chn_plain {o p : CmpOp} (whole : PySem.Sem Value) : True := trivial
/-- an item -/
theorem Res.item {H : Hp} {Z : Addr → Prop} {ta : Option Addr} {As : Fps} {ρ : Loc} {σ : List (Option V)} {d e : D} {v w : V} {A : List Addr} (r : Res H Z ta As ρ σ ty d v A) (s : Sub H 1 d v e w) :
    ∃ A', (∀ a ∈ A', a ∈ A) ∧ Res H Z ta As ρ σ ⟨ty.k - 1, deeper ty.rs⟩ e w A' := by
  cases r with
  | tm t =>
    obtain ⟨A', sl, o⟩ := s.ow t.ow
    exact ⟨A', fun a h => sl.subset h, .tm ⟨o, t.nod.sublist sl, fun a h => t.sep a (sl.subset h)⟩⟩
  | bo u dep hm b =>
    obtain ⟨dx, vx, h1, h2, h3⟩ := b.ex
    exact ⟨[], fun _ h => (by cases h), .bo u (dep + 1) (List.mem_map.mpr ⟨(u, dep), hm, rfl⟩) ⟨dx, vx, h1, h2, h3.trans s⟩⟩
theorem s_idx (hp : PlainIx y) (ha : PE X x (tEv cf XP Ex a L La ty1)) (hb : PE X y (tEv cf XP Ex i La Lb ty2)) : PE X (.Subscript x y pos) (tEv cf XP Ex (.idx a i) L Lb ⟨ty1.k - 1, deeper ty1.rs⟩) := by
  refine (pe_ix (ix_list.or ix_tup) ha hb hp).imp fun σ H Q ⟨Z, ta, As, ρ, τ, S, T, q⟩ => ?_
  refine tEv.go S T q fun d τ1 v H1 Z1 t1 As1 A1 g1 S1 T1 r1 f1 q => ?_
  refine tEv.go S1 T1 q fun d2 τ2 v2 H2 Z2 t2 As2 A2 g2 S2 T2 r2 f2 q => ?_
  obtain ⟨d3, e, qq⟩ := q.of
  obtain ⟨A1', r1', q1⟩ := r1.there
  have r := r1'.gw g2 S1.tk S1.zt
  have hr := r.rd S2
  cases d2 with
  | int j =>
    have hj := (r2.rd S2).int'
    cases d with
    | lst xs =>
      obtain ⟨p, vs, rfl, hp', hrs⟩ := hr.lst'
      obtain ⟨n, en, ea⟩ := at_get e
      obtain ⟨w, ew, _⟩ := hrs.get en
      obtain ⟨A', hs, r'⟩ := r.item (.lst hp' en ew .here)
      refine .inl ⟨p, vs, j, w, rfl, hj, SqL.of hp', by rw [at_same, ea vs hrs.len.symm]; exact ew, ?_⟩
      exact qq w H2 Z2 t2 As2 A' (g1.trans g2) S2 T2 r' fun a h => f1 a (q1 a (hs a h)).2
    | tup xs =>
      obtain ⟨p, vs, rfl, hp', hrs⟩ := hr.tup'
      obtain ⟨n, en, ea⟩ := at_get e
      obtain ⟨w, ew, _⟩ := hrs.get en
      obtain ⟨A', hs, r'⟩ := r.item (.tup hp' en ew .here)
      refine .inr ⟨p, vs, j, w, rfl, hj, SqT.of hp', by rw [at_same, ea vs hrs.len.symm]; exact ew, ?_⟩
      exact qq w H2 Z2 t2 As2 A' (g1.trans g2) S2 T2 r' fun a h => f1 a (q1 a (hs a h)).2
    | _ => simp [index] at e
  | _ => cases d <;> simp [index] at e
/-- slices -/
theorem s_slN {p2 : PySem.Pos} (ha : PE X x (tEv cf XP Ex a L La ty1)) : PE X (.Subscript x (.Slice none none none p2) pos) (tEv cf XP Ex (.slN a) L (relax La 1 ty1.rs) fresh1) := by
  obtain ⟨r, ok, rule⟩ := sl_rule (X := X)
  refine (pe_slice ok ha po_none po_none).imp fun σ H Q ⟨Z, ta, As, ρ, τ, S, T, q⟩ => ?_
  refine tEv.go S T q fun d τ1 v H1 Z1 t1 As1 A1 g1 S1 T1 r1 f1 q => ?_
  obtain ⟨d3, e, qq⟩ := q.of
  obtain ⟨Z', As', S', g', _, l, _⟩ := r1.useG S1 g1 f1 1
  exact rule H1 Z' t1 d d3 v none none Q l e fun w H' n => n.done S' T1 g' qq
theorem s_slL {p2 : PySem.Pos} (ha : PE X x (tEv cf XP Ex a L La ty1)) (hb : PE X y (tEv cf XP Ex b La Lb ty2)) : PE X (.Subscript x (.Slice (some y) none none p2) pos) (tEv cf XP Ex (.slL a b) L (relax Lb 1 ty1.rs) fresh1) := by
  obtain ⟨r, ok, rule⟩ := sl_rule (X := X)
  refine (pe_slice ok ha (po_some hb) po_none).imp fun σ H Q ⟨Z, ta, As, ρ, τ, S, T, q⟩ => ?_
  refine tEv.go S T q fun d τ1 v H1 Z1 t1 As1 A1 g1 S1 T1 r1 f1 q => ?_
  refine tEv.go S1 T1 q fun d2 τ2 v2 H2 Z2 t2 As2 A2 g2 S2 T2 r2 f2 q => ?_
  obtain ⟨d3, e, qq⟩ := q.of
  cases d2 with
  | int j =>
    obtain ⟨A1', r1', q1⟩ := r1.there
    obtain ⟨Z', As', S', g', _, l, _⟩ := (r1'.gw g2 S1.tk S1.zt).useG S2 (g1.trans g2) (fun a h => f1 a (q1 a h).2) 1
    exact ⟨j, (r2.rd S2).int', rule H2 Z' t2 d d3 v (some j) none Q l e fun w H' n => n.done S' T2 g' qq⟩
  | _ => simp [isInt] at e
theorem s_slU {p2 : PySem.Pos} (ha : PE X x (tEv cf XP Ex a L La ty1)) (hb : PE X y (tEv cf XP Ex b La Lb ty2)) : PE X (.Subscript x (.Slice none (some y) none p2) pos) (tEv cf XP Ex (.slU a b) L (relax Lb 1 ty1.rs) fresh1) := by
  obtain ⟨r, ok, rule⟩ := sl_rule (X := X)
  refine (pe_slice ok ha po_none (po_some hb)).imp fun σ H Q ⟨Z, ta, As, ρ, τ, S, T, q⟩ => ?_
  refine tEv.go S T q fun d τ1 v H1 Z1 t1 As1 A1 g1 S1 T1 r1 f1 q => ?_
  refine tEv.go S1 T1 q fun d2 τ2 v2 H2 Z2 t2 As2 A2 g2 S2 T2 r2 f2 q => ?_
  obtain ⟨d3, e, qq⟩ := q.of
  cases d2 with
  | int j =>
    obtain ⟨A1', r1', q1⟩ := r1.there
    obtain ⟨Z', As', S', g', _, l, _⟩ := (r1'.gw g2 S1.tk S1.zt).useG S2 (g1.trans g2) (fun a h => f1 a (q1 a h).2) 1
    exact ⟨j, (r2.rd S2).int', rule H2 Z' t2 d d3 v none (some j) Q l e fun w H' n => n.done S' T2 g' qq⟩
  | _ => simp [isInt] at e
theorem s_slB {p2 : PySem.Pos} (ha : PE X x (tEv cf XP Ex a L La ty1)) (hb : PE X y (tEv cf XP Ex b La Lb ty2)) (hc : PE X z (tEv cf XP Ex c Lb Lc ty3)) :
    PE X (.Subscript x (.Slice (some y) (some z) none p2) pos) (tEv cf XP Ex (.slB a b c) L (relax Lc 1 ty1.rs) fresh1) := by
  obtain ⟨r, ok, rule⟩ := sl_rule (X := X)
  refine (pe_slice ok ha (po_some hb) (po_some hc)).imp fun σ H Q ⟨Z, ta, As, ρ, τ, S, T, q⟩ => ?_
  refine tEv.go S T q fun d τ1 v H1 Z1 t1 As1 A1 g1 S1 T1 r1 f1 q => ?_
  refine tEv.go S1 T1 q fun d2 τ2 v2 H2 Z2 t2 As2 A2 g2 S2 T2 r2 f2 q => ?_
  obtain ⟨j, e, qq⟩ := q.bind.of
  have hi2 := r2.rd S2
  cases d2 with
  | int j' =>
    simp only [isInt, Option.some.injEq] at e
    subst e
    refine ⟨j', hi2.int', ?_⟩
    refine tEv.go S2 T2 qq fun d3 τ3 v3 H3 Z3 t3 As3 A3 g3 S3 T3 r3 f3 q => ?_
    obtain ⟨d4, e, qq⟩ := q.of
    cases d3 with
    | int m =>
      obtain ⟨A1', r1', q1⟩ := r1.there
      have g23 := g2.trans g3
      obtain ⟨Z', As', S', g', _, l, _⟩ := (r1'.gw g23 S1.tk S1.zt).useG S3 (g1.trans g23) (fun a h => f1 a (q1 a h).2) 1
      exact ⟨m, (r3.rd S3).int', rule H3 Z' t3 d d4 v (some j') (some m) Q l e fun w H' n => n.done S' T3 g' qq⟩
    | _ => simp [isInt] at e
  | _ => simp [isInt] at e
end
end Py

/-! EvK: argument lists, displays, built-ins, calls. -/
namespace Py
open PySem (Str Addr Expr Stmt Scope NameKind Const Comprehension Operator CmpOp Value PyData)
open L2
variable [kf : Kf]
section
variable {C : Cst} {cf : CF} {XP : XPr} {Ex : XK} {sc : Scope} {fb : Option Scope} {X : Cx} {L La Lb Lc : List Nat} {ty ty1 ty2 ty3 : Ty} {a b c i : E} {x y z : Expr} {pos : PySem.Pos} {es : List E} {xs : List Expr}

theorem evL_len {cf : CF} : ∀ (es : List E) (ρ : Loc) (τ : Tp) {ds : List D} {τ1 : Tp}, evL cf es ρ τ = .ok ds τ1 → ds.length = es.length
  | [], ρ, τ, ds, τ1, h => by
    rw [evL] at h
    cases h
    rfl
  | e :: es, ρ, τ, ds, τ1, h => by
    rw [evL] at h
    cases q : evE cf e ρ τ with
    | ok d t =>
      rw [q] at h
      simp only [R.bind_ok] at h
      cases q2 : evL cf es ρ t with
      | ok ds' t2 =>
        rw [q2] at h
        simp only [R.bind_ok] at h
        cases h
        simp [evL_len es ρ t q2]
      | ex _ _ _ => rw [q2] at h; cases h
      | bad => rw [q2] at h; cases h
    | ex _ _ _ => rw [q] at h; cases h
    | bad => rw [q] at h; cases h
mutual
theorem rp_zc {H : Hp} {ta : Option Addr} (tk : ∀ a, ta = some a → ∃ kvs, H a = some (.dK kvs)) : ∀ (d : D) (v : V), Rp H All ta d v → Rp H (fun a => H a ≠ none ∧ ta ≠ some a) ta d v
  | .non, v, h => h
  | .bl _, v, h => h
  | .int _, v, h => h
  | .str _, v, h => h
  | .dct _ _, v, h => h
  | .tape, v, h => h
  | .scr _, v, h => h
  | .tup ds, v, h => by
    unfold Rp at h ⊢
    obtain ⟨a, vs, e, h1, h2⟩ := h
    exact ⟨a, vs, e, h1, rps_zc tk ds vs h2⟩
  | .lst ds, v, h => by
    unfold Rp at h ⊢
    obtain ⟨a, vs, e, _, h1, h2⟩ := h
    refine ⟨a, vs, e, ⟨by rw [h1]; exact Option.some_ne_none _, fun z => ?_⟩, h1, rps_zc tk ds vs h2⟩
    obtain ⟨k, w⟩ := tk a z
    rw [h1] at w
    cases w
theorem rps_zc {H : Hp} {ta : Option Addr} (tk : ∀ a, ta = some a → ∃ kvs, H a = some (.dK kvs)) : ∀ (ds : List D) (vs : List V), Rps H All ta ds vs → Rps H (fun a => H a ≠ none ∧ ta ≠ some a) ta ds vs
  | [], vs, h => h
  | d :: ds, vs, h => by
    unfold Rps at h ⊢
    obtain ⟨v, r, e, h1, h2⟩ := h
    exact ⟨v, r, e, rp_zc tk d v h1, rps_zc tk ds r h2⟩
end
/-- arguments that are given up -/
def tEvF (cf : CF) (XP : XPr) (Ex : XK) (es : List E) (L L' : List Nat) : TA := fun σ H Q =>
  ∃ Z ta As ρ τ, Sta H Z ta L ρ σ As ∧ TapeSt H ta τ ∧ Sat (evL cf es ρ τ) (fun ds τ => ∀ vs H' Z' ta' As', Gw H Z ta As H' Z' ta' As' → Sta H' Z' ta' L' ρ σ As' → TapeSt H' ta' τ → Rps H' Z' ta' ds vs → Q vs H') (EPo XP Ex H Z ta As)
/-- arguments that are read alone -/
def tEvN (cf : CF) (XP : XPr) (Ex : XK) (es : List E) (L L' : List Nat) : TA := fun σ H Q =>
  ∃ Z ta As ρ τ, Sta H Z ta L ρ σ As ∧ TapeSt H ta τ ∧ Sat (evL cf es ρ τ) (fun ds τ => ∀ vs H' Z' ta' As', Gw H Z ta As H' Z' ta' As' → Sta H' Z' ta' L' ρ σ As' → TapeSt H' ta' τ → Rps H' All ta' ds vs → Q vs H') (EPo XP Ex H Z ta As)
theorem evL_cons {cf : CF} {e : E} {es : List E} {ρ : Loc} {τ : Tp} : evL cf (e :: es) ρ τ = (evE cf e ρ τ).bind fun d τ => (evL cf es ρ τ).bind fun ds τ => .ok (d :: ds) τ := by rw [evL]
/-- .. the error's wish kept at the origin -/
theorem tEv.goO {e : E} {σ : List (Option V)} {H H0 : Hp} {Z Z0 : Addr → Prop} {ta t0 : Option Addr} {As As0 : Fps} {ρ : Loc} {τ : Tp} {β : Type} {f : D → Tp → R β} {P : β → Tp → Prop} {Q : VK} (S : Sta H Z ta L ρ σ As) (T : TapeSt H ta τ) (g0 : Gw H0 Z0 t0 As0 H Z ta As)
    (h : Sat ((evE cf e ρ τ).bind f) P (EPo XP Ex H0 Z0 t0 As0))
    (k : ∀ d τ1 v H1 Z1 t1 As1 A1, Gw H Z ta As H1 Z1 t1 As1 → Sta H1 Z1 t1 La ρ σ As1 → TapeSt H1 t1 τ1 → Res H1 Z1 t1 As1 ρ σ ty d v A1 → (∀ a ∈ A1, H a = none) → Sat (f d τ1) P (EPo XP Ex H0 Z0 t0 As0) → Q v H1) :
    tEv cf XP Ex e L La ty σ H Q := by
  refine ⟨Z, ta, As, ρ, τ, S, T, h.bind.mono (fun d τ1 h1 => ?_) fun _ _ _ q => q.gw g0⟩
  intro v H1 Z1 t1 As1 A1 g S1 T1 r f1
  exact k d τ1 v H1 Z1 t1 As1 A1 g S1 T1 r f1 h1
theorem evL_nil {cf : CF} {ρ : Loc} {τ : Tp} : evL cf [] ρ τ = .ok [] τ := by rw [evL]
theorem s_nilF : PA X [] (tEvF cf XP Ex [] L L) := pa_nil.imp fun σ H Q ⟨Z, ta, As, ρ, τ, S, T, q⟩ => by
  rw [evL_nil] at q
  exact q [] H Z ta As .refl S T Rps.nil
theorem s_nilN : PA X [] (tEvN cf XP Ex [] L L) := pa_nil.imp fun σ H Q ⟨Z, ta, As, ρ, τ, S, T, q⟩ => by
  rw [evL_nil] at q
  exact q [] H Z ta As .refl S T Rps.nil
theorem s_consF (hs : PySem.starEach (x :: xs) X.env = (false, PySem.eval x X.env) :: PySem.starEach xs X.env) (ha : PE X x (tEv cf XP Ex a L La ty1)) (hr : PA X xs (tEvF cf XP Ex es (relax La 0 ty1.rs) Lb)) :
    PA X (x :: xs) (tEvF cf XP Ex (a :: es) L Lb) := by
  refine (pa_cons ha hr hs).imp fun σ H Q ⟨Z, ta, As, ρ, τ, S, T, q⟩ => ?_
  rw [evL_cons] at q
  refine tEv.goO S T .refl q fun d τ1 v H1 Z1 t1 As1 A1 g1 S1 T1 r1 f1 q => ?_
  obtain ⟨Z', As', S', g', hz, l, _⟩ := r1.useG S1 g1 f1 0
  refine ⟨Z', t1, As', ρ, τ1, S', T1, q.bind.mono (fun ds τ2 q vs H2 Z2 t2 As2 g2 S2 T2 r2 => ?_) fun k ds τ2 e => e.gw g'⟩
  exact q (v :: vs) H2 Z2 t2 As2 (g'.trans g2) S2 T2 (Rps.cons (g2.rp S'.tk S'.zt l.zero) r2)
theorem s_consN (hs : PySem.starEach (x :: xs) X.env = (false, PySem.eval x X.env) :: PySem.starEach xs X.env) (ha : PE X x (tEv cf XP Ex a L La ty1)) (hr : PA X xs (tEvN cf XP Ex es La Lb)) :
    PA X (x :: xs) (tEvN cf XP Ex (a :: es) L Lb) := by
  refine (pa_cons ha hr hs).imp fun σ H Q ⟨Z, ta, As, ρ, τ, S, T, q⟩ => ?_
  rw [evL_cons] at q
  refine tEv.goO S T .refl q fun d τ1 v H1 Z1 t1 As1 A1 g1 S1 T1 r1 f1 q => ?_
  refine ⟨Z1, t1, As1, ρ, τ1, S1, T1, q.bind.mono (fun ds τ2 q vs H2 Z2 t2 As2 g2 S2 T2 r2 => ?_) fun k ds τ2 e => e.gw g1⟩
  exact q (v :: vs) H2 Z2 t2 As2 (g1.trans g2) S2 T2 (Rps.cons ((r1.gw g2 S1.tk S1.zt).rd S2) r2)

/-! ### displays -/
theorem s_tup {kk : Nat} (hn : es.length ≤ 1000) (h : PA X xs (tEvF cf XP Ex es L La)) : PE X (.Tuple xs kk pos) (tEv cf XP Ex (.tup es) L La fresh1) := by
  refine (pe_tup h).imp fun σ H Q ⟨Z, ta, As, ρ, τ, S, T, q⟩ => ?_
  rw [show evE cf (.tup es) ρ τ = (evL cf es ρ τ).bind fun ds τ => .ok (.tup ds) τ by rw [evE]] at q
  refine ⟨Z, ta, As, ρ, τ, S, T, ?_⟩
  cases e : evL cf es ρ τ with
  | ok ds τ1 =>
    rw [e] at q
    intro vs H1 Z1 t1 As1 g1 S1 T1 r
    have n : vs.length ≤ 1000 := by rw [← r.len, evL_len _ _ _ e]; exact hn
    refine ⟨Nat.le_trans n (by decide), fun p hp => ?_⟩
    exact (New.tup p ds vs hp r).done S1 T1 g1 q
  | ex k ds t => rw [e] at q; exact q
  | bad => rw [e] at q; exact q
theorem s_lst (hn : es.length ≤ 1000) (h : PA X xs (tEvF cf XP Ex es L La)) : PE X (.List xs pos) (tEv cf XP Ex (.lst es) L La fresh1) := by
  refine (pe_lst h).imp fun σ H Q ⟨Z, ta, As, ρ, τ, S, T, q⟩ => ?_
  rw [show evE cf (.lst es) ρ τ = (evL cf es ρ τ).bind fun ds τ => .ok (.lst ds) τ by rw [evE]] at q
  refine ⟨Z, ta, As, ρ, τ, S, T, ?_⟩
  cases e : evL cf es ρ τ with
  | ok ds τ1 =>
    rw [e] at q
    intro vs H1 Z1 t1 As1 g1 S1 T1 r
    have n : vs.length ≤ 1000 := by rw [← r.len, evL_len _ _ _ e]; exact hn
    refine ⟨Nat.le_trans n (by decide), fun p hp => ?_⟩
    exact (New.lst p ds vs hp r).done S1 T1 g1 q
  | ex k ds t => rw [e] at q; exact q
  | bad => rw [e] at q; exact q

/-! ### built-ins -/
theorem biN_good (b : Bi) : (biN b == ("__debug__" : Str)) = false ∧ biN b ≠ "__name__" := by cases b <;> exact ⟨by decide +kernel, by decide +kernel⟩
theorem biN_all (b : Bi) : biN b ∈ biAll := by cases b <;> decide +kernel
/-- one argument, given as its list -/
theorem one_arg (hs : PySem.starEach [x] X.env = [(false, PySem.eval x X.env)]) (ha : PE X x (tEv cf XP Ex a L La ty1)) : PA X [x] (tCons (tEv cf XP Ex a L La ty1) tNil) :=
  pa_cons ha pa_nil (by rw [hs]; rfl)
theorem s_bi (M : Cmp C cf XP Ex sc fb X) {b : Bi} {p : PySem.Pos} (hk : keepsTop b = false) (hg : gloB sc (biN b) = true) (hs : PySem.starEach [x] X.env = [(false, PySem.eval x X.env)]) (ha : PE X x (tEv cf XP Ex a L La ty1)) :
    PE X (.Call (.Name (biN b) p) [x] [] pos) (tEv cf XP Ex (.bi b a) L La atom) := by
  have pa := one_arg hs ha
  have hm := M.bi _ (biN_all b)
  obtain ⟨g1, g2⟩ := biN_good b
  have fin : ∀ {r : List V → Hp → VK → Prop}, bi1P b r → ∀ σ H Q, tEv cf XP Ex (.bi b a) L La atom σ H Q → tCB r (tCons (tEv cf XP Ex a L La ty1) tNil) σ H Q := fun {r} rule σ H Q ⟨Z, ta, As, ρ, τ, S, T, q⟩ => by
    rw [show evE cf (.bi b a) ρ τ = (evE cf a ρ τ).bind fun x τ => R.of (bi1 b x) τ by rw [evE]] at q
    refine tEv.go S T q fun d τ1 v H1 Z1 t1 As1 A1 g1 S1 T1 r1 f1 q => ?_
    obtain ⟨d3, e, qq⟩ := q.of
    refine rule H1 All t1 d d3 v Q (r1.rd S1) e fun w hw hat => atom_done hat ?_ S1 T1 g1 qq
    cases d3 <;> first | exact hw | (cases hat)
  cases b_atom (X := X) M.calm b hk with
  | fn id r hc hv rule => exact (pe_callB hc (M.gl hg) hm hv pa g2 g1 (by rw [hs]; rfl) (by rfl)).imp (fin rule)
  | ty id r hc hv rule => exact (pe_callTy hc (M.gl hg) hm hv pa g2 g1 (by rw [hs]; rfl) (by rfl)).imp (fin rule)
theorem s_biC (M : Cmp C cf XP Ex sc fb X) {b : Bi} {p : PySem.Pos} (hk : keepsTop b = true) (hg : gloB sc (biN b) = true) (hs : PySem.starEach [x] X.env = [(false, PySem.eval x X.env)]) (ha : PE X x (tEv cf XP Ex a L La ty1)) :
    PE X (.Call (.Name (biN b) p) [x] [] pos) (tEv cf XP Ex (.bi b a) L (relax La 1 ty1.rs) fresh1) := by
  have pa := one_arg hs ha
  have hm := M.bi _ (biN_all b)
  obtain ⟨g1, g2⟩ := biN_good b
  have fin : ∀ {r : List V → Hp → VK → Prop}, bi1Q b r → ∀ σ H Q, tEv cf XP Ex (.bi b a) L (relax La 1 ty1.rs) fresh1 σ H Q → tCB r (tCons (tEv cf XP Ex a L La ty1) tNil) σ H Q := fun {r} rule σ H Q ⟨Z, ta, As, ρ, τ, S, T, q⟩ => by
    rw [show evE cf (.bi b a) ρ τ = (evE cf a ρ τ).bind fun x τ => R.of (bi1 b x) τ by rw [evE]] at q
    refine tEv.go S T q fun d τ1 v H1 Z1 t1 As1 A1 g1 S1 T1 r1 f1 q => ?_
    obtain ⟨d3, e, qq⟩ := q.of
    obtain ⟨Z', As', S', g', _, l, _⟩ := r1.useG S1 g1 f1 1
    exact rule H1 Z' t1 d d3 v Q l e fun w H' n => n.done S' T1 g' qq
  cases b_copy (X := X) b hk with
  | fn id r hc hv rule => exact (pe_callB hc (M.gl hg) hm hv pa g2 g1 (by rw [hs]; rfl) (by rfl)).imp (fin rule)
  | ty id r hc hv rule => exact (pe_callTy hc (M.gl hg) hm hv pa g2 g1 (by rw [hs]; rfl) (by rfl)).imp (fin rule)
theorem s_bi2 (M : Cmp C cf XP Ex sc fb X) {b : Bi} {p : PySem.Pos} {c : E} (hb : b = .max ∨ b = .min) (hg : gloB sc (biN b) = true) (hs : PySem.starEach [x, y] X.env = [(false, PySem.eval x X.env), (false, PySem.eval y X.env)])
    (hs2 : PySem.starEach [y] X.env = [(false, PySem.eval y X.env)]) (ha : PE X x (tEv cf XP Ex a L La ty1)) (hc' : PE X y (tEv cf XP Ex c La Lb ty2)) :
    PE X (.Call (.Name (biN b) p) [x, y] [] pos) (tEv cf XP Ex (.bi2 b a c) L Lb atom) := by
  have pa : PA X [x, y] (tCons (tEv cf XP Ex a L La ty1) (tCons (tEv cf XP Ex c La Lb ty2) tNil)) := pa_cons ha (one_arg hs2 hc') (by rw [hs, hs2])
  have hm := M.bi _ (biN_all b)
  obtain ⟨g1, g2⟩ := biN_good b
  have fin : ∀ {r : List V → Hp → VK → Prop}, bi2P b r → ∀ σ H Q, tEv cf XP Ex (.bi2 b a c) L Lb atom σ H Q → tCB r (tCons (tEv cf XP Ex a L La ty1) (tCons (tEv cf XP Ex c La Lb ty2) tNil)) σ H Q := fun {r} rule σ H Q ⟨Z, ta, As, ρ, τ, S, T, q⟩ => by
    rw [show evE cf (.bi2 b a c) ρ τ = (evE cf a ρ τ).bind fun x τ => (evE cf c ρ τ).bind fun y τ => R.of (bi2 b x y) τ by rw [evE]] at q
    refine tEv.go S T q fun d τ1 v H1 Z1 t1 As1 A1 g1 S1 T1 r1 f1 q => ?_
    refine tEv.go S1 T1 q fun d2 τ2 v2 H2 Z2 t2 As2 A2 g2 S2 T2 r2 f2 q => ?_
    obtain ⟨d3, e, qq⟩ := q.of
    refine rule H2 All t2 d d2 d3 v v2 Q ((r1.gw g2 S1.tk S1.zt).rd S2) (r2.rd S2) e fun w hw hat => atom_done hat ?_ S2 T2 (g1.trans g2) qq
    cases d3 <;> first | exact hw | (cases hat)
  cases b_two (X := X) M.calm b hb with
  | fn id r hc hv rule => exact (pe_callB hc (M.gl hg) hm hv pa g2 g1 (by rw [hs, hs2]) (by rw [hs2]; rfl)).imp (fin rule)
  | ty id r hc hv rule => exact (pe_callTy hc (M.gl hg) hm hv pa g2 g1 (by rw [hs, hs2]) (by rw [hs2]; rfl)).imp (fin rule)
theorem s_rev {k : Nat} {p1 p2 p3 : PySem.Pos} (ha : PE X x (tEv cf XP Ex a L La ty1)) : PE X (.Subscript x (.Slice none none (some (.UnaryOp .USub (.Constant (.int 1) k p1) p2)) p3) pos) (tEv cf XP Ex (.rev a) L (relax La 1 ty1.rs) fresh1) := by
  refine (pe_revL ha).imp fun σ H Q ⟨Z, ta, As, ρ, τ, S, T, q⟩ => ?_
  rw [show evE cf (.rev a) ρ τ = (evE cf a ρ τ).bind fun x τ => R.of ((isLst x).map fun xs => .lst xs.reverse) τ by rw [evE]] at q
  refine tEv.go S T q fun d τ1 v H1 Z1 t1 As1 A1 g1 S1 T1 r1 f1 q => ?_
  obtain ⟨d3, e, qq⟩ := q.of
  cases d with
  | lst ds =>
    simp only [isLst, Option.map_some, Option.some.injEq] at e
    subst e
    obtain ⟨Z', As', S', g', _, l, _⟩ := r1.useG S1 g1 f1 1
    obtain ⟨p, vs, rfl, hp, hr⟩ := l.lst
    exact ⟨p, vs, rfl, SqL.of hp, fun p' hp' => (New.lst p' _ _ hp' hr.rev).done S' T1 g' qq⟩
  | _ => simp [isLst] at e

/-! ### calls -/
theorem Gw.nil {H H' : Hp} {Z Z' Zc Zc' : Addr → Prop} {ta ta' : Option Addr} {As : Fps} (g : Gw H Zc ta [] H' Zc' ta' []) (h1 : ∀ a, Z a → Z' a) (h2 : ∀ a, Z' a → Z a ∨ a ∈ As.flatten ∨ H a = none) : Gw H Z ta As H' Z' ta' As :=
  ⟨g.keep, g.ex, g.tad, g.tnew, h1, h2, fun _ h => h⟩
theorem s_call (M : Cmp C cf XP Ex sc fb X) {f : Nat} {n : Str} {p : PySem.Pos} (hf : C.fns[f]? = some n) (hg : gloB sc n = true) (hgd : goodN n = true) (hst : PySem.starEach (x :: xs) X.env = (false, PySem.eval x X.env) :: PySem.starEach xs X.env)
    (hpl : (PySem.backTo pos (PySem.starEach xs X.env)).any (·.1) = false) (ha : PA X (x :: xs) (tEvF cf XP Ex es L La)) : PE X (.Call (.Name n p) (x :: xs) [] pos) (tEv cf XP Ex (.call f es) L La ⟨C.lv f, []⟩) := by
  obtain ⟨CX, k, fa, fd, ps, F, hr, hm, hk, hb, hx, _, hbad⟩ := (M.fn f n hf).ex
  obtain ⟨g1, _, _⟩ := good_dbg hgd
  refine (pe_call F hr (M.gl hg) hm hk hb .nil hx ha g1 hst hpl).imp fun σ H Q ⟨Z, ta, As, ρ, τ, S, T, q⟩ => ?_
  rw [show evE cf (.call f es) ρ τ = (evL cf es ρ τ).bind fun ds τ => cf f ds τ by rw [evE]] at q
  refine ⟨Z, ta, As, ρ, τ, S, T, q.bind.mono (fun ds τ1 q vs H1 Z1 t1 As1 g1 S1 T1 r1 => ?_) fun _ _ _ e => e⟩
  refine ⟨Z1, t1, ds, τ1, ?_, by rw [List.append_nil]; exact r1, S1.zin, S1.tk, T1, q.mono (fun d τ2 q v H2 Z2 t2 A g2 zin2 tk2 T2 t fr => ?_) fun k ds τ2 e H2 Z2 t2 cls dx g2 T2 w => ?_⟩
  · rw [List.append_nil, ← r1.len]
    by_cases e : ds.length = ps.length
    · exact e
    · rw [hbad ds τ1 e] at q; exact q.elim
  · have zn : ∀ a, Z2 a → Z1 a ∨ a ∈ As1.flatten ∨ H1 a = none := fun a z => (g2.znew a z).imp id fun h => .inr (h.elim (fun h => by cases h) id)
    have g2' : Gw H1 Z1 t1 As1 H2 Z2 t2 As1 := g2.nil g2.z zn
    have nz : ∀ a ∈ As1.flatten, ¬ Z2 a := fun a ha z => by
      rcases g2.znew a z with z | z | z
      · exact (S1.sep a ha).1 z
      · cases z
      · exact (S1.sep a ha).2.1 z
    have nt : ∀ a ∈ As1.flatten, t2 ≠ some a := fun a ha z => by
      rcases g2.tnew a z with z | z
      · exact (S1.sep a ha).2.2 z
      · exact (S1.sep a ha).2.1 z
    refine q v H2 Z2 t2 As1 A (g1.trans g2') ⟨S1.len1, S1.len2, fun j e hj => ?_, S1.nod, fun a ha => ⟨nz a ha, g2.ex a (S1.sep a ha).2.1, nt a ha⟩, zin2, tk2⟩ T2 (.tm ⟨t.ow, t.nod, fun a ha => ?_⟩) (fresh_back g1 fr)
    · obtain ⟨w, hw, o⟩ := S1.slot j e hj
      exact ⟨w, hw, g2'.ow S1.tk S1.zt (fun a ha => (S1.sep a (mem_flat ha)).2.2) o⟩
    · obtain ⟨s1, _, s3, s4⟩ := t.sep a ha
      exact ⟨s1, fun h => (S1.sep a h).2.1 (fr a ha), s3, s4⟩
  · refine e H2 _ t2 cls dx (g1.trans (Gw.nil (As := As1) (Z := Z1) (Z' := Z2) g2 g2.z fun a z => (g2.znew a z).imp id fun h => .inr (h.elim (fun h => by cases h) id)) |>.trans ⟨fun _ _ e _ => e, fun _ e => e, fun _ e => e, fun _ e => .inl e, fun _ z => z, fun _ z => .inl z, fun _ h => by cases h⟩) T2 w
theorem s_cala (M : Cmp C cf XP Ex sc fb X) {f : Nat} {n : Str} {p : PySem.Pos} (hf : C.fns[f]? = some n) (hg : gloB sc n = true) (hgd : goodN n = true) (hst : PySem.starEach (x :: xs) X.env = (false, PySem.eval x X.env) :: PySem.starEach xs X.env)
    (hpl : (PySem.backTo pos (PySem.starEach xs X.env)).any (·.1) = false) (ha : PA X (x :: xs) (tEvN cf XP Ex es L La)) : PE X (.Call (.Name n p) (x :: xs) [] pos) (tEv cf XP Ex (.cala f es) L La atom) := by
  obtain ⟨CX, k, fa, fd, ps, F, hr, hm, hk, hb, hx, _, hbad⟩ := (M.fn f n hf).ex
  obtain ⟨g1, _, _⟩ := good_dbg hgd
  refine (pe_call F hr (M.gl hg) hm hk hb .nil hx ha g1 hst hpl).imp fun σ H Q ⟨Z, ta, As, ρ, τ, S, T, q⟩ => ?_
  rw [show evE cf (.cala f es) ρ τ = (evL cf es ρ τ).bind fun ds τ => (cf f ds τ).bind fun d τ => if isAtom d then .ok d τ else .bad by rw [evE]] at q
  refine ⟨Z, ta, As, ρ, τ, S, T, q.bind.mono (fun ds τ1 q vs H1 Z1 t1 As1 g1 S1 T1 r1 => ?_) fun _ _ _ e => e⟩
  -- what the callee may read: all that stands but the tape
  let Zc : Addr → Prop := fun a => H1 a ≠ none ∧ t1 ≠ some a
  have q0 := q
  have rc : Rps H1 Zc t1 ds vs := rps_zc S1.tk ds vs r1
  refine ⟨Zc, t1, ds, τ1, ?_, by rw [List.append_nil]; exact rc, fun a z => z, S1.tk, T1, q.bind.mono (fun d τ2 q v H2 Z2 t2 A g2 zin2 tk2 T2 t fr => ?_) fun k ds τ2 e H2 Z2 t2 cls dx g2 T2 w => ?_⟩
  · rw [List.append_nil, ← r1.len]
    by_cases e : ds.length = ps.length
    · exact e
    · rw [hbad ds τ1 e] at q0; exact q0.elim
  · by_cases hat : isAtom d = true
    · rw [if_pos hat] at q
      have g2' : Gw H1 Z1 t1 As1 H2 Z1 t2 As1 := g2.nil (fun _ z => z) fun _ z => .inl z
      have nt : ∀ a, H1 a ≠ none → t1 ≠ some a → t2 ≠ some a := fun a h h' z => by
        rcases g2.tnew a z with z | z
        · exact h' z
        · exact h z
      refine atom_done hat ?_ (Z := Z1) (As := As1) ⟨S1.len1, S1.len2, fun j e hj => ?_, S1.nod, fun a ha => ⟨(S1.sep a ha).1, g2.ex a (S1.sep a ha).2.1, nt a (S1.sep a ha).2.1 (S1.sep a ha).2.2⟩, fun a z => ⟨g2.ex a (S1.zin a z).1, nt a (S1.zin a z).1 (S1.zin a z).2⟩, tk2⟩ T2 (g1.trans g2') q
      · have h := t.ow.rd
        cases d <;> first | exact h | (cases hat)
      · obtain ⟨w, hw, o⟩ := S1.slot j e hj
        exact ⟨w, hw, g2'.ow S1.tk S1.zt (fun a ha => (S1.sep a (mem_flat ha)).2.2) o⟩
    · rw [if_neg hat] at q; exact q.elim
  · refine e H2 _ t2 cls dx (g1.trans (Gw.nil (As := As1) (Z := Z1) (Z' := Z1) g2 (fun _ z => z) fun _ z => .inl z) |>.trans ⟨fun _ _ e _ => e, fun _ e => e, fun _ e => e, fun _ e => .inl e, fun _ z => z, fun _ z => .inl z, fun _ h => by cases h⟩) T2 w
end
end Py

/-! EvL0: zip of two lists or tuples, of any kinds. -/
namespace Py
open PySem PySem.Spec PyProof.Rows L2

def SqB (K : PySem.W.Frag) (b : Bool) (H : Hp) (a : Addr) (xs : List V) : Prop := if b then SqL K H a xs else SqT K H a xs
def IterB (b : Bool) (h : Heap) (it l : Addr) (i : Nat) : Prop := if b then h.IsListIter it l i else h.IsTupleIter it l i
def IsB (b : Bool) (h : Heap) (l : Addr) (its : Array Value) : Prop := if b then h.IsList l its else h.IsTuple l its
theorem IterB.at {b : Bool} {h h' : Heap} {it l : Addr} {i : Nat} (x : IterB b h it l i) (k : ∀ o, h.get? it = some o → h'.get? it = some o) : IterB b h' it l i := by
  cases b with
  | true => exact Heap.IsListIter.at (show h.IsListIter it l i from x) k
  | false => exact Heap.IsTupleIter.at (show h.IsTupleIter it l i from x) k
theorem IterB.ob {b : Bool} {h : Heap} {it l : Addr} {i : Nat} (x : IterB b h it l i) : ∃ o, h.get? it = some o ∧ ∀ v, o.data ≠ .cell v := by
  cases b with
  | true =>
    obtain ⟨o, e, _, d⟩ := (show h.IsListIter it l i from x)
    exact ⟨o, e, fun v q => by rw [d] at q; cases q⟩
  | false =>
    obtain ⟨o, e, _, d⟩ := (show h.IsTupleIter it l i from x)
    exact ⟨o, e, fun v q => by rw [d] at q; cases q⟩
theorem drawsB {b : Bool} {prog : Program} {w : World} {A : Around} (hh : A.handled = none) (it l : Addr) (hne : l ≠ it) (items : Array Value) :
    Draws prog w A it [it, l] items.size (fun i v => items[i]? = some v) (fun i h => IterB b h it l i ∧ IsB b h l items) := by
  cases b with
  | true => exact Draws.list hh it l hne items
  | false => exact Draws.tuple hh it l hne items
theorem inv_seq {X : Cx} {pins : List (Addr × Obj)} {σ : L2.St} {H : Hp} {s : Shared} {b : Bool} {a : Addr} {xs : List V} (I : Inv X pins σ H s) (h : SqB X.K b H a xs) : ∃ its : List Value, Vals xs its ∧ IsB b s.heap a its.toArray ∧ xs.length ≤ sizeLine ∧ a < s.heap.objs.size := by
  cases b with
  | true =>
    obtain ⟨its, rv, p, z⟩ := I.list h
    exact ⟨its, rv, p.isList, z, p.lt⟩
  | false =>
    obtain ⟨its, rv, p, z⟩ := I.tuple h
    obtain ⟨o, ho, _⟩ := id p
    exact ⟨its, rv, p, z, Heap.lt_size ho⟩
theorem inv_seq_inj {X : Cx} {pins : List (Addr × Obj)} {σ : L2.St} {H : Hp} {s : Shared} {b : Bool} {a : Addr} {xs ys : List V} (I : Inv X pins σ H s) (h : SqB X.K b H a xs) (h' : SqB X.K b H a ys) : xs = ys := by
  cases b with
  | true => exact I.list_inj h h'
  | false => exact I.tuple_inj h h'
def ItzM (K : PySem.W.Frag) (b1 b2 : Bool) (a c : Addr) : It :=
  ⟨fun i H => ∃ (xs ys : List V) (x y : V), SqB K b1 H a xs ∧ SqB K b2 H c ys ∧ xs[i]? = some x ∧ ys[i]? = some y,
    fun i H v H' => ∃ T x y, v = .ref T ∧ H T = none ∧ H' = upd H T (.tup [x, y]) ∧ (∀ xs, SqB K b1 H a xs → xs[i]? = some x) ∧ ∀ ys, SqB K b2 H c ys → ys[i]? = some y,
    fun i H => ∃ xs ys : List V, SqB K b1 H a xs ∧ SqB K b2 H c ys ∧ i ≤ xs.length ∧ i ≤ ys.length ∧ (xs.length = i ∨ ys.length = i)⟩
theorem turn_zipM {P : Program} {w : World} {K : PySem.W.Frag} {elts : List PySem.Expr} {kk : Nat} {tpos : Pos} {b1 b2 : Bool} {a c z TI TO i1 i2 : Addr} (D : ZipSep2 z TI TO i1 i2 [i1, a] [i2, c]) (h1a : a ≠ i1) (h2c : c ≠ i2) :
    Turn P w K (.Tuple elts kk tpos) (ItzM K b1 b2 a c) [z, TI, TO, i1, i2] z (fun i h => IsZip h z TI TO .none ∧ IsPair h TI (.ref i1) (.ref i2) ∧ (∃ x y, IsPair h TO x y) ∧ IterB b1 h i1 a i ∧ IterB b2 h i2 c i) where
  mem := by simp
  obj := fun i h st d hd => by
    obtain ⟨hz, hTI, ⟨x, y, hTO⟩, q1, q2⟩ := st
    have e' : d = z ∨ d = TI ∨ d = TO ∨ d = i1 ∨ d = i2 := by simpa using hd
    rcases e' with q | q | q | q | q
    · rw [q]; exact ⟨_, hz, fun v q => nomatch q⟩
    · rw [q]; exact ⟨_, hTI, fun v q => nomatch q⟩
    · rw [q]; exact ⟨_, hTO, fun v q => nomatch q⟩
    · rw [q]; exact q1.ob
    · rw [q]; exact q2.ob
  keep := fun i h h' st k => by
    obtain ⟨hz, hTI, ⟨x, y, hTO⟩, h1, h2⟩ := st
    exact ⟨k z (by simp) _ hz, k TI (by simp) _ hTI, ⟨x, y, k TO (by simp) _ hTO⟩, h1.at fun o q => k i1 (by simp) o q, h2.at fun o q => k i2 (by simp) o q⟩
  item := by
    intro X hP hw hK hc i pins s σ H E I hf st hg
    subst hP hw hK
    obtain ⟨hz, hTI, ⟨x0, y0, hTO⟩, h1, h2⟩ := st
    obtain ⟨xs, ys, x, y, hqx, hqy, hx, hy⟩ := hg
    obtain ⟨its, rv, p, _, _⟩ := inv_seq I hqx
    obtain ⟨its2, rv2, p2, _, _⟩ := inv_seq I hqy
    obtain ⟨u, hu, ru⟩ := rv.get hx
    obtain ⟨u2, hu2, ru2⟩ := rv2.get hy
    have hzl : z < s.heap.objs.size := Heap.lt_size hz
    have lt_of : ∀ {its : List Value} {u : Value}, its[i]? = some u → i < its.toArray.size := fun {its u} h => by
      by_cases q : i < its.length
      · simpa using q
      · rw [List.getElem?_eq_none (by omega)] at h; cases h
    refine wpAny_pyNext_zipD2_item D (drawsB (A := X.A.in1) (I.ok.hd hc) i1 a h1a its.toArray) (drawsB (A := X.A.in1) (I.ok.hd hc) i2 c h2c its2.toArray) hz hTI hTO ⟨h1, p⟩ ⟨h2, p2⟩ (lt_of hu) (lt_of hu2) fun x1 x2 h' tk e1 e2 z' TO' st1 st2 hT hsz hk => ?_
    have e1' : u = x1 := by
      have : its[i]? = some x1 := by simpa using e1
      rw [hu] at this; exact Option.some.inj this
    have e2' : u2 = x2 := by
      have : its2[i]? = some x2 := by simpa using e2
      rw [hu2] at this; exact Option.some.inj this
    subst e1' e2'
    refine ⟨_, rfl, wpAny_letOwnedTupleGo_zip (s := { s with heap := h', toks := tk }) z' fun h'' z'' sb => ?_⟩
    have hT2 : h''.get? s.heap.objs.size = some { cls := .type "tuple", data := .seq #[u, u2] } := (sb.2 _ (Nat.ne_of_gt hzl)).trans hT
    have new : ObjOk X.prog X.w (upd H s.heap.objs.size (.tup [x, y])) h'' s.heap.objs.size (.tup [x, y]) :=
      ⟨by show 2 ≤ sizeLine; decide, [u, u2], .cons ru (.cons ru2 .nil), ⟨_, hT2, rfl, _, rfl⟩⟩
    have I1 : Inv X pins σ (upd H s.heap.objs.size (.tup [x, y])) { s with heap := h'', toks := tk } :=
      I.turnedNew (t' := tk) (ch := [z, TI, TO, i1, i2]) (fun c o hb q => (sb.2 c (fun q' => hb (by simp [q']))).trans (hk c o (fun q' => hb (by simp [q'])) (fun q' => hb (by simp [q'])) (fun q' => hb (by simp [q'])) (fun q' => hb (by simp [q'])) q)) hf (Nat.le_refl _) new
    refine ⟨.ref s.heap.objs.size, _, I1, rfl, ⟨_, x, y, rfl, I.hok.fresh (Nat.le_refl _), rfl, fun l hl => by rw [inv_seq_inj I hl hqx]; exact hx, fun l hl => by rw [inv_seq_inj I hl hqy]; exact hy⟩, ⟨z'', ?_, ⟨u, u2, ?_⟩, ?_, ?_⟩, fun d hdm => ?_⟩
    · exact (sb.2 _ D.TIz).trans (hk _ _ D.TIz D.TITO D.TIi1 D.TIi2 hTI)
    · exact (sb.2 _ D.TOz).trans TO'
    · exact st1.1.at fun o q => (sb.2 _ (Ne.symm D.zi1)).trans q
    · exact st2.1.at fun o q => (sb.2 _ (Ne.symm D.zi2)).trans q
    · have hlt : d < s.heap.objs.size := by
        have e' : d = z ∨ d = TI ∨ d = TO ∨ d = i1 ∨ d = i2 := by simpa using hdm
        rcases e' with q | q | q | q | q
        · rw [q]; exact hzl
        · rw [q]; exact Heap.lt_size hTI
        · rw [q]; exact Heap.lt_size hTO
        · rw [q]; obtain ⟨_, e1, _⟩ := h1.ob; exact Heap.lt_size e1
        · rw [q]; obtain ⟨_, e2, _⟩ := h2.ob; exact Heap.lt_size e2
      rw [upd_ne (Nat.ne_of_lt hlt)]
      exact (hf d hdm).1
  done := by
    intro X hP hw hK hc i pins s σ H E I hf st hg
    subst hP hw hK
    obtain ⟨hz, hTI, ⟨x0, y0, hTO⟩, h1, h2⟩ := st
    obtain ⟨xs, ys, hqx, hqy, hi1, hi2, hend⟩ := hg
    obtain ⟨its, rv, p, _, _⟩ := inv_seq I hqx
    obtain ⟨its2, rv2, p2, _, _⟩ := inv_seq I hqy
    have l1 := rv.length
    have l2 := rv2.length
    refine wpAny_pyNext_zipD2_end D (drawsB (A := X.A.in1) (I.ok.hd hc) i1 a h1a its.toArray) (drawsB (A := X.A.in1) (I.ok.hd hc) i2 c h2c its2.toArray) hz hTI hTO ⟨h1, p⟩ ⟨h2, p2⟩ (by simp; omega) (by simp; omega) (by simp; omega) fun h' tk hk => ⟨rfl, I.turnedL (t' := tk) (ch := [z, TI, TO, i1, i2]) (fun c o hb q =>
      hk c o (fun q' => hb (by simp [q'])) (fun q' => hb (by simp [q'])) (fun q' => hb (by simp [q'])) (fun q' => hb (by simp [q'])) q) hf⟩
  self := fun A i s Q E st h => wpAny_pyIter_zip st.1 h
def iterObj (b : Bool) (l : Addr) : Obj := if b then { cls := .type "list_iterator", data := .fields #[.ref l, .int 0 0] } else { cls := .type "tuple_iterator", data := .fields #[.ref l, .int 0 0] }
theorem beginsB (b : Bool) (l : Addr) (items : Array Value) : Begins (.ref l) (iterObj b l) fun h => IsB b h l items := by
  cases b with
  | true => exact begins_list l items
  | false => exact begins_tuple l items
theorem iterB_new {b : Bool} {h : Heap} {it l : Addr} (e : h.get? it = some (iterObj b l)) : IterB b h it l 0 := by
  cases b with
  | true => exact ⟨_, e, rfl, rfl⟩
  | false => exact ⟨_, e, rfl, rfl⟩
theorem sepN (N a c : Nat) (la : a < N) (lc : c < N) : ZipSep2 (N + 4) (N + 2) (N + 3) N (N + 1) [N, a] [N + 1, c] := by
  have mem : ∀ x y z : Nat, x ∈ [y, z] ↔ x = y ∨ x = z := fun x y z => by simp
  constructor <;> first
    | (show ¬ (_ : Nat) = _; omega)
    | (rw [mem]; omega)
    | (intro h; rw [mem] at h; omega)
def iZipM (K : PySem.W.Frag) (ta : TA) : TI := fun σ H R => ta σ H fun vs H1 => ∃ b1 b2 a c xs ys, vs = [.ref a, .ref c] ∧ SqB K b1 H1 a xs ∧ SqB K b2 H1 c ys ∧ R (ItzM K b1 b2 a c) H1
theorem pi_zipM {X : Cx} {e e2 : PySem.Expr} {ta : TA} {p pos tpos : Pos} {elts : List PySem.Expr} {kk : Nat} (hg : Gl X "zip") (hm : X.mg "zip" = none) (ha : PA X [e, e2] ta)
    (hs : starEach [e, e2] X.env = (false, eval e X.env) :: starEach [e2] X.env := by rfl) (hpl : (backTo pos (starEach [e2] X.env)).any (·.1) = false := by rfl) :
    PI X (.Tuple elts kk tpos) (.Call (.Name "zip" p) [e, e2] [] pos) (iZipM X.K ta) := by
  refine ⟨fun pins s σ H R I h => ?_⟩
  refine Call_ (ld_blt I hg hm PyProof.Rows.boot_zip (PyProof.Rows.callWith_type1 (thn (ha.run pos pins s σ H _ I h) fun us s1 ⟨vs, H1, I1, r1, q1⟩ => ?_) hs hpl))
  obtain ⟨b1, b2, a, c, xs, ys, ex, hqx, hqy, q⟩ := q1
  subst ex
  cases r1 with
  | cons r rr =>
    cases rr with
    | cons r' rr =>
      cases rr
      cases r
      cases r'
      have fresh5 : ∀ c, c ∈ [s1.heap.objs.size + 4, s1.heap.objs.size + 2, s1.heap.objs.size + 3, s1.heap.objs.size, s1.heap.objs.size + 1] → FpOk X pins H1 c := fun c hcm => by
        have e' : c = s1.heap.objs.size + 4 ∨ c = s1.heap.objs.size + 2 ∨ c = s1.heap.objs.size + 3 ∨ c = s1.heap.objs.size ∨ c = s1.heap.objs.size + 1 := by simpa using hcm
        have hle : s1.heap.objs.size ≤ c := by
          rcases e' with z | z | z | z | z
          · rw [z]; exact Nat.le_add_right _ _
          · rw [z]; exact Nat.le_add_right _ _
          · rw [z]; exact Nat.le_add_right _ _
          · rw [z]; exact Nat.le_refl _
          · rw [z]; exact Nat.le_add_right _ _
        exact I1.fpOk hle (I1.hok.fresh hle)
      obtain ⟨its, rv, p1, _, la⟩ := inv_seq I1 hqx
      obtain ⟨its2, rv2, p2, _, lc⟩ := inv_seq I1 hqy
      refine zip_begins2 (beginsB b1 a its.toArray) (beginsB b2 c its2.toArray) p1 p2 fun h' hz hTI hTO o1 o2 hsz hk => wpAny_pyIter_zip hz ?_
      have I2 : Inv X pins σ H1 { s1 with heap := h' } := I1.kept (t' := s1.toks) hk
      have D : ZipSep2 (s1.heap.objs.size + 4) (s1.heap.objs.size + 2) (s1.heap.objs.size + 3) s1.heap.objs.size (s1.heap.objs.size + 1) [s1.heap.objs.size, a] [s1.heap.objs.size + 1, c] := sepN _ a c la lc
      exact ⟨s1.heap.objs.size + 4, [s1.heap.objs.size + 4, s1.heap.objs.size + 2, s1.heap.objs.size + 3, s1.heap.objs.size, s1.heap.objs.size + 1], _, _, H1, rfl, I2, turn_zipM D (Nat.ne_of_lt la) (Nat.ne_of_lt (Nat.lt_succ_of_lt lc)), ⟨hz, hTI, ⟨_, _, hTO⟩, iterB_new o1, iterB_new o2⟩, fresh5, q⟩
end Py

/-! EvL: what a loop walks. -/
namespace Py
open PySem (Str Addr Expr Stmt Scope NameKind Const Comprehension Operator CmpOp Value PyData World Program Obj Shared)
open L2
variable [kf : Kf]

/-- what stays: tuples, what Y names -/
structure Kp (H0 : Hp) (Y : Addr → Prop) (H : Hp) : Prop where
  tup : ∀ a xs, H0 a = some (.tup xs) → H a = some (.tup xs)
  lst : ∀ a o, Y a → H0 a = some o → H a = some o
  frz : ∀ a o u, H0 a = some (.frz o u) → H a = some (.frz o u)
/-- one item comes -/
inductive Yd (H0 : Hp) (Z : Addr → Prop) (ta : Option Addr) : D → V → Hp → Hp → Prop where
  | same {d : D} {v : V} {H : Hp} : Rp H0 Z ta d v → Yd H0 Z ta d v H H
  | pair {d1 d2 : D} {x y : V} {T : Addr} {H : Hp} : H T = none → Rp H0 Z ta d1 x → Rp H0 Z ta d2 y → Yd H0 Z ta (.tup [d1, d2]) (.ref T) H (upd H T (.tup [x, y]))
structure ItOk (J : It) (H0 : Hp) (Y Z : Addr → Prop) (ta : Option Addr) (ds : List D) : Prop where
  go : ∀ i d H, Kp H0 Y H → ds[i]? = some d → J.go i H ∧ ∀ x H', J.yld i H x H' → Yd H0 Z ta d x H H'
  stop : ∀ H, Kp H0 Y H → J.stop ds.length H
section
variable {K : PySem.W.Frag} {H0 : Hp} {Y Z : Addr → Prop} {ta : Option Addr}
theorem it_list {a : Addr} {vs : List V} {ds : List D} (h : H0 a = some (.lst vs)) (hy : Y a) (r : Rps H0 Z ta ds vs) : ItOk (Itl K a) H0 Y Z ta ds := by
  refine ⟨fun i d H k e => ?_, fun H k => ⟨vs, SqL.of (k.lst _ _ hy h), Nat.le_of_eq r.len.symm⟩⟩
  obtain ⟨v, hv, rv⟩ := r.get e
  have q := SqL.of (K := K) (k.lst _ _ hy h)
  refine ⟨⟨vs, v, q, hv⟩, fun x H' ⟨e', y⟩ => ?_⟩
  have e2 := y vs q
  rw [hv] at e2
  cases e2
  subst e'
  exact .same rv
theorem it_tup {a : Addr} {vs : List V} {ds : List D} (h : H0 a = some (.tup vs)) (r : Rps H0 Z ta ds vs) : ItOk (Itt K a) H0 Y Z ta ds := by
  refine ⟨fun i d H k e => ?_, fun H k => ⟨vs, SqT.of (k.tup _ _ h), Nat.le_of_eq r.len.symm⟩⟩
  obtain ⟨v, hv, rv⟩ := r.get e
  have q := SqT.of (K := K) (k.tup _ _ h)
  refine ⟨⟨vs, v, q, hv⟩, fun x H' ⟨e', y⟩ => ?_⟩
  have e2 := y vs q
  rw [hv] at e2
  cases e2
  subst e'
  exact .same rv
theorem rps_ints {H : Hp} {Z : Addr → Prop} {ta : Option Addr} : ∀ ns : List Int, Rps H Z ta (ns.map D.int) (ns.map V.int)
  | [] => Rps.nil
  | n :: ns => Rps.cons (by unfold Rp; rfl) (rps_ints ns)
theorem it_scr {a : Addr} {ns : List Int} (hK : K = kf.K) (h : Scr H0 a ns) : ItOk (Itl K a) H0 Y Z ta (ns.map D.int) := by
  have r := rps_ints (H := H0) (Z := Z) (ta := ta) ns
  subst hK
  have sq : ∀ H, Kp H0 Y H → SqL kf.K H a (ns.map V.int) := fun H k => by
    rcases h with ⟨o, h⟩ | h
    · exact .inl (.inr ⟨o, k.frz _ _ _ h⟩)
    · exact h H
  refine ⟨fun i d H k e => ?_, fun H k => ⟨_, sq H k, Nat.le_of_eq r.len.symm⟩⟩
  obtain ⟨v, hv, rv⟩ := r.get e
  have q : SqL kf.K H a (ns.map V.int) := sq H k
  refine ⟨⟨_, v, q, hv⟩, fun x H' ⟨e', y⟩ => ?_⟩
  have e2 := y _ q
  rw [hv] at e2
  cases e2
  subst e'
  exact .same rv
theorem it_rng {a b : Int} : ItOk (Itr a (b - a).toNat) H0 Y Z ta (rngL a b) := by
  refine ⟨fun i d H k e => ?_, fun H k => ?_⟩
  · unfold rngL at e
    rw [List.getElem?_map] at e
    by_cases hi : i < (b - a).toNat
    · rw [List.getElem?_range hi] at e
      simp only [Option.map_some, Option.some.injEq] at e
      refine ⟨hi, fun x H' ⟨e', y⟩ => ?_⟩
      subst e' y e
      exact .same (by unfold Rp; rfl)
    · rw [List.getElem?_eq_none (by simpa using hi)] at e
      cases e
  · show (b - a).toNat ≤ (rngL a b).length
    simp [rngL]
theorem zipL_get : ∀ {ds es : List D} {i : Nat} {d : D}, (zipL ds es)[i]? = some d → ∃ x y, ds[i]? = some x ∧ es[i]? = some y ∧ d = .tup [x, y]
  | [], es, i, d, h => by simp [zipL] at h
  | x :: ds, [], i, d, h => by simp [zipL] at h
  | x :: ds, y :: es, i, d, h => by
    simp only [zipL] at h
    cases i with
    | zero => simp at h; exact ⟨x, y, rfl, rfl, h.symm⟩
    | succ i => simp at h; simpa using zipL_get h
theorem zipL_len : ∀ (ds es : List D), (zipL ds es).length = min ds.length es.length
  | [], es => by simp [zipL]
  | x :: ds, [] => by simp [zipL]
  | x :: ds, y :: es => by simp [zipL, zipL_len ds es]
theorem it_zipM {b1 b2 : Bool} {a c : Addr} {vs ws : List V} {ds es : List D} (h : ∀ H, Kp H0 Y H → SqB K b1 H a vs) (r : Rps H0 Z ta ds vs) (h2 : ∀ H, Kp H0 Y H → SqB K b2 H c ws) (r2 : Rps H0 Z ta es ws) : ItOk (ItzM K b1 b2 a c) H0 Y Z ta (zipL ds es) := by
  refine ⟨fun i d H k e => ?_, fun H k => ⟨vs, ws, h H k, h2 H k, ?_⟩⟩
  · obtain ⟨d1, d2, e1, e2, rfl⟩ := zipL_get e
    obtain ⟨v, hv, rv⟩ := r.get e1
    obtain ⟨w, hw, rw'⟩ := r2.get e2
    refine ⟨⟨vs, ws, v, w, h H k, h2 H k, hv, hw⟩, fun u H' ⟨T, x, y, e, hT, e', y1, y2⟩ => ?_⟩
    have z1 := y1 vs (h H k)
    have z2 := y2 ws (h2 H k)
    rw [hv] at z1
    rw [hw] at z2
    cases z1
    cases z2
    subst e e'
    exact .pair hT rv rw'
  · rw [zipL_len, r.len, r2.len]; omega
theorem enmL_get : ∀ {ds : List D} {n i : Nat} {d : D}, (enmL n ds)[i]? = some d → ∃ x, ds[i]? = some x ∧ d = .tup [.int ((n + i : Nat) : Int), x]
  | [], n, i, d, h => by simp [enmL] at h
  | x :: ds, n, i, d, h => by
    simp only [enmL] at h
    cases i with
    | zero => simp at h; exact ⟨x, rfl, h.symm⟩
    | succ i =>
      simp at h
      obtain ⟨y, e, q⟩ := enmL_get h
      refine ⟨y, by simpa using e, ?_⟩
      rw [q]
      congr 4
      omega
theorem enmL_len : ∀ (ds : List D) (n : Nat), (enmL n ds).length = ds.length
  | [], n => rfl
  | x :: ds, n => by simp [enmL, enmL_len ds]
theorem it_enm {a : Addr} {vs : List V} {ds : List D} (h : H0 a = some (.lst vs)) (hy : Y a) (r : Rps H0 Z ta ds vs) : ItOk (Ite K a) H0 Y Z ta (enmL 0 ds) := by
  refine ⟨fun i d H k e => ?_, fun H k => ⟨vs, SqL.of (k.lst _ _ hy h), by rw [enmL_len, r.len]; exact Nat.le_refl _⟩⟩
  obtain ⟨d1, e1, rfl⟩ := enmL_get e
  obtain ⟨v, hv, rv⟩ := r.get e1
  have q := SqL.of (K := K) (k.lst _ _ hy h)
  refine ⟨⟨vs, v, q, hv⟩, fun u H' ⟨T, x, e, hT, e', y1⟩ => ?_⟩
  have z1 := y1 vs q
  rw [hv] at z1
  cases z1
  subst e e'
  rw [Nat.zero_add]
  exact .pair hT (by unfold Rp; rfl) rv
end

theorem _root_.L2.PI.imp {X : Cx} {tg e : Expr} {t t' : TI} (h : PI X tg e t) (w : ∀ σ H R, t' σ H R → t σ H R) : PI X tg e t' := ⟨fun pins s σ H R I q => h.run pins s σ H R I (w σ H R q)⟩
/-- a list or a tuple -/
def iSeq (K : PySem.W.Frag) (tl : TE) : TI := fun σ H R => tl σ H fun x H1 => ∃ a, x = .ref a ∧ (((∃ xs, SqL K H1 a xs) ∧ R (Itl K a) H1) ∨ ((∃ xs, SqT K H1 a xs) ∧ R (Itt K a) H1))
theorem pi_seq {X : Cx} {tg l : Expr} {tl : TE} (hl : PE X l tl) : PI X tg l (iSeq X.K tl) := by
  refine ⟨fun pins s σ H R I h => ?_⟩
  refine thn (hl.run pins s σ H _ I h) fun v s1 ⟨x, H1, I1, r1, q1⟩ => ?_
  obtain ⟨a, e, q1⟩ := q1
  subst e
  cases r1
  have ff : ∀ b ∈ [s1.heap.objs.size], FpOk X pins H1 b := fun b hb => by
    have e : b = s1.heap.objs.size := by simpa using hb
    subst e
    exact I1.fpOk (Nat.le_refl _) (I1.hok.fresh (Nat.le_refl _))
  rcases q1 with ⟨⟨xs, hq⟩, q⟩ | ⟨⟨xs, hq⟩, q⟩
  · obtain ⟨its, rv, p, hz⟩ := I1.list hq
    refine PySem.wpAny_pyIter_list p.isList ?_
    exact ⟨s1.heap.objs.size, [s1.heap.objs.size], _, _, H1, rfl, I1.kept (t' := s1.toks) fun b o e => PySem.Heap.get?_push_of_some _ e, turn_list a _, ⟨_, PySem.Heap.get?_push_size _ rfl, rfl, rfl⟩, ff, q⟩
  · obtain ⟨its, rv, p, hz⟩ := I1.tuple hq
    refine PySem.wpAny_pyIter_tuple (show s1.heap.IsTuple a its.toArray from p) ?_
    exact ⟨s1.heap.objs.size, [s1.heap.objs.size], _, _, H1, rfl, I1.kept (t' := s1.toks) fun b o e => PySem.Heap.get?_push_of_some _ e, turn_tuple a _, ⟨_, PySem.Heap.get?_push_size _ rfl, rfl, rfl⟩, ff, q⟩

def Yof (fz : Bool) (Z : Addr → Prop) (ta : Option Addr) : Addr → Prop := fun a => if fz then Z a else ta ≠ some a
def IPo (fz : Bool) (L : List Nat) (ρ : Loc) (σ : List (Option V)) (R : It → Hp → Prop) (H : Hp) (Z : Addr → Prop) (ta : Option Addr) (As : Fps) : List D → Tp → Prop := fun ds τ =>
  ∀ J H' Z' ta' As', Gw H Z ta As H' Z' ta' As' → Sta H' Z' ta' L ρ σ As' → TapeSt H' ta' τ → ItOk J H' (Yof fz Z' ta') Z' ta' ds → R J H'
/-- what is walked, read -/
def tIt (cf : CF) (XP : XPr) (Ex : XK) (fz : Bool) (i : I) (L L' : List Nat) : TI := fun σ H R =>
  ∃ Z ta As ρ τ, Sta H Z ta L ρ σ As ∧ TapeSt H ta τ ∧ Sat (evI cf i ρ τ) (IPo fz L' ρ σ R H Z ta As) (EPo XP Ex H Z ta As)
section
variable {C : Cst} {cf : CF} {XP : XPr} {Ex : XK} {sc : Scope} {fb : Option Scope} {X : Cx} {L La Lb Lc : List Nat} {ty ty1 ty2 ty3 : Ty} {a b c i : E} {x y z tg : Expr} {pos : PySem.Pos} {fz : Bool}

theorem Lo.wlst {H : Hp} {Z : Addr → Prop} {ta : Option Addr} {ds : List D} {v : V} (tk : ∀ a, ta = some a → ∃ kvs, H a = some (.dK kvs)) (l : Lo H Z ta (jz fz) (.lst ds) v) : ∃ a vs, v = .ref a ∧ Yof fz Z ta a ∧ H a = some (.lst vs) ∧ Rps H Z ta ds vs := by
  cases fz with
  | true =>
    have h := l.zero
    unfold Rp at h
    obtain ⟨a, vs, e, z, h1, h2⟩ := h
    exact ⟨a, vs, e, z, h1, h2⟩
  | false =>
    obtain ⟨a, vs, e, h1, h2⟩ := Lo.lst (show Lo H Z ta 1 (.lst ds) v from l)
    refine ⟨a, vs, e, fun q => ?_, h1, h2⟩
    obtain ⟨kvs, z⟩ := tk a q
    rw [h1] at z
    cases z
theorem Lo.wtup {H : Hp} {Z : Addr → Prop} {ta : Option Addr} {ds : List D} {v : V} (l : Lo H Z ta (jz fz) (.tup ds) v) : ∃ a vs, v = .ref a ∧ H a = some (.tup vs) ∧ Rps H Z ta ds vs := by
  cases fz with
  | true =>
    have h := l.zero
    unfold Rp at h
    exact h
  | false => exact Lo.tup (show Lo H Z ta 1 (.tup ds) v from l)
theorem w_val (hK : X.K = kf.K) (ha : PE X x (tEv cf XP Ex a L La ty1)) : PI X tg x (tIt cf XP Ex fz (.val a) L (relax La (jz fz) ty1.rs)) := by
  refine (pi_seq ha).imp fun σ H RR ⟨Z, ta, As, ρ, τ, S, T, q⟩ => ?_
  rw [show evI cf (.val a) ρ τ = (evE cf a ρ τ).bind fun d τ => R.of (seqOf d) τ by rw [evI]] at q
  refine tEv.go S T q fun d τ1 v H1 Z1 t1 As1 A1 g1 S1 T1 r1 f1 q => ?_
  obtain ⟨ds, e, qq⟩ := q.of
  obtain ⟨Z', As', S', g', hz, l, _⟩ := r1.useG S1 g1 f1 (jz fz)
  cases d with
  | lst es =>
    simp only [seqOf, Option.some.injEq] at e
    subst e
    obtain ⟨p, vs, rfl, hy, h1, h2⟩ := l.wlst S'.tk
    exact ⟨p, rfl, .inl ⟨⟨vs, SqL.of h1⟩, qq _ H1 Z' t1 As' g' S' T1 (it_list h1 hy h2)⟩⟩
  | tup es =>
    simp only [seqOf, Option.some.injEq] at e
    subst e
    obtain ⟨p, vs, rfl, h1, h2⟩ := l.wtup
    exact ⟨p, rfl, .inr ⟨⟨vs, SqT.of h1⟩, qq _ H1 Z' t1 As' g' S' T1 (it_tup h1 h2)⟩⟩
  | scr ns =>
    simp only [seqOf, Option.some.injEq] at e
    subst e
    have h := r1.rd S1
    unfold Rp at h
    obtain ⟨p, rfl, h⟩ := h
    have sq : SqL X.K H1 p (ns.map V.int) := by
      rcases h with ⟨o, h⟩ | h
      · exact .inl (.inr ⟨o, h⟩)
      · rw [hK]; exact h H1
    exact ⟨p, rfl, .inl ⟨⟨_, sq⟩, qq _ H1 Z' t1 As' g' S' T1 (it_scr hK h)⟩⟩
  | _ => simp [seqOf] at e
theorem rng_bd {d e : D} {ds : List D} (h : rng? d e = some ds) : ∃ i j, d = .int i ∧ e = .int j ∧ ds = rngL i j ∧ (-(2 ^ 62) ≤ i ∧ i < 2 ^ 62 ∧ -(2 ^ 62) ≤ j ∧ j < 2 ^ 62) ∧ (j - i).toNat ≤ 8000000 := by
  cases d with
  | int i =>
    cases e with
    | int j =>
      simp only [rng?] at h
      split at h
      · rename_i hb
        cases h
        unfold RLIM at hb
        refine ⟨i, j, rfl, rfl, rfl, ⟨by omega, by omega, by omega, by omega⟩, by omega⟩
      · cases h
    | _ => simp [rng?] at h
  | _ => simp [rng?] at h
theorem w_rng (M : Cmp C cf XP Ex sc fb X) {p : PySem.Pos} (hg : gloB sc "range" = true) (hs : PySem.starEach [x] X.env = [(false, PySem.eval x X.env)]) (ha : PE X x (tEv cf XP Ex a L La ty1)) :
    PI X tg (.Call (.Name "range" p) [x] [] pos) (tIt cf XP Ex fz (.rng a) L La) := by
  refine (pi_range1 (M.gl hg) (M.bi _ (by decide +kernel)) (one_arg hs ha) hs).imp fun σ H RR ⟨Z, ta, As, ρ, τ, S, T, q⟩ => ?_
  rw [show evI cf (.rng a) ρ τ = (evE cf a ρ τ).bind fun x τ => R.of (rng? (.int 0) x) τ by rw [evI]] at q
  refine tEv.go S T q fun d τ1 v H1 Z1 t1 As1 A1 g1 S1 T1 r1 f1 q => ?_
  obtain ⟨ds, e, qq⟩ := q.of
  obtain ⟨i, j, e1, rfl, rfl, hb, _⟩ := rng_bd e
  cases e1
  have h := r1.rd S1
  have hv := h.int'
  subst hv
  refine ⟨j, rfl, hb.2.2.1, hb.2.2.2, qq _ H1 Z1 t1 As1 g1 S1 T1 ?_⟩
  have w := it_rng (H0 := H1) (Y := Yof fz Z1 t1) (Z := Z1) (ta := t1) (a := 0) (b := j)
  simpa using w
theorem w_rng2 (M : Cmp C cf XP Ex sc fb X) {p : PySem.Pos} (hg : gloB sc "range" = true) (hs : PySem.starEach [x, y] X.env = [(false, PySem.eval x X.env), (false, PySem.eval y X.env)]) (hs2 : PySem.starEach [y] X.env = [(false, PySem.eval y X.env)])
    (ha : PE X x (tEv cf XP Ex a L La ty1)) (hb : PE X y (tEv cf XP Ex b La Lb ty2)) :
    PI X tg (.Call (.Name "range" p) [x, y] [] pos) (tIt cf XP Ex fz (.rng2 a b) L Lb) := by
  have pa : PA X [x, y] (tCons (tEv cf XP Ex a L La ty1) (tCons (tEv cf XP Ex b La Lb ty2) tNil)) := pa_cons ha (one_arg hs2 hb) (by rw [hs, hs2])
  refine (pi_range2 (M.gl hg) (M.bi _ (by decide +kernel)) pa hs hs2).imp fun σ H RR ⟨Z, ta, As, ρ, τ, S, T, q⟩ => ?_
  rw [show evI cf (.rng2 a b) ρ τ = (evE cf a ρ τ).bind fun x τ => (evE cf b ρ τ).bind fun y τ => R.of (rng? x y) τ by rw [evI]] at q
  refine tEv.go S T q fun d τ1 v H1 Z1 t1 As1 A1 g1 S1 T1 r1 f1 q => ?_
  refine tEv.go S1 T1 q fun d2 τ2 v2 H2 Z2 t2 As2 A2 g2 S2 T2 r2 f2 q => ?_
  obtain ⟨ds, e, qq⟩ := q.of
  obtain ⟨i, j, rfl, rfl, rfl, hb, _⟩ := rng_bd e
  have hv := ((r1.gw g2 S1.tk S1.zt).rd S2).int'
  subst hv
  have hv2 := (r2.rd S2).int'
  subst hv2
  exact ⟨i, j, rfl, hb, qq _ H2 Z2 t2 As2 (g1.trans g2) S2 T2 it_rng⟩
theorem Lo.wseq {K : PySem.W.Frag} {H : Hp} {Z : Addr → Prop} {ta : Option Addr} {d : D} {ds : List D} {v : V} (tk : ∀ a, ta = some a → ∃ kvs, H a = some (.dK kvs)) (e : seqZ d = some ds) (l : Lo H Z ta (jz fz) d v) :
    ∃ b a vs, v = .ref a ∧ Rps H Z ta ds vs ∧ ∀ H', Kp H (Yof fz Z ta) H' → SqB K b H' a vs := by
  cases d with
  | lst es =>
    simp only [seqZ, Option.some.injEq] at e
    subst e
    obtain ⟨a, vs, rfl, hy, h1, h2⟩ := l.wlst tk
    exact ⟨true, a, vs, rfl, h2, fun H' k => SqL.of (k.lst _ _ hy h1)⟩
  | tup es =>
    simp only [seqZ, Option.some.injEq] at e
    subst e
    obtain ⟨a, vs, rfl, h1, h2⟩ := l.wtup
    exact ⟨false, a, vs, rfl, h2, fun H' k => SqT.of (k.tup _ _ h1)⟩
  | _ => simp [seqZ] at e
theorem w_zip (M : Cmp C cf XP Ex sc fb X) {p tpos : PySem.Pos} {elts : List Expr} {kk : Nat} (hg : gloB sc "zip" = true) (hs : PySem.starEach [x, y] X.env = [(false, PySem.eval x X.env), (false, PySem.eval y X.env)]) (hs2 : PySem.starEach [y] X.env = [(false, PySem.eval y X.env)])
    (ha : PE X x (tEv cf XP Ex a L La ty1)) (hb : PE X y (tEv cf XP Ex b La Lb ty2)) :
    PI X (.Tuple elts kk tpos) (.Call (.Name "zip" p) [x, y] [] pos) (tIt cf XP Ex fz (.zip a b) L (relax (relax Lb (jz fz) ty1.rs) (jz fz) ty2.rs)) := by
  have pa : PA X [x, y] (tCons (tEv cf XP Ex a L La ty1) (tCons (tEv cf XP Ex b La Lb ty2) tNil)) := pa_cons ha (one_arg hs2 hb) (by rw [hs, hs2])
  refine (pi_zipM (M.gl hg) (M.bi _ (by decide +kernel)) pa (by rw [hs, hs2]) (by rw [hs2]; rfl)).imp fun σ H RR ⟨Z, ta, As, ρ, τ, S, T, q⟩ => ?_
  rw [show evI cf (.zip a b) ρ τ = (evE cf a ρ τ).bind fun x τ => (evE cf b ρ τ).bind fun y τ => R.of (zip? x y) τ by rw [evI]] at q
  refine tEv.go S T q fun d τ1 v H1 Z1 t1 As1 A1 g1 S1 T1 r1 f1 q => ?_
  refine tEv.go S1 T1 q fun d2 τ2 v2 H2 Z2 t2 As2 A2 g2 S2 T2 r2 f2 q => ?_
  obtain ⟨ds, e, qq⟩ := q.of
  obtain ⟨Z', As', S', g', l1, l2⟩ := use2 S1 r1 g1 f1 S2 r2 g2 f2 (jz fz) (jz fz)
  unfold zip? at e
  cases e1 : seqZ d with
  | none => rw [e1] at e; cases e
  | some es1 =>
    rw [e1] at e
    cases e2 : seqZ d2 with
    | none => rw [e2] at e; cases e
    | some es2 =>
      rw [e2] at e
      simp only [Option.map_some, Option.bind_some, Option.some.injEq] at e
      subst e
      obtain ⟨b1, p1, vs1, rfl, rr1, k1⟩ := l1.wseq (K := X.K) S'.tk e1
      obtain ⟨b2, p2, vs2, rfl, rr2, k2⟩ := l2.wseq (K := X.K) S'.tk e2
      have k0 : Kp H2 (Yof fz Z' t2) H2 := ⟨fun _ _ e => e, fun _ _ _ e => e, fun _ _ _ e => e⟩
      exact ⟨b1, b2, p1, p2, vs1, vs2, rfl, k1 _ k0, k2 _ k0, qq _ H2 Z' t2 As' g' S' T2 (it_zipM k1 rr1 k2 rr2)⟩
theorem w_enm (M : Cmp C cf XP Ex sc fb X) {p tpos : PySem.Pos} {elts : List Expr} {kk : Nat} (hg : gloB sc "enumerate" = true) (hs : PySem.starEach [x] X.env = [(false, PySem.eval x X.env)])
    (ha : PE X x (tEv cf XP Ex a L La ty1)) :
    PI X (.Tuple elts kk tpos) (.Call (.Name "enumerate" p) [x] [] pos) (tIt cf XP Ex fz (.enm a) L (relax La (jz fz) ty1.rs)) := by
  refine (pi_enum (M.gl hg) (M.bi _ (by decide +kernel)) (one_arg hs ha) hs).imp fun σ H RR ⟨Z, ta, As, ρ, τ, S, T, q⟩ => ?_
  rw [show evI cf (.enm a) ρ τ = (evE cf a ρ τ).bind fun x τ => R.of ((isLst x).map (enmL 0)) τ by rw [evI]] at q
  refine tEv.go S T q fun d τ1 v H1 Z1 t1 As1 A1 g1 S1 T1 r1 f1 q => ?_
  obtain ⟨ds, e, qq⟩ := q.of
  obtain ⟨Z', As', S', g', hz, l, _⟩ := r1.useG S1 g1 f1 (jz fz)
  cases d with
  | lst es =>
    simp only [isLst, Option.map_some, Option.some.injEq] at e
    subst e
    obtain ⟨p, vs, rfl, hy, h1, h2⟩ := l.wlst S'.tk
    exact ⟨p, vs, rfl, SqL.of h1, qq _ H1 Z' t1 As' g' S' T1 (it_enm h1 hy h2)⟩
  | _ => simp [isLst] at e
end
end Py

/-! EvM: slots set and forgotten, a list that grows. -/
namespace Py
open PySem (Str Addr Expr Stmt Scope NameKind Const Comprehension Operator CmpOp Value PyData)
open L2 (V HO Hp upd upd_ne upd_same)
variable [kf : Kf]

theorem look_put {ρ : Loc} {i j : Nat} {d : D} (hi : i < ρ.length) : look (put ρ i d) j = if j = i then some d else look ρ j := by
  unfold look put
  rw [List.getElem?_set]
  by_cases e : i = j
  · subst e; simp [hi]
  · rw [if_neg e, if_neg (Ne.symm e)]
theorem put_len {ρ : Loc} {i : Nat} {d : D} : (put ρ i d).length = ρ.length := by unfold put; simp
/-- a slot is set -/
theorem Sta.put {H : Hp} {Z : Addr → Prop} {ta : Option Addr} {L L' : List Nat} {ρ : Loc} {σ : List (Option V)} {As : Fps} {i : Nat} {d : D} {v : V} {A : List Addr} (S : Sta H Z ta L ρ σ As)
    (o : Ow H Z ta (lev L' i) d v A) (nd : A.Nodup) (sp : ∀ a ∈ A, ¬ Z a ∧ a ∉ (As.set i []).flatten ∧ ta ≠ some a ∧ H a ≠ none) (hl : ∀ j, j ≠ i → lev L' j ≤ lev L j → lev L' j = lev L j) (hle : ∀ j, j ≠ i → lev L' j ≤ lev L j) :
    Sta H Z ta L' (Py.put ρ i d) (σ.set i (some v)) (As.set i A) := by
  by_cases hi : i < As.length
  · have hr : i < ρ.length := by rw [← S.len2]; exact hi
    refine ⟨by rw [List.length_set, put_len]; exact S.len1, by rw [List.length_set, put_len]; exact S.len2, fun j e hj => ?_, ?_, fun a ha => ?_, S.zin, S.tk⟩
    · rw [look_put hr] at hj
      by_cases e2 : j = i
      · subst e2
        rw [if_pos rfl] at hj
        cases hj
        refine ⟨v, ?_, ?_⟩
        · rw [List.getElem?_set_self (by rw [S.len1]; exact hr)]
        · rw [fpa_set hi, if_pos rfl]; exact o
      · rw [if_neg e2] at hj
        obtain ⟨w, hw, ow⟩ := S.slot j e hj
        refine ⟨w, ?_, ?_⟩
        · rw [List.getElem?_set_ne (Ne.symm e2)]; exact hw
        · rw [fpa_set hi, if_neg e2, hl j e2 (hle j e2)]; exact ow
    · refine (flat_set hi).nodup_iff.mpr ?_
      have n1 := (flat_perm hi).nodup_iff.mp S.nod
      rw [List.nodup_append] at n1
      exact List.nodup_append.mpr ⟨nd, n1.2.1, fun a ha b hb e => (sp a ha).2.1 (by rw [e]; exact hb)⟩
    · rcases List.mem_append.mp ((flat_set hi).subset ha) with h | h
      · exact ⟨(sp a h).1, (sp a h).2.2.2, (sp a h).2.2.1⟩
      · exact S.sep a (flat_nil_sub h)
  · have hr : ¬ i < ρ.length := by rw [← S.len2]; exact hi
    have e1 : Py.put ρ i d = ρ := by unfold Py.put; exact List.set_eq_of_length_le (by omega)
    have e2 : σ.set i (some v) = σ := List.set_eq_of_length_le (by rw [S.len1]; omega)
    rw [e1, e2, List.set_eq_of_length_le (by omega)]
    refine ⟨S.len1, S.len2, fun j e hj => ?_, S.nod, S.sep, S.zin, S.tk⟩
    have hji : j ≠ i := fun q => hr (by rw [← q]; exact look_lt hj)
    rw [hl j hji (hle j hji)]
    exact S.slot j e hj
/-- .. to what is given up whole -/
theorem Sta.put0 {H : Hp} {Z : Addr → Prop} {ta : Option Addr} {L : List Nat} {ρ : Loc} {σ : List (Option V)} {As : Fps} {i : Nat} {d : D} {v : V} (S : Sta H Z ta L ρ σ As) (h0 : lev L i = 0) (r : Rp H Z ta d v) :
    Sta H Z ta L (Py.put ρ i d) (σ.set i (some v)) (As.set i []) :=
  S.put (by rw [h0]; exact Ow.zero.mpr ⟨rfl, r⟩) .nil (fun _ h => by cases h) (fun _ _ _ => rfl) fun _ _ => Nat.le_refl _
theorem look_wipe : ∀ {ow : List Nat} {ρ : Loc} {i : Nat} {d : D}, look (wipe ρ ow) i = some d → look ρ i = some d ∧ i ∉ ow
  | [], ρ, i, d, h => ⟨h, by simp⟩
  | v :: vs, ρ, i, d, h => by
    unfold wipe at h
    unfold look at h
    rw [List.getElem?_set] at h
    by_cases e : v = i
    · subst e
      rw [if_pos rfl] at h
      split at h <;> cases h
    · rw [if_neg e] at h
      obtain ⟨h1, h2⟩ := look_wipe (ow := vs) (show look (wipe ρ vs) i = some d from h)
      exact ⟨h1, by simp only [List.mem_cons, not_or]; exact ⟨fun q => e q.symm, h2⟩⟩
theorem look_wipe' : ∀ {ow : List Nat} {ρ : Loc} {i : Nat}, i ∉ ow → look (wipe ρ ow) i = look ρ i
  | [], ρ, i, h => rfl
  | v :: vs, ρ, i, h => by
    simp only [List.mem_cons, not_or] at h
    unfold wipe
    unfold look
    rw [List.getElem?_set_ne (Ne.symm h.1)]
    exact look_wipe' (ow := vs) h.2
theorem wipe_len : ∀ (ow : List Nat) (ρ : Loc), (wipe ρ ow).length = ρ.length
  | [], ρ => rfl
  | v :: vs, ρ => by unfold wipe; rw [List.length_set, wipe_len vs]
theorem wipe_at (vs : List Nat) (σ : List (Option V)) (j : Nat) : (L2.wipe σ vs)[j]? = if j ∈ vs then (σ[j]?).map (fun _ => none) else σ[j]? := by
  induction vs with
  | nil => simp [L2.wipe]
  | cons v vs ih =>
    unfold L2.wipe
    rw [List.getElem?_set, L2.wipe_length]
    by_cases e : v = j
    · subst e
      rw [if_pos rfl, if_pos (show v ∈ v :: vs from List.mem_cons_self)]
      by_cases hl : v < σ.length
      · rw [if_pos hl, List.getElem?_eq_getElem hl]; rfl
      · rw [if_neg hl, List.getElem?_eq_none (by omega)]; rfl
    · rw [if_neg e, ih]
      by_cases m : j ∈ vs
      · rw [if_pos m, if_pos (List.mem_cons_of_mem _ m)]
      · rw [if_neg m, if_neg (by simp only [List.mem_cons, not_or]; exact ⟨fun q => e q.symm, m⟩)]
theorem wipe_set {vs : List Nat} {σ : List (Option V)} {i : Nat} {v : Option V} (hi : i ∈ vs) : L2.wipe (σ.set i v) vs = L2.wipe σ vs := by
  refine List.ext_getElem? fun j => ?_
  rw [wipe_at, wipe_at]
  by_cases m : j ∈ vs
  · rw [if_pos m, if_pos m, List.getElem?_set]
    by_cases e : i = j
    · subst e
      rw [if_pos rfl]
      by_cases hl : i < σ.length
      · rw [if_pos hl, List.getElem?_eq_getElem hl]; rfl
      · rw [if_neg hl, List.getElem?_eq_none (by omega)]
    · rw [if_neg e]
  · rw [if_neg m, if_neg m, List.getElem?_set_ne (fun e => m (by rw [← e]; exact hi))]
theorem wipe_wipe (vs : List Nat) (σ : List (Option V)) : L2.wipe (L2.wipe σ vs) vs = L2.wipe σ vs := by
  refine List.ext_getElem? fun j => ?_
  rw [wipe_at, wipe_at]
  by_cases m : j ∈ vs
  · rw [if_pos m, if_pos m]
    cases σ[j]? <;> rfl
  · rw [if_neg m, if_neg m]
theorem Sta.wipe {H : Hp} {Z : Addr → Prop} {ta : Option Addr} {L : List Nat} {ρ : Loc} {σ : List (Option V)} {As : Fps} (S : Sta H Z ta L ρ σ As) (ow : List Nat) : Sta H Z ta L (Py.wipe ρ ow) (L2.wipe σ ow) As := by
  refine ⟨by rw [L2.wipe_length, wipe_len]; exact S.len1, by rw [wipe_len]; exact S.len2, fun i d e => ?_, S.nod, S.sep, S.zin, S.tk⟩
  obtain ⟨e1, e2⟩ := look_wipe e
  obtain ⟨v, hv, o⟩ := S.slot i d e1
  exact ⟨v, by rw [L2.wipe_out e2]; exact hv, o⟩
/-- the slots' footprints emptied -/
def empt (As : Fps) : List Nat → Fps
  | [] => As
  | i :: is => (empt As is).set i []
theorem empt_len (As : Fps) : ∀ is : List Nat, (empt As is).length = As.length
  | [] => rfl
  | i :: is => by unfold empt; rw [List.length_set, empt_len As is]
theorem empt_sub {As : Fps} {a : Addr} : ∀ {is : List Nat}, a ∈ (empt As is).flatten → a ∈ As.flatten
  | [], h => h
  | i :: is, h => empt_sub (is := is) (flat_nil_sub h)
theorem nod_nil {As : Fps} {i : Nat} (h : As.flatten.Nodup) : (As.set i []).flatten.Nodup := by
  by_cases hi : i < As.length
  · have n1 := (flat_perm hi).nodup_iff.mp h
    rw [List.nodup_append] at n1
    exact n1.2.1
  · rw [List.set_eq_of_length_le (by omega)]; exact h
theorem empt_nod {As : Fps} (h : As.flatten.Nodup) : ∀ is : List Nat, (empt As is).flatten.Nodup
  | [] => h
  | i :: is => nod_nil (empt_nod h is)
theorem empt_at {As : Fps} {j : Nat} : ∀ {is : List Nat}, fpa (empt As is) j = if j ∈ is then [] else fpa As j
  | [] => by simp [empt]
  | i :: is => by
    unfold empt
    by_cases hi : i < (empt As is).length
    · rw [fpa_set hi]
      by_cases e : j = i
      · rw [if_pos e, if_pos (by rw [e]; exact List.mem_cons_self)]
      · rw [if_neg e, empt_at (is := is)]
        by_cases m : j ∈ is
        · rw [if_pos m, if_pos (List.mem_cons_of_mem _ m)]
        · rw [if_neg m, if_neg (by simp only [List.mem_cons, not_or]; exact ⟨e, m⟩)]
    · rw [List.set_eq_of_length_le (by omega), empt_at (is := is)]
      by_cases m : j ∈ is
      · rw [if_pos m, if_pos (List.mem_cons_of_mem _ m)]
      · rw [if_neg m]
        by_cases e : j = i
        · rw [if_pos (by rw [e]; exact List.mem_cons_self)]
          rw [empt_len] at hi
          unfold fpa
          rw [List.getD_eq_getElem?_getD, List.getElem?_eq_none (by omega)]
          rfl
        · rw [if_neg (by simp only [List.mem_cons, not_or]; exact ⟨e, m⟩)]
theorem Sta.unwipe {H : Hp} {Z : Addr → Prop} {ta : Option Addr} {L : List Nat} {ρ : Loc} {σ : List (Option V)} {As : Fps} {ow : List Nat} (S : Sta H Z ta L (Py.wipe ρ ow) (L2.wipe σ ow) As) (h0 : ∀ i ∈ ow, lev L i = 0)
    (hr : ∀ i ∈ ow, ∀ d, look ρ i = some d → ∃ v, σ[i]? = some (some v) ∧ Rp H Z ta d v) : Sta H Z ta L ρ σ (empt As ow) := by
  refine ⟨?_, ?_, fun i d e => ?_, empt_nod S.nod ow, fun a ha => S.sep a (empt_sub ha), S.zin, S.tk⟩
  · have h := S.len1; rw [L2.wipe_length, wipe_len] at h; exact h
  · have h := S.len2; rw [wipe_len] at h; rw [empt_len]; exact h
  · rw [empt_at]
    by_cases m : i ∈ ow
    · obtain ⟨v, hv, r⟩ := hr i m d e
      rw [if_pos m, h0 i m]
      exact ⟨v, hv, Ow.zero.mpr ⟨rfl, r⟩⟩
    · rw [if_neg m]
      obtain ⟨v, hv, o⟩ := S.slot i d (by rw [look_wipe' m]; exact e)
      rw [L2.wipe_out m] at hv
      exact ⟨v, hv, o⟩

/-! ### a list that is written, owned by none of what is known -/
structure Apart (H : Hp) (Z : Addr → Prop) (ta : Option Addr) (D : Addr) : Prop where
  ex : ∃ xs, H D = some (.lst xs)
  z : ¬ Z D
  t : ta ≠ some D
section
variable {H : Hp} {Z : Addr → Prop} {ta : Option Addr} {p : Addr} {xs : List V}
theorem Apart.tup (a : Apart H Z ta p) {b : Addr} {vs : List V} (e : H b = some (.tup vs)) : upd H p (.lst xs) b = some (.tup vs) := by
  rw [upd_ne (fun q => by obtain ⟨w, z⟩ := a.ex; rw [← q, e] at z; cases z)]; exact e
theorem Apart.frz (a : Apart H Z ta p) {b : Addr} {o : PySem.Obj} {u : HO} (e : H b = some (.frz o u)) : upd H p (.lst xs) b = some (.frz o u) := by
  rw [upd_ne (fun q => by obtain ⟨w, z⟩ := a.ex; rw [← q, e] at z; cases z)]; exact e
theorem Apart.zz (a : Apart H Z ta p) {b : Addr} {o : HO} (z : Z b) (e : H b = some o) : upd H p (.lst xs) b = some o := by
  rw [upd_ne (fun q => a.z (by rw [← q]; exact z))]; exact e
theorem Rp.wr (a : Apart H Z ta p) {d : D} {v : V} (r : Rp H Z ta d v) : Rp (L2.upd H p (.lst xs)) Z ta d v :=
  Rp.mono (fun _ _ e => a.tup e) (fun _ _ _ e => a.frz e) (fun _ z => z) (fun _ _ z e => a.zz z e) (fun _ e => e) d v r
theorem Ow.wr (a : Apart H Z ta p) {k : Nat} {d : D} {v : V} {A : List Addr} (h : p ∉ A) (r : Ow H Z ta k d v A) : Ow (L2.upd H p (.lst xs)) Z ta k d v A :=
  Ow.mono (fun _ _ e => a.tup e) (fun _ _ _ e => a.frz e) (fun _ z => z) (fun _ _ z e => a.zz z e) (fun _ e => e) k d v A (fun b hb o e => by rw [upd_ne (fun q => h (by rw [← q]; exact hb))]; exact e) r
theorem Ows.wr (a : Apart H Z ta p) {k : Nat} {d : List D} {v : List V} {A : List Addr} (h : p ∉ A) (r : Ows H Z ta k d v A) : Ows (L2.upd H p (.lst xs)) Z ta k d v A :=
  Ows.mono (fun _ _ e => a.tup e) (fun _ _ _ e => a.frz e) (fun _ z => z) (fun _ _ z e => a.zz z e) (fun _ e => e) k d v A (fun b hb o e => by rw [upd_ne (fun q => h (by rw [← q]; exact hb))]; exact e) r
theorem upd_ex {a b : Addr} {o : HO} (h : H b ≠ none) : upd H a o b ≠ none := by
  by_cases e : b = a
  · subst e; rw [upd_same]; exact Option.some_ne_none _
  · rw [upd_ne e]; exact h
theorem Sta.wr {L : List Nat} {ρ : Loc} {σ : List (Option V)} {As : Fps} (a : Apart H Z ta p) (h : p ∉ As.flatten) (S : Sta H Z ta L ρ σ As) : Sta (L2.upd H p (.lst xs)) Z ta L ρ σ As := by
  refine ⟨S.len1, S.len2, fun i d e => ?_, S.nod, fun b hb => ?_, fun b z => ?_, fun b e => ?_⟩
  · obtain ⟨v, hv, o⟩ := S.slot i d e
    exact ⟨v, hv, o.wr a fun q => h (mem_flat q)⟩
  · obtain ⟨s1, s2, s3⟩ := S.sep b hb
    exact ⟨s1, upd_ex s2, s3⟩
  · obtain ⟨s1, s2⟩ := S.zin b z
    exact ⟨upd_ex s1, s2⟩
  · obtain ⟨k, q⟩ := S.tk b e
    exact ⟨k, by rw [upd_ne (fun r => a.t (by rw [← r]; exact e))]; exact q⟩
theorem TapeSt.wr {τ : Tp} (a : Apart H Z ta p) (T : TapeSt H ta τ) : TapeSt (L2.upd H p (.lst xs)) ta τ := by
  cases τ with
  | none => exact T
  | some t =>
    obtain ⟨x, tc, ob, e, h1, h2⟩ := T
    exact ⟨x, tc, ob, e, by rw [upd_ne (fun r => a.t (by rw [← r]; exact e))]; exact h1, a.frz h2⟩
end
end Py

/-! EvN: targets, list comprehensions. -/
namespace Py
open PySem (Str Addr Expr Stmt Scope NameKind Const Comprehension Operator CmpOp Value PyData Shared)
open L2
variable [kf : Kf]

/-! ### targets -/
def gsOf : List Nat → TGs
  | [] => gNil
  | i :: is => gCons (gName i) (gsOf is)
def gOf (K : PySem.W.Frag) : T → TG
  | .nm i => gName i
  | .tp is => gTup K is.length (gsOf is)
def ZeroAt (L : List Nat) (is : List Nat) : Prop := ∀ i ∈ is, lev L i = 0
section
variable {C : Cst} {cf : CF} {XP : XPr} {Ex : XK} {sc : Scope} {fb : Option Scope} {X : Cx} {L : List Nat} {pos : PySem.Pos}
theorem Cmp.loc (M : Cmp C cf XP Ex sc fb X) {n : Str} (h : locB sc fb n = true) : L2.Loc X.env.scope n ∧ (X.fn n = true ∨ X.env.scope.names.lookup n = some .local) := by
  rw [M.hsc]
  unfold locB at h
  split at h
  · rename_i e
    exact ⟨.inl e, .inr e⟩
  · rename_i e
    exact ⟨.inr e, .inl (M.hfb n (by cases fb <;> exact h))⟩
  · cases h
theorem g_name (M : Cmp C cf XP Ex sc fb X) {n : Str} {i : Nat} (h : tgtB C sc fb i n = true) : PG X (.Name n pos) (gName i) := by
  simp only [tgtB, slotB, Bool.and_eq_true, decide_eq_true_eq] at h
  obtain ⟨⟨h1, h2⟩, h3⟩ := h
  obtain ⟨l1, l2⟩ := M.loc h3
  exact pg_name M.nd (by rw [M.hN]; exact h1) l1 l2
theorem xName_some {e : Expr} {n : Str} (h : xName e = some n) : ∃ p, e = .Name n p := by
  cases e with
  | Name x p => simp [xName] at h; subst h; exact ⟨p, rfl⟩
  | _ => simp [xName] at h
theorem ae_cons {x : Str} {p : PySem.Pos} {es : List Expr} : (PySem.assignEach (.Name x p :: es) X.env) = (false, PySem.assign (.Name x p) X.env) :: PySem.assignEach es X.env := by
  rw [PySem.assignEach]
  intro e pos h
  cases h
theorem gs_ok (M : Cmp C cf XP Ex sc fb X) : ∀ (is : List Nat) (es : List Expr), tgtsOk C sc fb is es = true → PGs X es (gsOf is) ∧ (PySem.assignEach es X.env).length = is.length ∧ (PySem.assignEach es X.env).findIdx? (·.1) = none
  | [], [], _ => ⟨pgs_nil, by rw [PySem.assignEach]; rfl, by rw [PySem.assignEach]; rfl⟩
  | [], e :: es, h => by simp [tgtsOk] at h
  | i :: is, [], h => by simp [tgtsOk] at h
  | i :: is, e :: es, h => by
    simp only [tgtsOk, Bool.and_eq_true] at h
    obtain ⟨h1, h2⟩ := h
    cases q : xName e with
    | none => rw [q] at h1; cases h1
    | some n =>
      rw [q] at h1
      obtain ⟨p, rfl⟩ := xName_some q
      obtain ⟨a, b, c⟩ := gs_ok M is es h2
      refine ⟨pgs_cons (g_name M h1) a (by rw [ae_cons]; rfl), by rw [ae_cons, List.length_cons, List.length_cons, b], ?_⟩
      rw [ae_cons, List.findIdx?_cons]
      simp [c]
theorem xTup_some {e : Expr} {es : List Expr} (h : xTup e = some es) : ∃ k p, e = .Tuple es k p := by
  cases e with
  | Tuple x k p => simp [xTup] at h; subst h; exact ⟨k, p, rfl⟩
  | _ => simp [xTup] at h
theorem g_ok (M : Cmp C cf XP Ex sc fb X) {t : T} {e : Expr} (h : chkT C sc fb t e = true) : PG X e (gOf X.K t) := by
  cases t with
  | nm i =>
    simp only [chkT] at h
    cases q : xName e with
    | none => rw [q] at h; cases h
    | some n =>
      rw [q] at h
      obtain ⟨p, rfl⟩ := xName_some q
      exact g_name M h
  | tp is =>
    simp only [chkT] at h
    cases q : xTup e with
    | none => rw [q] at h; cases h
    | some es =>
      rw [q] at h
      obtain ⟨k, p, rfl⟩ := xTup_some q
      simp only [Bool.and_eq_true] at h
      obtain ⟨a, b, c⟩ := gs_ok M is es h.2
      exact pg_tup M.calm a b c
end

/-- a value goes into slots that own nothing -/
theorem gs_run : ∀ (is : List Nat) {L : List Nat} {ds : List D} {vs : List V} {H : Hp} {Z : Addr → Prop} {ta : Option Addr} {ρ ρ' : Loc} {σ : List (Option V)} {As : Fps} {Q : List (Option V) → Hp → Prop},
    ZeroAt L is → puts ρ is ds = some ρ' → Rps H Z ta ds vs → Sta H Z ta L ρ σ As → (∀ σ' As', Sta H Z ta L ρ' σ' As' → (∀ a ∈ As'.flatten, a ∈ As.flatten) → (∀ vs, (∀ i ∈ is, i ∈ vs) → L2.wipe σ' vs = L2.wipe σ vs) → Q σ' H) → gsOf is vs σ H Q
  | [], L, ds, vs, H, Z, ta, ρ, ρ', σ, As, Q, h0, hp, r, S, k => by
    cases ds with
    | nil =>
      unfold Rps at r
      subst r
      simp only [puts, Option.some.injEq] at hp
      subst hp
      exact ⟨rfl, k σ As S (fun _ h => h) fun _ _ => rfl⟩
    | cons d ds => simp [puts] at hp
  | i :: is, L, ds, vs, H, Z, ta, ρ, ρ', σ, As, Q, h0, hp, r, S, k => by
    cases ds with
    | nil => simp [puts] at hp
    | cons d ds =>
      unfold Rps at r
      obtain ⟨v, vr, rfl, r1, r2⟩ := r
      simp only [puts] at hp
      refine ⟨v, vr, rfl, ?_⟩
      refine gs_run is (fun j hj => h0 j (List.mem_cons_of_mem _ hj)) hp r2 (S.put0 (h0 i List.mem_cons_self) r1) fun σ' As' S' hs hw => ?_
      refine k σ' As' S' (fun a ha => flat_nil_sub (hs a ha)) fun vs hv => ?_
      rw [hw vs fun j hj => hv j (List.mem_cons_of_mem _ hj), wipe_set (hv i List.mem_cons_self)]
theorem g_run {K : PySem.W.Frag} {t : T} {L : List Nat} {d : D} {v : V} {H : Hp} {Z : Addr → Prop} {ta : Option Addr} {ρ ρ' : Loc} {σ : List (Option V)} {As : Fps} {Q : List (Option V) → Hp → Prop}
    (h0 : ZeroAt L (slotsT t)) (hp : bindT ρ t d = some ρ') (r : Rp H Z ta d v) (S : Sta H Z ta L ρ σ As)
    (k : ∀ σ' As', Sta H Z ta L ρ' σ' As' → (∀ a ∈ As'.flatten, a ∈ As.flatten) → (∀ vs, (∀ i ∈ slotsT t, i ∈ vs) → L2.wipe σ' vs = L2.wipe σ vs) → Q σ' H) : gOf K t v σ H Q := by
  cases t with
  | nm i =>
    simp only [bindT, Option.some.injEq] at hp
    subst hp
    have z : lev L i = 0 := h0 i (List.mem_singleton.mpr rfl)
    exact k _ _ (S.put0 z r) (fun a ha => flat_nil_sub ha) fun vs hv => wipe_set (hv i (List.mem_singleton.mpr rfl))
  | tp is =>
    cases d with
    | tup ds =>
      simp only [bindT] at hp
      unfold Rp at r
      obtain ⟨a, vs, rfl, ha, r⟩ := r
      refine ⟨a, vs, rfl, SqT.of ha, ?_, gs_run is h0 hp r S k⟩
      rw [← r.len]
      clear h0 ha r S k
      induction is generalizing ds ρ with
      | nil => cases ds with
        | nil => rfl
        | cons d ds => simp [puts] at hp
      | cons i is ih => cases ds with
        | nil => simp [puts] at hp
        | cons d ds => simp only [puts] at hp; simp [ih ds hp]
    | _ => simp [bindT] at hp
end Py

/-! EvO: list comprehensions. -/
namespace Py
open PySem (Str Addr Expr Stmt Scope NameKind Const Comprehension Operator CmpOp Value PyData Shared)
open L2
variable [kf : Kf]

abbrev ExF : XK := fun _ _ _ => False
theorem Sat.noX {α : Type} {r : R α} {P : α → Tp → Prop} {X X' : Nat → List D → Tp → Prop} (h : Sat (noX r) P X) : Sat r P X' := by
  cases r with
  | ok a t => exact h
  | ex k ds t => exact h.elim
  | bad => exact h.elim
theorem Sat.noXb {α β : Type} {r : R α} {f : α → Tp → R β} {P : β → Tp → Prop} {X X' : Nat → List D → Tp → Prop} (h : Sat ((Py.noX r).bind f) P X) : Sat r (fun a t => Sat (f a t) P X) X' := by
  cases r with
  | ok a t => exact h
  | ex k ds t => exact h.elim
  | bad => exact h.elim
theorem Gw.wide {H H' : Hp} {Z Z' : Addr → Prop} {ta ta' : Option Addr} {As Bs As' : Fps} (g : Gw H Z ta Bs H' Z' ta' As') (h : ∀ a ∈ Bs.flatten, a ∈ As.flatten) : Gw H Z ta As H' Z' ta' As' :=
  ⟨g.keep, g.ex, g.tad, g.tnew, g.z, fun a z => (g.znew a z).imp id fun z => z.imp (h a) id, fun a ha => h a (g.sub a ha)⟩
theorem Gw.ows {H H' : Hp} {Z Z' : Addr → Prop} {ta ta' : Option Addr} {As As' : Fps} (g : Gw H Z ta As H' Z' ta' As') (tk : ∀ a, ta = some a → ∃ kvs, H a = some (.dK kvs)) (zt : ∀ a, Z a → ta ≠ some a) {k : Nat} {d : List D} {v : List V} {A : List Addr} (hA : ∀ a ∈ A, ta ≠ some a) (h : Ows H Z ta k d v A) : Ows H' Z' ta' k d v A :=
  Ows.mono (fun a xs e => g.tupK tk e) (fun a o u e => g.frzK tk e) g.z (fun a o z e => g.keep a o e (zt a z)) g.tad k d v A (fun a ha o e => g.keep a o e (hA a ha)) h
theorem Ows.app {H : Hp} {Z : Addr → Prop} {ta : Option Addr} {k : Nat} : ∀ {ds es : List D} {vs ws : List V} {A B : List Addr}, Ows H Z ta k ds vs A → Ows H Z ta k es ws B → Ows H Z ta k (ds ++ es) (vs ++ ws) (A ++ B)
  | [], es, vs, ws, A, B, h, t => by unfold Ows at h; obtain ⟨rfl, rfl⟩ := h; exact t
  | d :: ds, es, vs, ws, A, B, h, t => by
    unfold Ows at h
    obtain ⟨v, r, A1, A2, rfl, rfl, h1, h2⟩ := h
    show Ows H Z ta k (d :: (ds ++ es)) (v :: r ++ ws) (A1 ++ A2 ++ B)
    unfold Ows
    exact ⟨v, r ++ ws, A1, A2 ++ B, rfl, by rw [List.append_assoc], h1, h2.app t⟩
theorem Ows.one {H : Hp} {Z : Addr → Prop} {ta : Option Addr} {k : Nat} {d : D} {v : V} {A : List Addr} (h : Ow H Z ta k d v A) : Ows H Z ta k [d] [v] A := by
  unfold Ows
  exact ⟨v, [], A, [], rfl, by simp, h, by unfold Ows; exact ⟨rfl, rfl⟩⟩
theorem Yd.use {H0 H H' : Hp} {Z0 Z : Addr → Prop} {t0 ta : Option Addr} {As : Fps} {L : List Nat} {ρ : Loc} {σ : List (Option V)} {τ : Tp} {d : D} {x : V} (y : Yd H0 Z0 t0 d x H H') (r : ∀ d v, Rp H0 Z0 t0 d v → Rp H Z ta d v) (S : Sta H Z ta L ρ σ As) (T : TapeSt H ta τ) :
    Rp H' Z ta d x ∧ Gw H Z ta As H' Z ta As ∧ Sta H' Z ta L ρ σ As ∧ TapeSt H' ta τ := by
  cases y with
  | same h => exact ⟨r _ _ h, .refl, S, T⟩
  | pair hT h1 h2 =>
    refine ⟨?_, .upd hT, S.upd hT, T.upd hT⟩
    unfold Rp
    exact ⟨_, _, rfl, upd_same, Rps.upd hT (Rps.cons (r _ _ h1) (Rps.cons (r _ _ h2) Rps.nil))⟩

section
variable {C : Cst} {cf : CF} {XP : XPr} {Ex : XK} {sc : Scope} {fb : Option Scope} {X : Cx} {L L1 Lz Lc Le : List Nat} {ty : Ty} {kk : Nat} {pos : PySem.Pos}
theorem Cmp.blk (M : Cmp C cf XP Ex sc fb X) {s : Shared} {H : Hp} {scope : Scope} {c : Addr} {cl : List (Str × Addr)} {fp : List Addr} : Cmp C cf XP ExF (relS scope sc) (some scope) (X.blk s H scope (PySem.compEnvC scope cl c X.env) fp) where
  hN := M.hN
  hK := M.hK
  nd := M.nd
  hsc := by
    show (PySem.compEnvC scope cl c X.env).scope = _
    rw [← M.hsc]
    rfl
  calm := M.calm
  hfb := fun x h => h
  bi := M.bi
  hu := M.hu
  fn := fun f x h => by
    obtain ⟨CX, k, fa, fd, ps, F, hr, hm, hk, hb, _, hz, hbad⟩ := (M.fn f x h).ex
    exact ⟨CX, k, fa, fd, ps, F, hr, hm, hk, hb, hz _, hz, hbad⟩

def tCs (cf : CF) (XP : XPr) (L L' : List Nat) : List E → TT
  | [] => tYes
  | [c] => tEvT cf XP ExF c L L'
  | _ => fun _ _ _ => False
theorem tCs_run {cs : List E} {σ : List (Option V)} {H : Hp} {Z : Addr → Prop} {ta : Option Addr} {As : Fps} {ρ : Loc} {τ : Tp} {β : Type} {f : Bool → Tp → R β} {P : β → Tp → Prop} {XX : Nat → List D → Tp → Prop} {Q : Bool → Hp → Prop} (S : Sta H Z ta L ρ σ As) (T : TapeSt H ta τ)
    (hL : cs = [] → Lc = L) (h : Sat ((noX (evC cf cs ρ τ)).bind f) P XX)
    (k : ∀ b τ1 H1 Z1 t1 As1, Gw H Z ta As H1 Z1 t1 As1 → Sta H1 Z1 t1 Lc ρ σ As1 → TapeSt H1 t1 τ1 → Sat (f b τ1) P XX → Q b H1) : tCs cf XP L Lc cs σ H Q := by
  match cs, hL, h with
  | [], hL, h =>
    rw [show evC cf [] ρ τ = .ok true τ by rw [evC]] at h
    rw [hL rfl] at k
    exact k true τ H Z ta As .refl S T h
  | [c], hL, h =>
    rw [show evC cf [c] ρ τ = asB (evE cf c ρ τ) by rw [evC]] at h
    exact ⟨Z, ta, As, ρ, τ, S, T, h.noXb.mono (fun b τ1 h1 H1 Z1 t1 As1 g S1 T1 => k b τ1 H1 Z1 t1 As1 g S1 T1 h1) fun _ _ _ q => q⟩
  | c :: c2 :: r, hL, h =>
    rw [show evC cf (c :: c2 :: r) ρ τ = .bad by rw [evC] <;> simp] at h
    exact h.elim
theorem pwipe_set {vs : List Nat} {ρ : Loc} {i : Nat} {d : Option D} (hi : i ∈ vs) : wipe (ρ.set i d) vs = wipe ρ vs := by
  induction vs with
  | nil => cases hi
  | cons v vs ih =>
    unfold wipe
    by_cases h : i ∈ vs
    · rw [ih h]
    · have e : i = v := by
        rcases List.mem_cons.mp hi with e | e
        · exact e
        · exact absurd e h
      subst e
      have gen : ∀ vs : List Nat, i ∉ vs → wipe (ρ.set i d) vs = (wipe ρ vs).set i d := by
        intro vs
        induction vs with
        | nil => intro _; rfl
        | cons w vs ih2 =>
          intro hw
          simp only [List.mem_cons, not_or] at hw
          unfold wipe
          rw [ih2 hw.2, List.set_comm _ _ hw.1]
      rw [gen vs h, List.set_set]
theorem pwipe_wipe : ∀ (vs : List Nat) (ρ : Loc), wipe (wipe ρ vs) vs = wipe ρ vs := by
  intro vs ρ
  have key : ∀ ws : List Nat, (∀ i ∈ ws, i ∈ vs) → wipe (wipe ρ ws) vs = wipe ρ vs := by
    intro ws
    induction ws with
    | nil => intro _; rfl
    | cons w ws ih =>
      intro h
      rw [show wipe ρ (w :: ws) = (wipe ρ ws).set w none from rfl, pwipe_set (h w List.mem_cons_self)]
      exact ih fun i hi => h i (List.mem_cons_of_mem _ hi)
  exact key vs fun _ h => h
theorem pwipe_puts {vs : List Nat} : ∀ (is : List Nat) {ρ ρ' : Loc} {ds : List D}, (∀ i ∈ is, i ∈ vs) → puts ρ is ds = some ρ' → wipe ρ' vs = wipe ρ vs
  | [], ρ, ρ', ds, _, h => by
    cases ds with
    | nil => simp only [puts, Option.some.injEq] at h; rw [h]
    | cons _ _ => simp [puts] at h
  | i :: is, ρ, ρ', ds, hi, h => by
    cases ds with
    | nil => simp [puts] at h
    | cons d ds =>
      simp only [puts] at h
      rw [pwipe_puts is (fun j hj => hi j (List.mem_cons_of_mem _ hj)) h]
      exact pwipe_set (hi i List.mem_cons_self)
theorem pwipe_bind {vs : List Nat} {t : T} {ρ ρ' : Loc} {d : D} (hi : ∀ i ∈ slotsT t, i ∈ vs) (h : bindT ρ t d = some ρ') : wipe ρ' vs = wipe ρ vs := by
  cases t with
  | nm i =>
    simp only [bindT, Option.some.injEq] at h
    subst h
    exact pwipe_set (hi i (List.mem_singleton.mpr rfl))
  | tp is =>
    cases d with
    | tup ds => exact pwipe_puts is hi h
    | _ => simp [bindT] at h

/-- between two turns -/
structure LcI (H1 : Hp) (Z1 : Addr → Prop) (t1 : Option Addr) (As1 : Fps) (Lz : List Nat) (ρ : Loc) (σ : List (Option V)) (kk : Nat) (xs : List D) (lp : List D → Tp → R (List D)) (Fin : List D → Tp → Prop) (XX : Nat → List D → Tp → Prop) (p : Addr) (i : Nat) (H : Hp) : Prop where
  ex : ∃ Z ta As τ acc ds A, Gw H1 Z1 t1 As1 H Z ta As ∧ Sta H Z ta Lz ρ σ As ∧ TapeSt H ta τ ∧ H p = some (.lst acc) ∧ Ows H Z ta kk ds acc A ∧ (p :: A).Nodup ∧
    (∀ a ∈ p :: A, ¬ Z a ∧ a ∉ As.flatten ∧ ta ≠ some a ∧ H a ≠ none ∧ H1 a = none) ∧ ds.length ≤ i ∧ Sat (lp (xs.drop i) τ) (fun ys τ => Fin (ds ++ ys) τ) XX
/-- what is not known to the slots goes with all that grows -/
theorem sep_gw {H1 H H' : Hp} {Z Z' : Addr → Prop} {ta ta' : Option Addr} {As As' : Fps} {B : List Addr} (g : Gw H Z ta As H' Z' ta' As') (h : ∀ a ∈ B, ¬ Z a ∧ a ∉ As.flatten ∧ ta ≠ some a ∧ H a ≠ none ∧ H1 a = none) :
    ∀ a ∈ B, ¬ Z' a ∧ a ∉ As'.flatten ∧ ta' ≠ some a ∧ H' a ≠ none ∧ H1 a = none := fun a ha => by
  obtain ⟨h1, h2, h3, h4, h5⟩ := h a ha
  refine ⟨fun z => ?_, fun z => h2 (g.sub a z), fun z => ?_, g.ex a h4, h5⟩
  · rcases g.znew a z with z | z | z
    · exact h1 z
    · exact h2 z
    · exact h4 z
  · rcases g.tnew a z with z | z
    · exact h3 z
    · exact h4 z
theorem s_lcW {K : PySem.W.Frag} {ow : List Nat} {t : T} {it : I} {cs : List E} {elt : E} (hsub : ∀ i ∈ slotsT t, i ∈ ow) (z : ZeroAt Lz ow) (l1 : ∀ i, lev Lz i ≤ lev L1 i) (hLc : cs = [] → Lc = Lz)
    (l2 : ∀ i, i ∉ ow → lev Lz i ≤ lev Lc i) (l3 : ∀ i, i ∉ ow → lev Lz i ≤ lev (relax Le 0 ty.rs) i) (hk : (ty.rs = [] ∧ kk = ty.k) ∨ kk = 0) (σ : List (Option V)) (H : Hp) (Q : VK) (h : tEv cf XP Ex (.lc elt ow t it cs) L Lz ⟨kk + 1, []⟩ σ H Q) :
    tLc (tIt cf XP Ex false it L L1) (gOf K t) (tCs cf XP Lz Lc cs) (tEv cf XP ExF elt Lc Le ty) ow σ H Q := by
  obtain ⟨Z, ta, As, ρ, τ, S, T, q⟩ := h
  rw [show evE cf (.lc elt ow t it cs) ρ τ = (evI cf it ρ τ).bind fun xs τ => if xs.length ≤ LIM then
    (lcLoop t (wipe ρ ow) (fun ρ τ => noX (evC cf cs ρ τ)) (fun ρ τ => noX (evE cf elt ρ τ)) xs τ).bind fun ys τ => .ok (.lst ys) τ else .bad by rw [evE]] at q
  refine ⟨Z, ta, As, ρ, τ, S, T, q.bind.mono (fun xs τ1 q J H1 Z0 t1 As0 g0 S0 T0 io => ?_) fun _ _ _ q => q⟩
  have hxs : xs.length ≤ LIM := by
    by_cases h : xs.length ≤ LIM
    · exact h
    · rw [if_neg h] at q; exact q.elim
  rw [if_pos hxs] at q
  intro p hp
  obtain ⟨Z1, As1, S1, gw1⟩ := S0.weaks Lz l1
  have g1 := g0.trans gw1
  -- what all ends in
  let lp : List D → Tp → R (List D) := lcLoop t (wipe ρ ow) (fun ρ τ => noX (evC cf cs ρ τ)) (fun ρ τ => noX (evE cf elt ρ τ))
  let Fin : List D → Tp → Prop := fun zs τ => OPo Lz ρ σ ⟨kk + 1, []⟩ Q H Z ta As (.lst zs) τ
  let XX : Nat → List D → Tp → Prop := EPo XP Ex H Z ta As
  let I := LcI H1 Z1 t1 As1 Lz (wipe ρ ow) (L2.wipe σ ow) kk xs lp Fin XX p
  have step : ∀ i H2, i ≤ xs.length → I i H2 → (i = xs.length → Q (.ref p) H2) ∧ ∀ d, xs[i]? = some d → ∀ x H3, Yd H1 Z0 t1 d x H2 H3 →
      gOf K t x (L2.wipe σ ow) H3 fun σ2 H4 => L2.wipe σ2 ow = L2.wipe σ ow ∧ tCs cf XP Lz Lc cs σ2 H4 fun b H5 =>
        if b = true then tEv cf XP ExF elt Lc Le ty σ2 H5 fun y H6 => ∃ acc, H6 p = some (.lst acc) ∧ acc.length < PySem.sizeLine ∧ I (i + 1) (upd H6 p (.lst (acc ++ [y]))) else I (i + 1) H5 := by
    rintro i H2 hi ⟨Z2, t2, As2, τ2, acc, ds, A, g2, S2, T2, hacc, o, nd, sp, hlen, q2⟩
    refine ⟨fun e => ?_, fun d hd x H3 y => ?_⟩
    · subst e
      rw [List.drop_length] at q2
      have q3 : Fin (ds ++ []) τ2 := q2
      rw [List.append_nil] at q3
      have S2' := S2.unwipe (ρ := ρ) (σ := σ) (ow := ow) z fun j hj d hd => by
        obtain ⟨v, hv, o⟩ := S1.slot j d hd
        rw [z j hj] at o
        exact ⟨v, hv, g2.rp S1.tk S1.zt (Ow.zero.mp o).2⟩
      refine q3 (.ref p) H2 Z2 t2 (empt As2 ow) (p :: A) (g1.trans (g2.trans ⟨fun _ _ e _ => e, fun _ e => e, fun _ e => e, fun _ e => .inl e, fun _ z => z, fun _ z => .inl z, fun a ha => empt_sub ha⟩)) S2' T2 (.tm ⟨?_, nd, fun a ha => ?_⟩) fun a ha => fresh_back g1 (fun a ha => (sp a ha).2.2.2.2) a ha
      · show Ow H2 Z2 t2 (kk + 1) (.lst ds) (.ref p) (p :: A)
        unfold Ow
        exact ⟨p, acc, A, rfl, rfl, hacc, o⟩
      · obtain ⟨h1, h2, h3, h4, _⟩ := sp a ha
        exact ⟨h1, fun q => h2 (empt_sub q), h3, h4⟩
    · have hlt : i < xs.length := by
        by_cases h : i < xs.length
        · exact h
        · rw [List.getElem?_eq_none (by omega)] at hd; cases hd
      have dr : xs.drop i = d :: xs.drop (i + 1) := by
        rw [List.drop_eq_getElem_cons hlt]
        rw [List.getElem?_eq_getElem hlt] at hd
        cases hd
        rfl
      obtain ⟨rx, g3, S3, T3⟩ := y.use (fun d v r => (gw1.trans g2).rp S0.tk S0.zt r) S2 T2
      rw [dr] at q2
      have q2 : Sat (lcLoop t (wipe ρ ow) (fun ρ τ => noX (evC cf cs ρ τ)) (fun ρ τ => noX (evE cf elt ρ τ)) (d :: xs.drop (i + 1)) τ2) _ _ := q2
      rw [lcLoop] at q2
      cases hbd : bindT (wipe ρ ow) t d with
      | none => rw [hbd] at q2; exact q2.elim
      | some ρ' =>
        rw [hbd] at q2
        simp only [R.of_some, R.bind_ok] at q2
        refine g_run (fun j hj => z j (hsub j hj)) hbd rx S3 fun σ2 As4 S4 hs4 hw4 => ?_
        have hw5 : L2.wipe σ2 ow = L2.wipe σ ow := by rw [hw4 ow hsub, wipe_wipe]
        have pw5 : wipe ρ' ow = wipe ρ ow := by rw [pwipe_bind hsub hbd, pwipe_wipe]
        refine ⟨hw5, tCs_run S4 T3 hLc q2 fun b τ5 H5 Z5 t5 As5 g5 S5 T5 q5 => ?_⟩
        have g25 := g3.trans (g5.wide hs4)
        cases b with
        | false =>
          rw [if_neg Bool.false_ne_true] at q5 ⊢
          obtain ⟨Z6, As6, S6, g6⟩ := (S5.wipe ow).weaks Lz fun j => by
            by_cases m : j ∈ ow
            · rw [z j m]; exact Nat.zero_le _
            · exact l2 j m
          rw [hw5, pw5] at S6
          have g26 := g25.trans g6
          have sp6 := sep_gw g26 sp
          exact ⟨Z6, t5, As6, τ5, acc, ds, A, g2.trans g26, S6, T5, g26.lstK S2.tk hacc, g26.ows S2.tk S2.zt (fun a ha => (sp a (List.mem_cons_of_mem _ ha)).2.2.1) o, nd, sp6, by omega, q5⟩
        | true =>
          rw [if_pos rfl] at q5 ⊢
          refine ⟨Z5, t5, As5, ρ', τ5, S5, T5, q5.noXb.mono (fun y τ6 q6 v H6 Z6 t6 As6 A6 g6 S6 T6 r6 f6 => ?_) fun _ _ _ q => q⟩
          have g26 := g25.trans g6
          have hacc6 := g26.lstK S2.tk hacc
          have sp6 := sep_gw g26 sp
          have o6 := g26.ows S2.tk S2.zt (fun a ha => (sp a (List.mem_cons_of_mem _ ha)).2.2.1) o
          have nH : ∀ a ∈ p :: A, a ∉ A6 := fun a ha hb => ((sep_gw g25 sp) a ha).2.2.2.1 (f6 a hb)
          have back2 : ∀ a ∈ A6, H2 a = none := fresh_back g25 f6
          have back1 : ∀ a ∈ A6, H1 a = none := fresh_back g2 back2
          -- the item, its own or given up
          have item : ∃ Z7 As7 B, Sta H6 Z7 t6 (relax Le 0 ty.rs) ρ' σ2 As7 ∧ Gw H2 Z2 t2 As2 H6 Z7 t6 As7 ∧ Ow H6 Z7 t6 kk y v B ∧ B.Nodup ∧ (∀ a ∈ B, a ∈ A6 ∧ ¬ Z7 a ∧ a ∉ As7.flatten ∧ t6 ≠ some a ∧ H6 a ≠ none) := by
            rcases hk with ⟨hr, hk⟩ | hk
            · rw [hr]
              cases r6 with
              | bo x dep hm b => rw [hr] at hm; cases hm
              | tm t =>
                rw [hk]
                exact ⟨Z6, As6, A6, S6, g26, t.ow, t.nod, fun a ha => ⟨ha, (t.sep a ha).1, (t.sep a ha).2.1, (t.sep a ha).2.2.1, (t.sep a ha).2.2.2⟩⟩
            · obtain ⟨Z7, As7, S7, g7, hz7, l7, _⟩ := r6.useG S6 g26 back2 0
              rw [hk]
              exact ⟨Z7, As7, [], S7, g7, Ow.zero.mpr ⟨rfl, l7.zero⟩, .nil, fun _ h => by cases h⟩
          obtain ⟨Z7, As7, B, S7, g7, o7, nd7, sp7⟩ := item
          obtain ⟨Z8, As8, S8, g8⟩ := (S7.wipe ow).weaks Lz fun j => by
            by_cases m : j ∈ ow
            · rw [z j m]; exact Nat.zero_le _
            · exact l3 j m
          rw [hw5, pw5] at S8
          have g28 := g7.trans g8
          have sp8 := sep_gw g28 sp
          have o8 := g28.ows S2.tk S2.zt (fun a ha => (sp a (List.mem_cons_of_mem _ ha)).2.2.1) o
          have ob8 := g8.ow S7.tk S7.zt (fun a ha => (sp7 a ha).2.2.2.1) o7
          have ap : Apart H6 Z8 t6 p := ⟨⟨acc, hacc6⟩, (sp8 p List.mem_cons_self).1, (sp8 p List.mem_cons_self).2.2.1⟩
          have spB : ∀ a ∈ B, ¬ Z8 a ∧ a ∉ As8.flatten ∧ t6 ≠ some a ∧ H6 a ≠ none ∧ H1 a = none := fun a ha => by
            obtain ⟨b1, b2, b3, b4, b5⟩ := sp7 a ha
            refine ⟨fun zz => ?_, fun zz => b3 (g8.sub a zz), b4, b5, back1 a b1⟩
            rcases g8.znew a zz with zz | zz | zz
            · exact b2 zz
            · exact b3 zz
            · exact b5 zz
          have pB : p ∉ B := fun h => nH p List.mem_cons_self (sp7 p h).1
          rw [List.nodup_cons] at nd
          have oo := Ows.app o8 (Ows.one ob8)
          have hlen2 : acc.length = ds.length := o.len.symm
          have LIMs : LIM = PySem.sizeLine := by decide
          refine ⟨acc, hacc6, by rw [← LIMs]; omega, Z8, t6, As8, τ6, acc ++ [v], ds ++ [y], A ++ B, ?_, S8.wr ap (sp8 p List.mem_cons_self).2.1, T6.wr ap, upd_same, oo.wr ap ?_, ?_, fun a ha => ?_, by simp; omega, ?_⟩
          · have g := g2.trans g28
            refine ⟨fun a u e n => ?_, fun a e => upd_ex (g.ex a e), g.tad, g.tnew, g.z, g.znew, g.sub⟩
            rw [upd_ne (fun e2 => by rw [e2, hp] at e; cases e)]
            exact g.keep a u e n
          · simp only [List.mem_append, not_or]; exact ⟨nd.1, pB⟩
          · rw [List.nodup_cons]
            refine ⟨by simp only [List.mem_append, not_or]; exact ⟨nd.1, pB⟩, List.nodup_append.mpr ⟨nd.2, nd7, fun a ha b hb e => ?_⟩⟩
            subst e
            exact nH a (List.mem_cons_of_mem _ ha) (sp7 a hb).1
          · have h : ¬ Z8 a ∧ a ∉ As8.flatten ∧ t6 ≠ some a ∧ H6 a ≠ none ∧ H1 a = none := by
              rcases List.mem_cons.mp ha with e | ha
              · rw [e]; exact sp8 p List.mem_cons_self
              · rcases List.mem_append.mp ha with ha | ha
                · exact sp8 a (List.mem_cons_of_mem _ ha)
                · exact spB a ha
            exact ⟨h.1, h.2.1, h.2.2.1, upd_ex h.2.2.2.1, h.2.2.2.2⟩
          · have q7 := q6.bind
            refine q7.mono (fun ys τ h => ?_) fun _ _ _ h => h
            have h : Fin (ds ++ y :: ys) τ := h
            rw [List.append_assoc]
            exact h
  refine ⟨fun i m H2 => m = xs.length - i ∧ i ≤ xs.length ∧ I i H2, ⟨xs.length, rfl, Nat.zero_le _, ?_⟩, ?_⟩
  · have ap : p ∉ As1.flatten := fun h => (S1.sep p h).2.1 hp
    refine ⟨Z1, t1, As1, τ1, [], [], [], .upd hp, (S1.wipe ow).upd hp, T0.upd hp, upd_same, by unfold Ows; exact ⟨rfl, rfl⟩, by simp, fun a ha => ?_, Nat.zero_le _, ?_⟩
    · have e : a = p := by simpa using ha
      subst e
      refine ⟨fun zz => (S1.zin a zz).1 hp, ap, fun zz => ?_, by rw [upd_same]; exact Option.some_ne_none _, hp⟩
      obtain ⟨k, e⟩ := S1.tk a zz
      rw [hp] at e; cases e
    · rw [List.drop_zero]
      refine q.bind.mono (fun ys τ h => ?_) fun _ _ _ h => h
      exact h
  · rintro i m H2 ⟨rfl, hi, hI⟩
    have hIx := hI
    obtain ⟨Z2, t2, As2, τ2, acc, ds, A, g2, S2, T2, hacc, o, nd, sp, hlen, q2⟩ := hIx.ex
    have kp : Kp H1 (Yof false Z0 t1) H2 := ⟨fun a xs e => g2.tupK S1.tk e, fun a o y e => g2.keep a o e y, fun a o u e => g2.frzK S1.tk e⟩
    obtain ⟨s1, s2⟩ := step i H2 hi hI
    by_cases hlt : i < xs.length
    · have hd : xs[i]? = some xs[i] := List.getElem?_eq_getElem hlt
      obtain ⟨jg, jy⟩ := io.go i _ H2 kp hd
      exact .inr ⟨jg, I (i + 1), fun H' h => ⟨xs.length - (i + 1), by omega, rfl, hlt, h⟩, fun x H3 y => s2 _ hd x H3 (jy x H3 y)⟩
    · have e : i = xs.length := by omega
      refine .inl ⟨?_, s1 e⟩
      rw [e]
      exact io.stop H2 kp
theorem s_lc (M : Cmp C cf XP Ex sc fb X) {elt' tg iter : Expr} {ifs : List Expr} {scope : Scope} {ow : List Nat} {t : T} {it : I} {cs : List E} {elt : E} (hi : PI X tg iter (tIt cf XP Ex false it L L1)) (hb : blkC C.N sc scope (ownOf C ow) = true)
    (ht : chkT C (relS scope sc) (some scope) t tg = true)
    (hts : ∀ (s : Shared) (H : Hp) (c : Addr) (cl : List (Str × Addr)) (fp : List Addr), PTs (X.blk s H scope (PySem.compEnvC scope cl c X.env) fp) ifs (tCs cf XP Lz Lc cs))
    (he : ∀ (s : Shared) (H : Hp) (c : Addr) (cl : List (Str × Addr)) (fp : List Addr), PE (X.blk s H scope (PySem.compEnvC scope cl c X.env) fp) elt' (tEv cf XP ExF elt Lc Le ty))
    (hs : ∀ x, PySem.foldedSetIterable iter X.env x = pure x) (hsub : ∀ i ∈ slotsT t, i ∈ ow) (z : ZeroAt Lz ow) (l1 : ∀ i, lev Lz i ≤ lev L1 i) (hLc : cs = [] → Lc = Lz)
    (l2 : ∀ i, i ∉ ow → lev Lz i ≤ lev Lc i) (l3 : ∀ i, i ∉ ow → lev Lz i ≤ lev (relax Le 0 ty.rs) i) (hk : (ty.rs = [] ∧ kk = ty.k) ∨ kk = 0) :
    PE X (.ListComp elt' [⟨tg, iter, ifs, 0⟩] scope pos) (tEv cf XP Ex (.lc elt ow t it cs) L Lz ⟨kk + 1, []⟩) := by
  have hown : (ownOf C ow).map (·.2) = ow := by unfold ownOf; rw [List.map_map]; exact List.map_id _
  have hbo : BlkOk X.N X.env.scope scope (ownOf C ow) := by rw [M.hN, M.hsc]; exact blkOk_by hb
  have base := pe_lc (pos := pos) (g := gOf X.K t) M.calm M.nd hi hbo (fun s H c cl fp => g_ok (M.blk (s := s) (H := H) (scope := scope) (c := c) (cl := cl) (fp := fp)) ht) hts he hs
  rw [hown] at base
  exact base.imp (s_lcW hsub z l1 hLc l2 l3 hk)
/-- name = [..] -/
theorem s_setLc {elt' tg iter : Expr} {ifs : List Expr} {scope : Scope} {n : Nat} {y : Str} {py spos : PySem.Pos} (hy : X.N[n]? = some y) (hyl : X.env.scope.names.lookup y = some .local) (hsw : PySem.swapsWith (.ListComp elt' [⟨tg, iter, ifs, 0⟩] scope pos) (some (.Name y py)) spos.line X.env = pure true) (M : Cmp C cf XP Ex sc fb X) {ow : List Nat} {t : T} {it : I} {cs : List E} {elt : E} (hi : PI X tg iter (tIt cf XP Ex false it L L1)) (hb : blkC C.N sc scope (ownOf C ow) = true)
    (ht : chkT C (relS scope sc) (some scope) t tg = true)
    (hts : ∀ (s : Shared) (H : Hp) (c : Addr) (cl : List (Str × Addr)) (fp : List Addr), PTs (X.blk s H scope (PySem.compEnvC scope cl c X.env) fp) ifs (tCs cf XP Lz Lc cs))
    (he : ∀ (s : Shared) (H : Hp) (c : Addr) (cl : List (Str × Addr)) (fp : List Addr), PE (X.blk s H scope (PySem.compEnvC scope cl c X.env) fp) elt' (tEv cf XP ExF elt Lc Le ty))
    (hs : ∀ x, PySem.foldedSetIterable iter X.env x = pure x) (hsub : ∀ i ∈ slotsT t, i ∈ ow) (z : ZeroAt Lz ow) (l1 : ∀ i, lev Lz i ≤ lev L1 i) (hLc : cs = [] → Lc = Lz)
    (l2 : ∀ i, i ∉ ow → lev Lz i ≤ lev Lc i) (l3 : ∀ i, i ∉ ow → lev Lz i ≤ lev (relax Le 0 ty.rs) i) (hk : (ty.rs = [] ∧ kk = ty.k) ∨ kk = 0) :
    PS X (.Assign [.Name y py] (.ListComp elt' [⟨tg, iter, ifs, 0⟩] scope pos) spos) (tAsg (tEv cf XP Ex (.lc elt ow t it cs) L Lz ⟨kk + 1, []⟩) (gName n)) := by
  have hown : (ownOf C ow).map (·.2) = ow := by unfold ownOf; rw [List.map_map]; exact List.map_id _
  have hbo : BlkOk X.N X.env.scope scope (ownOf C ow) := by rw [M.hN, M.hsc]; exact blkOk_by hb
  have base := ps_setLc (py := py) (g := gOf X.K t) M.calm M.nd hy hyl hsw hi hbo (fun s H c cl fp => g_ok (M.blk (s := s) (H := H) (scope := scope) (c := c) (cl := cl) (fp := fp)) ht) hts he hs
  rw [hown] at base
  exact ⟨fun pins s σ H D I h => base.run pins s σ H D I (s_lcW hsub z l1 hLc l2 l3 hk σ H _ h)⟩
end
end Py

/-! EvP: the static look, undone: what a text's form is. -/
namespace Py
open PySem (Str Addr Expr Stmt Scope NameKind Const Comprehension Operator CmpOp Value PyData Shared)
open L2
variable [kf : Kf]

theorem xInt_some {e : Expr} {n : Int} (h : xInt e = some n) : ∃ k p, e = .Constant (.int n) k p := by
  unfold xInt at h; split at h
  · cases h; exact ⟨_, _, rfl⟩
  · cases h
theorem xBl_some {e : Expr} {n : Bool} (h : xBl e = some n) : ∃ k p, e = .Constant (.bool n) k p := by
  unfold xBl at h; split at h
  · cases h; exact ⟨_, _, rfl⟩
  · cases h
theorem xNon_some {e : Expr} (h : xNon e = true) : ∃ k p, e = .Constant .none k p := by
  unfold xNon at h; split at h
  · exact ⟨_, _, rfl⟩
  · cases h
theorem xStr_some {e : Expr} {n : Str} (h : xStr e = some n) : ∃ k p, e = .Constant (.str n) k p := by
  unfold xStr at h; split at h
  · cases h; exact ⟨_, _, rfl⟩
  · cases h
theorem xLst_some {e : Expr} {es : List Expr} (h : xLst e = some es) : ∃ p, e = .List es p := by
  unfold xLst at h; split at h
  · cases h; exact ⟨_, rfl⟩
  · cases h
theorem xBin_some {e a b : Expr} {o : Operator} (h : xBin e = some (a, o, b)) : ∃ p, e = .BinOp a o b p := by
  unfold xBin at h; split at h
  · cases h; exact ⟨_, rfl⟩
  · cases h
theorem xNeg_some {e a : Expr} (h : xNeg e = some a) : ∃ p, e = .UnaryOp .USub a p := by
  unfold xNeg at h; split at h
  · cases h; exact ⟨_, rfl⟩
  · cases h
theorem xNot_some {e a : Expr} (h : xNot e = some a) : ∃ p, e = .UnaryOp .Not a p := by
  unfold xNot at h; split at h
  · cases h; exact ⟨_, rfl⟩
  · cases h
theorem xCmp_some {e a b : Expr} {o : CmpOp} (h : xCmp e = some (a, o, b)) : ∃ p, e = .Compare a [o] [b] p := by
  unfold xCmp at h; split at h
  · cases h; exact ⟨_, rfl⟩
  · cases h
theorem xChn_some {e a b c : Expr} {o p : CmpOp} (h : xChn e = some (a, o, b, p, c)) : ∃ q, e = .Compare a [o, p] [b, c] q := by
  unfold xChn at h; split at h
  · cases h; exact ⟨_, rfl⟩
  · cases h
theorem xAnd_some {e a b : Expr} {r : List Expr} {p : PySem.Pos} (h : xAnd e = some (a, b, r, p)) : e = .BoolOp .And (a :: b :: r) p := by
  unfold xAnd at h; split at h
  · cases h; rfl
  · cases h
theorem xOr_some {e a b : Expr} {r : List Expr} {p : PySem.Pos} (h : xOr e = some (a, b, r, p)) : e = .BoolOp .Or (a :: b :: r) p := by
  unfold xOr at h; split at h
  · cases h; rfl
  · cases h
theorem xIte_some {e a b c : Expr} (h : xIte e = some (c, a, b)) : ∃ p, e = .IfExp c a b p := by
  unfold xIte at h; split at h
  · cases h; exact ⟨_, rfl⟩
  · cases h
theorem xIdx_some {e a b : Expr} (h : xIdx e = some (a, b)) : ∃ p, e = .Subscript a b p := by
  unfold xIdx at h; split at h
  · cases h; exact ⟨_, rfl⟩
  · cases h
theorem xSl_some {e a : Expr} {l u : Option Expr} (h : xSl e = some (a, l, u)) : ∃ p q, e = .Subscript a (.Slice l u none p) q := by
  unfold xSl at h; split at h
  · cases h; exact ⟨_, _, rfl⟩
  · cases h
theorem xRev_some {e a : Expr} (h : xRev e = some a) : ∃ k p1 p2 p3 p4, e = .Subscript a (.Slice none none (some (.UnaryOp .USub (.Constant (.int 1) k p1) p2)) p3) p4 := by
  unfold xRev at h; split at h
  · cases h; exact ⟨_, _, _, _, _, rfl⟩
  · cases h
theorem xTge_some {e : Expr} {n s : Str} (h : xTge e = some (n, s)) : ∃ p1 k p2 p3, e = .Subscript (.Name n p1) (.Constant (.str s) k p2) p3 := by
  unfold xTge at h; split at h
  · cases h; exact ⟨_, _, _, _, rfl⟩
  · cases h
theorem xCall_some {e : Expr} {n : Str} {es : List Expr} (h : xCall e = some (n, es)) : ∃ p q, e = .Call (.Name n p) es [] q := by
  unfold xCall at h; split at h
  · cases h; exact ⟨_, _, rfl⟩
  · cases h
theorem xLc_some {e el tg it : Expr} {ifs : List Expr} {sc : Scope} (h : xLc e = some (el, tg, it, ifs, sc)) : ∃ p, e = .ListComp el [⟨tg, it, ifs, 0⟩] sc p := by
  unfold xLc at h; split at h
  · cases h; exact ⟨_, rfl⟩
  · cases h

/-- none of the forms that need a look -/
def plainX : Expr → Bool
  | .Name _ _ => true | .Constant _ _ _ => true | .Tuple _ _ _ => true | .List _ _ => true | .BinOp _ _ _ _ => true | .UnaryOp _ _ _ => true | .Compare _ _ _ _ => true
  | .BoolOp _ _ _ => true | .IfExp _ _ _ _ => true | .Subscript _ _ _ => true | .Call _ _ _ _ => true | .ListComp _ _ _ _ => true
  | _ => false
theorem chk_plain {C : Cst} {sc : Scope} {fb : Option Scope} {e : E} {x : Expr} (h : chk C sc fb e x = true) : plainX x = true := by
  cases e <;> simp only [chk, Bool.and_eq_true, decide_eq_true_eq] at h
  case var i =>
    split at h
    · rename_i n q; obtain ⟨p, rfl⟩ := xName_some q; rfl
    · cases h
  case int z => obtain ⟨k, p, rfl⟩ := xInt_some h; rfl
  case bl z => obtain ⟨k, p, rfl⟩ := xBl_some h; rfl
  case non => obtain ⟨k, p, rfl⟩ := xNon_some h; rfl
  case str z => obtain ⟨k, p, rfl⟩ := xStr_some h.1; rfl
  case tup es =>
    split at h
    · rename_i n q; obtain ⟨k, p, rfl⟩ := xTup_some q; rfl
    · cases h
  case lst es =>
    split at h
    · rename_i n q; obtain ⟨p, rfl⟩ := xLst_some q; rfl
    · cases h
  case bin o a b =>
    split at h
    · rename_i x' p' y' q; obtain ⟨p, rfl⟩ := xBin_some q; rfl
    · cases h
  case neg a =>
    split at h
    · rename_i q; obtain ⟨p, rfl⟩ := xNeg_some q; rfl
    · cases h
  case not a =>
    split at h
    · rename_i q; obtain ⟨p, rfl⟩ := xNot_some q; rfl
    · cases h
  case cmp o a b =>
    split at h
    · rename_i q; obtain ⟨p, rfl⟩ := xCmp_some q; rfl
    · cases h
  case chn o p a b c =>
    split at h
    · rename_i q; obtain ⟨p, rfl⟩ := xChn_some q; rfl
    · cases h
  case and a b =>
    split at h
    · rename_i q; rw [xAnd_some q]; rfl
    · cases h
  case or a b =>
    split at h
    · rename_i q; rw [xOr_some q]; rfl
    · cases h
  case ite c a b =>
    split at h
    · rename_i q; obtain ⟨p, rfl⟩ := xIte_some q; rfl
    · cases h
  case idx a i =>
    split at h
    · rename_i q; obtain ⟨p, rfl⟩ := xIdx_some q; rfl
    · cases h
  case slN a =>
    split at h
    · rename_i q; obtain ⟨p, p', rfl⟩ := xSl_some q; rfl
    · cases h
  case slL a =>
    split at h
    · rename_i q; obtain ⟨p, p', rfl⟩ := xSl_some q; rfl
    · cases h
  case slU a =>
    split at h
    · rename_i q; obtain ⟨p, p', rfl⟩ := xSl_some q; rfl
    · cases h
  case slB a =>
    split at h
    · rename_i q; obtain ⟨p, p', rfl⟩ := xSl_some q; rfl
    · cases h
  case rev a =>
    split at h
    · rename_i q; obtain ⟨k, p1, p2, p3, p4, rfl⟩ := xRev_some q; rfl
    · cases h
  case tge x k =>
    unfold fldB at h
    split at h
    · rename_i q; obtain ⟨p1, k, p2, p3, rfl⟩ := xTge_some q; rfl
    · cases h
  case tce x i =>
    split at h
    · rename_i q; obtain ⟨p, rfl⟩ := xIdx_some q; rfl
    · cases h
  case lc elt ow t it cs =>
    split at h
    · rename_i q; obtain ⟨p, rfl⟩ := xLc_some q; rfl
    · cases h
  all_goals
    split at h
    · rename_i q; obtain ⟨p, p', rfl⟩ := xCall_some q; rfl
    · cases h
section
variable {env : PySem.Env} {x y : Expr} {xs : List Expr}
theorem plain_star (h : plainX x = true) : PySem.starEach (x :: xs) env = (false, PySem.eval x env) :: PySem.starEach xs env := by
  rw [PySem.starEach]
  intro e pos q
  subst q
  cases h
theorem star_nil : PySem.starEach [] env = [] := by rw [PySem.starEach]
theorem plain_star1 (h : plainX x = true) : PySem.starEach [x] env = [(false, PySem.eval x env)] := by rw [plain_star h, star_nil]
theorem plain_star2 (h : plainX x = true) (h2 : plainX y = true) : PySem.starEach [x, y] env = [(false, PySem.eval x env), (false, PySem.eval y env)] := by rw [plain_star h, plain_star1 h2]
theorem plain_marks {o : CmpOp} (h : plainX y = true) : PySem.behindInMarks o y = false := by
  cases y <;> first | rfl | (cases h)
theorem plain_fold (h : plainX x = true) : ∀ v, PySem.foldedSetIterable x env v = pure v := by
  intro v
  cases x <;> first | rfl | (cases h)
theorem plain_ix (h : plainX x = true) : PlainIx x := by
  cases x <;> first | (cases h; done) | (intro _ _; rfl) | (unfold PlainIx; intros; rfl)
theorem plain_any (h : ∀ x ∈ xs, plainX x = true) (pos : PySem.Pos) : (PySem.backTo pos (PySem.starEach xs env)).any (·.1) = false := by
  induction xs with
  | nil => rw [star_nil]; rfl
  | cons a as ih =>
    rw [plain_star (h a List.mem_cons_self)]
    have := ih fun x hx => h x (List.mem_cons_of_mem _ hx)
    simpa [PySem.backTo] using this
end
theorem chkL_plain {C : Cst} {sc : Scope} {fb : Option Scope} : ∀ {es : List E} {xs : List Expr}, chkL C sc fb es xs = true → ∀ x ∈ xs, plainX x = true
  | [], [], _, x, hx => by cases hx
  | [], y :: ys, h, x, hx => by simp [chkL] at h
  | e :: es, [], h, x, hx => by cases hx
  | e :: es, y :: ys, h, x, hx => by
    simp only [chkL, Bool.and_eq_true] at h
    rcases List.mem_cons.mp hx with q | q
    · rw [q]; exact chk_plain h.1
    · exact chkL_plain h.2 x q
theorem lev_zeros : ∀ (is : List Nat) (L : List Nat) (i : Nat), lev (zeros L is) i ≤ lev L i ∧ (i ∈ is → lev (zeros L is) i = 0) ∧ (i ∉ is → lev (zeros L is) i = lev L i)
  | [], L, i => ⟨Nat.le_refl _, fun h => (by cases h), fun _ => rfl⟩
  | j :: is, L, i => by
    obtain ⟨h1, h2, h3⟩ := lev_zeros is (L.set j 0) i
    have e : zeros L (j :: is) = zeros (L.set j 0) is := rfl
    rw [e]
    have k : lev (L.set j 0) i ≤ lev L i ∧ (i = j → lev (L.set j 0) i = 0) ∧ (i ≠ j → lev (L.set j 0) i = lev L i) := by
      by_cases hj : j < L.length
      · rw [lev_set hj]
        by_cases e : i = j
        · rw [if_pos e]; exact ⟨Nat.zero_le _, fun _ => rfl, fun q => absurd e q⟩
        · rw [if_neg e]; exact ⟨Nat.le_refl _, fun q => absurd q e, fun _ => rfl⟩
      · rw [List.set_eq_of_length_le (by omega)]
        refine ⟨Nat.le_refl _, fun q => ?_, fun _ => rfl⟩
        subst q
        unfold lev
        rw [List.getD_eq_getElem?_getD, List.getElem?_eq_none (by omega)]
        rfl
    refine ⟨Nat.le_trans h1 k.1, fun hm => ?_, fun hm => ?_⟩
    · rcases List.mem_cons.mp hm with q | q
      · have := k.2.1 q; omega
      · exact h2 q
    · simp only [List.mem_cons, not_or] at hm
      rw [h3 hm.2, k.2.2 hm.1]
theorem leL_lev : ∀ {as bs : List Nat}, leL as bs = true → ∀ i, lev as i ≤ lev bs i
  | [], [], _, i => Nat.le_refl _
  | a :: as, b :: bs, h, i => by
    simp only [leL, Bool.and_eq_true, decide_eq_true_eq] at h
    cases i with
    | zero => exact h.1
    | succ i => rw [lev_succ, lev_succ]; exact leL_lev h.2 i
end Py

/-! EvQ: every expression that the static looks let pass. -/
namespace Py
open PySem (Str Addr Expr Stmt Scope NameKind Const Comprehension Operator CmpOp Value PyData Shared)
open L2
variable [kf : Kf]

def isComp : Expr → Bool
  | .ListComp .. => true
  | .SetComp .. => true
  | .DictComp .. => true
  | _ => false
structure Good (cf : CF) (XP : XPr) (Ex : XK) (X : Cx) (e : E) (x : Expr) (L L' : List Nat) (ty : Ty) : Prop where
  pe : PE X x (tEv cf XP Ex e L L' ty)
  pt : PT X x (tEvT cf XP Ex e L L')
  pw : ∀ op vs p, x = .BoolOp op vs p → PW X x (tEvT cf XP Ex e L L')
  st : isComp x = true → ∀ (n : Nat) (y : Str) (py spos : PySem.Pos), X.N[n]? = some y → X.env.scope.names.lookup y = some .local → PySem.swapsWith x (some (.Name y py)) spos.line X.env = pure true → PS X (.Assign [.Name y py] x spos) (tAsg (tEv cf XP Ex e L L' ty) (gName n))
structure GoodL (cf : CF) (XP : XPr) (Ex : XK) (X : Cx) (b : Bool) (es : List E) (xs : List Expr) (L L' : List Nat) : Prop where
  f : b = true → PA X xs (tEvF cf XP Ex es L L')
  n : b = false → PA X xs (tEvN cf XP Ex es L L')
section
variable {C : Cst} {cf : CF} {XP : XPr}
theorem good_of {Ex : XK} {X : Cx} {e : E} {x : Expr} {L L' : List Nat} {ty : Ty} (h : PE X x (tEv cf XP Ex e L L' ty)) (hn : ∀ op vs p, x ≠ .BoolOp op vs p)
    (he : ∀ whole, PySem.isTrue x X.env whole = (do let v ← whole; PySem.standAt x.pos; PySem.holding [v] (PySem.truthy v))) (hc : isComp x = false := by rfl) : Good cf XP Ex X e x L L' ty :=
  ⟨h, s_truth h he, fun op vs p q => absurd q (hn op vs p), fun z => by rw [hc] at z; cases z⟩
theorem obind {α β : Type} {o : Option α} {f : α → Option β} {b : β} (h : o.bind f = some b) : ∃ a, o = some a ∧ f a = some b := by
  cases o with
  | none => cases h
  | some a => exact ⟨a, rfl, h⟩
theorem omap {α β : Type} {o : Option α} {f : α → β} {b : β} (h : o.map f = some b) : ∃ a, o = some a ∧ f a = b := by
  cases o with
  | none => cases h
  | some a => exact ⟨a, rfl, Option.some.inj h⟩
theorem pt_iteX {X : Cx} {c a b : Expr} {p : PySem.Pos} {tA t u : TT} (hc : PT X c tA) (ha : PT X a t) (hb : PT X b u) : PT X (.IfExp c a b p) (fun σ H Q => tA σ H fun d H1 => if d = true then t σ H1 Q else u σ H1 Q) := by
  refine ⟨fun pins s σ H Q I h => ?_⟩
  rw [PySem.isTrue]
  refine PySem.wpAny_bind (thn (hc.run pins s σ H _ I h) fun d s1 ⟨H1, I1, q1⟩ => ?_)
  cases d with
  | true => exact ha.run pins s1 σ H1 Q I1 q1
  | false => exact hb.run pins s1 σ H1 Q I1 q1

theorem chn_bl {o p : Cop} {a b c : E} {ρ : Loc} {τ τ' : Tp} {d : D} (h : evE cf (.chn o p a b c) ρ τ = .ok d τ') : ∃ k, d = .bl k := by
  rw [evE] at h
  cases e1 : evE cf a ρ τ with
  | ok x t1 =>
    rw [e1] at h
    simp only [R.bind_ok] at h
    cases e2 : evE cf b ρ t1 with
    | ok y t2 =>
      rw [e2] at h
      simp only [R.bind_ok] at h
      cases e3 : cmpop o x y with
      | none => rw [e3] at h; cases h
      | some k =>
        rw [e3] at h
        simp only [R.of_some, R.bind_ok] at h
        cases k with
        | false => rw [if_neg Bool.false_ne_true] at h; cases h; exact ⟨_, rfl⟩
        | true =>
          rw [if_pos rfl] at h
          cases e4 : evE cf c ρ t2 with
          | ok z t3 =>
            rw [e4] at h
            simp only [R.bind_ok] at h
            cases e5 : cmpop p y z with
            | none => rw [e5] at h; cases h
            | some k => rw [e5] at h; cases h; exact ⟨_, rfl⟩
          | ex _ _ _ => rw [e4] at h; cases h
          | bad => rw [e4] at h; cases h
    | ex _ _ _ => rw [e2] at h; cases h
    | bad => rw [e2] at h; cases h
  | ex _ _ _ => rw [e1] at h; cases h
  | bad => rw [e1] at h; cases h
theorem tEvT.toB {Ex : XK} {e : E} {L L' : List Nat} {σ : List (Option V)} {H : Hp} {Q : Bool → Hp → Prop} (hb : ∀ ρ τ d τ', evE cf e ρ τ = .ok d τ' → ∃ k, d = .bl k) (h : tEvT cf XP Ex e L L' σ H Q) :
    tEv cf XP Ex e L L' atom σ H fun x H1 => ∃ k, x = .bl k ∧ Q k H1 := by
  obtain ⟨Z, ta, As, ρ, τ, S, T, q⟩ := h
  refine ⟨Z, ta, As, ρ, τ, S, T, ?_⟩
  unfold asB at q
  cases e1 : evE cf e ρ τ with
  | ok d t =>
    obtain ⟨k, rfl⟩ := hb ρ τ d t e1
    rw [e1] at q
    intro v H1 Z1 t1 As1 A g S1 T1 r f
    have hv := r.rd S1
    unfold Rp at hv
    exact ⟨k, hv, q H1 Z1 t1 As1 g S1 T1⟩
  | ex k ds t => rw [e1] at q; exact q
  | bad => rw [e1] at q; exact q
theorem s_chn2 {Ex : XK} {sc : Scope} {fb : Option Scope} {X : Cx} {L La Lb Lc : List Nat} {ty1 ty2 ty3 : Ty} {a b c : E} {x y z : Expr} {pos : PySem.Pos} (M : Cmp C cf XP Ex sc fb X) {o p : Cop} (hm : PySem.lastMarks [copP o, copP p] [y, z] = false)
    (ha : PE X x (tEv cf XP Ex a L La ty1)) (hb : PE X y (tEv cf XP Ex b La Lb ty2)) (hc : PE X z (tEv cf XP Ex c Lb Lc ty3)) :
    PT X (.Compare x [copP o, copP p] [y, z] pos) (tEvT cf XP Ex (.chn o p a b c) L (minL Lb Lc)) := by
  obtain ⟨r1, ok1, rule1⟩ := c_cmp M.hu o
  obtain ⟨r2, ok2, rule2⟩ := c_cmp M.hu p
  refine (pt_chain ok1 ok2 ha hb hc hm).imp fun σ H Q h => ?_
  obtain ⟨Z, ta, As, ρ, τ, S, T, q⟩ := h.toB (fun _ _ _ _ => chn_bl)
  rw [evE] at q
  refine tEv.go S T q fun d τ1 v H1 Z1 t1 As1 A1 g1 S1 T1 w1 f1 q => ?_
  refine tEv.go S1 T1 q fun d2 τ2 v2 H2 Z2 t2 As2 A2 g2 S2 T2 w2 f2 q => ?_
  obtain ⟨k, e, q⟩ := q.bind.of
  refine rule1 H2 All t2 d d2 k v v2 _ ((w1.gw g2 S1.tk S1.zt).rd S2) (w2.rd S2) e ⟨k, rfl, ?_⟩
  have g02 := g1.trans g2
  cases k with
  | false =>
    refine OPo.take (ty := atom) (A := []) q g02 S2 T2 (.tm ⟨by unfold Ow; exact ⟨rfl, rfl⟩, .nil, fun _ h => by cases h⟩) (fun _ h => by cases h) (fun i => (lev_minL _ _ i).1) (Nat.le_refl _) fun _ h => h
  | true =>
    refine tEv.go S2 T2 q fun d3 τ3 v3 H3 Z3 t3 As3 A3 g3 S3 T3 w3 f3 q => ?_
    obtain ⟨d4, e, q⟩ := q.of
    simp only [Option.map_eq_some_iff] at e
    obtain ⟨k, e, rfl⟩ := e
    refine rule2 H3 All t3 d2 d3 k v2 v3 _ ((w2.gw g3 S2.tk S2.zt).rd S3) (w3.rd S3) e ?_
    refine OPo.take (ty := atom) (A := []) q (g02.trans g3) S3 T3 (.tm ⟨by unfold Ow; exact ⟨rfl, rfl⟩, .nil, fun _ h => by cases h⟩) (fun _ h => by cases h) (fun i => (lev_minL _ _ i).2) (Nat.le_refl _) fun _ h => h
theorem s_iteT {Ex : XK} {X : Cx} {L La Lb Lc : List Nat} {c a b : E} {z x y : Expr} {pos : PySem.Pos} (hc : PT X z (tEvT cf XP Ex c L La)) (ha : PT X x (tEvT cf XP Ex a La Lb)) (hb : PT X y (tEvT cf XP Ex b La Lc)) :
    PT X (.IfExp z x y pos) (tEvT cf XP Ex (.ite c a b) L (minL Lb Lc)) := by
  refine (pt_iteX hc ha hb).imp fun σ H Q ⟨Z, ta, As, ρ, τ, S, T, q⟩ => ?_
  have q2 : Sat ((asB (evE cf c ρ τ)).bind fun k τ => if k then asB (evE cf a ρ τ) else asB (evE cf b ρ τ)) (BPo (minL Lb Lc) ρ σ Q H Z ta As) (EPo XP Ex H Z ta As) := by
    rw [evE] at q
    unfold asB at q ⊢
    cases e1 : evE cf c ρ τ with
    | ok d t =>
      rw [e1] at q
      simp only [R.bind_ok] at q ⊢
      cases e2 : truth d with
      | none => rw [e2] at q; exact q
      | some k =>
        rw [e2] at q
        simp only [R.of_some, R.bind_ok] at q ⊢
        cases k <;> exact q
    | ex k ds t => rw [e1] at q; exact q
    | bad => rw [e1] at q; exact q
  refine tEvT.go S T q2 fun k τ1 H1 Z1 t1 As1 g1 S1 T1 q => ?_
  have take : ∀ {L1 : List Nat}, (∀ i, lev (minL Lb Lc) i ≤ lev L1 i) → ∀ d τ1 H2 Z2 t2 As2, BPo (minL Lb Lc) ρ σ Q H Z ta As d τ1 → Gw H1 Z1 t1 As1 H2 Z2 t2 As2 → Sta H2 Z2 t2 L1 ρ σ As2 → TapeSt H2 t2 τ1 → Q d H2 :=
    fun hl d τ1 H2 Z2 t2 As2 p g S2 T2 => BPo.take p (g1.trans g) S2 T2 hl
  cases k with
  | true => exact tEvT.imp S1 T1 (q.mono (fun _ _ h => h) fun _ _ _ h => h) (take fun i => (lev_minL _ _ i).1)
  | false => exact tEvT.imp S1 T1 (q.mono (fun _ _ h => h) fun _ _ _ h => h) (take fun i => (lev_minL _ _ i).2)
theorem rps_map {α : Type} {H : Hp} {Z : Addr → Prop} {ta : Option Addr} {f : α → D} {g : α → V} (h : ∀ a, Rp H Z ta (f a) (g a)) : ∀ l : List α, Rps H Z ta (l.map f) (l.map g)
  | [] => Rps.nil
  | a :: l => Rps.cons (h a) (rps_map h l)
theorem rps_rg {H : Hp} {Z : Addr → Prop} {ta : Option Addr} {i j : Int} : Rps H Z ta (rngL i j) (rgV i j) := rps_map (fun a => by unfold Rp; rfl) _
section
variable {Ex : XK} {sc : Scope} {fb : Option Scope} {X : Cx} {L La Lb : List Nat} {ty1 ty2 : Ty} {a c : E} {x y : Expr} {pos p p2 p3 : PySem.Pos} {b : Bi}
theorem rg_end {H0 H1 : Hp} {Z0 Z1 : Addr → Prop} {t0 t1 : Option Addr} {As0 As1 : Fps} {ρ : Loc} {σ : List (Option V)} {τ : Tp} {i j : Int} {d : D} {Q : VK} (hb : b = .list ∨ b = .tuple) (S : Sta H1 Z1 t1 L ρ σ As1) (T : TapeSt H1 t1 τ) (g : Gw H0 Z0 t0 As0 H1 Z1 t1 As1)
    (e : biI b (rngL i j) = some d) (q : OPo L ρ σ fresh1 Q H0 Z0 t0 As0 d τ) : ∀ q, H1 q = none → Q (.ref q) (upd H1 q (if b = .list then .lst (rgV i j) else .tup (rgV i j))) := fun q0 hq => by
  rcases hb with rfl | rfl
  · cases e
    rw [if_pos rfl]
    exact (New.lst q0 _ _ hq rps_rg).done S T g q
  · cases e
    rw [if_neg (by decide)]
    exact (New.tup q0 _ _ hq rps_rg).done S T g q
theorem s_biI1 (M : Cmp C cf XP Ex sc fb X) (hb : b = .list ∨ b = .tuple) (hg : gloB sc (biN b) = true) (hr : gloB sc "range" = true) (hp : plainX x = true) (ha : PE X x (tEv cf XP Ex a L La ty1)) :
    PE X (.Call (.Name (biN b) p) [.Call (.Name "range" p2) [x] [] p3] [] pos) (tEv cf XP Ex (.biI b (.rng a)) L La fresh1) := by
  have pr := prg_1 (p := p2) (pos := p3) (M.gl hr) (M.bi _ (by decide +kernel)) ha (plain_star (xs := []) hp)
  have fin : ∀ σ H Q, tEv cf XP Ex (.biI b (.rng a)) L La fresh1 σ H Q → tRg1 (tEv cf XP Ex a L La ty1) σ H fun i j H1 => RgOk i j ∧ ∀ q, H1 q = none → Q (.ref q) (upd H1 q (if b = .list then .lst (rgV i j) else .tup (rgV i j))) := fun σ H Q ⟨Z, ta, As, ρ, τ, S, T, q⟩ => by
    rw [show evE cf (.biI b (.rng a)) ρ τ = ((evE cf a ρ τ).bind fun x τ => R.of (rng? (.int 0) x) τ).bind fun xs τ => R.of (biI b xs) τ by rw [evE, evI]] at q
    refine tEv.go S T q.bind fun d τ1 v H1 Z1 t1 As1 A1 g1 S1 T1 r1 f1 q => ?_
    obtain ⟨ds, e, qq⟩ := q.of
    obtain ⟨d5, e2, qq2⟩ := Sat.of qq
    obtain ⟨i, j, e1, rfl, rfl, hb1, hb2⟩ := rng_bd e
    cases e1
    have hv := (r1.rd S1).int'
    subst hv
    exact ⟨j, rfl, ⟨hb1.1, hb1.2.1, hb1.2.2.1, hb1.2.2.2, Nat.le_trans hb2 (by decide)⟩, rg_end hb S1 T1 g1 e2 qq2⟩
  rcases hb with rfl | rfl
  · exact (pe_listRg (p := p) (pos := pos) M.calm (M.gl hg) (M.bi _ (by decide +kernel)) pr (plain_star (xs := []) rfl)).imp fun σ H Q h => fin σ H Q h
  · exact (pe_tupRg (p := p) (pos := pos) M.calm (M.gl hg) (M.bi _ (by decide +kernel)) pr (plain_star (xs := []) rfl)).imp fun σ H Q h => fin σ H Q h
theorem s_biI2 (M : Cmp C cf XP Ex sc fb X) (hb : b = .list ∨ b = .tuple) (hg : gloB sc (biN b) = true) (hr : gloB sc "range" = true) (hp : plainX x = true) (hp2 : plainX y = true) (ha : PE X x (tEv cf XP Ex a L La ty1)) (hc : PE X y (tEv cf XP Ex c La Lb ty2)) :
    PE X (.Call (.Name (biN b) p) [.Call (.Name "range" p2) [x, y] [] p3] [] pos) (tEv cf XP Ex (.biI b (.rng2 a c)) L Lb fresh1) := by
  have pr := prg_2 (p := p2) (pos := p3) (M.gl hr) (M.bi _ (by decide +kernel)) ha hc (plain_star (xs := [y]) hp) (plain_star (xs := []) hp2) (plain_any (by simpa using hp2) _)
  have fin : ∀ σ H Q, tEv cf XP Ex (.biI b (.rng2 a c)) L Lb fresh1 σ H Q → tRg2 (tEv cf XP Ex a L La ty1) (tEv cf XP Ex c La Lb ty2) σ H fun i j H1 => RgOk i j ∧ ∀ q, H1 q = none → Q (.ref q) (upd H1 q (if b = .list then .lst (rgV i j) else .tup (rgV i j))) := fun σ H Q ⟨Z, ta, As, ρ, τ, S, T, q⟩ => by
    rw [show evE cf (.biI b (.rng2 a c)) ρ τ = ((evE cf a ρ τ).bind fun x τ => (evE cf c ρ τ).bind fun y τ => R.of (rng? x y) τ).bind fun xs τ => R.of (biI b xs) τ by rw [evE, evI]] at q
    refine tEv.go S T q.bind fun d τ1 v H1 Z1 t1 As1 A1 g1 S1 T1 r1 f1 q => ?_
    refine tEv.go S1 T1 q fun d2 τ2 v2 H2 Z2 t2 As2 A2 g2 S2 T2 r2 f2 q => ?_
    obtain ⟨ds, e, qq⟩ := q.of
    obtain ⟨d5, e2, qq2⟩ := Sat.of qq
    obtain ⟨i, j, rfl, rfl, rfl, hb1, hb2⟩ := rng_bd e
    have hv := ((r1.gw g2 S1.tk S1.zt).rd S2).int'
    subst hv
    have hv2 := (r2.rd S2).int'
    subst hv2
    exact ⟨i, j, rfl, rfl, ⟨hb1.1, hb1.2.1, hb1.2.2.1, hb1.2.2.2, Nat.le_trans hb2 (by decide)⟩, rg_end hb S2 T2 (g1.trans g2) e2 qq2⟩
  rcases hb with rfl | rfl
  · exact (pe_listRg (p := p) (pos := pos) M.calm (M.gl hg) (M.bi _ (by decide +kernel)) pr (plain_star (xs := []) rfl)).imp fun σ H Q h => fin σ H Q h
  · exact (pe_tupRg (p := p) (pos := pos) M.calm (M.gl hg) (M.bi _ (by decide +kernel)) pr (plain_star (xs := []) rfl)).imp fun σ H Q h => fin σ H Q h
end
end
end Py

/-! EvQt: the tape read. -/
namespace Py
open PySem (Str Addr Expr Stmt Scope NameKind Const Comprehension Operator CmpOp Value PyData Shared)
open L2
variable [kf : Kf]

theorem tape_val {t : Tape} {tc : Addr} : valV (tapeKv t tc) (.inr "at") = some (.int t.pos) ∧ valV (tapeKv t tc) (.inr "left") = some (.int t.left) ∧ valV (tapeKv t tc) (.inr "seed") = some (.int t.seed) ∧ valV (tapeKv t tc) (.inr "salt") = some (.int t.salt) ∧ valV (tapeKv t tc) (.inr "cells") = some (.ref tc) := by
  refine ⟨rfl, rfl, rfl, rfl, rfl⟩
theorem tape_fld {t : Tape} {tc : Addr} {k : Nat} {s : Str} {i : Int} (h : tkey k = some s) (e : tfld t k = some i) : valV (tapeKv t tc) (.inr s) = some (.int i) := by
  obtain ⟨h1, h2, h3, h4, _⟩ := @tape_val _ t tc
  match k, h, e with
  | 0, h, e => cases h; cases e; exact h1
  | 1, h, e => cases h; cases e; exact h2
  | 2, h, e => cases h; cases e; exact h3
  | 3, h, e => cases h; cases e; exact h4
theorem tapeAt_some {ρ : Loc} {x : Nat} {τ : Tp} {t : Tape} (h : tapeAt ρ x τ = some t) : look ρ x = some .tape ∧ τ = some t := by
  unfold tapeAt at h
  split at h
  · rename_i t' e1
    cases h
    exact ⟨e1, rfl⟩
  · cases h
section
variable {C : Cst} {cf : CF} {XP : XPr} {Ex : XK} {sc : Scope} {fb : Option Scope} {X : Cx} {L La Lb : List Nat} {ty1 ty2 : Ty} {i : E} {x y : Expr} {pos p p2 p3 : PySem.Pos} {n s : Str} {j k kk : Nat}
theorem fld_some {e : Expr} {o : Option Str} (h : fldB C sc j o e = true) : ∃ n s p1 k p2 p3, e = .Subscript (.Name n p1) (.Constant (.str s) k p2) p3 ∧ varB C sc j n = true ∧ o = some s := by
  unfold fldB at h
  split at h
  · rename_i n s q
    obtain ⟨p1, k, p2, p3, rfl⟩ := xTge_some q
    simp only [Bool.and_eq_true, decide_eq_true_eq] at h
    exact ⟨n, s, p1, k, p2, p3, rfl, h.1, h.2⟩
  · cases h
theorem pvar (M : Cmp C cf XP Ex sc fb X) (h : varB C sc j n = true) : PE X (.Name n p) (tVar j) := by
  simp only [varB, slotB, Bool.and_eq_true, decide_eq_true_eq] at h
  obtain ⟨⟨h1, h2⟩, h3⟩ := h
  obtain ⟨g1, g2, _⟩ := good_dbg h2
  exact pe_var (i := j) (by rw [M.hN]; exact h1) (M.vis h3) g1 g2
theorem pe_fld' (M : Cmp C cf XP Ex sc fb X) (h : varB C sc j n = true) : PE X (.Subscript (.Name n p) (.Constant (.str s) kk p2) p3) (tDGet (tVar j) (tC (.str s))) :=
  pe_dget (by have := M.hu; omega) (pvar M h) pe_str (fun _ _ => rfl)
/-- where the tape stands -/
theorem tape_at {H : Hp} {Z : Addr → Prop} {ta : Option Addr} {As : Fps} {ρ : Loc} {σ : List (Option V)} {τ : Tp} {t : Tape} (S : Sta H Z ta L ρ σ As) (T : TapeSt H ta τ) (h : tapeAt ρ j τ = some t) :
    ∃ a tc ob, ta = some a ∧ σ[j]? = some (some (.ref a)) ∧ H a = some (.dK (tapeKv t tc)) ∧ H tc = some (.frz ob (.lst (t.cells.map V.int))) := by
  obtain ⟨h1, rfl⟩ := tapeAt_some h
  obtain ⟨v, hv, o⟩ := S.slot j _ h1
  obtain ⟨a, tc, ob, e, h2, h3⟩ := T
  unfold Ow at o
  obtain ⟨_, b, e2, rfl⟩ := o
  rw [e] at e2
  cases e2
  exact ⟨a, tc, ob, e, hv, h2, h3⟩
theorem s_tge (M : Cmp C cf XP Ex sc fb X) (h : varB C sc j n = true) (hk : tkey k = some s) : PE X (.Subscript (.Name n p) (.Constant (.str s) kk p2) p3) (tEv cf XP Ex (.tge j k) L L atom) := by
  refine (pe_fld' M h).imp fun σ H Q ⟨Z, ta, As, ρ, τ, S, T, q⟩ => ?_
  rw [show evE cf (.tge j k) ρ τ = R.of (((tapeAt ρ j τ).bind fun t => tfld t k).map .int) τ by rw [evE]] at q
  obtain ⟨d, e, q⟩ := q.of
  obtain ⟨i, e5, rfl⟩ := omap e
  obtain ⟨t, e1, e2⟩ := obind e5
  obtain ⟨a, tc, ob, ea, hv, h2, h3⟩ := tape_at S T e1
  refine ⟨_, hv, a, .int i, rfl, ?_, atom_done rfl (by unfold Rp; rfl) S T .refl q⟩
  have g := DGet.k (k := .inr s) h2
  rw [tape_fld hk e2] at g
  exact g
theorem s_tln (M : Cmp C cf XP Ex sc fb X) (h : varB C sc j n = true) (hg : gloB sc "len" = true) {p4 p5 : PySem.Pos} : PE X (.Call (.Name "len" p4) [.Subscript (.Name n p) (.Constant (.str "cells") kk p2) p3] [] p5) (tEv cf XP Ex (.tln j) L L atom) := by
  refine (pe_callB call_len (M.gl hg) (M.bi _ (by decide +kernel)) PySem.boot_len (pa_cons (pe_fld' M h) pa_nil)).imp fun σ H Q ⟨Z, ta, As, ρ, τ, S, T, q⟩ => ?_
  rw [show evE cf (.tln j) ρ τ = R.of ((tapeAt ρ j τ).map fun t => .int t.cells.length) τ by rw [evE]] at q
  obtain ⟨d, e, q⟩ := q.of
  obtain ⟨t, e1, rfl⟩ := omap e
  obtain ⟨a, tc, ob, ea, hv, h2, h3⟩ := tape_at S T e1
  refine ⟨_, hv, a, .ref tc, rfl, ?_, ?_⟩
  · have g := DGet.k (k := .inr "cells") h2
    rw [(@tape_val _ t tc).2.2.2.2] at g
    exact g
  · refine ⟨.ref tc, t.cells.length, rfl, .inl ⟨t.cells.map V.int, .inl (.inr ⟨ob, h3⟩), by simp⟩, atom_done rfl (by unfold Rp; rfl) S T .refl q⟩
theorem s_tce (M : Cmp C cf XP Ex sc fb X) (h : varB C sc j n = true) (hp : PlainIx y) (hi : PE X y (tEv cf XP Ex i L La ty1)) {p5 : PySem.Pos} : PE X (.Subscript (.Subscript (.Name n p) (.Constant (.str "cells") kk p2) p3) y p5) (tEv cf XP Ex (.tce j i) L La atom) := by
  refine (pe_ix ix_list (pe_fld' M h) hi hp).imp fun σ H Q ⟨Z, ta, As, ρ, τ, S, T, q⟩ => ?_
  rw [show evE cf (.tce j i) ρ τ = (R.of (tapeAt ρ j τ) τ).bind fun t τ => (evE cf i ρ τ).bind fun k τ => R.of (((isInt k).bind fun j => at? t.cells j).map .int) τ by rw [evE]] at q
  obtain ⟨t, e1, q⟩ := q.bind.of
  obtain ⟨a, tc, ob, ea, hv, h2, h3⟩ := tape_at S T e1
  refine ⟨_, hv, a, .ref tc, rfl, ?_, ?_⟩
  · have g := DGet.k (k := .inr "cells") h2
    rw [(@tape_val _ t tc).2.2.2.2] at g
    exact g
  · refine tEv.go S T q fun d τ1 v H1 Z1 t1 As1 A1 g1 S1 T1 r1 f1 q => ?_
    obtain ⟨d2, e, q7⟩ := q.of
    obtain ⟨c, e5, rfl⟩ := omap e
    obtain ⟨ix, e3, e4⟩ := obind e5
    cases d with
    | int ix' =>
      simp only [isInt, Option.some.injEq] at e3
      subst e3
      have hv2 := (r1.rd S1).int'
      subst hv2
      obtain ⟨jj, hj, kj⟩ := at_get e4
      refine ⟨tc, t.cells.map V.int, ix', .int c, rfl, rfl, .inl (.inr ⟨ob, g1.frzK S.tk h3⟩), ?_, atom_done rfl (by unfold Rp; rfl) S1 T1 g1 q7⟩
      rw [at_same, kj _ (by simp), List.getElem?_map, hj]
      rfl
    | _ => simp [isInt] at e3
end
end Py

/-! EvR: every expression that the static looks let pass. -/
namespace Py
open PySem (Str Addr Expr Stmt Scope NameKind Const Comprehension Operator CmpOp Value PyData Shared)
open L2
variable [kf : Kf]

variable {C : Cst} {cf : CF} {XP : XPr}
theorem tg_tup {sc : Scope} {fb : Option Scope} {t : T} {tg : Expr} (h : chkT C sc fb t tg = true) : ∀ is, t = .tp is → ∃ elts kk p, tg = .Tuple elts kk p := by
  intro is e
  subst e
  simp only [chkT] at h
  split at h
  · rename_i es q
    obtain ⟨k, p, rfl⟩ := xTup_some q
    exact ⟨es, k, p, rfl⟩
  · cases h
theorem chkI_plain {sc : Scope} {fb : Option Scope} {t : T} {i : I} {x : Expr} (h : chkI C sc fb t i x = true) : plainX x = true := by
  cases i with
  | val a => exact chk_plain (by simpa only [chkI] using h)
  | _ =>
    simp only [chkI] at h
    split at h
    · first
        | (rename_i q; obtain ⟨p, p', rfl⟩ := xCall_some q; rfl)
        | (rename_i q _; obtain ⟨p, p', rfl⟩ := xCall_some q; rfl)
        | (rename_i q _ _; obtain ⟨p, p', rfl⟩ := xCall_some q; rfl)
    · cases h
mutual
theorem good_E : ∀ (e : E) {Ex : XK} {sc : Scope} {fb : Option Scope} {X : Cx} (M : Cmp C cf XP Ex sc fb X) {x : Expr} {L L' : List Nat} {ty : Ty}, chk C sc fb e x = true → tyE C.lv e L = some (ty, L') → Good cf XP Ex X e x L L' ty
  | .var i, Ex, sc, fb, X, M, x, L, L', ty, h, t => by
    simp only [chk] at h
    split at h
    · rename_i n q
      obtain ⟨p, rfl⟩ := xName_some q
      simp only [tyE, Option.some.injEq, Prod.mk.injEq] at t
      obtain ⟨rfl, rfl⟩ := t
      exact good_of (s_var M h) (fun _ _ _ z => by cases z) fun _ => by rw [PySem.isTrue] <;> simp
    · cases h
  | .int z, Ex, sc, fb, X, M, x, L, L', ty, h, t => by
    simp only [chk, decide_eq_true_eq] at h
    obtain ⟨k, p, rfl⟩ := xInt_some h
    simp only [tyE, Option.some.injEq, Prod.mk.injEq] at t
    obtain ⟨rfl, rfl⟩ := t
    exact good_of s_int (fun _ _ _ z => by cases z) fun _ => by rw [PySem.isTrue] <;> simp
  | .bl z, Ex, sc, fb, X, M, x, L, L', ty, h, t => by
    simp only [chk, decide_eq_true_eq] at h
    obtain ⟨k, p, rfl⟩ := xBl_some h
    simp only [tyE, Option.some.injEq, Prod.mk.injEq] at t
    obtain ⟨rfl, rfl⟩ := t
    exact good_of s_bl (fun _ _ _ z => by cases z) fun _ => by rw [PySem.isTrue] <;> simp
  | .non, Ex, sc, fb, X, M, x, L, L', ty, h, t => by
    simp only [chk] at h
    obtain ⟨k, p, rfl⟩ := xNon_some h
    simp only [tyE, Option.some.injEq, Prod.mk.injEq] at t
    obtain ⟨rfl, rfl⟩ := t
    exact good_of s_non (fun _ _ _ z => by cases z) fun _ => by rw [PySem.isTrue] <;> simp
  | .str z, Ex, sc, fb, X, M, x, L, L', ty, h, t => by
    simp only [chk, Bool.and_eq_true, decide_eq_true_eq] at h
    obtain ⟨k, p, rfl⟩ := xStr_some h.1
    simp only [tyE, Option.some.injEq, Prod.mk.injEq] at t
    obtain ⟨rfl, rfl⟩ := t
    exact good_of (s_str h.2) (fun _ _ _ z => by cases z) fun _ => by rw [PySem.isTrue] <;> simp
  | .tup es, Ex, sc, fb, X, M, x, L, L', ty, h, t => by
    simp only [chk] at h
    split at h
    · rename_i xs q
      obtain ⟨k, p, rfl⟩ := xTup_some q
      simp only [Bool.and_eq_true, decide_eq_true_eq] at h
      simp only [tyE] at t
      obtain ⟨L1, t1, t2⟩ := omap t
      cases t2
      exact good_of (s_tup h.1 ((good_L es M true h.2 t1).f rfl)) (fun _ _ _ z => by cases z) fun _ => by rw [PySem.isTrue] <;> simp
    · cases h
  | .lst es, Ex, sc, fb, X, M, x, L, L', ty, h, t => by
    simp only [chk] at h
    split at h
    · rename_i xs q
      obtain ⟨p, rfl⟩ := xLst_some q
      simp only [Bool.and_eq_true, decide_eq_true_eq] at h
      simp only [tyE] at t
      obtain ⟨L1, t1, t2⟩ := omap t
      cases t2
      exact good_of (s_lst h.1 ((good_L es M true h.2 t1).f rfl)) (fun _ _ _ z => by cases z) fun _ => by rw [PySem.isTrue] <;> simp
    · cases h
  | .bin o a b, Ex, sc, fb, X, M, x, L, L', ty, h, t => by
    simp only [chk] at h
    split at h
    · rename_i x' o' y' q
      obtain ⟨p, rfl⟩ := xBin_some q
      simp only [Bool.and_eq_true, decide_eq_true_eq] at h
      obtain ⟨⟨rfl, h1⟩, h2⟩ := h
      simp only [tyE] at t
      obtain ⟨⟨ty1, L1⟩, t1, t2⟩ := obind t
      obtain ⟨⟨ty2, L2⟩, t3, t4⟩ := omap t2
      cases t4
      exact good_of (s_bin (good_E a M h1 t1).pe (good_E b M h2 t3).pe) (fun _ _ _ z => by cases z) fun _ => by rw [PySem.isTrue] <;> simp
    · cases h
  | .neg a, Ex, sc, fb, X, M, x, L, L', ty, h, t => by
    simp only [chk] at h
    split at h
    · rename_i x' q
      obtain ⟨p, rfl⟩ := xNeg_some q
      simp only [tyE] at t
      obtain ⟨⟨ty1, L1⟩, t1, t2⟩ := omap t
      cases t2
      exact good_of (s_neg (good_E a M h t1).pe) (fun _ _ _ z => by cases z) fun _ => by rw [PySem.isTrue] <;> simp
    · cases h
  | .not a, Ex, sc, fb, X, M, x, L, L', ty, h, t => by
    simp only [chk] at h
    split at h
    · rename_i x' q
      obtain ⟨p, rfl⟩ := xNot_some q
      simp only [tyE] at t
      obtain ⟨⟨ty1, L1⟩, t1, t2⟩ := omap t
      cases t2
      have g := good_E a M h t1
      exact ⟨s_not g.pe, s_notT g.pt, (fun _ _ _ z => by cases z), fun z => by cases z⟩
    · cases h
  | .cmp o a b, Ex, sc, fb, X, M, x, L, L', ty, h, t => by
    simp only [chk] at h
    split at h
    · rename_i x' o' y' q
      obtain ⟨p, rfl⟩ := xCmp_some q
      simp only [Bool.and_eq_true, decide_eq_true_eq] at h
      obtain ⟨⟨rfl, h1⟩, h2⟩ := h
      simp only [tyE] at t
      obtain ⟨⟨ty1, L1⟩, t1, t2⟩ := obind t
      obtain ⟨⟨ty2, L2⟩, t3, t4⟩ := omap t2
      cases t4
      have g1 := good_E a M h1 t1
      have g2 := good_E b M h2 t3
      have hm := plain_marks (o := copP o) (chk_plain h2)
      exact ⟨s_cmp M hm g1.pe g2.pe, s_cmpT M hm g1.pe g2.pe, (fun _ _ _ z => by cases z), fun z => by cases z⟩
    · cases h
  | .chn o p a b c, Ex, sc, fb, X, M, x, L, L', ty, h, t => by
    simp only [chk] at h
    split at h
    · rename_i x' o' y' p' z' q
      obtain ⟨pp, rfl⟩ := xChn_some q
      simp only [Bool.and_eq_true, decide_eq_true_eq] at h
      obtain ⟨⟨⟨⟨rfl, rfl⟩, h1⟩, h2⟩, h3⟩ := h
      simp only [tyE] at t
      obtain ⟨⟨ty1, L1⟩, t1, t2⟩ := obind t
      obtain ⟨⟨ty2, L2⟩, t3, t4⟩ := obind t2
      obtain ⟨⟨ty3, L3⟩, t5, t6⟩ := omap t4
      cases t6
      have g1 := good_E a M h1 t1
      have g2 := good_E b M h2 t3
      have g3 := good_E c M h3 t5
      have hm : PySem.lastMarks [copP o, copP p] [y', z'] = false := by
        show PySem.behindInMarks (copP p) z' = false
        exact plain_marks (chk_plain h3)
      exact ⟨s_chn M hm g1.pe g2.pe g3.pe, s_chn2 M hm g1.pe g2.pe g3.pe, (fun _ _ _ z => by cases z), fun z => by cases z⟩
    · cases h
  | .and a b, Ex, sc, fb, X, M, x, L, L', ty, h, t => by
    simp only [chk] at h
    split at h
    · rename_i x' y' r p q
      have q := xAnd_some q
      subst q
      simp only [Bool.and_eq_true] at h
      obtain ⟨h1, h2⟩ := h
      simp only [tyE] at t
      obtain ⟨⟨ty1, L1⟩, t1, t2⟩ := obind t
      obtain ⟨⟨ty2, L2⟩, t3, t4⟩ := omap t2
      cases t4
      have g1 := good_E a M h1 t1
      cases r with
      | nil =>
        have g2 := good_E b M h2 t3
        have w := s_andT (pos := p) g1.pt (pw_and1 g2.pt)
        exact ⟨s_and g1.pe (pe_one g2.pe), w.pt, (fun _ _ _ _ => w), fun z => by cases z⟩
      | cons z r =>
        have g2 := good_E b M h2 t3
        have w := s_andT (pos := p) g1.pt (g2.pw _ _ _ rfl)
        exact ⟨s_and g1.pe g2.pe, w.pt, (fun _ _ _ _ => w), fun z => by cases z⟩
    · cases h
  | .or a b, Ex, sc, fb, X, M, x, L, L', ty, h, t => by
    simp only [chk] at h
    split at h
    · rename_i x' y' r p q
      have q := xOr_some q
      subst q
      simp only [Bool.and_eq_true] at h
      obtain ⟨h1, h2⟩ := h
      simp only [tyE] at t
      obtain ⟨⟨ty1, L1⟩, t1, t2⟩ := obind t
      obtain ⟨⟨ty2, L2⟩, t3, t4⟩ := omap t2
      cases t4
      have g1 := good_E a M h1 t1
      cases r with
      | nil =>
        have g2 := good_E b M h2 t3
        have w := s_orT (pos := p) g1.pt (pw_or1 g2.pt)
        exact ⟨s_or g1.pe (pe_one g2.pe), w.pt, (fun _ _ _ _ => w), fun z => by cases z⟩
      | cons z r =>
        have g2 := good_E b M h2 t3
        have w := s_orT (pos := p) g1.pt (g2.pw _ _ _ rfl)
        exact ⟨s_or g1.pe g2.pe, w.pt, (fun _ _ _ _ => w), fun z => by cases z⟩
    · cases h
  | .ite c a b, Ex, sc, fb, X, M, x, L, L', ty, h, t => by
    simp only [chk] at h
    split at h
    · rename_i z' x' y' q
      obtain ⟨p, rfl⟩ := xIte_some q
      simp only [Bool.and_eq_true] at h
      obtain ⟨⟨h1, h2⟩, h3⟩ := h
      simp only [tyE] at t
      obtain ⟨⟨ty1, L1⟩, t1, t2⟩ := obind t
      obtain ⟨⟨ty2, L2⟩, t3, t4⟩ := obind t2
      obtain ⟨⟨ty3, L3⟩, t5, t6⟩ := omap t4
      cases t6
      have g1 := good_E c M h1 t1
      have g2 := good_E a M h2 t3
      have g3 := good_E b M h3 t5
      exact ⟨s_ite g1.pt g2.pe g3.pe, s_iteT g1.pt g2.pt g3.pt, (fun _ _ _ z => by cases z), fun z => by cases z⟩
    · cases h
  | .idx a i, Ex, sc, fb, X, M, x, L, L', ty, h, t => by
    simp only [chk] at h
    split at h
    · rename_i x' y' q
      obtain ⟨p, rfl⟩ := xIdx_some q
      simp only [Bool.and_eq_true] at h
      obtain ⟨h1, h2⟩ := h
      simp only [tyE] at t
      obtain ⟨⟨ty1, L1⟩, t1, t2⟩ := obind t
      obtain ⟨⟨ty2, L2⟩, t3, t4⟩ := omap t2
      cases t4
      exact good_of (s_idx (plain_ix (chk_plain h2)) (good_E a M h1 t1).pe (good_E i M h2 t3).pe) (fun _ _ _ z => by cases z) fun _ => by rw [PySem.isTrue] <;> simp
    · cases h
  | .slN a, Ex, sc, fb, X, M, x, L, L', ty, h, t => by
    simp only [chk] at h
    split at h
    · rename_i x' q
      obtain ⟨p, p2, rfl⟩ := xSl_some q
      simp only [tyE] at t
      obtain ⟨⟨ty1, L1⟩, t1, t2⟩ := omap t
      cases t2
      exact good_of (s_slN (good_E a M h t1).pe) (fun _ _ _ z => by cases z) fun _ => by rw [PySem.isTrue] <;> simp
    · cases h
  | .slL a l, Ex, sc, fb, X, M, x, L, L', ty, h, t => by
    simp only [chk] at h
    split at h
    · rename_i x' y' q
      obtain ⟨p, p2, rfl⟩ := xSl_some q
      simp only [Bool.and_eq_true] at h
      obtain ⟨h1, h2⟩ := h
      simp only [tyE] at t
      obtain ⟨⟨ty1, L1⟩, t1, t2⟩ := obind t
      obtain ⟨⟨ty2, L2⟩, t3, t4⟩ := omap t2
      cases t4
      exact good_of (s_slL (good_E a M h1 t1).pe (good_E l M h2 t3).pe) (fun _ _ _ z => by cases z) fun _ => by rw [PySem.isTrue] <;> simp
    · cases h
  | .slU a u, Ex, sc, fb, X, M, x, L, L', ty, h, t => by
    simp only [chk] at h
    split at h
    · rename_i x' y' q
      obtain ⟨p, p2, rfl⟩ := xSl_some q
      simp only [Bool.and_eq_true] at h
      obtain ⟨h1, h2⟩ := h
      simp only [tyE] at t
      obtain ⟨⟨ty1, L1⟩, t1, t2⟩ := obind t
      obtain ⟨⟨ty2, L2⟩, t3, t4⟩ := omap t2
      cases t4
      exact good_of (s_slU (good_E a M h1 t1).pe (good_E u M h2 t3).pe) (fun _ _ _ z => by cases z) fun _ => by rw [PySem.isTrue] <;> simp
    · cases h
  | .slB a l u, Ex, sc, fb, X, M, x, L, L', ty, h, t => by
    simp only [chk] at h
    split at h
    · rename_i x' y' z' q
      obtain ⟨p, p2, rfl⟩ := xSl_some q
      simp only [Bool.and_eq_true] at h
      obtain ⟨⟨h1, h2⟩, h3⟩ := h
      simp only [tyE] at t
      obtain ⟨⟨ty1, L1⟩, t1, t2⟩ := obind t
      obtain ⟨⟨ty2, L2⟩, t3, t4⟩ := obind t2
      obtain ⟨⟨ty3, L3⟩, t5, t6⟩ := omap t4
      cases t6
      exact good_of (s_slB (good_E a M h1 t1).pe (good_E l M h2 t3).pe (good_E u M h3 t5).pe) (fun _ _ _ z => by cases z) fun _ => by rw [PySem.isTrue] <;> simp
    · cases h
  | .rev a, Ex, sc, fb, X, M, x, L, L', ty, h, t => by
    simp only [chk] at h
    split at h
    · rename_i x' q
      obtain ⟨k, p1, p2, p3, p4, rfl⟩ := xRev_some q
      simp only [tyE] at t
      obtain ⟨⟨ty1, L1⟩, t1, t2⟩ := omap t
      cases t2
      exact good_of (s_rev (good_E a M h t1).pe) (fun _ _ _ z => by cases z) fun _ => by rw [PySem.isTrue] <;> simp
    · cases h
  | .bi b a, Ex, sc, fb, X, M, x, L, L', ty, h, t => by
    simp only [chk] at h
    split at h
    · rename_i n x' q
      obtain ⟨p, p2, rfl⟩ := xCall_some q
      simp only [Bool.and_eq_true, decide_eq_true_eq] at h
      obtain ⟨⟨rfl, hg⟩, h1⟩ := h
      simp only [tyE] at t
      obtain ⟨⟨ty1, L1⟩, t1, t2⟩ := omap t
      have g := good_E a M h1 t1
      have st := plain_star1 (env := X.env) (chk_plain h1)
      cases hk : keepsTop b with
      | true =>
        simp only [hk, if_true] at t2
        cases t2
        exact good_of (s_biC M hk hg st g.pe) (fun _ _ _ z => by cases z) fun _ => by rw [PySem.isTrue] <;> simp
      | false =>
        simp only [hk, Bool.false_eq_true, if_false] at t2
        cases t2
        exact good_of (s_bi M hk hg st g.pe) (fun _ _ _ z => by cases z) fun _ => by rw [PySem.isTrue] <;> simp
    · cases h
  | .bi2 b a c, Ex, sc, fb, X, M, x, L, L', ty, h, t => by
    simp only [chk] at h
    split at h
    · rename_i n x' y' q
      obtain ⟨p, p2, rfl⟩ := xCall_some q
      simp only [Bool.and_eq_true, decide_eq_true_eq] at h
      obtain ⟨⟨⟨⟨hb, rfl⟩, hg⟩, h1⟩, h2⟩ := h
      simp only [tyE] at t
      obtain ⟨⟨ty1, L1⟩, t1, t2⟩ := obind t
      obtain ⟨⟨ty2, L2⟩, t3, t4⟩ := omap t2
      cases t4
      exact good_of (s_bi2 M hb hg (plain_star2 (chk_plain h1) (chk_plain h2)) (plain_star1 (chk_plain h2)) (good_E a M h1 t1).pe (good_E c M h2 t3).pe) (fun _ _ _ z => by cases z) fun _ => by rw [PySem.isTrue] <;> simp
    · cases h
  | .biI b (.rng a), Ex, sc, fb, X, M, x, L, L', ty, h, t => by
    simp only [chk] at h
    split at h
    · rename_i n x' q
      obtain ⟨p, p2, rfl⟩ := xCall_some q
      simp only [Bool.and_eq_true, decide_eq_true_eq] at h
      obtain ⟨⟨⟨⟨hb, hr⟩, rfl⟩, hg⟩, h1⟩ := h
      simp only [chkI] at h1
      split at h1
      · rename_i n2 x2 q2
        obtain ⟨p3, p4, rfl⟩ := xCall_some q2
        simp only [Bool.and_eq_true, decide_eq_true_eq] at h1
        obtain ⟨⟨rfl, hg2⟩, h2⟩ := h1
        simp only [tyE] at t
        obtain ⟨L1, t1, t2⟩ := omap t
        simp only [tyI] at t1
        obtain ⟨⟨ty1, L2⟩, t3, t4⟩ := omap t1
        cases t4
        cases t2
        exact good_of (s_biI1 M hb hg hg2 (chk_plain h2) (good_E a M h2 t3).pe) (fun _ _ _ z => by cases z) fun _ => by rw [PySem.isTrue] <;> simp
      · cases h1
    · cases h
  | .biI b (.rng2 a c), Ex, sc, fb, X, M, x, L, L', ty, h, t => by
    simp only [chk] at h
    split at h
    · rename_i n x' q
      obtain ⟨p, p2, rfl⟩ := xCall_some q
      simp only [Bool.and_eq_true, decide_eq_true_eq] at h
      obtain ⟨⟨⟨⟨hb, hr⟩, rfl⟩, hg⟩, h1⟩ := h
      simp only [chkI] at h1
      split at h1
      · rename_i n2 x2 y2 q2
        obtain ⟨p3, p4, rfl⟩ := xCall_some q2
        simp only [Bool.and_eq_true, decide_eq_true_eq] at h1
        obtain ⟨⟨⟨rfl, hg2⟩, h2⟩, h3⟩ := h1
        simp only [tyE] at t
        obtain ⟨L1, t1, t2⟩ := omap t
        simp only [tyI] at t1
        obtain ⟨⟨ty1, L2⟩, t3, t4⟩ := obind t1
        obtain ⟨⟨ty2, L3⟩, t5, t6⟩ := omap t4
        cases t6
        cases t2
        exact good_of (s_biI2 M hb hg hg2 (chk_plain h2) (chk_plain h3) (good_E a M h2 t3).pe (good_E c M h3 t5).pe) (fun _ _ _ z => by cases z) fun _ => by rw [PySem.isTrue] <;> simp
      · cases h1
    · cases h
  | .biI b (.val a), Ex, sc, fb, X, M, x, L, L', ty, h, t => by
    simp only [chk] at h
    split at h
    · simp [isRng] at h
    · cases h
  | .biI b (.zip a c), Ex, sc, fb, X, M, x, L, L', ty, h, t => by
    simp only [chk] at h
    split at h
    · simp [isRng] at h
    · cases h
  | .biI b (.enm a), Ex, sc, fb, X, M, x, L, L', ty, h, t => by
    simp only [chk] at h
    split at h
    · simp [isRng] at h
    · cases h
  | .call f es, Ex, sc, fb, X, M, x, L, L', ty, h, t => by
    simp only [chk] at h
    split at h
    · rename_i n xs q
      obtain ⟨p, p2, rfl⟩ := xCall_some q
      simp only [Bool.and_eq_true, decide_eq_true_eq, Bool.not_eq_true'] at h
      obtain ⟨⟨⟨⟨⟨hf, hg⟩, hgd⟩, hne⟩, hl⟩, h1⟩ := h
      simp only [tyE] at t
      obtain ⟨L1, t1, t2⟩ := omap t
      cases t2
      have g := (good_L es M true h1 t1).f rfl
      have pl := chkL_plain h1
      cases xs with
      | nil =>
        cases es with
        | nil => cases hne
        | cons a es => simp [chkL] at h1
      | cons y ys =>
        exact good_of (s_call M hf hg hgd (plain_star (pl y List.mem_cons_self)) (plain_any (fun z hz => pl z (List.mem_cons_of_mem _ hz)) _) g) (fun _ _ _ z => by cases z) fun _ => by rw [PySem.isTrue] <;> simp
    · cases h
  | .cala f es, Ex, sc, fb, X, M, x, L, L', ty, h, t => by
    simp only [chk] at h
    split at h
    · rename_i n xs q
      obtain ⟨p, p2, rfl⟩ := xCall_some q
      simp only [Bool.and_eq_true, decide_eq_true_eq, Bool.not_eq_true'] at h
      obtain ⟨⟨⟨⟨⟨hf, hg⟩, hgd⟩, hne⟩, hl⟩, h1⟩ := h
      simp only [tyE] at t
      obtain ⟨L1, t1, t2⟩ := omap t
      cases t2
      have g := (good_L es M false h1 t1).n rfl
      have pl := chkL_plain h1
      cases xs with
      | nil =>
        cases es with
        | nil => cases hne
        | cons a es => simp [chkL] at h1
      | cons y ys =>
        exact good_of (s_cala M hf hg hgd (plain_star (pl y List.mem_cons_self)) (plain_any (fun z hz => pl z (List.mem_cons_of_mem _ hz)) _) g) (fun _ _ _ z => by cases z) fun _ => by rw [PySem.isTrue] <;> simp
    · cases h
  | .lc elt ow t it cs, Ex, sc, fb, X, M, x, L, L', ty, h, ht => by
    simp only [chk] at h
    split at h
    · rename_i el tg iter ifs scope q
      obtain ⟨p, rfl⟩ := xLc_some q
      simp only [Bool.and_eq_true] at h
      obtain ⟨⟨⟨⟨hb, htg⟩, hit⟩, hcs⟩, hel⟩ := h
      simp only [tyE] at ht
      obtain ⟨L1, t1, t2⟩ := obind ht
      split at t2
      · rename_i hsl
        obtain ⟨r0, t3, t4⟩ := omap t2
        cases t4
        unfold lcTy at t3
        obtain ⟨q0, t5, t6⟩ := obind t3
        obtain ⟨r, t7, t8⟩ := obind t6
        split at t8
        · rename_i hle
          simp only [Bool.and_eq_true] at hle
          cases t8
          unfold lcStep at t7
          obtain ⟨Lc, t9, t10⟩ := obind t7
          obtain ⟨⟨ty', Le⟩, t11, t12⟩ := omap t10
          have gi := good_I it M false (tg_tup htg) t1 hit
          have key : ∀ kk, ((ty'.rs = [] ∧ kk = ty'.k) ∨ kk = 0) → kk = r.1 → r.2 = minL Lc (relax Le 0 ty'.rs) → PE X (.ListComp el [⟨tg, iter, ifs, 0⟩] scope p) (tEv cf XP Ex (.lc elt ow t it cs) L (zeros q0.2 ow) ⟨kk + 1, []⟩) ∧ ∀ (n : Nat) (y : Str) (py spos : PySem.Pos), X.N[n]? = some y → X.env.scope.names.lookup y = some .local → PySem.swapsWith (.ListComp el [⟨tg, iter, ifs, 0⟩] scope p) (some (.Name y py)) spos.line X.env = pure true → PS X (.Assign [.Name y py] (.ListComp el [⟨tg, iter, ifs, 0⟩] scope p) spos) (tAsg (tEv cf XP Ex (.lc elt ow t it cs) L (zeros q0.2 ow) ⟨kk + 1, []⟩) (gName n)) := fun kk hk ek er => by
            have lz := lev_zeros ow q0.2
            have le1 : ∀ i, i ∉ ow → lev (zeros q0.2 ow) i ≤ lev r.2 i := fun i hi => Nat.le_trans (leL_lev hle.1 i) (lev_zeros ow r.2 i).1
            have c1 : ∀ i ∈ slotsT t, i ∈ ow := by
              intro i hi
              have := (List.all_eq_true.mp hsl) i hi
              simpa using this
            have c2 : ZeroAt (zeros q0.2 ow) ow := fun i hi => (lz i).2.1 hi
            have c3 : ∀ i, lev (zeros q0.2 ow) i ≤ lev L1 i := fun i => Nat.le_trans (leL_lev hle.2 i) (lev_zeros ow L1 i).1
            have c4 : cs = [] → Lc = zeros q0.2 ow := by
              intro e
              subst e
              simp only [tyCs, Option.some.injEq] at t9
              exact t9.symm
            have c5 : ∀ i, i ∉ ow → lev (zeros q0.2 ow) i ≤ lev Lc i := by
              intro i hi
              have := le1 i hi
              rw [er] at this
              exact Nat.le_trans this (lev_minL _ _ i).1
            have c6 : ∀ i, i ∉ ow → lev (zeros q0.2 ow) i ≤ lev (relax Le 0 ty'.rs) i := by
              intro i hi
              have := le1 i hi
              rw [er] at this
              exact Nat.le_trans this (lev_minL _ _ i).2
            have d1 := fun (s : Shared) (H : Hp) (c : Addr) (cl : List (Str × Addr)) (fp : List Addr) => good_C cs (M.blk (s := s) (H := H) (scope := scope) (c := c) (cl := cl) (fp := fp)) hcs t9
            have d2 := fun (s : Shared) (H : Hp) (c : Addr) (cl : List (Str × Addr)) (fp : List Addr) => (good_E elt (M.blk (s := s) (H := H) (scope := scope) (c := c) (cl := cl) (fp := fp)) hel t11).pe
            exact ⟨s_lc M gi hb htg d1 d2 (plain_fold (chkI_plain hit)) c1 c2 c3 c4 c5 c6 hk, fun n y py spos hy hyl hsw => s_setLc hy hyl hsw M gi hb htg d1 d2 (plain_fold (chkI_plain hit)) c1 c2 c3 c4 c5 c6 hk⟩
          have pe := show PE X (.ListComp el [⟨tg, iter, ifs, 0⟩] scope p) (tEv cf XP Ex (.lc elt ow t it cs) L (zeros q0.2 ow) ⟨r.1 + 1, []⟩) ∧ ∀ (n : Nat) (y : Str) (py spos : PySem.Pos), X.N[n]? = some y → X.env.scope.names.lookup y = some .local → PySem.swapsWith (.ListComp el [⟨tg, iter, ifs, 0⟩] scope p) (some (.Name y py)) spos.line X.env = pure true → PS X (.Assign [.Name y py] (.ListComp el [⟨tg, iter, ifs, 0⟩] scope p) spos) (tAsg (tEv cf XP Ex (.lc elt ow t it cs) L (zeros q0.2 ow) ⟨r.1 + 1, []⟩) (gName n)) by
            cases hrs : ty'.rs with
            | nil =>
              simp only [hrs, List.isEmpty_nil, if_true] at t12
              subst t12
              exact key ty'.k (.inl ⟨hrs, rfl⟩) rfl (by rw [hrs]; rfl)
            | cons u us =>
              simp only [hrs, List.isEmpty_cons, Bool.false_eq_true, if_false] at t12
              subst t12
              exact key 0 (.inr rfl) rfl (by rw [hrs])
          exact ⟨pe.1, s_truth pe.1 (fun _ => by rw [PySem.isTrue] <;> simp), (fun _ _ _ z => by cases z), fun _ => pe.2⟩
        · cases t8
      · cases t2
    · cases h
  | .tge j k, Ex, sc, fb, X, M, x, L, L', ty, h, t => by
    simp only [chk] at h
    obtain ⟨n, s, p1, kk, p2, p3, rfl, h1, h2⟩ := fld_some h
    simp only [tyE, Option.some.injEq, Prod.mk.injEq] at t
    obtain ⟨rfl, rfl⟩ := t
    exact good_of (s_tge M h1 h2) (fun _ _ _ z => by cases z) fun _ => by rw [PySem.isTrue] <;> simp
  | .tln j, Ex, sc, fb, X, M, x, L, L', ty, h, t => by
    simp only [chk] at h
    split at h
    · rename_i m a q
      obtain ⟨p4, p5, rfl⟩ := xCall_some q
      simp only [Bool.and_eq_true, decide_eq_true_eq] at h
      obtain ⟨⟨rfl, hg⟩, h0⟩ := h
      obtain ⟨n, s, p1, kk, p2, p3, rfl, h1, h2⟩ := fld_some h0
      cases h2
      simp only [tyE, Option.some.injEq, Prod.mk.injEq] at t
      obtain ⟨rfl, rfl⟩ := t
      exact good_of (s_tln M h1 hg) (fun _ _ _ z => by cases z) fun _ => by rw [PySem.isTrue] <;> simp
    · cases h
  | .tce j i, Ex, sc, fb, X, M, x, L, L', ty, h, t => by
    simp only [chk] at h
    split at h
    · rename_i a y q
      obtain ⟨p, rfl⟩ := xIdx_some q
      simp only [Bool.and_eq_true] at h
      obtain ⟨n, s, p1, kk, p2, p3, rfl, h1, h2⟩ := fld_some h.1
      cases h2
      simp only [tyE] at t
      obtain ⟨⟨ty1, L1⟩, t1, t2⟩ := omap t
      cases t2
      exact good_of (s_tce M h1 (plain_ix (chk_plain h.2)) (good_E i M h.2 t1).pe) (fun _ _ _ z => by cases z) fun _ => by rw [PySem.isTrue] <;> simp
    · cases h
theorem good_L : ∀ (es : List E) {Ex : XK} {sc : Scope} {fb : Option Scope} {X : Cx} (M : Cmp C cf XP Ex sc fb X) (b : Bool) {xs : List Expr} {L L' : List Nat}, chkL C sc fb es xs = true → tyL C.lv b es L = some L' → GoodL cf XP Ex X b es xs L L'
  | [], Ex, sc, fb, X, M, b, [], L, L', h, t => by
    simp only [tyL, Option.some.injEq] at t
    subst t
    exact ⟨fun _ => s_nilF, fun _ => s_nilN⟩
  | [], Ex, sc, fb, X, M, b, x :: xs, L, L', h, t => by simp [chkL] at h
  | e :: es, Ex, sc, fb, X, M, b, [], L, L', h, t => by simp [chkL] at h
  | e :: es, Ex, sc, fb, X, M, b, x :: xs, L, L', h, t => by
    simp only [chkL, Bool.and_eq_true] at h
    simp only [tyL] at t
    obtain ⟨⟨ty1, L1⟩, t1, t2⟩ := obind t
    have g := good_E e M h.1 t1
    have r := good_L es M b h.2 t2
    have st := plain_star (env := X.env) (xs := xs) (chk_plain h.1)
    refine ⟨fun hb => ?_, fun hb => ?_⟩
    · subst hb
      exact s_consF st g.pe (r.f rfl)
    · subst hb
      exact s_consN st g.pe (r.n rfl)
theorem good_C : ∀ (cs : List E) {sc : Scope} {fb : Option Scope} {X : Cx} (M : Cmp C cf XP ExF sc fb X) {xs : List Expr} {L L' : List Nat}, chkL C sc fb cs xs = true → tyCs C.lv cs L = some L' → PTs X xs (tCs cf XP L L' cs)
  | [], sc, fb, X, M, [], L, L', h, t => pts_nil
  | [], sc, fb, X, M, x :: xs, L, L', h, t => by simp [chkL] at h
  | [c], sc, fb, X, M, [], L, L', h, t => by simp [chkL] at h
  | [c], sc, fb, X, M, [x], L, L', h, t => by
    simp only [chkL, Bool.and_eq_true] at h
    simp only [tyCs] at t
    obtain ⟨⟨ty1, L1⟩, t1, t2⟩ := omap t
    cases t2
    exact pts_one (good_E c M h.1 t1).pt
  | [c], sc, fb, X, M, x :: y :: xs, L, L', h, t => by simp [chkL] at h
  | c :: d :: r, sc, fb, X, M, xs, L, L', h, t => by simp [tyCs] at t
theorem good_I : ∀ (i : I) {Ex : XK} {sc : Scope} {fb : Option Scope} {X : Cx} (M : Cmp C cf XP Ex sc fb X) (fz : Bool) {t : T} {tg x : Expr} {L L' : List Nat}, (∀ is, t = .tp is → ∃ elts kk p, tg = .Tuple elts kk p) → tyI C.lv fz i L = some L' → chkI C sc fb t i x = true → PI X tg x (tIt cf XP Ex fz i L L')
  | .val a, Ex, sc, fb, X, M, fz, t, tg, x, L, L', htg, ht, h => by
    simp only [chkI] at h
    simp only [tyI] at ht
    obtain ⟨⟨ty1, L1⟩, t1, t2⟩ := omap ht
    cases t2
    exact w_val M.hK (good_E a M h t1).pe
  | .rng a, Ex, sc, fb, X, M, fz, t, tg, x, L, L', htg, ht, h => by
    simp only [chkI] at h
    split at h
    · rename_i n x' q
      obtain ⟨p, p2, rfl⟩ := xCall_some q
      simp only [Bool.and_eq_true, decide_eq_true_eq] at h
      obtain ⟨⟨rfl, hg⟩, h1⟩ := h
      simp only [tyI] at ht
      obtain ⟨⟨ty1, L1⟩, t1, t2⟩ := omap ht
      cases t2
      exact w_rng M hg (plain_star1 (chk_plain h1)) (good_E a M h1 t1).pe
    · cases h
  | .rng2 a b, Ex, sc, fb, X, M, fz, t, tg, x, L, L', htg, ht, h => by
    simp only [chkI] at h
    split at h
    · rename_i n x' y' q
      obtain ⟨p, p2, rfl⟩ := xCall_some q
      simp only [Bool.and_eq_true, decide_eq_true_eq] at h
      obtain ⟨⟨⟨rfl, hg⟩, h1⟩, h2⟩ := h
      simp only [tyI] at ht
      obtain ⟨⟨ty1, L1⟩, t1, t2⟩ := obind ht
      obtain ⟨⟨ty2, L2⟩, t3, t4⟩ := omap t2
      cases t4
      exact w_rng2 M hg (plain_star2 (chk_plain h1) (chk_plain h2)) (plain_star1 (chk_plain h2)) (good_E a M h1 t1).pe (good_E b M h2 t3).pe
    · cases h
  | .zip a b, Ex, sc, fb, X, M, fz, t, tg, x, L, L', htg, ht, h => by
    simp only [chkI] at h
    split at h
    · rename_i n x' y' is q
      obtain ⟨p, p2, rfl⟩ := xCall_some q
      obtain ⟨elts, kk, p3, rfl⟩ := htg _ rfl
      simp only [Bool.and_eq_true, decide_eq_true_eq] at h
      obtain ⟨⟨⟨rfl, hg⟩, h1⟩, h2⟩ := h
      simp only [tyI] at ht
      obtain ⟨⟨ty1, L1⟩, t1, t2⟩ := obind ht
      obtain ⟨⟨ty2, L2⟩, t3, t4⟩ := omap t2
      cases t4
      exact w_zip M hg (plain_star2 (chk_plain h1) (chk_plain h2)) (plain_star1 (chk_plain h2)) (good_E a M h1 t1).pe (good_E b M h2 t3).pe
    · cases h
  | .enm a, Ex, sc, fb, X, M, fz, t, tg, x, L, L', htg, ht, h => by
    simp only [chkI] at h
    split at h
    · rename_i n x' is q
      obtain ⟨p, p2, rfl⟩ := xCall_some q
      obtain ⟨elts, kk, p3, rfl⟩ := htg _ rfl
      simp only [Bool.and_eq_true, decide_eq_true_eq] at h
      obtain ⟨⟨rfl, hg⟩, h1⟩ := h
      simp only [tyI] at ht
      obtain ⟨⟨ty1, L1⟩, t1, t2⟩ := omap ht
      cases t2
      exact w_enm M hg (plain_star1 (chk_plain h1)) (good_E a M h1 t1).pe
    · cases h
end
end Py

/-! EvS: statements: how all may change, what is wanted. -/
namespace Py
open PySem (Str Addr Expr Stmt Scope NameKind Const Comprehension Operator CmpOp Value PyData Shared)
open L2
variable [kf : Kf]

/-- how all may change while a statement runs: what the slots own may be written -/
structure Gm (H : Hp) (Z : Addr → Prop) (ta : Option Addr) (As : Fps) (H' : Hp) (Z' : Addr → Prop) (ta' : Option Addr) (As' : Fps) : Prop where
  keep : ∀ a o, H a = some o → ta ≠ some a → a ∉ As.flatten → H' a = some o
  tup : ∀ a xs, H a = some (.tup xs) → H' a = some (.tup xs)
  frz : ∀ a o u, H a = some (.frz o u) → H' a = some (.frz o u)
  ex : ∀ a, H a ≠ none → H' a ≠ none
  tad : ∀ a, ta = some a → ta' = some a
  tnew : ∀ a, ta' = some a → ta = some a ∨ H a = none
  z : ∀ a, Z a → Z' a
  znew : ∀ a, Z' a → Z a ∨ a ∈ As.flatten ∨ H a = none
  sub : ∀ a ∈ As'.flatten, a ∈ As.flatten ∨ H a = none
theorem back_none {H H' : Hp} (ex : ∀ a, H a ≠ none → H' a ≠ none) {a : Addr} (h : H' a = none) : H a = none := by
  cases q : H a with
  | none => rfl
  | some o => exact absurd h (ex a (by rw [q]; exact Option.some_ne_none _))
section
variable {H H1 H2 : Hp} {Z Z1 Z2 : Addr → Prop} {ta t1 t2 : Option Addr} {As A1 A2 : Fps}
theorem Gm.refl : Gm H Z ta As H Z ta As := ⟨fun _ _ e _ _ => e, fun _ _ e => e, fun _ _ _ e => e, fun _ e => e, fun _ e => e, fun _ e => .inl e, fun _ e => e, fun _ e => .inl e, fun _ e => .inl e⟩
theorem Gw.m (g : Gw H Z ta As H1 Z1 t1 A1) (tk : ∀ a, ta = some a → ∃ kvs, H a = some (.dK kvs)) : Gm H Z ta As H1 Z1 t1 A1 :=
  ⟨fun a o e n _ => g.keep a o e n, fun a xs e => g.tupK tk e, fun a o u e => g.frzK tk e, g.ex, g.tad, g.tnew, g.z, g.znew, fun a h => .inl (g.sub a h)⟩
theorem Gm.trans (a : Gm H Z ta As H1 Z1 t1 A1) (b : Gm H1 Z1 t1 A1 H2 Z2 t2 A2) : Gm H Z ta As H2 Z2 t2 A2 := by
  refine ⟨fun c o e n m => ?_, fun c xs e => b.tup c xs (a.tup c xs e), fun c o u e => b.frz c o u (a.frz c o u e), fun c e => b.ex c (a.ex c e), fun c e => b.tad c (a.tad c e), fun c e => ?_, fun c e => b.z c (a.z c e), fun c e => ?_, fun c e => ?_⟩
  · refine b.keep c o (a.keep c o e n m) (fun q => ?_) fun q => ?_
    · rcases a.tnew c q with q | q
      · exact n q
      · rw [e] at q; cases q
    · rcases a.sub c q with q | q
      · exact m q
      · rw [e] at q; cases q
  · rcases b.tnew c e with e | e
    · exact a.tnew c e
    · exact .inr (back_none a.ex e)
  · rcases b.znew c e with e | e | e
    · exact a.znew c e
    · exact .inr (a.sub c e)
    · exact .inr (.inr (back_none a.ex e))
  · rcases b.sub c e with e | e
    · exact a.sub c e
    · exact .inr (back_none a.ex e)
/-- fewer are known at the end -/
theorem Gm.drop (g : Gm H Z ta As H1 Z1 t1 A1) (h : ∀ a ∈ A2.flatten, a ∈ A1.flatten ∨ H a = none) : Gm H Z ta As H1 Z1 t1 A2 :=
  ⟨g.keep, g.tup, g.frz, g.ex, g.tad, g.tnew, g.z, g.znew, fun a ha => (h a ha).elim (g.sub a) .inr⟩
theorem Gm.fresh (g : Gm H Z ta As H1 Z1 t1 A1) {A : List Addr} (f : ∀ a ∈ A, H1 a = none) : ∀ a ∈ A, H a = none := fun a ha => back_none g.ex (f a ha)
theorem Gm.rp (g : Gm H Z ta As H1 Z1 t1 A1) (zt : ∀ a, Z a → ta ≠ some a) (zs : ∀ a, Z a → a ∉ As.flatten) {d : D} {v : V} (h : Rp H Z ta d v) : Rp H1 Z1 t1 d v :=
  Rp.mono g.tup g.frz g.z (fun a o z e => g.keep a o e (zt a z) (zs a z)) g.tad d v h
end
theorem Sta.zs {H : Hp} {Z : Addr → Prop} {ta : Option Addr} {L : List Nat} {ρ : Loc} {σ : List (Option V)} {As : Fps} (S : Sta H Z ta L ρ σ As) : ∀ a, Z a → a ∉ As.flatten := fun a z h => (S.sep a h).1 z

structure Out where
  nx : Option (List Nat)
  bk : Option (List Nat)
  ct : Option (List Nat)
/-- what is wanted at one of the ends -/
def SPo (oL : Option (List Nat)) (P : List (Option V) → Hp → Prop) (H : Hp) (Z : Addr → Prop) (ta : Option Addr) (As : Fps) (ρ : Loc) (τ : Tp) : Prop :=
  ∀ L, oL = some L → ∀ σ' H' Z' ta' As', Gm H Z ta As H' Z' ta' As' → Sta H' Z' ta' L ρ σ' As' → TapeSt H' ta' τ → P σ' H'
def RPo (lr : Nat) (P : VK) (H : Hp) (Z : Addr → Prop) (ta : Option Addr) (As : Fps) (d : D) (τ : Tp) : Prop :=
  ∀ v H' Z' ta' A, Gm H Z ta As H' Z' ta' [] → (∀ a, Z' a → H' a ≠ none ∧ ta' ≠ some a) → (∀ a, ta' = some a → ∃ kvs, H' a = some (.dK kvs)) → TapeSt H' ta' τ → Tm H' Z' ta' [] lr d v A → (∀ a ∈ A, a ∈ As.flatten ∨ H a = none) → P v H'
def FPo (lr : Nat) (o : Out) (E : Ends) (H : Hp) (Z : Addr → Prop) (ta : Option Addr) (As : Fps) : Fl → Tp → Prop
  | .nx ρ, τ => SPo o.nx E.nx H Z ta As ρ τ
  | .bk ρ, τ => SPo o.bk E.bk H Z ta As ρ τ
  | .ct ρ, τ => SPo o.ct E.ct H Z ta As ρ τ
  | .rt d, τ => RPo lr E.rt H Z ta As d τ
def EPm (XP : XPr) (Ex : XK) (H : Hp) (Z : Addr → Prop) (ta : Option Addr) (As : Fps) : Nat → List D → Tp → Prop := fun k ds τ =>
  ∀ H' Z' ta' cls dx, Gm H Z ta As H' Z' ta' [] → TapeSt H' ta' τ → XP k ds H' cls dx → Ex cls dx H'
def tSt (lr : Nat) (XP : XPr) (Ex : XK) (run : Loc → Tp → R Fl) (L : List Nat) (o : Out) : TS := fun E σ H =>
  ∃ Z ta As ρ τ, Sta H Z ta L ρ σ As ∧ TapeSt H ta τ ∧ Sat (run ρ τ) (FPo lr o E H Z ta As) (EPm XP Ex H Z ta As)
theorem _root_.L2.PS.imp {X : Cx} {e : Stmt} {t t' : TS} (h : PS X e t) (w : ∀ D σ H, t' D σ H → t D σ H) : PS X e t' := ⟨fun pins s σ H D I q => h.run pins s σ H D I (w D σ H q)⟩
theorem _root_.L2.PSs.imp {X : Cx} {e : List Stmt} {t t' : TS} (h : PSs X e t) (w : ∀ D σ H, t' D σ H → t D σ H) : PSs X e t' := ⟨fun pins s σ H D I q => h.run pins s σ H D I (w D σ H q)⟩
section
variable {XP : XPr} {Ex : XK} {H H1 : Hp} {Z Z1 : Addr → Prop} {ta t1 : Option Addr} {As A1 : Fps} {lr : Nat}
theorem EPm.o {k : Nat} {ds : List D} {τ : Tp} (h : EPm XP Ex H Z ta As k ds τ) (g : Gm H Z ta As H1 Z1 t1 A1) (tk : ∀ a, t1 = some a → ∃ kvs, H1 a = some (.dK kvs)) : EPo XP Ex H1 Z1 t1 A1 k ds τ :=
  fun H' Z' ta' cls dx g' T' x => h H' Z' ta' cls dx (g.trans (g'.m tk)) T' x
theorem EPm.gm {k : Nat} {ds : List D} {τ : Tp} (h : EPm XP Ex H Z ta As k ds τ) (g : Gm H Z ta As H1 Z1 t1 A1) : EPm XP Ex H1 Z1 t1 A1 k ds τ :=
  fun H' Z' ta' cls dx g' T' x => h H' Z' ta' cls dx (g.trans g') T' x
theorem SPo.gm {oL : Option (List Nat)} {P : List (Option V) → Hp → Prop} {ρ : Loc} {τ : Tp} (h : SPo oL P H Z ta As ρ τ) (g : Gm H Z ta As H1 Z1 t1 A1) : SPo oL P H1 Z1 t1 A1 ρ τ :=
  fun L e σ' H' Z' ta' As' g' S T => h L e σ' H' Z' ta' As' (g.trans g') S T
theorem RPo.gm {P : VK} {d : D} {τ : Tp} (h : RPo lr P H Z ta As d τ) (g : Gm H Z ta As H1 Z1 t1 A1) : RPo lr P H1 Z1 t1 A1 d τ :=
  fun v H' Z' ta' A g' z tk T t f => h v H' Z' ta' A (g.trans g') z tk T t fun a ha => by
    rcases f a ha with q | q
    · exact g.sub a q
    · exact .inr (back_none g.ex q)
theorem FPo.gm {o : Out} {E : Ends} {fl : Fl} {τ : Tp} (h : FPo lr o E H Z ta As fl τ) (g : Gm H Z ta As H1 Z1 t1 A1) : FPo lr o E H1 Z1 t1 A1 fl τ := by
  cases fl with
  | nx ρ => exact SPo.gm h g
  | bk ρ => exact SPo.gm h g
  | ct ρ => exact SPo.gm h g
  | rt d => exact RPo.gm h g
/-- a part of a statement -/
theorem tEv.goM {cf : CF} {H0 : Hp} {Z0 : Addr → Prop} {t0 : Option Addr} {As0 : Fps} {e : E} {L La : List Nat} {ty : Ty} {σ : List (Option V)} {ρ : Loc} {τ : Tp} {β : Type} {f : D → Tp → R β} {P : β → Tp → Prop} {Q : VK} (S : Sta H Z ta L ρ σ As) (T : TapeSt H ta τ) (g0 : Gm H0 Z0 t0 As0 H Z ta As)
    (h : Sat ((evE cf e ρ τ).bind f) P (EPm XP Ex H0 Z0 t0 As0))
    (k : ∀ d τ1 v H1 Z1 t1 As1 A1, Gw H Z ta As H1 Z1 t1 As1 → Gm H0 Z0 t0 As0 H1 Z1 t1 As1 → Sta H1 Z1 t1 La ρ σ As1 → TapeSt H1 t1 τ1 → Res H1 Z1 t1 As1 ρ σ ty d v A1 → (∀ a ∈ A1, H a = none) → Sat (f d τ1) P (EPm XP Ex H0 Z0 t0 As0) → Q v H1) :
    tEv cf XP Ex e L La ty σ H Q := by
  refine ⟨Z, ta, As, ρ, τ, S, T, h.bind.mono (fun d τ1 h1 => ?_) fun _ _ _ q => q.o g0 S.tk⟩
  intro v H1 Z1 t1 As1 A1 g S1 T1 r f1
  exact k d τ1 v H1 Z1 t1 As1 A1 g (g0.trans (g.m S.tk)) S1 T1 r f1 h1
/-- an end with more than is asked -/
theorem SPo.take {oL : Option (List Nat)} {P : List (Option V) → Hp → Prop} {ρ : Loc} {τ : Tp} {L L' : List Nat} {σ' : List (Option V)} (h : SPo oL P H Z ta As ρ τ) (e : oL = some L') (hl : ∀ i, lev L' i ≤ lev L i) (g : Gm H Z ta As H1 Z1 t1 A1) (S : Sta H1 Z1 t1 L ρ σ' A1) (T : TapeSt H1 t1 τ) : P σ' H1 := by
  obtain ⟨Z2, A2, S2, g2⟩ := S.weaks L' hl
  exact h L' e σ' H1 Z2 t1 A2 (g.trans (g2.m S.tk)) S2 T
end

/-- the levels behind x = e -/
def asgL (L : List Nat) (i : Nat) (ty : Ty) : List Nat := if ty.rs.isEmpty then L.set i ty.k else (relax L 0 ty.rs).set i 0
theorem relax_len : ∀ (rs : List (Nat × Nat)) (L : List Nat) (j : Nat), (relax L j rs).length = L.length
  | [], L, j => rfl
  | (x, dep) :: rs, L, j => by unfold relax; rw [relax_len rs]; simp
theorem lev_off {L : List Nat} {i : Nat} (h : ¬ i < L.length) : lev L i = 0 := by
  unfold lev
  rw [List.getD_eq_getElem?_getD, List.getElem?_eq_none (by omega)]
  rfl
/-- a slot takes a value -/
theorem asg_put {H0 H1 : Hp} {Z0 Z1 : Addr → Prop} {t0 t1 : Option Addr} {As0 As1 : Fps} {L : List Nat} {ty : Ty} {ρ : Loc} {σ : List (Option V)} {i : Nat} {d : D} {v : V} {A : List Addr} (hi : i < L.length)
    (S : Sta H1 Z1 t1 L ρ σ As1) (r : Res H1 Z1 t1 As1 ρ σ ty d v A) (g : Gm H0 Z0 t0 As0 H1 Z1 t1 As1) (f : ∀ a ∈ A, H0 a = none) :
    ∃ Z' As', Sta H1 Z' t1 (asgL L i ty) (put ρ i d) (σ.set i (some v)) As' ∧ Gm H0 Z0 t0 As0 H1 Z' t1 As' := by
  have put0 : ∀ {Z2 : Addr → Prop} {As2 : Fps} {L2 L3 : List Nat}, Sta H1 Z2 t1 L2 ρ σ As2 → L3 = L2.set i 0 → i < L2.length → Rp H1 Z2 t1 d v → Gm H0 Z0 t0 As0 H1 Z2 t1 As2 → ∃ Z' As', Sta H1 Z' t1 L3 (put ρ i d) (σ.set i (some v)) As' ∧ Gm H0 Z0 t0 As0 H1 Z' t1 As' := by
    intro Z2 As2 L2 L3 S2 e hi2 rp g2
    subst e
    refine ⟨Z2, As2.set i [], S2.put (A := []) ?_ .nil (fun _ h => by cases h) (fun j hj _ => ?_) fun j hj => ?_, g2.drop fun a ha => .inl (flat_nil_sub ha)⟩
    · rw [lev_set hi2, if_pos rfl]; exact Ow.zero.mpr ⟨rfl, rp⟩
    · rw [lev_set hi2, if_neg hj]
    · rw [lev_set hi2, if_neg hj]; exact Nat.le_refl _
  cases hrs : ty.rs with
  | nil =>
    cases r with
    | bo x dep hm b => rw [hrs] at hm; cases hm
    | tm t =>
      have e : asgL L i ty = L.set i ty.k := by unfold asgL; rw [hrs]; rfl
      rw [e]
      by_cases hi1 : i < As1.length
      · refine ⟨Z1, As1.set i A, S.put (A := A) ?_ t.nod (fun a ha => ?_) (fun j hj _ => ?_) fun j hj => ?_, g.drop fun a ha => ?_⟩
        · rw [lev_set hi, if_pos rfl]; exact t.ow
        · obtain ⟨s1, s2, s3, s4⟩ := t.sep a ha
          exact ⟨s1, fun q => s2 (flat_nil_sub q), s3, s4⟩
        · rw [lev_set hi, if_neg hj]
        · rw [lev_set hi, if_neg hj]; exact Nat.le_refl _
        · rcases List.mem_append.mp ((flat_set hi1).subset ha) with h | h
          · exact .inr (f a h)
          · exact .inl (flat_nil_sub h)
      · refine ⟨Z1, As1.set i A, S.put (A := A) ?_ t.nod (fun a ha => ?_) (fun j hj _ => ?_) fun j hj => ?_, g.drop fun a ha => ?_⟩
        · rw [lev_set hi, if_pos rfl]; exact t.ow
        · obtain ⟨s1, s2, s3, s4⟩ := t.sep a ha
          exact ⟨s1, fun q => s2 (flat_nil_sub q), s3, s4⟩
        · rw [lev_set hi, if_neg hj]
        · rw [lev_set hi, if_neg hj]; exact Nat.le_refl _
        · rw [List.set_eq_of_length_le (by omega)] at ha; exact .inl ha
  | cons u us =>
    have e : asgL L i ty = (relax L 0 ty.rs).set i 0 := by unfold asgL; rw [hrs]; rfl
    obtain ⟨A', r', q⟩ := r.there
    obtain ⟨Z2, As2, S2, hz, hs, hn, l⟩ := r'.use S 0
    refine put0 S2 e (by rw [relax_len]; exact hi) l.zero ⟨g.keep, g.tup, g.frz, g.ex, g.tad, g.tnew, fun a z => hz a (g.z a z), fun a z => ?_, fun a ha => g.sub a (hs a ha)⟩
    rcases hn a z with z | z | z
    · exact g.znew a z
    · exact .inr (g.sub a z)
    · exact .inr (.inr (f a (q a z).2))
end Py

/-! EvT: static looks at statements. -/
namespace Py
open PySem (Str Addr Expr Stmt Scope NameKind Const Comprehension Operator CmpOp Value PyData Shared)
variable [kf : Kf]

/-! ### levels -/
def minO : Option (List Nat) → Option (List Nat) → Option (List Nat)
  | none, b => b
  | some a, none => some a
  | some a, some b => some (minL a b)
def leO (L : List Nat) : Option (List Nat) → Bool
  | none => true
  | some M => leL L M
def minT (L : List Nat) : Option (List Nat) → List Nat
  | none => L
  | some M => minL L M
/-- levels at a loop's head that its turns keep; with them the levels at its end -/
def tyLoop (f : List Nat → Option (List Nat × Out)) (L0 : List Nat) : Nat → List Nat → Option (List Nat × List Nat × Out)
  | 0, _ => none
  | n + 1, L => (f L).bind fun p => if leL L L0 && leO L p.2.nx && leO L p.2.ct then some (L, p.1, p.2) else tyLoop f L0 n (minT (minT L p.2.nx) p.2.ct)
def nxO (L : List Nat) : Out := ⟨some L, none, none⟩
/-- a value's own level, once it is taken; and the levels of the slots -/
def taken (p : Ty × List Nat) : Nat × List Nat := if p.1.rs.isEmpty then (p.1.k, p.2) else (0, relax p.2 0 p.1.rs)
def stTy (L : List Nat) (x k : Nat) : Option Out := if decide (1 ≤ lev L x) && decide (x < L.length) then some (nxO (L.set x (1 + min (lev L x - 1) k))) else none
def st2Ty (L : List Nat) (x k : Nat) : Option Out := if decide (2 ≤ lev L x) && decide (x < L.length) then some (nxO (L.set x (2 + min (lev L x - 2) k))) else none
mutual
def tyS (lv : Nat → Nat) (lr : Nat) : S → List Nat → Option Out
  | .asg (.nm i) e, L => (tyE lv e L).bind fun p => if decide (i < p.2.length) then some (nxO (asgL p.2 i p.1)) else none
  | .asg (.tp is) e, L => (tyE lv e L).map fun p => nxO (zeros (relax p.2 0 p.1.rs) is)
  | .par is es, L => (tyL lv true es L).map fun L => nxO (zeros L is)
  | .six x i e, L => (tyE lv e L).bind fun p => (tyE lv i (taken p).2).bind fun q => stTy q.2 x (taken p).1
  | .six2 x i j e, L => (tyE lv e L).bind fun p => (tyE lv i (taken p).2).bind fun q => (tyE lv j q.2).bind fun r => st2Ty r.2 x (taken p).1
  | .swp x i j e, L => (tyE lv e L).bind fun p => (tyE lv i (relax p.2 0 p.1.rs)).bind fun q => (stTy q.2 x 0).bind fun o => o.nx.bind fun L => (tyE lv j L).bind fun r => stTy r.2 x 0
  | .aug _ _ e, L => (tyE lv e L).map fun p => nxO p.2
  | .aix x i _ e, L => (tyE lv i L).bind fun p => (tyE lv e p.2).bind fun q => stTy q.2 x 9
  | .app x e, L => (tyE lv e L).bind fun p => stTy (taken p).2 x (taken p).1
  | .ex e, L => (tyE lv e L).map fun p => nxO p.2
  | .iff c a b, L => (tyE lv c L).bind fun p => (tySs lv lr a p.2).bind fun o => (tySs lv lr b p.2).map fun q => ⟨minO o.nx q.nx, minO o.bk q.bk, minO o.ct q.ct⟩
  | .frr t it b, L => (tyI lv true it L).bind fun L1 => (tyLoop (fun L => (tySs lv lr b (zeros L (slotsT t))).map fun o => (L, o)) L1 12 L1).map fun q => nxO (minT q.2.1 q.2.2.bk)
  | .whl c b, L => (tyLoop (fun L => (tyE lv c L).bind fun p => (tySs lv lr b p.2).map fun o => (p.2, o)) L 12 L).map fun q => nxO (minT q.2.1 q.2.2.bk)
  | .ret (.var x), L => if decide (lr ≤ lev L x) then some ⟨none, none, none⟩ else none
  | .ret e, L => (tyE lv e L).bind fun p => if decide (lr ≤ (taken p).1) then some ⟨none, none, none⟩ else none
  | .rtn, _ => some ⟨none, none, none⟩
  | .brk, L => some ⟨none, some L, none⟩
  | .cnt, L => some ⟨none, none, some L⟩
  | .pas, L => some (nxO L)
  | .tse _ _ e, L => (tyE lv e L).map fun p => nxO p.2
  | .rtp x _, L => if decide (1 ≤ lev L x) then some ⟨none, none, none⟩ else none
  | .fra t it i e, L => (tyI lv false it L).bind fun L1 => (tyLoop (fun L => (tyE lv e (zeros L (slotsT t))).bind fun p => if decide (i < p.2.length) then some (L, nxO (asgL p.2 i p.1)) else none) L1 12 L1).map fun q => nxO q.2.1
def tySs (lv : Nat → Nat) (lr : Nat) : List S → List Nat → Option Out
  | [], L => some (nxO L)
  | s :: ss, L => (tyS lv lr s L).bind fun o => match o.nx with
    | none => some o
    | some L1 => (tySs lv lr ss L1).map fun q => ⟨q.nx, minO o.bk q.bk, minO o.ct q.ct⟩
end

/-! ### texts -/
def yAsg : Stmt → Option (Expr × Expr)
  | .Assign [t] v _ => some (t, v)
  | _ => none
def xSub1 : Expr → Option (Str × Expr)
  | .Subscript (.Name x _) i _ => some (x, i)
  | _ => none
def xSub2 : Expr → Option (Str × Expr × Expr)
  | .Subscript (.Subscript (.Name x _) i _) j _ => some (x, i, j)
  | _ => none
def yAug : Stmt → Option (Expr × Operator × Expr)
  | .AugAssign t o v _ => some (t, o, v)
  | _ => none
def yApp : Stmt → Option (Str × Expr)
  | .Expr (.Call (.Attribute (.Name x _) n ap) [e] [] cp) _ => if n == ("append" : Str) && ap.endLine == cp.line then some (x, e) else none
  | _ => none
def yEx : Stmt → Option Expr
  | .Expr e _ => some e
  | _ => none
def yIf : Stmt → Option (Expr × List Stmt × List Stmt)
  | .If c a b _ => some (c, a, b)
  | _ => none
def yFor : Stmt → Option (Expr × Expr × List Stmt)
  | .For t i b [] _ => some (t, i, b)
  | _ => none
def yWhl : Stmt → Option (Expr × List Stmt)
  | .While c b [] _ => some (c, b)
  | _ => none
def yRet : Stmt → Option (Option Expr)
  | .Return e _ => some e
  | _ => none
def yBrk : Stmt → Bool
  | .Break _ => true
  | _ => false
def yCnt : Stmt → Bool
  | .Continue _ => true
  | _ => false
def yPas : Stmt → Bool
  | .Pass _ => true
  | _ => false
/-- return {'cells': x, 'at': 0, 'left': 0, 'seed': y, 'salt': 0} -/
def yRtp : Stmt → Option (Str × Str)
  | .Return (some (.Dict [some (.Constant (.str a) _ _), some (.Constant (.str b) _ _), some (.Constant (.str c) _ _), some (.Constant (.str d) _ _), some (.Constant (.str e) _ _)]
      [.Name x _, .Constant (.int i) _ _, .Constant (.int j) _ _, .Name y _, .Constant (.int k) _ _] _)) _ =>
    if decide (a = ("cells" : Str)) && decide (b = ("at" : Str)) && decide (c = ("left" : Str)) && decide (d = ("seed" : Str)) && decide (e = ("salt" : Str)) && decide (i = 0) && decide (j = 0) && decide (k = 0) then some (x, y) else none
  | _ => none
def isStar : Expr → Bool
  | .Starred .. => true
  | _ => false
def nameAt (sc : Scope) (line : Nat) : Expr → Option Str
  | .Name id pos => if sc.names.lookup id == some .local && pos.line == line then some id else none
  | _ => none
/-- the stores of a, b = x, y go from the right: with which names; none where the model gives up -/
def ssB (sc : Scope) (ts vs : List Expr) : Option (Option (List Str)) :=
  if !(ts.length == 2 || ts.length == 3) || vs.length != ts.length then some none
  else if vs.any isStar then some none
  else
    let names := ts.filterMap (nameAt sc ((ts.head?.map (·.pos.line)).getD 0))
    if names.length != ts.length || names.eraseDups.length != names.length then some none
    else if vs.all (PySem.foldedForSure 8) then some none
    else if vs.all (PySem.constantsAlone 8) then none
    else some (some names)
/-- a plain store of this value at this target -/
def plainSt (sc : Scope) (t v : Expr) : Bool := match t, v with
  | .Tuple ts _ _, .Tuple vs _ _ => decide (ssB sc ts vs = some none)
  | .List _ _, _ => false
  | _, _ => true
def parSt (sc : Scope) (t v : Expr) : Option (List Str × List Expr) := match t, v with
  | .Tuple ts _ _, .Tuple vs _ _ => (match ssB sc ts vs with
    | some (some ns) => some (ns, vs)
    | _ => none)
  | _, _ => none
def slotsB (C : Cst) (sc : Scope) : List Nat → List Str → Bool
  | [], [] => true
  | i :: is, x :: xs => tgtB C sc none i x && decide (sc.names.lookup x = some .local) && slotsB C sc is xs
  | _, _ => false
def augOk : Bop → Bool
  | .add => true
  | .sub => true
  | _ => false
def apartN : List Nat → Bool
  | [i, j] => decide (i ≠ j)
  | [i, j, l] => decide (i ≠ j) && decide (i ≠ l) && decide (j ≠ l)
  | _ => false
mutual
def chkS (C : Cst) (sc : Scope) : S → Stmt → Bool
  | .asg t e, st => (match yAsg st with
    | some (tg, v) => plainSt sc tg v && chkT C sc none t tg && chk C sc none e v
    | none => false)
  | .par is es, st => (match yAsg st with
    | some (tg, v) => (match parSt sc tg v with
      | some (ns, vs) => slotsB C sc is ns && apartN is && chkL C sc none es vs
      | none => false)
    | none => false)
  | .six x i e, st => (match yAsg st with
    | some (tg, v) => (match xSub1 tg with
      | some (n, ix) => varB C sc x n && chk C sc none i ix && chk C sc none e v
      | none => false)
    | none => false)
  | .six2 x i j e, st => false && (match yAsg st with
    | some (tg, v) => (match xSub2 tg with
      | some (n, ix, jx) => varB C sc x n && chk C sc none i ix && chk C sc none j jx && chk C sc none e v && !isComp v
      | none => false)
    | none => false)
  | .swp x i j e, st => (match yAsg st with
    | some (tg, v) => (match xTup tg with
      | some [t1, t2] => (match xSub1 t1, xSub1 t2 with
        | some (n, ix), some (m, jx) => plainSt sc tg v && varB C sc x n && varB C sc x m && chk C sc none i ix && chk C sc none j jx && chk C sc none e v
        | _, _ => false)
      | _ => false)
    | none => false)
  | .aug x o e, st => (match yAug st with
    | some (tg, p, v) => (match xName tg with
      | some n => augOk o && decide (p = bopP o) && tgtB C sc none x n && chk C sc none e v
      | none => false)
    | none => false)
  | .aix x i o e, st => (match yAug st with
    | some (tg, p, v) => (match xSub1 tg with
      | some (n, ix) => augOk o && decide (p = bopP o) && varB C sc x n && chk C sc none i ix && chk C sc none e v
      | none => false)
    | none => false)
  | .app x e, st => (match yApp st with
    | some (n, v) => varB C sc x n && chk C sc none e v
    | none => false)
  | .ex e, st => (match yEx st with
    | some v => chk C sc none e v && !isComp v
    | none => false)
  | .iff c a b, st => (match yIf st with
    | some (cx, as, bs) => chk C sc none c cx && chkSs C sc a as && chkSs C sc b bs
    | none => false)
  | .frr t it b, st => (match yFor st with
    | some (tg, ix, bs) => chkT C sc none t tg && chkI C sc none t it ix && chkSs C sc b bs
    | none => false)
  | .whl c b, st => (match yWhl st with
    | some (cx, bs) => chk C sc none c cx && chkSs C sc b bs
    | none => false)
  | .ret e, st => (match yRet st with
    | some (some v) => chk C sc none e v
    | _ => false)
  | .rtn, st => (match yRet st with
    | some none => true
    | _ => false)
  | .brk, st => yBrk st
  | .cnt, st => yCnt st
  | .pas, st => yPas st
  | .tse x k e, st => (match yAsg st with
    | some (tg, v) => fldB C sc x (tkey k) tg && chk C sc none e v && !isComp v
    | none => false)
  | .rtp x y, st => (match yRtp st with
    | some (n, m) => varB C sc x n && varB C sc y m
    | none => false)
  | .fra t it i e, st => (match yFor st with
    | some (tg, ix, [b]) => (match yAsg b with
      | some (tg2, v) => chkT C sc none t tg && chkI C sc none t it ix && chkT C sc none (.nm i) tg2 && chk C sc none e v && !isComp v
      | none => false)
    | _ => false)
def chkSs (C : Cst) (sc : Scope) : List S → List Stmt → Bool
  | [], [] => true
  | a :: as, s :: ss => chkS C sc a s && chkSs C sc as ss
  | _, _ => false
end

/-! ### what the looks tell -/
section
variable {sc : Scope} {env : PySem.Env}
theorem bk_fun (hk : env.scope.kind = .function) : env.blockKind = .function := by unfold PySem.Env.blockKind; rw [hk]; rfl
theorem ss_gen {ts vs : List Expr} {F : Expr → Bool} {G : Expr → Option Str} {r : Option (List Str)} {c : Bool} {U : PySem.Sem (Option (List Str))} (hF : F = isStar) (hG : G = nameAt sc ((ts.head?.map (·.pos.line)).getD 0))
    (hc : c = (!(ts.length == 2 || ts.length == 3) || vs.length != ts.length)) (h : ssB sc ts vs = some r) :
    (if c = true then pure none else if vs.any F = true then pure none else if ((ts.filterMap G).length != ts.length || (ts.filterMap G).eraseDups.length != (ts.filterMap G).length) = true then pure none
      else if vs.all (PySem.foldedForSure 8) = true then pure none else if vs.all (PySem.constantsAlone 8) = true then U else pure (some (ts.filterMap G))) = (pure r : PySem.Sem (Option (List Str))) := by
  subst hF hG hc
  unfold ssB at h
  simp only at h
  split at h
  · rename_i c; cases h; rw [if_pos c]
  · rename_i c
    rw [if_neg c]
    split at h
    · rename_i c; cases h; rw [if_pos c]
    · rename_i c
      rw [if_neg c]
      split at h
      · rename_i c; cases h; rw [if_pos c]
      · rename_i c
        rw [if_neg c]
        split at h
        · rename_i c2; cases h; rw [if_pos c2]
        · rename_i c2
          rw [if_neg c2]
          split at h
          · cases h
          · rename_i c3; cases h; rw [if_neg c3]
theorem ss_ok {ts vs : List Expr} {k k' : Nat} {p p' : PySem.Pos} {r : Option (List Str)} (hs : env.scope = sc) (hk : env.scope.kind = .function) (h : ssB sc ts vs = some r) : PySem.swappedStores [.Tuple ts k p] (.Tuple vs k' p') env = pure r := by
  have hb := bk_fun hk
  unfold PySem.swappedStores
  simp only [hb]
  refine ss_gen (sc := sc) ?_ ?_ ?_ h
  · funext e; cases e <;> rfl
  · funext e; cases e <;> first | rfl | (simp only [PySem.Env.kindOf, hs]; rfl)
  · simp
end
end Py

/-! EvU: writing into a list that a slot owns. -/
namespace Py
open PySem (Str Addr Expr Stmt Scope NameKind Const Comprehension Operator CmpOp Value PyData Shared)
open L2
variable [kf : Kf]

/-- a value taken: what stays its own -/
theorem Res.taken {H0 H : Hp} {Z0 Z : Addr → Prop} {t0 ta : Option Addr} {As0 As : Fps} {L : List Nat} {ty : Ty} {ρ : Loc} {σ : List (Option V)} {d : D} {v : V} {A : List Addr}
    (S : Sta H Z ta L ρ σ As) (r : Res H Z ta As ρ σ ty d v A) (g : Gm H0 Z0 t0 As0 H Z ta As) (f : ∀ a ∈ A, H0 a = none) :
    ∃ Z' As' A', Sta H Z' ta (Py.taken (ty, L)).2 ρ σ As' ∧ Gm H0 Z0 t0 As0 H Z' ta As' ∧ Tm H Z' ta As' (Py.taken (ty, L)).1 d v A' ∧ (∀ a ∈ A', H0 a = none) := by
  cases hrs : ty.rs with
  | nil =>
    have e : Py.taken (ty, L) = (ty.k, L) := by unfold Py.taken; rw [hrs]; rfl
    rw [e]
    cases r with
    | bo x dep hm b => rw [hrs] at hm; cases hm
    | tm t => exact ⟨Z, As, A, S, g, t, f⟩
  | cons u us =>
    have e : Py.taken (ty, L) = (0, relax L 0 ty.rs) := by unfold Py.taken; rw [hrs]; rfl
    rw [e]
    obtain ⟨A', r', q⟩ := r.there
    obtain ⟨Z2, As2, S2, hz, hs, hn, l⟩ := r'.use S 0
    refine ⟨Z2, As2, [], S2, ⟨g.keep, g.tup, g.frz, g.ex, g.tad, g.tnew, fun a z => hz a (g.z a z), fun a z => ?_, fun a ha => g.sub a (hs a ha)⟩, ⟨Ow.zero.mpr ⟨rfl, l.zero⟩, .nil, fun _ h => by cases h⟩, fun _ h => by cases h⟩
    rcases hn a z with z | z | z
    · exact g.znew a z
    · exact .inr (g.sub a z)
    · exact .inr (.inr (f a (q a z).2))
/-- layers given up -/
theorem Tm.weak {H0 H : Hp} {Z0 Z : Addr → Prop} {t0 ta : Option Addr} {As0 As : Fps} {L : List Nat} {k k' : Nat} {ρ : Loc} {σ : List (Option V)} {d : D} {v : V} {A : List Addr}
    (S : Sta H Z ta L ρ σ As) (t : Tm H Z ta As k d v A) (hk : k' ≤ k) (g : Gm H0 Z0 t0 As0 H Z ta As) (f : ∀ a ∈ A, a ∈ As0.flatten ∨ H0 a = none) :
    ∃ Z' A', Sta H Z' ta L ρ σ As ∧ Gm H0 Z0 t0 As0 H Z' ta As ∧ Tm H Z' ta As k' d v A' ∧ (∀ a ∈ A', a ∈ A) ∧ (∀ a, Z a → Z' a) := by
  obtain ⟨A', B, p, o⟩ := Ow.weak k k' d v A hk t.ow
  have hB : ∀ b ∈ B, b ∈ A := fun b hb => p.symm.subset (List.mem_append_right _ hb)
  have hA : ∀ b ∈ A', b ∈ A := fun b hb => p.symm.subset (List.mem_append_left _ hb)
  have nd : (A' ++ B).Nodup := p.nodup_iff.mp t.nod
  rw [List.nodup_append] at nd
  have zz : ∀ a, Z a → (fun a => Z a ∨ a ∈ B) a := fun a z => .inl z
  refine ⟨fun a => Z a ∨ a ∈ B, A', ⟨S.len1, S.len2, fun j e hj => let ⟨w, hw, ow⟩ := S.slot j e hj; ⟨w, hw, ow.z zz⟩, S.nod, fun a ha => ?_, fun a z => ?_, S.tk⟩,
    ⟨g.keep, g.tup, g.frz, g.ex, g.tad, g.tnew, fun a z => .inl (g.z a z), fun a z => ?_, g.sub⟩, ⟨o _ zz fun b hb => .inr hb, nd.1, fun a ha => ?_⟩, hA, zz⟩
  · obtain ⟨s1, s2, s3⟩ := S.sep a ha
    exact ⟨fun z => z.elim s1 fun z => (t.sep a (hB a z)).2.1 ha, s2, s3⟩
  · rcases z with z | z
    · exact S.zin a z
    · obtain ⟨_, _, s3, s4⟩ := t.sep a (hB a z)
      exact ⟨s4, s3⟩
  · rcases z with z | z
    · exact g.znew a z
    · exact .inr (f a (hB a z))
  · obtain ⟨s1, s2, s3, s4⟩ := t.sep a (hA a ha)
    exact ⟨fun z => z.elim s1 fun z => nd.2.2 a ha a z rfl, s2, s3, s4⟩
/-- an item is put -/
theorem Ows.setAt {H : Hp} {Z : Addr → Prop} {ta : Option Addr} {k : Nat} {d : D} {v : V} {B : List Addr} (o : Ow H Z ta k d v B) : ∀ {ds : List D} {vs : List V} {A : List Addr} (j : Nat), Ows H Z ta k ds vs A → (A ++ B).Nodup →
    ∃ A', Ows H Z ta k (ds.set j d) (vs.set j v) A' ∧ A'.Nodup ∧ ∀ a ∈ A', a ∈ A ∨ a ∈ B
  | [], vs, A, j, h, n => by
    have h2 := h
    unfold Ows at h2
    obtain ⟨rfl, rfl⟩ := h2
    exact ⟨[], h, .nil, fun _ h => by cases h⟩
  | d0 :: ds, vs, A, j, h, n => by
    unfold Ows at h
    obtain ⟨w, r, A1, A2, rfl, rfl, h1, h2⟩ := h
    have n' := n
    rw [List.nodup_append] at n'
    have n12 := n'.1
    rw [List.nodup_append] at n12
    cases j with
    | zero =>
      refine ⟨B ++ A2, ?_, ?_, fun a ha => ?_⟩
      · show Ows H Z ta k (d :: ds) (v :: r) (B ++ A2)
        unfold Ows
        exact ⟨v, r, B, A2, rfl, rfl, o, h2⟩
      · exact List.nodup_append.mpr ⟨n'.2.1, n12.2.1, fun a ha b hb e => n'.2.2 b (List.mem_append_right _ hb) a ha e.symm⟩
      · rcases List.mem_append.mp ha with h | h
        · exact .inr h
        · exact .inl (List.mem_append_right _ h)
    | succ j =>
      obtain ⟨A', q1, q2, q3⟩ := Ows.setAt o j h2 (by
        rw [List.append_assoc] at n
        rw [List.nodup_append] at n
        exact n.2.1)
      refine ⟨A1 ++ A', ?_, ?_, fun a ha => ?_⟩
      · show Ows H Z ta k (d0 :: ds.set j d) (w :: r.set j v) (A1 ++ A')
        unfold Ows
        exact ⟨w, r.set j v, A1, A', rfl, rfl, h1, q1⟩
      · refine List.nodup_append.mpr ⟨n12.1, q2, fun a ha b hb e => ?_⟩
        rcases q3 b hb with h | h
        · exact n12.2.2 a ha b h e
        · exact n'.2.2 a (List.mem_append_left _ ha) b h e
      · rcases List.mem_append.mp ha with h | h
        · exact .inl (List.mem_append_left _ h)
        · rcases q3 a h with h | h
          · exact .inl (List.mem_append_right _ h)
          · exact .inr h
/-- a slot looked away from -/
theorem Sta.away {H : Hp} {Z : Addr → Prop} {ta : Option Addr} {L : List Nat} {ρ : Loc} {σ : List (Option V)} {As : Fps} (S : Sta H Z ta L ρ σ As) (x : Nat) : Sta H Z ta L (ρ.set x none) σ (As.set x []) := by
  refine ⟨by rw [List.length_set]; exact S.len1, by rw [List.length_set, List.length_set]; exact S.len2, fun i d e => ?_, nod_nil S.nod, fun a ha => S.sep a (flat_nil_sub ha), S.zin, S.tk⟩
  unfold look at e
  rw [List.getElem?_set] at e
  by_cases h : x = i
  · rw [if_pos h] at e
    split at e <;> cases e
  · rw [if_neg h] at e
    obtain ⟨v, hv, o⟩ := S.slot i d e
    refine ⟨v, hv, ?_⟩
    by_cases hx : x < As.length
    · rw [fpa_set hx, if_neg (Ne.symm h)]; exact o
    · rw [List.set_eq_of_length_le (by omega)]; exact o
/-- the slot's list is written: whatever is put at the place that it owns -/
theorem sta_write {H0 H : Hp} {Z0 Z : Addr → Prop} {t0 ta : Option Addr} {As0 As : Fps} {L : List Nat} {x n : Nat} {ρ : Loc} {σ : List (Option V)} {p : Addr} {ds' : List D} {vs' : List V} {A' : List Addr} {τ : Tp}
    (S : Sta H Z ta L ρ σ As) (T : TapeSt H ta τ) (g : Gm H0 Z0 t0 As0 H Z ta As) (hx : x < L.length) (hs : σ[x]? = some (some (.ref p))) (hxr : x < ρ.length) (hp : ∃ xs, H p = some (.lst xs)) (hin : p ∈ fpa As x)
    (o : Ows H Z ta n ds' vs' A') (nd : (p :: A').Nodup) (hA : ∀ a ∈ A', ¬ Z a ∧ a ∉ (As.set x []).flatten ∧ ta ≠ some a ∧ H a ≠ none) (hb : ∀ a ∈ A', a ∈ As0.flatten ∨ H0 a = none) :
    ∃ As', Sta (upd H p (.lst vs')) Z ta (L.set x (n + 1)) (put ρ x (.lst ds')) σ As' ∧ Gm H0 Z0 t0 As0 (upd H p (.lst vs')) Z ta As' ∧ TapeSt (upd H p (.lst vs')) ta τ := by
  have hxa : x < As.length := by rw [S.len2]; exact hxr
  have pin : p ∈ As.flatten := mem_flat hin
  obtain ⟨pz, pe, pt⟩ := S.sep p pin
  have ap : Apart H Z ta p := ⟨hp, pz, pt⟩
  have nodS := (flat_perm hxa).nodup_iff.mp S.nod
  rw [List.nodup_append] at nodS
  have pout : p ∉ (As.set x []).flatten := fun h => nodS.2.2 p hin p h rfl
  have S1 := (S.away x).wr (xs := vs') ap pout
  rw [List.nodup_cons] at nd
  have e1 : put (ρ.set x none) x (.lst ds') = put ρ x (.lst ds') := by unfold put; rw [List.set_set]
  have e2 : σ.set x (some (.ref p)) = σ := by
    refine List.ext_getElem? fun j => ?_
    rw [List.getElem?_set]
    by_cases h : x = j
    · subst h
      rw [if_pos rfl, hs]
      have : x < σ.length := by rw [S.len1]; exact hxr
      rw [if_pos this]
    · rw [if_neg h]
  have S2 := S1.put (L' := L.set x (n + 1)) (i := x) (d := .lst ds') (v := .ref p) (A := p :: A') (by
      rw [lev_set hx, if_pos rfl]
      unfold Ow
      exact ⟨p, vs', A', rfl, rfl, upd_same, o.wr ap nd.1⟩) (List.nodup_cons.mpr nd) (fun a ha => by
      rw [List.set_set]
      rcases List.mem_cons.mp ha with e | h
      · rw [e]; exact ⟨pz, pout, pt, by rw [upd_same]; exact Option.some_ne_none _⟩
      · obtain ⟨s1, s2, s3, s4⟩ := hA a h
        exact ⟨s1, s2, s3, upd_ex s4⟩) (fun j hj _ => by rw [lev_set hx, if_neg hj]) (fun j hj => by rw [lev_set hx, if_neg hj]; exact Nat.le_refl _)
  rw [e1, e2, List.set_set] at S2
  refine ⟨As.set x (p :: A'), S2, ⟨fun a u e n m => ?_, fun a xs e => ap.tup (g.tup a xs e), fun a o u e => ap.frz (g.frz a o u e), fun a e => upd_ex (g.ex a e), g.tad, g.tnew, g.z, g.znew, fun a ha => ?_⟩, T.wr ap⟩
  · rw [upd_ne (fun q => ?_)]
    · exact g.keep a u e n m
    · subst q
      rcases g.sub a pin with z | z
      · exact m z
      · rw [e] at z; cases z
  · rcases List.mem_append.mp ((flat_set hxa).subset ha) with h | h
    · rcases List.mem_cons.mp h with e | h
      · rw [e]; exact g.sub p pin
      · exact hb a h
    · exact g.sub a (flat_nil_sub h)
end Py

/-! EvV: the rules of stores. -/
namespace Py
open PySem (Str Addr Expr Stmt Scope NameKind Const Comprehension Operator CmpOp Value PyData Shared)
open L2
variable [kf : Kf]

theorem setL_ix {ds ds' : List D} {i : Int} {d : D} (h : setL ds i d = some ds') : ∃ j, ixN ds.length i = some j ∧ ds' = ds.set j d := by
  unfold setL at h
  unfold ixN
  split at h
  · rename_i h0
    rw [if_pos h0]
    split at h
    · rename_i h1
      cases h
      exact ⟨i.toNat, by rw [if_pos (by omega)], rfl⟩
    · cases h
  · rename_i h0
    rw [if_neg h0]
    split at h
    · rename_i h1
      cases h
      exact ⟨_, by rw [if_pos h1], rfl⟩
    · cases h
section
variable {H0 H : Hp} {Z0 Z : Addr → Prop} {t0 ta : Option Addr} {As0 As : Fps} {L : List Nat} {k x : Nat} {ρ : Loc} {σ : List (Option V)} {d : D} {v : V} {A : List Addr} {τ : Tp} {ds : List D}
/-- the slot's list and the value at one level -/
theorem st_pre (S : Sta H Z ta L ρ σ As) (hl : look ρ x = some (.lst ds)) (h1 : 1 ≤ lev L x) (hx : x < L.length) (t : Tm H Z ta As k d v A) (g : Gm H0 Z0 t0 As0 H Z ta As) (f : ∀ a ∈ A, a ∈ As0.flatten ∨ H0 a = none) :
    ∃ Z' As' A' p vs B, Sta H Z' ta (L.set x (min (lev L x - 1) k + 1)) ρ σ As' ∧ Gm H0 Z0 t0 As0 H Z' ta As' ∧ Tm H Z' ta As' (min (lev L x - 1) k) d v A' ∧ (∀ a ∈ A', a ∈ A) ∧ σ[x]? = some (some (.ref p)) ∧ H p = some (.lst vs) ∧ fpa As' x = p :: B ∧ Ows H Z' ta (min (lev L x - 1) k) ds vs B := by
  obtain ⟨Z1, As1, S1, g1⟩ := S.weak1 x (min (lev L x - 1) k + 1) (by have := Nat.min_le_left (lev L x - 1) k; omega)
  have t1 := t.gw g1 S.tk S.zt
  obtain ⟨Z2, A2, S2, g2, t2, hA, hz⟩ := Tm.weak S1 t1 (Nat.min_le_right (lev L x - 1) k) (g.trans (g1.m S.tk)) f
  obtain ⟨w, hw, o⟩ := S2.slot x _ hl
  rw [lev_set hx, if_pos rfl] at o
  unfold Ow at o
  obtain ⟨p, vs, B, rfl, e, hp, o⟩ := o
  exact ⟨Z2, As1, A2, p, vs, B, S2, g2, t2, hA, hw, hp, e, o⟩
theorem st_fin {Z' : Addr → Prop} {n : Nat} {As' : Fps} {A' B A3 : List Addr} {p : Addr} {vs vs' : List V} {ds' : List D} (hl : look ρ x = some (.lst ds)) (hx : x < L.length) (S : Sta H Z' ta (L.set x (n + 1)) ρ σ As') (T : TapeSt H ta τ) (g : Gm H0 Z0 t0 As0 H Z' ta As') (t : Tm H Z' ta As' n d v A') (f : ∀ a ∈ A', a ∈ As0.flatten ∨ H0 a = none)
    (hs : σ[x]? = some (some (.ref p))) (hp : H p = some (.lst vs)) (e : fpa As' x = p :: B) (o : Ows H Z' ta n ds' vs' A3) (nd : A3.Nodup) (sub : ∀ a ∈ A3, a ∈ B ∨ a ∈ A') :
    ∃ As2, Sta (upd H p (.lst vs')) Z' ta (L.set x (n + 1)) (put ρ x (.lst ds')) σ As2 ∧ Gm H0 Z0 t0 As0 (upd H p (.lst vs')) Z' ta As2 ∧ TapeSt (upd H p (.lst vs')) ta τ := by
  have hxr := look_lt hl
  have hxa : x < As'.length := by rw [S.len2]; exact hxr
  have nodS := (flat_perm hxa).nodup_iff.mp S.nod
  rw [e, List.nodup_append, List.nodup_cons] at nodS
  have hin : p ∈ fpa As' x := by rw [e]; exact List.mem_cons_self
  have hB : ∀ a ∈ B, a ∈ fpa As' x := fun a ha => by rw [e]; exact List.mem_cons_of_mem _ ha
  have w := sta_write (n := n) (x := x) S T g (by simpa using hx) hs hxr ⟨vs, hp⟩ hin o (List.nodup_cons.mpr ⟨fun h => ?_, nd⟩) (fun a ha => ?_) (fun a ha => ?_)
  · rw [List.set_set] at w
    exact w
  · rcases sub p h with h | h
    · exact nodS.1.1 h
    · exact (t.sep p h).2.1 (mem_flat hin)
  · rcases sub a ha with h | h
    · obtain ⟨s1, s2, s3⟩ := S.sep a (mem_flat (hB a h))
      exact ⟨s1, fun q => nodS.2.2 a (List.mem_cons_of_mem _ h) a q rfl, s3, s2⟩
    · obtain ⟨s1, s2, s3, s4⟩ := t.sep a h
      exact ⟨s1, fun q => s2 (flat_nil_sub q), s3, s4⟩
  · rcases sub a ha with h | h
    · exact g.sub a (mem_flat (hB a h))
    · exact f a h
theorem st_put {i : Int} {ds' : List D} (S : Sta H Z ta L ρ σ As) (T : TapeSt H ta τ) (hl : look ρ x = some (.lst ds)) (h1 : 1 ≤ lev L x) (hx : x < L.length) (t : Tm H Z ta As k d v A) (g : Gm H0 Z0 t0 As0 H Z ta As) (f : ∀ a ∈ A, a ∈ As0.flatten ∨ H0 a = none)
    (hs : setL ds i d = some ds') : ∃ p vs j, σ[x]? = some (some (.ref p)) ∧ H p = some (.lst vs) ∧ ixN vs.length i = some j ∧
      ∃ Z' As', Sta (upd H p (.lst (vs.set j v))) Z' ta (L.set x (1 + min (lev L x - 1) k)) (put ρ x (.lst ds')) σ As' ∧ Gm H0 Z0 t0 As0 (upd H p (.lst (vs.set j v))) Z' ta As' ∧ TapeSt (upd H p (.lst (vs.set j v))) ta τ := by
  obtain ⟨Z', As', A', p, vs, B, S1, g1, t1, hA, hw, hp, e, o⟩ := st_pre S hl h1 hx t g f
  obtain ⟨j, hj, rfl⟩ := setL_ix hs
  have hxa : x < As'.length := by rw [S1.len2]; exact look_lt hl
  have nodS := (flat_perm hxa).nodup_iff.mp S1.nod
  rw [e, List.nodup_append, List.nodup_cons] at nodS
  have hB : ∀ a ∈ B, a ∈ As'.flatten := fun a ha => mem_flat (i := x) (by rw [e]; exact List.mem_cons_of_mem _ ha)
  obtain ⟨A3, q1, q2, q3⟩ := Ows.setAt t1.ow j o (List.nodup_append.mpr ⟨nodS.1.2, t1.nod, fun a ha b hb z => (t1.sep b hb).2.1 (by rw [← z]; exact hB a ha)⟩)
  obtain ⟨As2, w1, w2, w3⟩ := st_fin hl hx S1 T g1 t1 (fun a ha => f a (hA a ha)) hw hp e q1 q2 q3
  rw [Nat.add_comm] at w1
  exact ⟨p, vs, j, hw, hp, by rw [← o.len]; exact hj, Z', As2, w1, w2, w3⟩
theorem st_app (S : Sta H Z ta L ρ σ As) (T : TapeSt H ta τ) (hl : look ρ x = some (.lst ds)) (h1 : 1 ≤ lev L x) (hx : x < L.length) (t : Tm H Z ta As k d v A) (g : Gm H0 Z0 t0 As0 H Z ta As) (f : ∀ a ∈ A, a ∈ As0.flatten ∨ H0 a = none) :
    ∃ p vs, σ[x]? = some (some (.ref p)) ∧ H p = some (.lst vs) ∧ vs.length = ds.length ∧
      ∃ Z' As', Sta (upd H p (.lst (vs ++ [v]))) Z' ta (L.set x (1 + min (lev L x - 1) k)) (put ρ x (.lst (ds ++ [d]))) σ As' ∧ Gm H0 Z0 t0 As0 (upd H p (.lst (vs ++ [v]))) Z' ta As' ∧ TapeSt (upd H p (.lst (vs ++ [v]))) ta τ := by
  obtain ⟨Z', As', A', p, vs, B, S1, g1, t1, hA, hw, hp, e, o⟩ := st_pre S hl h1 hx t g f
  have hxa : x < As'.length := by rw [S1.len2]; exact look_lt hl
  have nodS := (flat_perm hxa).nodup_iff.mp S1.nod
  rw [e, List.nodup_append, List.nodup_cons] at nodS
  have hB : ∀ a ∈ B, a ∈ As'.flatten := fun a ha => mem_flat (i := x) (by rw [e]; exact List.mem_cons_of_mem _ ha)
  obtain ⟨As2, w1, w2, w3⟩ := st_fin (A3 := B ++ A') hl hx S1 T g1 t1 (fun a ha => f a (hA a ha)) hw hp e (Ows.app o (Ows.one t1.ow)) (List.nodup_append.mpr ⟨nodS.1.2, t1.nod, fun a ha b hb z => (t1.sep b hb).2.1 (by rw [← z]; exact hB a ha)⟩) (fun a ha => List.mem_append.mp ha)
  rw [Nat.add_comm] at w1
  exact ⟨p, vs, hw, hp, o.len.symm, Z', As2, w1, w2, w3⟩
end

structure CmpS (C : Cst) (cf : CF) (XP : XPr) (Ex : XK) (sc : Scope) (X : Cx) : Prop where
  m : Cmp C cf XP Ex sc none X
  hk : sc.kind = .function
  po : PySem.PassesOwn (PySem.model X.prog X.w) X.A X.env X.xe
theorem CmpS.kind {C : Cst} {cf : CF} {XP : XPr} {Ex : XK} {sc : Scope} {X : Cx} (M : CmpS C cf XP Ex sc X) : X.env.scope.kind = .function := by rw [M.m.hsc]; exact M.hk
section
variable {C : Cst} {cf : CF} {XP : XPr} {Ex : XK} {sc : Scope} {X : Cx} {L La Lb Lc : List Nat} {ty ty1 ty2 ty3 : Ty} {a b c i e : E} {x y z : Expr} {pos : PySem.Pos} {lr : Nat} {K : PySem.W.Frag}

theorem asg_nm {j : Nat} (hj : j < La.length) (E : Ends) (σ : List (Option V)) (H : Hp) (h : tSt lr XP Ex (evS cf (.asg (.nm j) e)) L (nxO (asgL La j ty)) E σ H) : tAsg (tEv cf XP Ex e L La ty) (gName j) E σ H := by
  obtain ⟨Z, ta, As, ρ, τ, S, T, q⟩ := h
  rw [show evS cf (.asg (.nm j) e) ρ τ = (evE cf e ρ τ).bind fun d τ => (R.of (bindT ρ (.nm j) d) τ).bind fun ρ τ => .ok (.nx ρ) τ by rw [evS]] at q
  refine tEv.goM S T .refl q fun d τ1 v H1 Z1 t1 As1 A1 gw g1 S1 T1 r1 f1 q => ?_
  have q : SPo (some (asgL La j ty)) E.nx H Z ta As (put ρ j d) τ1 := q
  obtain ⟨Z', As', S', g'⟩ := asg_put hj S1 r1 g1 f1
  exact q _ rfl _ H1 Z' t1 As' g' S' T1
theorem asg_tp {is : List Nat} (E : Ends) (σ : List (Option V)) (H : Hp) (h : tSt lr XP Ex (evS cf (.asg (.tp is) e)) L (nxO (zeros (relax La 0 ty.rs) is)) E σ H) : tAsg (tEv cf XP Ex e L La ty) (gOf K (.tp is)) E σ H := by
  obtain ⟨Z, ta, As, ρ, τ, S, T, q⟩ := h
  rw [show evS cf (.asg (.tp is) e) ρ τ = (evE cf e ρ τ).bind fun d τ => (R.of (bindT ρ (.tp is) d) τ).bind fun ρ τ => .ok (.nx ρ) τ by rw [evS]] at q
  refine tEv.goM S T .refl q fun d τ1 v H1 Z1 t1 As1 A1 gw g1 S1 T1 r1 f1 q => ?_
  obtain ⟨ρ', e, q⟩ := q.bind.of
  have q : SPo (some (zeros (relax La 0 ty.rs) is)) E.nx H Z ta As ρ' τ1 := q
  obtain ⟨Z', As', S', g', hz, l, _⟩ := r1.useG S1 gw f1 0
  obtain ⟨Z2, As2, S2, g2⟩ := S'.weaks (zeros (relax La 0 ty.rs) is) fun j => (lev_zeros is _ j).1
  have rp := g2.rp S'.tk S'.zt l.zero
  refine g_run (t := .tp is) (fun j hj => (lev_zeros is _ j).2.1 hj) e rp S2 fun σ' As3 S3 hs3 _ => ?_
  have g3 := (g'.m S.tk).trans (g2.m S'.tk)
  exact q _ rfl _ H1 Z2 t1 As3 (g3.drop fun a ha => .inl (hs3 a ha)) S3 T1
end
end Py

/-! EvW: the rules of stores, further. -/
namespace Py
open PySem (Str Addr Expr Stmt Scope NameKind Const Comprehension Operator CmpOp Value PyData Shared)
open L2
variable [kf : Kf]

theorem setIx_lst {l k d l' : D} (h : setIx l k d = some l') : ∃ ds i ds', l = .lst ds ∧ k = .int i ∧ l' = .lst ds' ∧ setL ds i d = some ds' := by
  cases l with
  | lst ds =>
    cases k with
    | int i =>
      simp only [setIx, Option.map_eq_some_iff] at h
      obtain ⟨ds', h, rfl⟩ := h
      exact ⟨ds, i, ds', rfl, rfl, rfl, h⟩
    | _ => simp [setIx] at h
  | _ => simp [setIx] at h
section
variable {C : Cst} {cf : CF} {XP : XPr} {Ex : XK} {sc : Scope} {X : Cx} {L La Lb Lc : List Nat} {ty ty1 ty2 ty3 : Ty} {a b c i e : E} {x y z : Expr} {pos : PySem.Pos} {lr : Nat} {K : PySem.W.Frag}
/-- the levels behind x[i] = d -/
abbrev stL (L : List Nat) (x k : Nat) : List Nat := L.set x (1 + min (lev L x - 1) k)
theorem gsub_run {H0 H : Hp} {Z0 Z : Addr → Prop} {t0 ta : Option Addr} {As0 As : Fps} {k j : Nat} {ρ : Loc} {σ : List (Option V)} {d : D} {v : V} {A : List Addr} {τ : Tp} {f : Loc → Tp → R Fl} {P : Fl → Tp → Prop} {Q : List (Option V) → Hp → Prop} (S : Sta H Z ta L ρ σ As) (T : TapeSt H ta τ)
    (h1 : 1 ≤ lev La j) (hx : j < La.length) (t : Tm H Z ta As k d v A) (g : Gm H0 Z0 t0 As0 H Z ta As) (fr : ∀ a ∈ A, a ∈ As0.flatten ∨ H0 a = none) (q : Sat ((stAt cf j i d ρ τ).bind f) P (EPm XP Ex H0 Z0 t0 As0))
    (kk : ∀ l' τ2 H' Z' ta' As', Sta H' Z' ta' (stL La j k) (put ρ j l') σ As' → Gm H0 Z0 t0 As0 H' Z' ta' As' → TapeSt H' ta' τ2 → Sat (f (put ρ j l') τ2) P (EPm XP Ex H0 Z0 t0 As0) → Q σ H') : gSub (tVar j) (tEv cf XP Ex i L La ty) rSetL v σ H Q := by
  unfold stAt at q
  obtain ⟨l, hl, q⟩ := (Sat.bind (Sat.bind q)).of
  obtain ⟨w, hw, _⟩ := S.slot j l hl
  refine ⟨w, hw, ?_⟩
  refine tEv.goM S T g q fun dk τ1 vk H1 Z1 t1 As1 A1 gw g1 S1 T1 r1 f1 q => ?_
  obtain ⟨l', e, q⟩ := q.bind.of
  obtain ⟨ds, ix, ds', rfl, rfl, rfl, e5⟩ := setIx_lst e
  have t1' := t.gw gw S.tk S.zt
  obtain ⟨p, vs, jj, hp, hH, hj, Z', As', S', g', T'⟩ := st_put S1 T1 hl h1 hx t1' g1 fr e5
  rw [hw] at hp
  cases hp
  have hv := (r1.rd S1).int'
  exact ⟨p, vs, ix, jj, rfl, hv, hH, hj, kk _ τ1 _ Z' t1 As' S' g' T' q⟩
theorem six_imp {j : Nat} (h1 : 1 ≤ lev Lb j) (hx : j < Lb.length) (E : Ends) (σ : List (Option V)) (H : Hp) (h : tSt lr XP Ex (evS cf (.six j i e)) L (nxO (stL Lb j (taken (ty, La)).1)) E σ H) :
    tAsg (tEv cf XP Ex e L La ty) (gSub (tVar j) (tEv cf XP Ex i (taken (ty, La)).2 Lb ty2) rSetL) E σ H := by
  obtain ⟨Z, ta, As, ρ, τ, S, T, q⟩ := h
  rw [show evS cf (.six j i e) ρ τ = (evE cf e ρ τ).bind fun d τ => (stAt cf j i d ρ τ).bind fun ρ τ => .ok (.nx ρ) τ by rw [evS]] at q
  refine tEv.goM S T .refl q fun d τ1 v H1 Z1 t1 As1 A1 gw g1 S1 T1 r1 f1 q => ?_
  obtain ⟨Z2, As2, A2, S2, g2, t2, f2⟩ := r1.taken S1 g1 f1
  refine gsub_run S2 T1 h1 hx t2 g2 (fun a ha => .inr (f2 a ha)) q fun l' τ2 H' Z' ta' As' S' g' T' q => ?_
  have q : SPo (some (stL Lb j (taken (ty, La)).1)) E.nx H Z ta As (put ρ j l') τ2 := q
  exact q _ rfl _ H' Z' ta' As' g' S' T'
theorem two_tup {d : D} {p : D × D} (h : two? d = some p) : d = .tup [p.1, p.2] := by
  unfold two? at h
  split at h
  · cases h; rfl
  · cases h
theorem swp_imp {j : Nat} (h1 : 1 ≤ lev Lb j) (hx : j < Lb.length) (h2 : 1 ≤ lev Lc j) (hx2 : j < Lc.length) (E : Ends) (σ : List (Option V)) (H : Hp) (h : tSt lr XP Ex (evS cf (.swp j i a e)) L (nxO (stL Lc j 0)) E σ H) :
    tAsg (tEv cf XP Ex e L La ty) (gTup K 2 (gCons (gSub (tVar j) (tEv cf XP Ex i (relax La 0 ty.rs) Lb ty2) rSetL) (gCons (gSub (tVar j) (tEv cf XP Ex a (stL Lb j 0) Lc ty3) rSetL) gNil))) E σ H := by
  obtain ⟨Z, ta, As, ρ, τ, S, T, q⟩ := h
  rw [show evS cf (.swp j i a e) ρ τ = (evE cf e ρ τ).bind fun d τ => (R.of (two? d) τ).bind fun p τ => (stAt cf j i p.1 ρ τ).bind fun ρ τ => (stAt cf j a p.2 ρ τ).bind fun ρ τ => .ok (.nx ρ) τ by rw [evS]] at q
  refine tEv.goM S T .refl q fun d τ1 v H1 Z1 t1 As1 A1 gw g1 S1 T1 r1 f1 q => ?_
  obtain ⟨p, ep, q⟩ := q.bind.of
  have ed := two_tup ep
  subst ed
  obtain ⟨Z', As', S', g', hz, l, _⟩ := r1.useG S1 gw f1 0
  have rp := l.zero
  unfold Rp at rp
  obtain ⟨b, vs, rfl, hb, rps⟩ := rp
  unfold Rps at rps
  obtain ⟨va, r1', rfl, ra, rps⟩ := rps
  unfold Rps at rps
  obtain ⟨vb, r2', rfl, rb, rps⟩ := rps
  unfold Rps at rps
  subst rps
  refine ⟨b, _, rfl, SqT.of hb, rfl, va, _, rfl, ?_⟩
  have gm := g'.m S.tk
  have q := q.mono (P' := FPo lr (nxO (stL Lc j 0)) E H Z ta As) (X' := EPm XP Ex H1 Z' t1 As') (fun _ _ h => h) fun _ _ _ h => h.gm gm
  refine gsub_run (k := 0) (A := []) S' T1 h1 hx ⟨Ow.zero.mpr ⟨rfl, ra⟩, .nil, fun _ h => by cases h⟩ .refl (fun _ h => by cases h) q fun l2 τ2 H2 Z2 t2 As2 S2 g2 T2 q => ?_
  refine ⟨vb, _, rfl, ?_⟩
  have rb2 := g2.rp S'.zt S'.zs rb
  refine gsub_run (k := 0) (A := []) S2 T2 h2 hx2 ⟨Ow.zero.mpr ⟨rfl, rb2⟩, .nil, fun _ h => by cases h⟩ g2 (fun _ h => by cases h) q fun l3 τ3 H3 Z3 t3 As3 S3 g3 T3 q => ?_
  refine ⟨rfl, ?_⟩
  have q : SPo (some (stL Lc j 0)) E.nx H Z ta As (put (put ρ j l2) j l3) τ3 := q
  exact q _ rfl _ H3 Z3 t3 As3 (gm.trans g3) S3 T3

/-- sums in place -/
theorem aug_op {o : Bop} (ho : augOk o = true) : ∃ f : Int → Int → Int, PIp X (bopP o) (ipI f) ∧ ∀ i j, binop o (.int i) (.int j) = some (.int (f i j)) := by
  cases o with
  | add => exact ⟨_, ip_add, fun _ _ => rfl⟩
  | sub => exact ⟨_, ip_sub, fun _ _ => rfl⟩
  | _ => simp [augOk] at ho
theorem aug_int {o : Bop} (ho : augOk o = true) {i : Int} {b d : D} (h : binop o (.int i) b = some d) : ∃ j, b = .int j := by
  cases o <;> cases b <;> first | exact ⟨_, rfl⟩ | simp [binop, augOk] at h ho
theorem flatA_int {a : D} (h : isFlatA a = true) : ∃ i, a = .int i := by
  cases a <;> first | exact ⟨_, rfl⟩ | simp [isFlatA] at h
theorem Ow.int {H : Hp} {Z : Addr → Prop} {ta : Option Addr} {k : Nat} {i : Int} {v : V} {A : List Addr} (h : Ow H Z ta k (.int i) v A) : v = .int i := by unfold Ow at h; exact h.2
theorem aug_imp {j : Nat} {o : Bop} {f : Int → Int → Int} (ho : augOk o = true) (hf : ∀ i k, binop o (.int i) (.int k) = some (.int (f i k))) (E : Ends) (σ : List (Option V)) (H : Hp) (h : tSt lr XP Ex (evS cf (.aug j o e)) L (nxO La) E σ H) :
    tAug j (tEv cf XP Ex e L La ty) (ipI f) E σ H := by
  obtain ⟨Z, ta, As, ρ, τ, S, T, q⟩ := h
  rw [show evS cf (.aug j o e) ρ τ = (R.of (look ρ j) τ).bind fun a τ => (evE cf e ρ τ).bind fun b τ =>
    if isFlatA a then (R.of (binop o a b) τ).bind fun d τ => .ok (.nx (put ρ j d)) τ else .bad by rw [evS]] at q
  obtain ⟨a, ha, q⟩ := q.bind.of
  obtain ⟨w, hw, ow⟩ := S.slot j a ha
  refine ⟨w, hw, ?_⟩
  refine tEv.goM S T .refl q fun d τ1 v H1 Z1 t1 As1 A1 gw g1 S1 T1 r1 f1 q => ?_
  by_cases hfa : isFlatA a = true
  · rw [if_pos hfa] at q
    obtain ⟨n, rfl⟩ := flatA_int hfa
    obtain ⟨d3, e3, q⟩ := q.bind.of
    obtain ⟨m, rfl⟩ := aug_int ho e3
    rw [hf] at e3
    cases e3
    have q : SPo (some La) E.nx H Z ta As (put ρ j (.int (f n m))) τ1 := q
    refine ⟨n, m, ow.int, (r1.rd S1).int', ?_⟩
    refine q _ rfl _ H1 Z1 t1 (As1.set j []) (g1.drop fun a ha => .inl (flat_nil_sub ha)) (S1.put (A := []) ?_ .nil (fun _ h => by cases h) (fun _ _ _ => rfl) fun _ _ => Nat.le_refl _) T1
    unfold Ow
    exact ⟨rfl, rfl⟩
  · rw [if_neg hfa] at q; exact q.elim
theorem app_imp {j : Nat} (h1 : 1 ≤ lev (taken (ty, La)).2 j) (hx : j < (taken (ty, La)).2.length) (E : Ends) (σ : List (Option V)) (H : Hp) (h : tSt lr XP Ex (evS cf (.app j e)) L (nxO (stL (taken (ty, La)).2 j (taken (ty, La)).1)) E σ H) :
    tDrop (tBM K "list" rAppend (tVar j) (tCons (tEv cf XP Ex e L La ty) tNil)) E σ H := by
  obtain ⟨Z, ta, As, ρ, τ, S, T, q⟩ := h
  rw [show evS cf (.app j e) ρ τ = (R.of ((look ρ j).bind isLst) τ).bind fun xs τ => (evE cf e ρ τ).bind fun d τ => if xs.length < LIM then .ok (.nx (put ρ j (.lst (xs ++ [d])))) τ else .bad by rw [evS]] at q
  obtain ⟨ds, hl, q⟩ := q.bind.of
  have hl : look ρ j = some (.lst ds) := by
    cases e1 : look ρ j with
    | none => rw [e1] at hl; cases hl
    | some l =>
      rw [e1] at hl
      cases l with
      | lst xs => simp [isLst] at hl; rw [hl]
      | _ => simp [isLst] at hl
  obtain ⟨w, hw, ow⟩ := S.slot j _ hl
  have rd := ow.rd
  unfold Rp at rd
  obtain ⟨p, vs, rfl, _, hp, _⟩ := rd
  refine ⟨_, hw, .inl ⟨rfl, vs, SqL.of hp⟩, ?_⟩
  refine tEv.goM S T .refl q fun d τ1 v H1 Z1 t1 As1 A1 gw g1 S1 T1 r1 f1 q => ?_
  by_cases hlim : ds.length < LIM
  · rw [if_pos hlim] at q
    have q : SPo (some (stL (taken (ty, La)).2 j (taken (ty, La)).1)) E.nx H Z ta As (put ρ j (.lst (ds ++ [d]))) τ1 := q
    obtain ⟨Z2, As2, A2, S2, g2, t2, f2⟩ := r1.taken S1 g1 f1
    obtain ⟨p2, vs2, hp2, hH2, hlen, Z', As', S', g', T'⟩ := st_app S2 T1 hl h1 hx t2 g2 fun a ha => .inr (f2 a ha)
    rw [hw] at hp2
    cases hp2
    have LIMs : LIM = PySem.sizeLine := by decide
    exact ⟨p, vs2, v, rfl, rfl, hH2, by rw [hlen, ← LIMs]; exact hlim, q _ rfl _ _ Z' t1 As' g' S' T'⟩
  · rw [if_neg hlim] at q; exact q.elim
end
end Py

/-! EvX: blocks, loops, returns. -/
namespace Py
open PySem (Str Addr Expr Stmt Scope NameKind Const Comprehension Operator CmpOp Value PyData Shared)
open L2
variable [kf : Kf]

theorem minO_l {a b : Option (List Nat)} {L : List Nat} (h : a = some L) : ∃ L', minO a b = some L' ∧ ∀ i, lev L' i ≤ lev L i := by
  subst h
  cases b with
  | none => exact ⟨L, rfl, fun _ => Nat.le_refl _⟩
  | some M => exact ⟨_, rfl, fun i => (lev_minL _ _ i).1⟩
theorem minO_r {a b : Option (List Nat)} {L : List Nat} (h : b = some L) : ∃ L', minO a b = some L' ∧ ∀ i, lev L' i ≤ lev L i := by
  subst h
  cases a with
  | none => exact ⟨L, rfl, fun _ => Nat.le_refl _⟩
  | some M => exact ⟨_, rfl, fun i => (lev_minL _ _ i).2⟩
theorem minT_le {L : List Nat} {a : Option (List Nat)} : (∀ i, lev (minT L a) i ≤ lev L i) ∧ ∀ M, a = some M → ∀ i, lev (minT L a) i ≤ lev M i := by
  cases a with
  | none => exact ⟨fun _ => Nat.le_refl _, fun _ h => by cases h⟩
  | some M => exact ⟨fun i => (lev_minL _ _ i).1, fun M' h i => by cases h; exact (lev_minL _ _ i).2⟩
theorem leO_le {L : List Nat} {a : Option (List Nat)} (h : leO L a = true) : ∀ M, a = some M → ∀ i, lev L i ≤ lev M i := by
  intro M e
  subst e
  exact leL_lev h
section
variable {XP : XPr} {Ex : XK} {H H1 : Hp} {Z Z1 : Addr → Prop} {ta t1 : Option Addr} {As A1 : Fps} {lr : Nat}
theorem SPo.of {oL oM : Option (List Nat)} {P : List (Option V) → Hp → Prop} {ρ : Loc} {τ : Tp} (h : SPo oL P H Z ta As ρ τ) (w : ∀ L, oM = some L → ∃ L', oL = some L' ∧ ∀ i, lev L' i ≤ lev L i) : SPo oM P H Z ta As ρ τ := by
  intro L e σ' H' Z' ta' As' g S T
  obtain ⟨L', e', hl⟩ := w L e
  exact h.take e' hl g S T
/-- a value handed back -/
theorem ret_fin {H0 : Hp} {Z0 : Addr → Prop} {t0 : Option Addr} {As0 : Fps} {k : Nat} {d : D} {v : V} {A : List Addr} {τ : Tp} {P : VK} (zin : ∀ a, Z a → H a ≠ none ∧ ta ≠ some a) (tk : ∀ a, ta = some a → ∃ kvs, H a = some (.dK kvs)) (T : TapeSt H ta τ)
    (t : Tm H Z ta [] k d v A) (hk : lr ≤ k) (g : Gm H0 Z0 t0 As0 H Z ta []) (f : ∀ a ∈ A, a ∈ As0.flatten ∨ H0 a = none) (q : RPo lr P H0 Z0 t0 As0 d τ) : P v H := by
  obtain ⟨A', B, p, o⟩ := Ow.weak k lr d v A hk t.ow
  have hB : ∀ b ∈ B, b ∈ A := fun b hb => p.symm.subset (List.mem_append_right _ hb)
  have hA : ∀ b ∈ A', b ∈ A := fun b hb => p.symm.subset (List.mem_append_left _ hb)
  have nd : (A' ++ B).Nodup := p.nodup_iff.mp t.nod
  rw [List.nodup_append] at nd
  have zz : ∀ a, Z a → (fun a => Z a ∨ a ∈ B) a := fun a z => .inl z
  refine q v H (fun a => Z a ∨ a ∈ B) ta A' ⟨g.keep, g.tup, g.frz, g.ex, g.tad, g.tnew, fun a z => .inl (g.z a z), fun a z => ?_, g.sub⟩ (fun a z => ?_) tk T ⟨o _ zz fun b hb => .inr hb, nd.1, fun a ha => ?_⟩ fun a ha => f a (hA a ha)
  · rcases z with z | z
    · exact g.znew a z
    · exact .inr (f a (hB a z))
  · rcases z with z | z
    · exact zin a z
    · obtain ⟨_, _, s3, s4⟩ := t.sep a (hB a z)
      exact ⟨s4, s3⟩
  · obtain ⟨s1, s2, s3, s4⟩ := t.sep a (hA a ha)
    exact ⟨fun z => z.elim s1 fun z => nd.2.2 a ha a z rfl, s2, s3, s4⟩
end
section
variable {C : Cst} {cf : CF} {XP : XPr} {Ex : XK} {sc : Scope} {X : Cx} {L La Lb Lc : List Nat} {ty ty1 ty2 ty3 : Ty} {a b c i e : E} {x y z : Expr} {pos : PySem.Pos} {lr : Nat} {K : PySem.W.Frag}
theorem ret_imp (hk : lr ≤ (taken (ty, La)).1) {o : Out} (E : Ends) (σ : List (Option V)) (H : Hp) (h : tSt lr XP Ex (evS cf (.ret e)) L o E σ H) : tRet (tEv cf XP Ex e L La ty) E σ H := by
  obtain ⟨Z, ta, As, ρ, τ, S, T, q⟩ := h
  rw [show evS cf (.ret e) ρ τ = (evE cf e ρ τ).bind fun d τ => .ok (.rt d) τ by rw [evS]] at q
  refine tEv.goM S T .refl q fun d τ1 v H1 Z1 t1 As1 A1 gw g1 S1 T1 r1 f1 q => ?_
  obtain ⟨Z2, As2, A2, S2, g2, t2, f2⟩ := r1.taken S1 g1 f1
  have q : RPo lr E.rt H Z ta As d τ1 := q
  exact ret_fin S2.zin S2.tk T1 ⟨t2.ow, t2.nod, fun a ha => let ⟨s1, s2, s3, s4⟩ := t2.sep a ha; ⟨s1, fun h => (by cases h), s3, s4⟩⟩ hk (g2.drop fun _ h => by cases h) (fun a ha => .inr (f2 a ha)) q
theorem retv_imp {j : Nat} (hk : lr ≤ lev L j) {o : Out} (E : Ends) (σ : List (Option V)) (H : Hp) (h : tSt lr XP Ex (evS cf (.ret (.var j))) L o E σ H) : tRet (tVar j) E σ H := by
  obtain ⟨Z, ta, As, ρ, τ, S, T, q⟩ := h
  rw [show evS cf (.ret (.var j)) ρ τ = (R.of (look ρ j) τ).bind fun d τ => .ok (.rt d) τ by rw [evS, evE]] at q
  obtain ⟨d, hd, q⟩ := q.bind.of
  obtain ⟨v, hv, o⟩ := S.slot j d hd
  have q : RPo lr E.rt H Z ta As d τ := q
  refine ⟨v, hv, ?_⟩
  have hj : j < As.length := by rw [S.len2]; exact look_lt hd
  have nd := (flat_perm hj).nodup_iff.mp S.nod
  rw [List.nodup_append] at nd
  exact ret_fin S.zin S.tk T ⟨o, nd.1, fun a ha => let ⟨s1, s2, s3⟩ := S.sep a (mem_flat ha); ⟨s1, fun h => (by cases h), s3, s2⟩⟩ hk (Gm.refl.drop fun _ h => by cases h) (fun a ha => .inl (mem_flat ha)) q
theorem rtn_imp {o : Out} (E : Ends) (σ : List (Option V)) (H : Hp) (h : tSt lr XP Ex (evS cf .rtn) L o E σ H) : tRetN E σ H := by
  obtain ⟨Z, ta, As, ρ, τ, S, T, q⟩ := h
  rw [show evS cf .rtn ρ τ = .ok (.rt .non) τ by rw [evS]] at q
  have q : RPo lr E.rt H Z ta As .non τ := q
  exact ret_fin (k := lr) (A := []) S.zin S.tk T ⟨by unfold Ow; exact ⟨rfl, rfl⟩, .nil, fun _ h => by cases h⟩ (Nat.le_refl _) (Gm.refl.drop fun _ h => by cases h) (fun _ h => by cases h) q
theorem pas_imp (E : Ends) (σ : List (Option V)) (H : Hp) (h : tSt lr XP Ex (evS cf .pas) L (nxO L) E σ H) : tNext E σ H := by
  obtain ⟨Z, ta, As, ρ, τ, S, T, q⟩ := h
  rw [show evS cf .pas ρ τ = .ok (.nx ρ) τ by rw [evS]] at q
  have q : SPo (some L) E.nx H Z ta As ρ τ := q
  exact q L rfl σ H Z ta As .refl S T
theorem brk_imp (E : Ends) (σ : List (Option V)) (H : Hp) (h : tSt lr XP Ex (evS cf .brk) L ⟨none, some L, none⟩ E σ H) : tBreak E σ H := by
  obtain ⟨Z, ta, As, ρ, τ, S, T, q⟩ := h
  rw [show evS cf .brk ρ τ = .ok (.bk ρ) τ by rw [evS]] at q
  have q : SPo (some L) E.bk H Z ta As ρ τ := q
  exact q L rfl σ H Z ta As .refl S T
theorem cnt_imp (E : Ends) (σ : List (Option V)) (H : Hp) (h : tSt lr XP Ex (evS cf .cnt) L ⟨none, none, some L⟩ E σ H) : tCont E σ H := by
  obtain ⟨Z, ta, As, ρ, τ, S, T, q⟩ := h
  rw [show evS cf .cnt ρ τ = .ok (.ct ρ) τ by rw [evS]] at q
  have q : SPo (some L) E.ct H Z ta As ρ τ := q
  exact q L rfl σ H Z ta As .refl S T
theorem ex_imp (E : Ends) (σ : List (Option V)) (H : Hp) (h : tSt lr XP Ex (evS cf (.ex e)) L (nxO La) E σ H) : tDrop (tEv cf XP Ex e L La ty) E σ H := by
  obtain ⟨Z, ta, As, ρ, τ, S, T, q⟩ := h
  rw [show evS cf (.ex e) ρ τ = (evE cf e ρ τ).bind fun _ τ => .ok (.nx ρ) τ by rw [evS]] at q
  refine tEv.goM S T .refl q fun d τ1 v H1 Z1 t1 As1 A1 gw g1 S1 T1 r1 f1 q => ?_
  have q : SPo (some La) E.nx H Z ta As ρ τ1 := q
  exact q La rfl σ H1 Z1 t1 As1 g1 S1 T1
theorem nil_imp (E : Ends) (σ : List (Option V)) (H : Hp) (h : tSt lr XP Ex (evSs cf []) L (nxO L) E σ H) : tNext E σ H := by
  obtain ⟨Z, ta, As, ρ, τ, S, T, q⟩ := h
  rw [show evSs cf [] ρ τ = .ok (.nx ρ) τ by rw [evSs]] at q
  have q : SPo (some L) E.nx H Z ta As ρ τ := q
  exact q L rfl σ H Z ta As .refl S T
theorem evSs_cons {s : S} {ss : List S} {ρ : Loc} {τ : Tp} : evSs cf (s :: ss) ρ τ = (evS cf s ρ τ).bind fun fl τ => match fl with
    | .nx ρ => evSs cf ss ρ τ
    | .rt d => .ok (.rt d) τ
    | .bk ρ => .ok (.bk ρ) τ
    | .ct ρ => .ok (.ct ρ) τ := by
  rw [evSs] <;> congr 1
theorem seq_imp {s : S} {ss : List S} {o1 o2 : Out} (h1 : o1.nx = some La) (E : Ends) (σ : List (Option V)) (H : Hp) (h : tSt lr XP Ex (evSs cf (s :: ss)) L ⟨o2.nx, minO o1.bk o2.bk, minO o1.ct o2.ct⟩ E σ H) :
    tSeq (tSt lr XP Ex (evS cf s) L o1) (tSt lr XP Ex (evSs cf ss) La o2) E σ H := by
  obtain ⟨Z, ta, As, ρ, τ, S, T, q⟩ := h
  rw [evSs_cons] at q
  refine ⟨Z, ta, As, ρ, τ, S, T, q.bind.mono (fun fl τ1 q => ?_) fun _ _ _ h => h⟩
  cases fl with
  | nx ρ1 =>
    intro L1 e σ' H' Z' ta' As' g S' T'
    rw [h1] at e
    cases e
    refine ⟨Z', ta', As', ρ1, τ1, S', T', q.mono (fun fl τ2 w => ?_) fun _ _ _ h => h.gm g⟩
    have w := w.gm g
    cases fl with
    | nx ρ2 => exact w
    | rt d => exact w
    | bk ρ2 => exact SPo.of w fun L e => minO_r e
    | ct ρ2 => exact SPo.of w fun L e => minO_r e
  | rt d => exact q
  | bk ρ1 => exact SPo.of (show SPo _ _ _ _ _ _ _ _ from q) fun L e => minO_l e
  | ct ρ1 => exact SPo.of (show SPo _ _ _ _ _ _ _ _ from q) fun L e => minO_l e
theorem cut_imp {s : S} {ss : List S} {o : Out} (h1 : o.nx = none) (E : Ends) (σ : List (Option V)) (H : Hp) (h : tSt lr XP Ex (evSs cf (s :: ss)) L o E σ H) :
    tSeq (tSt lr XP Ex (evS cf s) L o) tNever E σ H := by
  obtain ⟨Z, ta, As, ρ, τ, S, T, q⟩ := h
  rw [evSs_cons] at q
  refine ⟨Z, ta, As, ρ, τ, S, T, q.bind.mono (fun fl τ1 q => ?_) fun _ _ _ h => h⟩
  cases fl with
  | nx ρ1 => intro L1 e; rw [h1] at e; cases e
  | rt d => exact q
  | bk ρ1 => exact q
  | ct ρ1 => exact q
theorem iff_imp {p q : List S} {o1 o2 : Out} (E : Ends) (σ : List (Option V)) (H : Hp) (h : tSt lr XP Ex (evS cf (.iff c p q)) L ⟨minO o1.nx o2.nx, minO o1.bk o2.bk, minO o1.ct o2.ct⟩ E σ H) :
    tIfS (tEvT cf XP Ex c L La) (tSt lr XP Ex (evSs cf p) La o1) (tSt lr XP Ex (evSs cf q) La o2) E σ H := by
  obtain ⟨Z, ta, As, ρ, τ, S, T, w⟩ := h
  rw [show evS cf (.iff c p q) ρ τ = (asB (evE cf c ρ τ)).bind fun k τ => if k then evSs cf p ρ τ else evSs cf q ρ τ by rw [evS]] at w
  refine ⟨Z, ta, As, ρ, τ, S, T, w.bind.mono (fun k τ1 w H1 Z1 t1 As1 g S1 T1 => ?_) fun _ _ _ h => h.o .refl S.tk⟩
  have gm := g.m S.tk
  cases k with
  | true =>
    refine ⟨Z1, t1, As1, ρ, τ1, S1, T1, w.mono (fun fl τ2 w => ?_) fun _ _ _ h => h.gm gm⟩
    have w := w.gm gm
    cases fl with
    | nx ρ2 => exact SPo.of w fun L e => minO_l e
    | rt d => exact w
    | bk ρ2 => exact SPo.of w fun L e => minO_l e
    | ct ρ2 => exact SPo.of w fun L e => minO_l e
  | false =>
    refine ⟨Z1, t1, As1, ρ, τ1, S1, T1, w.mono (fun fl τ2 w => ?_) fun _ _ _ h => h.gm gm⟩
    have w := w.gm gm
    cases fl with
    | nx ρ2 => exact SPo.of w fun L e => minO_r e
    | rt d => exact w
    | bk ρ2 => exact SPo.of w fun L e => minO_r e
    | ct ρ2 => exact SPo.of w fun L e => minO_r e
end
end Py

/-! EvY: loops; x[i] += e. -/
namespace Py
open PySem (Str Addr Expr Stmt Scope NameKind Const Comprehension Operator CmpOp Value PyData Shared)
open L2
variable [kf : Kf]

theorem get_list {X : Cx} : PGet X (rIxL X.K) := by
  intro pins s σ H x y v u Q I rx ry h
  obtain ⟨p, xs, i, z, rfl, rfl, hq, he, q⟩ := h
  cases rx
  obtain ⟨t, rfl⟩ := ry
  obtain ⟨its, r, pl, hz⟩ := I.list hq
  obtain ⟨j, h1, h2, h3, h4, h5⟩ := atI_get he
  obtain ⟨w, ew, rw'⟩ := r.get h2
  have hl := r.length
  have hn := line63
  have fin : EP X pins σ Q w s := ⟨z, H, I, rw', q⟩
  by_cases h0 : 0 ≤ i
  · have hj : i.toNat = j := by
      rw [PySem.seqIndex_of h0 h5] at h1
      exact Option.some.inj h1
    exact PySem.wpAny_getItem_list pl.isList h0 (by omega) (by rw [hj]; simpa using ew) fin
  · have hj : (i + (its.toArray.size : Int)).toNat = j := by
      rw [PySem.seqIndex_neg (by omega) h4] at h1
      rw [List.size_toArray, ← hl]
      exact Option.some.inj h1
    exact PySem.wpAny_getItem_list_neg pl.isList (by omega) (by rw [List.size_toArray] <;> omega) (by omega) (by rw [hj]; simpa using ew) fin
section
variable {C : Cst} {cf : CF} {XP : XPr} {Ex : XK} {sc : Scope} {X : Cx} {L La Lb Lc Ls Lx : List Nat} {ty ty1 ty2 ty3 : Ty} {a b c i e : E} {x y z : Expr} {pos : PySem.Pos} {lr : Nat} {K : PySem.W.Frag}
/-- the rest of a loop, what comes of a turn -/
def after (rest : Loc → Tp → R Fl) (fl : Fl) (τ : Tp) : R Fl := match fl with
  | .nx ρ => rest ρ τ
  | .ct ρ => rest ρ τ
  | .bk ρ => .ok (.nx ρ) τ
  | .rt d => .ok (.rt d) τ
theorem forLoop_cons {t : T} {body : Loc → Tp → R Fl} {d : D} {ds : List D} {ρ : Loc} {τ : Tp} : forLoop t body (d :: ds) ρ τ = (R.of (bindT ρ t d) τ).bind fun ρ τ => (body ρ τ).bind fun fl τ => after (fun ρ τ => forLoop t body ds ρ τ) fl τ := by
  rw [forLoop]
  congr 1
theorem whlLoop_succ {c : Loc → Tp → R Bool} {body : Loc → Tp → R Fl} {n : Nat} {ρ : Loc} {τ : Tp} : whlLoop c body (n + 1) ρ τ = (c ρ τ).bind fun k τ => if k then (body ρ τ).bind fun fl τ => after (fun ρ τ => whlLoop c body n ρ τ) fl τ else .ok (.nx ρ) τ := by
  rw [whlLoop]
  congr 1
/-- a turn's ends, by the loop's -/
theorem turn_ends {H H3 : Hp} {Z Z3 : Addr → Prop} {ta t3 : Option Addr} {As As3 : Fps} {E : Ends} {ob : Out} {Lout : List Nat} {rest : Loc → Tp → R Fl} {N : List (Option V) → Hp → Prop} (gm : Gm H Z ta As H3 Z3 t3 As3)
    (hn : ∀ M, ob.nx = some M → ∀ i, lev Ls i ≤ lev M i) (hc : ∀ M, ob.ct = some M → ∀ i, lev Ls i ≤ lev M i) (hb : ∀ M, ob.bk = some M → ∀ i, lev Lout i ≤ lev M i)
    (hN : ∀ ρ6 τ6 σ' H' Z' ta' As', Gm H3 Z3 t3 As3 H' Z' ta' As' → Sta H' Z' ta' Ls ρ6 σ' As' → TapeSt H' ta' τ6 → Sat (rest ρ6 τ6) (FPo lr (nxO Lout) E H Z ta As) (EPm XP Ex H Z ta As) → N σ' H')
    {r : R Fl} (q : Sat (r.bind fun fl τ => after rest fl τ) (FPo lr (nxO Lout) E H Z ta As) (EPm XP Ex H Z ta As)) :
    Sat r (FPo lr ob { E with nx := N, ct := N, bk := E.nx } H3 Z3 t3 As3) (EPm XP Ex H3 Z3 t3 As3) := by
  have step : ∀ {oL : Option (List Nat)} {ρ6 : Loc} {τ6 : Tp}, (∀ M, oL = some M → ∀ i, lev Ls i ≤ lev M i) → Sat (rest ρ6 τ6) (FPo lr (nxO Lout) E H Z ta As) (EPm XP Ex H Z ta As) → SPo oL N H3 Z3 t3 As3 ρ6 τ6 := by
    intro oL ρ6 τ6 h q L6 e σ' H' Z' ta' As' g' S' T'
    obtain ⟨Z7, As7, S7, g7⟩ := S'.weaks Ls (h L6 e)
    exact hN ρ6 τ6 σ' H' Z7 ta' As7 (g'.trans (g7.m S'.tk)) S7 T' q
  refine q.bind.mono (fun fl τ6 q => ?_) fun _ _ _ h => h.gm gm
  cases fl with
  | nx ρ6 => exact step hn q
  | ct ρ6 => exact step hc q
  | bk ρ6 =>
    have q : SPo (some Lout) E.nx H Z ta As ρ6 τ6 := q
    exact SPo.of (q.gm gm) fun M e => ⟨Lout, rfl, hb M e⟩
  | rt d =>
    have q : RPo lr E.rt H Z ta As d τ6 := q
    exact q.gm gm
theorem frr_imp {t : T} {it : I} {bd : List S} {ob : Out} (l0 : ∀ i, lev Ls i ≤ lev La i) (hn : ∀ M, ob.nx = some M → ∀ i, lev Ls i ≤ lev M i) (hc : ∀ M, ob.ct = some M → ∀ i, lev Ls i ≤ lev M i)
    (E : Ends) (σ : List (Option V)) (H : Hp) (h : tSt lr XP Ex (evS cf (.frr t it bd)) L (nxO (minT Ls ob.bk)) E σ H) :
    tFor (tIt cf XP Ex true it L La) (gOf K t) (tSt lr XP Ex (evSs cf bd) (zeros Ls (slotsT t)) ob) E σ H := by
  obtain ⟨Z, ta, As, ρ, τ, S, T, q⟩ := h
  rw [show evS cf (.frr t it bd) ρ τ = (evI cf it ρ τ).bind fun xs τ => forLoop t (fun ρ τ => evSs cf bd ρ τ) xs ρ τ by rw [evS]] at q
  refine ⟨Z, ta, As, ρ, τ, S, T, q.bind.mono (fun xs τ1 q J H1 Z1 t1 As1 g1 S1 T1 io => ?_) fun _ _ _ h => h.o .refl S.tk⟩
  have gm1 := g1.m S.tk
  let I : Nat → List (Option V) → Hp → Prop := fun i σ2 H2 => ∃ Z2 t2 As2 ρ2 τ2, Gm H1 Z1 t1 As1 H2 Z2 t2 As2 ∧ Sta H2 Z2 t2 Ls ρ2 σ2 As2 ∧ TapeSt H2 t2 τ2 ∧
    Sat (forLoop t (fun ρ τ => evSs cf bd ρ τ) (xs.drop i) ρ2 τ2) (FPo lr (nxO (minT Ls ob.bk)) E H Z ta As) (EPm XP Ex H Z ta As)
  refine ⟨fun i m σ2 H2 => m = xs.length - i ∧ i ≤ xs.length ∧ I i σ2 H2, ⟨xs.length, rfl, Nat.zero_le _, ?_⟩, ?_⟩
  · obtain ⟨Z2, As2, S2, g2⟩ := S1.weaks Ls l0
    exact ⟨Z2, t1, As2, ρ, τ1, g2.m S1.tk, S2, T1, by rw [List.drop_zero]; exact q⟩
  · rintro i m σ2 H2 ⟨rfl, hi, Z2, t2, As2, ρ2, τ2, g2, S2, T2, q2⟩
    have kp : Kp H1 (Yof true Z1 t1) H2 := ⟨g2.tup, fun a o y e => g2.keep a o e (S1.zt a y) (S1.zs a y), g2.frz⟩
    by_cases hlt : i < xs.length
    · have hd : xs[i]? = some xs[i] := List.getElem?_eq_getElem hlt
      obtain ⟨jg, jy⟩ := io.go i _ H2 kp hd
      refine .inr ⟨jg, I (i + 1), fun σ' H' w => ⟨xs.length - (i + 1), by omega, rfl, hlt, w⟩, fun x H3 y => ?_⟩
      obtain ⟨rx, g3, S3, T3⟩ := (jy x H3 y).use (fun d v r => g2.rp S1.zt S1.zs r) S2 T2
      rw [List.drop_eq_getElem_cons hlt, forLoop_cons] at q2
      obtain ⟨ρ', hbd, q2⟩ := q2.bind.of
      obtain ⟨Z4, As4, S4, g4⟩ := S3.weaks (zeros Ls (slotsT t)) fun j => (lev_zeros _ _ j).1
      have rx4 := g4.rp S3.tk S3.zt rx
      refine g_run (fun j hj => (lev_zeros _ _ j).2.1 hj) hbd rx4 S4 fun σ5 As5 S5 hs5 _ => ?_
      have g15 : Gm H1 Z1 t1 As1 H3 Z4 t2 As5 := (g2.trans ((g3.m S2.tk).trans (g4.m S3.tk))).drop fun a ha => .inl (hs5 a ha)
      refine ⟨Z4, t2, As5, ρ', τ2, S5, T3, turn_ends (gm1.trans g15) hn hc (fun M e => minT_le.2 M e) (fun ρ6 τ6 σ' H' Z' ta' As' g' S' T' w => ?_) q2⟩
      exact ⟨Z', ta', As', ρ6, τ6, g15.trans g', S', T', w⟩
    · have e : i = xs.length := by omega
      subst e
      rw [List.drop_length] at q2
      have q2 : SPo (some (minT Ls ob.bk)) E.nx H Z ta As ρ2 τ2 := q2
      exact .inl ⟨io.stop H2 kp, q2.take rfl minT_le.1 (gm1.trans g2) S2 T2⟩
/-- for t in it: name = e; what is walked may be owned -/
theorem fra_imp {t : T} {it : I} {j : Nat} (hj : j < Lc.length) (l0 : ∀ i, lev Ls i ≤ lev La i) (hn : ∀ i, lev Ls i ≤ lev (asgL Lc j ty) i)
    (E : Ends) (σ : List (Option V)) (H : Hp) (h : tSt lr XP Ex (evS cf (.fra t it j e)) L (nxO Ls) E σ H) :
    tFor (tIt cf XP Ex false it L La) (gOf K t) (tAsg (tEv cf XP Ex e (zeros Ls (slotsT t)) Lc ty) (gName j)) E σ H := by
  obtain ⟨Z, ta, As, ρ, τ, S, T, q⟩ := h
  rw [show evS cf (.fra t it j e) ρ τ = (evI cf it ρ τ).bind fun xs τ => forLoop t (fun ρ τ => (evE cf e ρ τ).bind fun d τ => .ok (.nx (put ρ j d)) τ) xs ρ τ by rw [evS]] at q
  refine ⟨Z, ta, As, ρ, τ, S, T, q.bind.mono (fun xs τ1 q J H1 Z1 t1 As1 g1 S1 T1 io => ?_) fun _ _ _ h => h.o .refl S.tk⟩
  have gm1 := g1.m S.tk
  let I : Nat → List (Option V) → Hp → Prop := fun i σ2 H2 => ∃ Z2 t2 As2 ρ2 τ2, Gm H1 Z1 t1 As1 H2 Z2 t2 As2 ∧ (∀ a o, H1 a = some o → t1 ≠ some a → H2 a = some o) ∧ Sta H2 Z2 t2 Ls ρ2 σ2 As2 ∧ TapeSt H2 t2 τ2 ∧
    Sat (forLoop t (fun ρ τ => (evE cf e ρ τ).bind fun d τ => .ok (.nx (put ρ j d)) τ) (xs.drop i) ρ2 τ2) (FPo lr (nxO Ls) E H Z ta As) (EPm XP Ex H Z ta As)
  refine ⟨fun i m σ2 H2 => m = xs.length - i ∧ i ≤ xs.length ∧ I i σ2 H2, ⟨xs.length, rfl, Nat.zero_le _, ?_⟩, ?_⟩
  · obtain ⟨Z2, As2, S2, g2⟩ := S1.weaks Ls l0
    exact ⟨Z2, t1, As2, ρ, τ1, g2.m S1.tk, fun _ _ e _ => e, S2, T1, by rw [List.drop_zero]; exact q⟩
  · rintro i m σ2 H2 ⟨rfl, hi, Z2, t2, As2, ρ2, τ2, g2, ka, S2, T2, q2⟩
    have kp : Kp H1 (Yof false Z1 t1) H2 := ⟨g2.tup, fun a o y e => ka a o e y, g2.frz⟩
    by_cases hlt : i < xs.length
    · have hd : xs[i]? = some xs[i] := List.getElem?_eq_getElem hlt
      obtain ⟨jg, jy⟩ := io.go i _ H2 kp hd
      refine .inr ⟨jg, I (i + 1), fun σ' H' w => ⟨xs.length - (i + 1), by omega, rfl, hlt, w⟩, fun x H3 y => ?_⟩
      obtain ⟨rx, g3, S3, T3⟩ := (jy x H3 y).use (fun d v r => g2.rp S1.zt S1.zs r) S2 T2
      rw [List.drop_eq_getElem_cons hlt, forLoop_cons] at q2
      obtain ⟨ρ', hbd, q2⟩ := q2.bind.of
      obtain ⟨Z4, As4, S4, g4⟩ := S3.weaks (zeros Ls (slotsT t)) fun j => (lev_zeros _ _ j).1
      have rx4 := g4.rp S3.tk S3.zt rx
      refine g_run (fun j hj => (lev_zeros _ _ j).2.1 hj) hbd rx4 S4 fun σ5 As5 S5 hs5 _ => ?_
      have g15 : Gm H1 Z1 t1 As1 H3 Z4 t2 As5 := (g2.trans ((g3.m S2.tk).trans (g4.m S3.tk))).drop fun a ha => .inl (hs5 a ha)
      have nt : ∀ a o, H1 a = some o → t1 ≠ some a → t2 ≠ some a := fun a o e n z => by
        rcases g2.tnew a z with z | z
        · exact n z
        · rw [e] at z; cases z
      refine tEv.goM S5 T3 (gm1.trans g15) q2.bind fun d τ6 v H6 Z6 t6 As6 A6 gw6 g6 S6 T6 r6 f6 q6 => ?_
      have q6 : Sat (forLoop t (fun ρ τ => (evE cf e ρ τ).bind fun d τ => .ok (.nx (put ρ j d)) τ) (xs.drop (i + 1)) (put ρ' j d) τ6) (FPo lr (nxO Ls) E H Z ta As) (EPm XP Ex H Z ta As) := q6
      have g16 := g15.trans (gw6.m S5.tk)
      obtain ⟨Z7, As7, S7, g7⟩ := asg_put hj S6 r6 g16 (g15.fresh f6)
      obtain ⟨Z8, As8, S8, g8⟩ := S7.weaks Ls hn
      exact ⟨Z8, t6, As8, _, τ6, g7.trans (g8.m S7.tk), fun a o e n => gw6.keep a o (g3.keep a o (ka a o e n) (nt a o e n)) (nt a o e n), S8, T6, q6⟩
    · have e : i = xs.length := by omega
      subst e
      rw [List.drop_length] at q2
      have q2 : SPo (some Ls) E.nx H Z ta As ρ2 τ2 := q2
      exact .inl ⟨io.stop H2 kp, q2.take rfl (fun _ => Nat.le_refl _) (gm1.trans g2) S2 T2⟩
theorem whl_imp {bd : List S} {ob : Out} (l0 : ∀ i, lev Ls i ≤ lev L i) (hn : ∀ M, ob.nx = some M → ∀ i, lev Ls i ≤ lev M i) (hc : ∀ M, ob.ct = some M → ∀ i, lev Ls i ≤ lev M i)
    (E : Ends) (σ : List (Option V)) (H : Hp) (h : tSt lr XP Ex (evS cf (.whl c bd)) L (nxO (minT Lc ob.bk)) E σ H) :
    tWhile (tEvT cf XP Ex c Ls Lc) (tSt lr XP Ex (evSs cf bd) Lc ob) E σ H := by
  obtain ⟨Z, ta, As, ρ, τ, S, T, q⟩ := h
  rw [show evS cf (.whl c bd) ρ τ = whlLoop (fun ρ τ => asB (evE cf c ρ τ)) (fun ρ τ => evSs cf bd ρ τ) WFUEL ρ τ by rw [evS]] at q
  let I : Nat → List (Option V) → Hp → Prop := fun m σ2 H2 => ∃ Z2 t2 As2 ρ2 τ2, Gm H Z ta As H2 Z2 t2 As2 ∧ Sta H2 Z2 t2 Ls ρ2 σ2 As2 ∧ TapeSt H2 t2 τ2 ∧
    Sat (whlLoop (fun ρ τ => asB (evE cf c ρ τ)) (fun ρ τ => evSs cf bd ρ τ) m ρ2 τ2) (FPo lr (nxO (minT Lc ob.bk)) E H Z ta As) (EPm XP Ex H Z ta As)
  refine ⟨I, ⟨WFUEL, ?_⟩, ?_⟩
  · obtain ⟨Z2, As2, S2, g2⟩ := S.weaks Ls l0
    exact ⟨Z2, ta, As2, ρ, τ, g2.m S.tk, S2, T, q⟩
  · rintro m σ2 H2 ⟨Z2, t2, As2, ρ2, τ2, g2, S2, T2, q2⟩
    cases m with
    | zero => rw [whlLoop] at q2; exact q2.elim
    | succ m =>
      rw [whlLoop_succ] at q2
      refine ⟨Z2, t2, As2, ρ2, τ2, S2, T2, q2.bind.mono (fun k τ3 q3 H3 Z3 t3 As3 g3 S3 T3 => ?_) fun _ _ _ h => h.o g2 S2.tk⟩
      have g23 := g2.trans (g3.m S2.tk)
      cases k with
      | true =>
        rw [if_pos rfl] at q3
        show (if true = true then _ else _)
        rw [if_pos rfl]
        refine ⟨I m, fun σ' H' w => ⟨m, Nat.lt_succ_self _, w⟩, Z3, t3, As3, ρ2, τ3, S3, T3, turn_ends g23 hn hc (fun M e => minT_le.2 M e) (fun ρ6 τ6 σ' H' Z' ta' As' g' S' T' w => ?_) q3⟩
        exact ⟨Z', ta', As', ρ6, τ6, g23.trans g', S', T', w⟩
      | false =>
        rw [if_neg Bool.false_ne_true] at q3
        show (if false = true then _ else _)
        rw [if_neg Bool.false_ne_true]
        have q3 : SPo (some (minT Lc ob.bk)) E.nx H Z ta As ρ2 τ3 := q3
        exact q3.take rfl minT_le.1 g23 S3 T3
theorem at_len {α β : Type} {xs : List α} {ys : List β} {i : Int} {v : α} (hl : ys.length = xs.length) (h : at? xs i = some v) : ∃ w, at? ys i = some w := by
  obtain ⟨j, hj, k⟩ := at_get h
  rw [k ys hl]
  have : j < xs.length := by
    by_cases q : j < xs.length
    · exact q
    · rw [List.getElem?_eq_none (by omega)] at hj; cases hj
  exact ⟨ys[j], List.getElem?_eq_getElem (by omega)⟩
theorem aix_imp {j : Nat} {o : Bop} {f : Int → Int → Int} (ho : augOk o = true) (hf : ∀ i k, binop o (.int i) (.int k) = some (.int (f i k))) (h1 : 1 ≤ lev Lb j) (hx : j < Lb.length) (E : Ends) (σ : List (Option V)) (H : Hp)
    (h : tSt lr XP Ex (evS cf (.aix j i o e)) L (nxO (stL Lb j 9)) E σ H) : tAugS (tVar j) (tEv cf XP Ex i L La ty) (tEv cf XP Ex e La Lb ty2) (rIxL K) (ipI f) rSetL E σ H := by
  obtain ⟨Z, ta, As, ρ, τ, S, T, q⟩ := h
  rw [show evS cf (.aix j i o e) ρ τ = (R.of ((look ρ j).bind isLst) τ).bind fun xs τ => (evE cf i ρ τ).bind fun k τ => (R.of (index (.lst xs) k) τ).bind fun a τ =>
    (evE cf e ρ τ).bind fun b τ => if isFlatA a then (R.of (binop o a b) τ).bind fun d τ => (R.of (setIx (.lst xs) k d) τ).bind fun l' τ => .ok (.nx (put ρ j l')) τ else .bad by rw [evS]] at q
  obtain ⟨ds, hl, q⟩ := q.bind.of
  have hl : look ρ j = some (.lst ds) := by
    cases e1 : look ρ j with
    | none => rw [e1] at hl; cases hl
    | some l =>
      rw [e1] at hl
      cases l with
      | lst xs => simp [isLst] at hl; rw [hl]
      | _ => simp [isLst] at hl
  obtain ⟨w, hw, ow⟩ := S.slot j _ hl
  have rd := ow.rd
  unfold Rp at rd
  obtain ⟨p, vs, rfl, _, hp, rds⟩ := rd
  refine ⟨_, hw, ?_⟩
  refine tEv.goM S T .refl q fun dk τ1 vk H1 Z1 t1 As1 A1 gw g1 S1 T1 r1 f1 q => ?_
  obtain ⟨av, ea, q⟩ := q.bind.of
  have hp1 := gw.lstK S.tk hp
  cases dk with
  | int ix =>
    have hv := (r1.rd S1).int'
    subst hv
    have ea : at? ds ix = some av := ea
    obtain ⟨jj, hjj, kjj⟩ := at_get ea
    obtain ⟨v0, hv0, rv0⟩ := rds.get hjj
    refine ⟨p, vs, ix, v0, rfl, rfl, SqL.of hp1, by rw [at_same, kjj vs rds.len.symm, hv0], ?_⟩
    refine tEv.goM S1 T1 g1 q fun db τ2 vb H2 Z2 t2 As2 A2 gw2 g2 S2 T2 r2 f2 q => ?_
    by_cases hfa : isFlatA av = true
    · rw [if_pos hfa] at q
      obtain ⟨n, rfl⟩ := flatA_int hfa
      obtain ⟨d3, e3, q⟩ := q.bind.of
      obtain ⟨m, rfl⟩ := aug_int ho e3
      rw [hf] at e3
      cases e3
      have q := q
      obtain ⟨l', e4, q⟩ := q.bind.of
      refine ⟨n, m, rv0.int', (r2.rd S2).int', ?_⟩
      obtain ⟨ds2, ix2, ds', e5, e6, rfl, e7⟩ := setIx_lst e4
      cases e5
      cases e6
      obtain ⟨p2, vs2, j2, hp2, hH2, hj2, Z', As', S', g', T'⟩ := st_put (k := 9) (v := .int (f n m)) (A := []) S2 T2 hl h1 hx ⟨by unfold Ow; exact ⟨rfl, rfl⟩, .nil, fun _ h => by cases h⟩ g2 (fun _ h => by cases h) e7
      rw [hw] at hp2
      cases hp2
      have q : SPo (some (stL Lb j 9)) E.nx H Z ta As (put ρ j (.lst ds')) τ2 := q
      exact ⟨p, vs2, ix, j2, rfl, rfl, hH2, hj2, q _ rfl _ _ Z' t2 As' g' S' T'⟩
    · rw [if_neg hfa] at q; exact q.elim
  | _ => simp [index] at ea
end
end Py

/-! EvZ: every statement that the static looks let pass. -/
namespace Py
open PySem (Str Addr Expr Stmt Scope NameKind Const Comprehension Operator CmpOp Value PyData Shared)
open L2
variable [kf : Kf]

theorem yAsg_some {st : Stmt} {t v : Expr} (h : yAsg st = some (t, v)) : ∃ p, st = .Assign [t] v p := by
  unfold yAsg at h; split at h
  · cases h; exact ⟨_, rfl⟩
  · cases h
theorem xSub1_some {e i : Expr} {x : Str} (h : xSub1 e = some (x, i)) : ∃ p q, e = .Subscript (.Name x p) i q := by
  unfold xSub1 at h; split at h
  · cases h; exact ⟨_, _, rfl⟩
  · cases h
theorem yAug_some {st : Stmt} {t v : Expr} {o : Operator} (h : yAug st = some (t, o, v)) : ∃ p, st = .AugAssign t o v p := by
  unfold yAug at h; split at h
  · cases h; exact ⟨_, rfl⟩
  · cases h
theorem yApp_some {st : Stmt} {x : Str} {v : Expr} (h : yApp st = some (x, v)) : ∃ p ap cp q, st = .Expr (.Call (.Attribute (.Name x p) "append" ap) [v] [] cp) q ∧ (ap.endLine == cp.line) = true := by
  unfold yApp at h; split at h
  · split at h
    · rename_i c
      simp only [Bool.and_eq_true, beq_iff_eq] at c
      obtain ⟨rfl, c⟩ := c
      cases h
      exact ⟨_, _, _, _, rfl, by simpa using c⟩
    · cases h
  · cases h
theorem yEx_some {st : Stmt} {v : Expr} (h : yEx st = some v) : ∃ p, st = .Expr v p := by
  unfold yEx at h; split at h
  · cases h; exact ⟨_, rfl⟩
  · cases h
theorem yIf_some {st : Stmt} {c : Expr} {a b : List Stmt} (h : yIf st = some (c, a, b)) : ∃ p, st = .If c a b p := by
  unfold yIf at h; split at h
  · cases h; exact ⟨_, rfl⟩
  · cases h
theorem yFor_some {st : Stmt} {t i : Expr} {b : List Stmt} (h : yFor st = some (t, i, b)) : ∃ p, st = .For t i b [] p := by
  unfold yFor at h; split at h
  · cases h; exact ⟨_, rfl⟩
  · cases h
theorem yWhl_some {st : Stmt} {c : Expr} {b : List Stmt} (h : yWhl st = some (c, b)) : ∃ p, st = .While c b [] p := by
  unfold yWhl at h; split at h
  · cases h; exact ⟨_, rfl⟩
  · cases h
theorem yRet_some {st : Stmt} {c : Option Expr} (h : yRet st = some c) : ∃ p, st = .Return c p := by
  unfold yRet at h; split at h
  · cases h; exact ⟨_, rfl⟩
  · cases h
theorem yBrk_some {st : Stmt} (h : yBrk st = true) : ∃ p, st = .Break p := by
  unfold yBrk at h; split at h
  · exact ⟨_, rfl⟩
  · cases h
theorem yCnt_some {st : Stmt} (h : yCnt st = true) : ∃ p, st = .Continue p := by
  unfold yCnt at h; split at h
  · exact ⟨_, rfl⟩
  · cases h
theorem yPas_some {st : Stmt} (h : yPas st = true) : ∃ p, st = .Pass p := by
  unfold yPas at h; split at h
  · exact ⟨_, rfl⟩
  · cases h

section
variable {X : Cx} {v : Expr} {env : PySem.Env}
theorem sw_name (hp : plainX v = true) (n : Str) (p : PySem.Pos) (l : Nat) : ∃ b, PySem.swapsWith v (some (.Name n p)) l env = pure b ∧ (b = true → isComp v = true ∧ env.scope.names.lookup n = some .local) := by
  cases v <;> first
    | (cases hp; done)
    | exact ⟨false, rfl, fun h => by cases h⟩
    | (refine ⟨_, rfl, fun h => ⟨rfl, ?_⟩⟩
       simp only [Bool.and_eq_true] at h
       have h := h.1.1.2
       simpa [PySem.Env.kindOf] using h)
theorem sw_tup {es : List Expr} {k : Nat} {p : PySem.Pos} (hp : plainX v = true) (l : Nat) : PySem.swapsWith v (some (.Tuple es k p)) l env = pure false := by
  cases v <;> first | rfl | (cases hp; done)
theorem sw_sub {o i : Expr} {p : PySem.Pos} (hp : plainX v = true) (l : Nat) : PySem.swapsWith v (some (.Subscript o i p)) l env = pure false := by
  cases v <;> first | rfl | (cases hp; done)
theorem sw_none (hc : isComp v = false) (l : Nat) : PySem.swapsWith v none l env = pure false := by
  cases v <;> first | rfl | (cases hc; done)
theorem ss_name {n : Str} {p : PySem.Pos} : PySem.swappedStores [.Name n p] v env = pure none := by
  cases v <;> rfl
theorem ss_sub {o i : Expr} {p : PySem.Pos} : PySem.swappedStores [.Subscript o i p] v env = pure none := by
  cases v <;> rfl
theorem ss_tup {sc : Scope} {es : List Expr} {k : Nat} {p : PySem.Pos} (hs : env.scope = sc) (hk : env.scope.kind = .function) (h : plainSt sc (.Tuple es k p) v = true) : PySem.swappedStores [.Tuple es k p] v env = pure none := by
  cases v <;> first
    | rfl
    | (unfold plainSt at h
       simp only [decide_eq_true_eq] at h
       exact ss_ok hs hk h)
theorem ae_one {t : Expr} (h : isStar t = false) : (PySem.assignEach [t] env).map (·.2) = [PySem.assign t env] := by
  cases t <;> first | rfl | (cases h; done)
theorem sub_assign {o i : Expr} {p : PySem.Pos} (h : plainX i = true) : ∀ v, PySem.assign (.Subscript o i p) env v = (do
      let ov ← PySem.holding [v] (PySem.eval o env)
      let iv ← PySem.holding [v, ov] (PySem.eval i env)
      PySem.standAt p
      PySem.holding [v, ov, iv] (PySem.setItem ov iv v)
      PySem.release [v, ov, iv] []) := by
  intro v
  cases i <;> first | rfl | (cases h; done)
theorem sub_aug {i : Expr} (h : plainX i = true) : ∀ ov iv new, PySem.augStore i ov iv new = (do PySem.holding [new, ov, iv] (PySem.setItem ov iv new); PySem.release [new, ov, iv] []; pure .next) := by
  intro ov iv new
  cases i <;> first | rfl | (cases h; done)
end
end Py

/-! EwA: every statement that the static looks let pass. -/
namespace Py
open PySem (Str Addr Expr Stmt Scope NameKind Const Comprehension Operator CmpOp Value PyData Shared)
open L2
variable [kf : Kf]

variable {C : Cst} {cf : CF} {XP : XPr}
theorem pv {Ex : XK} {sc : Scope} {fb : Option Scope} {X : Cx} {n : Str} {j : Nat} {p : PySem.Pos} (M : Cmp C cf XP Ex sc fb X) (h : varB C sc j n = true) : PE X (.Name n p) (tVar j) := by
  simp only [varB, slotB, Bool.and_eq_true, decide_eq_true_eq] at h
  obtain ⟨⟨h1, h2⟩, h3⟩ := h
  obtain ⟨g1, g2, _⟩ := good_dbg h2
  exact pe_var (i := j) (by rw [M.hN]; exact h1) (M.vis h3) g1 g2
theorem tyLoop_ok {f : List Nat → Option (List Nat × Out)} {L0 : List Nat} : ∀ (n : Nat) {L Ls Le : List Nat} {o : Out}, tyLoop f L0 n L = some (Ls, Le, o) → f Ls = some (Le, o) ∧ (∀ i, lev Ls i ≤ lev L0 i) ∧ (∀ M, o.nx = some M → ∀ i, lev Ls i ≤ lev M i) ∧ ∀ M, o.ct = some M → ∀ i, lev Ls i ≤ lev M i
  | 0, L, Ls, Le, o, h => by simp [tyLoop] at h
  | n + 1, L, Ls, Le, o, h => by
    simp only [tyLoop] at h
    obtain ⟨⟨Le', o'⟩, h1, h2⟩ := obind h
    split at h2
    · rename_i c
      simp only [Bool.and_eq_true] at c
      cases h2
      exact ⟨h1, leL_lev c.1.1, leO_le c.1.2, leO_le c.2⟩
    · exact tyLoop_ok n h2
theorem stTy_ok {L : List Nat} {x k : Nat} {o : Out} (h : stTy L x k = some o) : 1 ≤ lev L x ∧ x < L.length ∧ o = nxO (stL L x k) := by
  unfold stTy at h
  split at h
  · rename_i c
    simp only [Bool.and_eq_true, decide_eq_true_eq] at c
    cases h
    exact ⟨c.1, c.2, rfl⟩
  · cases h
theorem nameAt_some {sc : Scope} {l : Nat} {t : Expr} {x : Str} (h : nameAt sc l t = some x) : ∃ p, t = .Name x p := by
  unfold nameAt at h
  split at h
  · split at h
    · cases h; exact ⟨_, rfl⟩
    · cases h
  · cases h
theorem fm_len {α β : Type} {f : α → Option β} : ∀ ts : List α, (ts.filterMap f).length ≤ ts.length
  | [] => Nat.le_refl _
  | t :: ts => by
    rw [List.filterMap_cons]
    split
    · exact Nat.le_succ_of_le (fm_len ts)
    · simp only [List.length_cons]; exact Nat.succ_le_succ (fm_len ts)
theorem fm_all {α β : Type} {f : α → Option β} : ∀ {ts : List α} {ns : List β}, ts.filterMap f = ns → ns.length = ts.length → ts.map f = ns.map some
  | [], ns, h, hl => by subst h; rfl
  | t :: ts, ns, h, hl => by
    rw [List.filterMap_cons] at h
    split at h
    · have := fm_len (f := f) ts
      rw [h] at this
      simp at hl
      omega
    · rename_i b hb
      cases ns with
      | nil => cases h
      | cons n ns =>
        cases h
        simp only [List.length_cons, Nat.add_right_cancel_iff] at hl
        simp only [List.map_cons, hb, fm_all rfl hl]
theorem ssB_names {sc : Scope} {ts vs : List Expr} {ns : List Str} (h : ssB sc ts vs = some (some ns)) : (∃ l, ts.map (nameAt sc l) = ns.map some) ∧ vs.length = ts.length := by
  unfold ssB at h
  simp only at h
  split at h
  · cases h
  · rename_i c0
    split at h
    · cases h
    · split at h
      · cases h
      · rename_i c
        split at h
        · cases h
        · split at h
          · cases h
          · simp only [Option.some.injEq] at h
            simp only [Bool.or_eq_true, not_or, bne_iff_ne, ne_eq, Decidable.not_not] at c c0
            refine ⟨⟨_, fm_all h (by rw [← h]; exact c.1)⟩, c0.2⟩
theorem parSt_some {sc : Scope} {t v : Expr} {ns : List Str} {vs : List Expr} (h : parSt sc t v = some (ns, vs)) : ∃ ts k p k2 p2, t = .Tuple ts k p ∧ v = .Tuple vs k2 p2 ∧ ssB sc ts vs = some (some ns) := by
  unfold parSt at h
  split at h
  · split at h
    · rename_i e
      cases h
      exact ⟨_, _, _, _, _, rfl, rfl, e⟩
    · cases h
  · cases h
theorem par_imp2 {Ex : XK} {X : Cx} {L La : List Nat} {lr i j : Nat} {es : List E} (E : Ends) (σ : List (Option V)) (H : Hp) (h : tSt lr XP Ex (evS cf (.par [i, j] es)) L (nxO (zeros La [i, j])) E σ H) : tPar i j (tEvF cf XP Ex es L La) E σ H := by
  obtain ⟨Z, ta, As, ρ, τ, S, T, q⟩ := h
  rw [show evS cf (.par [i, j] es) ρ τ = (evL cf es ρ τ).bind fun ds τ => (R.of (puts ρ [i, j] ds) τ).bind fun ρ τ => .ok (.nx ρ) τ by rw [evS]] at q
  refine ⟨Z, ta, As, ρ, τ, S, T, q.bind.mono (fun ds τ1 q vs H1 Z1 t1 As1 g1 S1 T1 r1 => ?_) fun _ _ _ h => h.o .refl S.tk⟩
  obtain ⟨ρ', e, q⟩ := q.bind.of
  have q : SPo (some (zeros La [i, j])) E.nx H Z ta As ρ' τ1 := q
  obtain ⟨Z2, As2, S2, g2⟩ := S1.weaks (zeros La [i, j]) fun k => (lev_zeros _ _ k).1
  have gm := (g1.m S.tk).trans (g2.m S1.tk)
  have w := gs_run [i, j] (Q := E.nx) (fun k hk => (lev_zeros _ _ k).2.1 hk) e (g2.rps S1.tk S1.zt r1) S2 fun σ' As3 S3 hs3 _ => q _ rfl _ H1 Z2 t1 As3 (gm.drop fun a ha => .inl (hs3 a ha)) S3 T1
  obtain ⟨v, r, rfl, w⟩ := w
  obtain ⟨v2, r2, rfl, w⟩ := w
  obtain ⟨rfl, w⟩ := w
  exact ⟨v, v2, rfl, w⟩
theorem par_imp3 {Ex : XK} {X : Cx} {L La : List Nat} {lr i j l : Nat} {es : List E} (E : Ends) (σ : List (Option V)) (H : Hp) (h : tSt lr XP Ex (evS cf (.par [i, j, l] es)) L (nxO (zeros La [i, j, l])) E σ H) : tPar3 i j l (tEvF cf XP Ex es L La) E σ H := by
  obtain ⟨Z, ta, As, ρ, τ, S, T, q⟩ := h
  rw [show evS cf (.par [i, j, l] es) ρ τ = (evL cf es ρ τ).bind fun ds τ => (R.of (puts ρ [i, j, l] ds) τ).bind fun ρ τ => .ok (.nx ρ) τ by rw [evS]] at q
  refine ⟨Z, ta, As, ρ, τ, S, T, q.bind.mono (fun ds τ1 q vs H1 Z1 t1 As1 g1 S1 T1 r1 => ?_) fun _ _ _ h => h.o .refl S.tk⟩
  obtain ⟨ρ', e, q⟩ := q.bind.of
  have q : SPo (some (zeros La [i, j, l])) E.nx H Z ta As ρ' τ1 := q
  obtain ⟨Z2, As2, S2, g2⟩ := S1.weaks (zeros La [i, j, l]) fun k => (lev_zeros _ _ k).1
  have gm := (g1.m S.tk).trans (g2.m S1.tk)
  have w := gs_run [i, j, l] (Q := E.nx) (fun k hk => (lev_zeros _ _ k).2.1 hk) e (g2.rps S1.tk S1.zt r1) S2 fun σ' As3 S3 hs3 _ => q _ rfl _ H1 Z2 t1 As3 (gm.drop fun a ha => .inl (hs3 a ha)) S3 T1
  obtain ⟨v, r, rfl, w⟩ := w
  obtain ⟨v2, r2, rfl, w⟩ := w
  obtain ⟨v3, r3, rfl, w⟩ := w
  obtain ⟨rfl, w⟩ := w
  exact ⟨v, v2, v3, rfl, w⟩
end Py

/-! EwAt: the tape written; the tape made. -/
namespace Py
open PySem (Str Addr Expr Stmt Scope NameKind Const Comprehension Operator CmpOp Value PyData Shared)
open L2
variable [kf : Kf]

theorem tape_put {t t' : Tape} {tc : Addr} {i : Int} {k : Nat} {s : Str} (h : tkey k = some s) (e : tset t i k = some t') : putK (tapeKv t tc) (.inr s) (.int i) = tapeKv t' tc ∧ t'.cells = t.cells := by
  match k, h, e with
  | 0, h, e => cases h; cases e; exact ⟨rfl, rfl⟩
  | 1, h, e => cases h; cases e; exact ⟨rfl, rfl⟩
  | 2, h, e => cases h; cases e; exact ⟨rfl, rfl⟩
  | 3, h, e => cases h; cases e; exact ⟨rfl, rfl⟩
section
variable {C : Cst} {cf : CF} {XP : XPr} {Ex : XK} {sc : Scope} {X : Cx} {L La Lb Lc : List Nat} {ty ty1 ty2 ty3 : Ty} {a b c i e : E} {x y z : Expr} {pos : PySem.Pos} {lr : Nat} {K : PySem.W.Frag}
theorem tse_imp {j k : Nat} {s : Str} (hk : tkey k = some s) (E : Ends) (σ : List (Option V)) (H : Hp) (h : tSt lr XP Ex (evS cf (.tse j k e)) L (nxO La) E σ H) : sDPut (tVar j) (tC (.str s)) (tEv cf XP Ex e L La ty) E σ H := by
  obtain ⟨Z, ta, As, ρ, τ, S, T, q⟩ := h
  rw [show evS cf (.tse j k e) ρ τ = (evE cf e ρ τ).bind fun d τ => (R.of (tapeAt ρ j τ) τ).bind fun t τ => (R.of ((isInt d).bind fun i => tset t i k) τ).bind fun t' _ => .ok (.nx ρ) (some t') by rw [evS]] at q
  refine tEv.goM S T .refl q fun d τ1 v H1 Z1 t1 As1 A1 gw g1 S1 T1 r1 f1 q => ?_
  obtain ⟨t, et, q⟩ := q.bind.of
  obtain ⟨t', e5, q8⟩ := q.bind.of
  obtain ⟨i, e6, e7⟩ := obind e5
  obtain ⟨p, tc, ob, ea, hv, h2, h3⟩ := tape_at S1 T1 et
  cases d with
  | int i' =>
    simp only [isInt, Option.some.injEq] at e6
    subst e6
    have hvv := (r1.rd S1).int'
    subst hvv
    obtain ⟨pk, pc⟩ := tape_put (tc := tc) hk e7
    have put := DPut.k (k := .inr s) (v := .int i') h2 (by show 5 < PySem.sizeLine; decide)
    rw [pk] at put
    have gk : Gw H1 Z1 t1 As1 (upd H1 p (.dK (tapeKv t' tc))) Z1 t1 As1 := ⟨fun b u eb n => by rw [upd_ne (fun e => n (by rw [ea, e]))]; exact eb, fun b eb => upd_ex eb, fun _ e => e, fun _ e => .inl e, fun _ z => z, fun _ z => .inl z, fun _ h => h⟩
    refine ⟨_, hv, p, _, rfl, put, ?_⟩
    have q9 : SPo (some La) E.nx H Z ta As ρ (some t') := q8
    refine q9 La rfl σ _ Z1 t1 As1 (g1.trans (gk.m S1.tk)) ⟨S1.len1, S1.len2, fun m d hm => ?_, S1.nod, fun b hb => ?_, fun b hb => ?_, fun b hb => ?_⟩ ⟨p, tc, ob, ea, upd_same, ?_⟩
    · obtain ⟨w, hw, o⟩ := S1.slot m d hm
      exact ⟨w, hw, gk.ow S1.tk S1.zt (fun b hb => (S1.sep b (mem_flat hb)).2.2) o⟩
    · obtain ⟨s1, s2, s3⟩ := S1.sep b hb
      exact ⟨s1, upd_ex s2, s3⟩
    · obtain ⟨s1, s2⟩ := S1.zin b hb
      exact ⟨upd_ex s1, s2⟩
    · rw [ea] at hb
      cases hb
      exact ⟨_, upd_same⟩
    · rw [pc]
      rw [upd_ne (fun e => by rw [e, h2] at h3; cases h3)]
      exact h3
  | _ => simp [isInt] at e6
theorem pe_freeze {ex : Expr} {t : TE} (h : PE X ex t) : PE X ex (fun σ H Q => t σ H fun x H1 => ∃ tc vs, H1 tc = some (.lst vs) ∧ ∀ ob, Q x (upd H1 tc (.frz ob (.lst vs)))) := by
  refine ⟨fun pins s σ H Q I q => ?_⟩
  refine thn (h.run pins s σ H _ I q) fun v s1 ⟨x, H1, I1, r1, tc, vs, hH, q1⟩ => ?_
  obtain ⟨z, its, n, r, eo⟩ := I1.hok tc _ hH
  have I2 := I1.write (x := tc) (e := tc) (o := .frz _ (.lst vs)) (h' := s1.heap) (t' := s1.toks) (by rw [hH]; trivial) (.inl rfl) (fun b u _ q => q) ⟨_, eo⟩ ⟨eo, z, its, n, r, eo⟩
  exact ⟨x, _, I2, r1, q1 _⟩
theorem tape_kvs {ns : List Int} {sd : Int} {tc : Addr} : mergeK [] [(.inr "cells", .ref tc), (.inr "at", .int 0), (.inr "left", .int 0), (.inr "seed", .int sd), (.inr "salt", .int 0)] = tapeKv ⟨ns, 0, 0, sd, 0⟩ tc := rfl
abbrev rtpP (j m : Nat) : List (TE × TE) := [(tC (.str "cells"), tVar j), (tC (.str "at"), tC (.int 0)), (tC (.str "left"), tC (.int 0)), (tC (.str "seed"), tVar m), (tC (.str "salt"), tC (.int 0))]
theorem rtp_imp {j m : Nat} (h1 : 1 ≤ lev L j) {o : Out} (E : Ends) (σ : List (Option V)) (H : Hp) (h : tSt lr XP Ex (evS cf (.rtp j m)) L o E σ H) : tRet (fun σ H Q => tDisp (rtpP j m) σ H fun x H1 => ∃ tc vs, H1 tc = some (.lst vs) ∧ ∀ ob, Q x (upd H1 tc (.frz ob (.lst vs)))) E σ H := by
  obtain ⟨Z, ta, As, ρ, τ, S, T, q⟩ := h
  rw [show evS cf (.rtp j m) ρ τ = (R.of ((look ρ j).bind isLst) τ).bind fun ds τ => (R.of ((look ρ m).bind isInt) τ).bind fun s τ => (R.of (intsD ds) τ).bind fun ns τ => if τ.isNone then .ok (.rt .tape) (some ⟨ns, 0, 0, s, 0⟩) else .bad by rw [evS]] at q
  obtain ⟨ds, e1, q⟩ := q.bind.of
  obtain ⟨sd, e2, q⟩ := q.bind.of
  obtain ⟨ns, e3, q8⟩ := q.bind.of
  obtain ⟨l1, hj, e1⟩ := obind e1
  obtain ⟨l2, hm, e2⟩ := obind e2
  cases l1 with
  | lst ds' =>
    simp only [isLst, Option.some.injEq] at e1
    subst e1
    cases l2 with
    | int sd' =>
      simp only [isInt, Option.some.injEq] at e2
      subst e2
      cases τ with
      | some t => exact q8.elim
      | none =>
        have q9 : RPo lr E.rt H Z ta As .tape (some ⟨ns, 0, 0, sd', 0⟩) := q8
        have hta : ta = none := T
        subst hta
        obtain ⟨v, hv, ow⟩ := S.slot j _ hj
        obtain ⟨v2, hv2, ow2⟩ := S.slot m _ hm
        have hv2' := ow2.int
        subst hv2'
        cases hlv : lev L j with
        | zero => omega
        | succ k =>
          rw [hlv] at ow
          have rd := ow.rd
          unfold Ow at ow
          obtain ⟨tc, vs, A', rfl, hfp, htc, _⟩ := ow
          unfold Rp at rd
          obtain ⟨b, ws, eb, _, hb, rps⟩ := rd
          cases eb
          rw [htc] at hb
          cases hb
          have hvs := ints_rps e3 rps
          have inA : tc ∈ As.flatten := mem_flat (i := j) (by rw [hfp]; exact List.mem_cons_self)
          intro p hp
          have hpt : p ≠ tc := fun e => by rw [e, htc] at hp; cases hp
          refine ⟨_, hv, _, hv2, upd_same, [(.inr "cells", .ref tc), (.inr "at", .int 0), (.inr "left", .int 0), (.inr "seed", .int sd'), (.inr "salt", .int 0)], rfl, (by show 5 ≤ 15; decide), tc, vs, ?_, fun ob => ?_⟩
          · rw [upd_ne (Ne.symm hpt), upd_ne (Ne.symm hpt)]; exact htc
          · rw [tape_kvs (ns := ns)]
            have at_ : ∀ a, a ≠ p → a ≠ tc → upd (upd (upd H p (.dK [])) p (.dK (tapeKv ⟨ns, 0, 0, sd', 0⟩ tc))) tc (.frz ob (.lst vs)) a = H a := fun a h1 h2 => by rw [upd_ne h2, upd_ne h1, upd_ne h1]
            have exs : ∀ a, H a ≠ none → upd (upd (upd H p (.dK [])) p (.dK (tapeKv ⟨ns, 0, 0, sd', 0⟩ tc))) tc (.frz ob (.lst vs)) a ≠ none := fun a h => upd_ex (upd_ex (upd_ex h))
            have atp : upd (upd (upd H p (.dK [])) p (.dK (tapeKv ⟨ns, 0, 0, sd', 0⟩ tc))) tc (.frz ob (.lst vs)) p = some (.dK (tapeKv ⟨ns, 0, 0, sd', 0⟩ tc)) := by rw [upd_ne hpt, upd_same]
            refine q9 (.ref p) _ Z (some p) [] ⟨fun a u e _ na => ?_, fun a xs e => ?_, fun a ob' u e => ?_, exs, (fun a e => by cases e), (fun a e => by cases e; exact .inr hp), fun _ z => z, fun _ z => .inl z, fun _ h => by cases h⟩ (fun a z => ⟨exs a (S.zin a z).1, (fun e => by cases e; exact (S.zin p z).1 hp)⟩) (fun a e => by cases e; exact ⟨_, atp⟩) ⟨p, tc, ob, rfl, atp, by rw [upd_same, hvs]⟩ ⟨by unfold Ow; exact ⟨rfl, p, rfl, rfl⟩, .nil, fun _ h => by cases h⟩ fun _ h => by cases h
            · rw [at_ a (fun h => by rw [h, hp] at e; cases e) (fun h => na (by rw [h]; exact inA))]; exact e
            · rw [at_ a (fun h => by rw [h, hp] at e; cases e) (fun h => by rw [h, htc] at e; cases e)]; exact e
            · rw [at_ a (fun h => by rw [h, hp] at e; cases e) (fun h => by rw [h, htc] at e; cases e)]; exact e
    | _ => simp [isInt] at e2
  | _ => simp [isLst] at e1
end
end Py

/-! EwB: every statement that the static looks let pass. -/
namespace Py
open PySem (Str Addr Expr Stmt Scope NameKind Const Comprehension Operator CmpOp Value PyData Shared)
open L2
variable [kf : Kf]

variable {C : Cst} {cf : CF} {XP : XPr}
theorem slot_of {sc : Scope} {fb : Option Scope} {i : Nat} {x : Str} (h : tgtB C sc fb i x = true) : C.N[i]? = some x := by
  simp only [tgtB, slotB, Bool.and_eq_true, decide_eq_true_eq] at h
  exact h.1.1
theorem yRtp_some {st : Stmt} {x y : Str} (h : yRtp st = some (x, y)) : ∃ p k1 q1 k2 q2 k3 q3 k4 q4 k5 q5 r1 k6 r2 k7 r3 r4 k8 r5 r6, st = .Return (some (.Dict [some (.Constant (.str "cells") k1 q1), some (.Constant (.str "at") k2 q2), some (.Constant (.str "left") k3 q3), some (.Constant (.str "seed") k4 q4), some (.Constant (.str "salt") k5 q5)]
      [.Name x r1, .Constant (.int 0) k6 r2, .Constant (.int 0) k7 r3, .Name y r4, .Constant (.int 0) k8 r5] r6)) p := by
  unfold yRtp at h
  split at h
  · split at h
    · rename_i c
      simp only [Bool.and_eq_true, decide_eq_true_eq] at c
      obtain ⟨⟨⟨⟨⟨⟨⟨rfl, rfl⟩, rfl⟩, rfl⟩, rfl⟩, rfl⟩, rfl⟩, rfl⟩ := c
      cases h
      exact ⟨_, _, _, _, _, _, _, _, _, _, _, _, _, _, _, _, _, _, _, _, rfl⟩
    · cases h
  · cases h
theorem len2 {α : Type} : ∀ {l : List α}, l.length = 2 → ∃ a b, l = [a, b]
  | [a, b], _ => ⟨a, b, rfl⟩
  | [], h => by cases h
  | [_], h => by cases h
  | _ :: _ :: _ :: _, h => by simp at h
theorem len3 {α : Type} : ∀ {l : List α}, l.length = 3 → ∃ a b c, l = [a, b, c]
  | [a, b, c], _ => ⟨a, b, c, rfl⟩
  | [], h => by cases h
  | [_], h => by cases h
  | [_, _], h => by cases h
  | _ :: _ :: _ :: _ :: _, h => by simp at h
theorem ty_ret {lv : Nat → Nat} {lr : Nat} {e : E} {L : List Nat} (h : ∀ x, e ≠ .var x) : tyS lv lr (.ret e) L = (tyE lv e L).bind fun p => if decide (lr ≤ (taken p).1) then some ⟨none, none, none⟩ else none := by
  cases e <;> first | rfl | exact absurd rfl (h _) | (rw [tyS]; intro x hx; cases hx)
mutual
theorem good_S : ∀ (s : S) {Ex : XK} {sc : Scope} {X : Cx} (M : CmpS C cf XP Ex sc X) (lr : Nat) {st : Stmt} {L : List Nat} {o : Out}, chkS C sc s st = true → tyS C.lv lr s L = some o → PS X st (tSt lr XP Ex (evS cf s) L o)
  | .asg (.nm i) e, Ex, sc, X, M, lr, st, L, o, h, t => by
    simp only [chkS] at h
    split at h
    · rename_i tg v q
      obtain ⟨p, rfl⟩ := yAsg_some q
      simp only [Bool.and_eq_true] at h
      obtain ⟨⟨h1, h2⟩, h3⟩ := h
      simp only [tyS] at t
      obtain ⟨⟨ty, La⟩, t1, t2⟩ := obind t
      split at t2
      · rename_i hi
        simp only [decide_eq_true_eq] at hi
        cases t2
        simp only [chkT] at h2
        split at h2
        · rename_i n qn
          obtain ⟨pn, rfl⟩ := xName_some qn
          have g := good_E e M.m h3 t1
          obtain ⟨b, hb, hb2⟩ := sw_name (env := X.env) (chk_plain h3) n pn p.line
          cases b with
          | true =>
            obtain ⟨hc, hl⟩ := hb2 rfl
            exact (g.st hc i n pn p (by rw [M.m.hN]; exact slot_of h2) hl hb).imp (asg_nm hi)
          | false => exact (ps_asg g.pe (g_name M.m h2) hb ss_name (ae_one rfl)).imp (asg_nm hi)
        · cases h2
      · cases t2
    · cases h
  | .asg (.tp is) e, Ex, sc, X, M, lr, st, L, o, h, t => by
    simp only [chkS] at h
    split at h
    · rename_i tg v q
      obtain ⟨p, rfl⟩ := yAsg_some q
      simp only [Bool.and_eq_true] at h
      obtain ⟨⟨h1, h2⟩, h3⟩ := h
      simp only [tyS] at t
      obtain ⟨⟨ty, La⟩, t1, t2⟩ := omap t
      cases t2
      obtain ⟨es, k, pt, rfl⟩ := tg_tup h2 is rfl
      have g := good_E e M.m h3 t1
      exact (ps_asg g.pe (g_ok M.m h2) (show PySem.swapsWithSole [.Tuple es k pt] v p.line X.env = pure false from sw_tup (v := v) (env := X.env) (es := es) (k := k) (p := pt) (chk_plain h3) p.line) (ss_tup M.m.hsc M.kind h1) (ae_one rfl)).imp asg_tp
    · cases h
  | .par is es, Ex, sc, X, M, lr, st, L, o, h, t => by
    simp only [chkS] at h
    split at h
    · rename_i tg v q
      obtain ⟨p, rfl⟩ := yAsg_some q
      split at h
      · rename_i ns vs q2
        obtain ⟨ts, k, p1, k2, p2, rfl, rfl, hss⟩ := parSt_some q2
        simp only [Bool.and_eq_true] at h
        obtain ⟨⟨h1, h2⟩, h3⟩ := h
        simp only [tyS] at t
        obtain ⟨La, t1, t2⟩ := omap t
        cases t2
        have g := (good_L es M.m true h3 t1).f rfl
        have hw := ss_ok (k := k) (k' := k2) (p := p1) (p' := p2) M.m.hsc M.kind hss
        obtain ⟨⟨l, hm⟩, hlen⟩ := ssB_names hss
        have sw : PySem.swapsWithSole [.Tuple ts k p1] (.Tuple vs k2 p2) p.line X.env = pure false := sw_tup (v := .Tuple vs k2 p2) (env := X.env) (es := ts) (k := k) (p := p1) rfl p.line
        have loc : ∀ {i : Nat} {x : Str}, decide (sc.names.lookup x = some .local) = true → X.env.scope.names.lookup x = some .local := fun {i x} hd => by rw [M.m.hsc]; simpa using hd
        match is, ns, h1, h2, hm with
        | [i, j], [x, y], h1, h2, hm =>
          obtain ⟨ta, tb, rfl⟩ := len2 (show ts.length = 2 by simpa using congrArg List.length hm)
          simp only [List.map_cons, List.map_nil, List.cons.injEq, and_true] at hm
          obtain ⟨pa, rfl⟩ := nameAt_some hm.1
          obtain ⟨pb, rfl⟩ := nameAt_some hm.2
          simp only [slotsB, Bool.and_eq_true, and_true] at h1
          simp only [apartN, decide_eq_true_eq] at h2
          obtain ⟨va, vb, rfl⟩ := len2 (show vs.length = 2 from hlen)
          exact (ps_par (i := i) (j := j) M.m.calm M.m.nd (by rw [M.m.hN]; exact slot_of h1.1.1) (by rw [M.m.hN]; exact slot_of h1.2.1) h2 (loc (i := i) h1.1.2) (loc (i := i) h1.2.2) g hw sw).imp (par_imp2 (X := X))
        | [i, j, m], [x, y, z], h1, h2, hm =>
          obtain ⟨ta, tb, tc, rfl⟩ := len3 (show ts.length = 3 by simpa using congrArg List.length hm)
          simp only [List.map_cons, List.map_nil, List.cons.injEq, and_true] at hm
          obtain ⟨pa, rfl⟩ := nameAt_some hm.1
          obtain ⟨pb, rfl⟩ := nameAt_some hm.2.1
          obtain ⟨pc, rfl⟩ := nameAt_some hm.2.2
          simp only [slotsB, Bool.and_eq_true, and_true] at h1
          simp only [apartN, Bool.and_eq_true, decide_eq_true_eq] at h2
          obtain ⟨va, vb, vc, rfl⟩ := len3 (show vs.length = 3 from hlen)
          exact (ps_par3 (i := i) (j := j) (l := m) M.m.calm M.m.nd (by rw [M.m.hN]; exact slot_of h1.1.1) (by rw [M.m.hN]; exact slot_of h1.2.1.1) (by rw [M.m.hN]; exact slot_of h1.2.2.1) h2.1.1 h2.1.2 h2.2 (loc (i := i) h1.1.2) (loc (i := i) h1.2.1.2) (loc (i := i) h1.2.2.2) g hw sw).imp (par_imp3 (X := X))
        | [], _, _, h2, _ => simp [apartN] at h2
        | [_], _, _, h2, _ => simp [apartN] at h2
        | _ :: _ :: _ :: _ :: _, _, _, h2, _ => simp [apartN] at h2
        | [_, _], [], h1, _, _ => simp [slotsB] at h1
        | [_, _], [_], h1, _, _ => simp [slotsB] at h1
        | [_, _], _ :: _ :: _ :: _, h1, _, _ => simp [slotsB] at h1
        | [_, _, _], [], h1, _, _ => simp [slotsB] at h1
        | [_, _, _], [_], h1, _, _ => simp [slotsB] at h1
        | [_, _, _], [_, _], h1, _, _ => simp [slotsB] at h1
        | [_, _, _], _ :: _ :: _ :: _ :: _, h1, _, _ => simp [slotsB] at h1
      · cases h
    · cases h
  | .six x i e, Ex, sc, X, M, lr, st, L, o, h, t => by
    simp only [chkS] at h
    split at h
    · rename_i tg v q
      obtain ⟨p, rfl⟩ := yAsg_some q
      split at h
      · rename_i n ix q2
        obtain ⟨p1, p2, rfl⟩ := xSub1_some q2
        simp only [Bool.and_eq_true] at h
        obtain ⟨⟨h1, h2⟩, h3⟩ := h
        simp only [tyS] at t
        obtain ⟨⟨ty, La⟩, t1, t2⟩ := obind t
        obtain ⟨⟨ty2, Lb⟩, t3, t4⟩ := obind t2
        obtain ⟨s1, s2, rfl⟩ := stTy_ok t4
        have ge := good_E e M.m h3 t1
        have gi := good_E i M.m h2 t3
        exact (ps_asg ge.pe (pg_sub (pv M.m h1) gi.pe set_list (sub_assign (chk_plain h2))) (show PySem.swapsWithSole [.Subscript (.Name n p1) ix p2] v p.line X.env = pure false from sw_sub (v := v) (env := X.env) (o := .Name n p1) (i := ix) (p := p2) (chk_plain h3) p.line) ss_sub (ae_one rfl)).imp (six_imp s1 s2)
      · cases h
    · cases h
  | .six2 x i j e, Ex, sc, X, M, lr, st, L, o, h, t => by simp [chkS] at h
  | .swp x i j e, Ex, sc, X, M, lr, st, L, o, h, t => by
    simp only [chkS] at h
    split at h
    · rename_i tg v q
      obtain ⟨p, rfl⟩ := yAsg_some q
      split at h
      · rename_i ta tb q2
        obtain ⟨k, pt, rfl⟩ := xTup_some q2
        split at h
        · rename_i n ix m jx q3 q4
          obtain ⟨p1, p2, rfl⟩ := xSub1_some q3
          obtain ⟨p3, p4, rfl⟩ := xSub1_some q4
          simp only [Bool.and_eq_true] at h
          obtain ⟨⟨⟨⟨⟨h0, h1⟩, h1'⟩, h2⟩, h3⟩, h4⟩ := h
          simp only [tyS] at t
          obtain ⟨⟨ty, La⟩, t1, t2⟩ := obind t
          obtain ⟨⟨ty2, Lb⟩, t3, t4⟩ := obind t2
          obtain ⟨o1, t5, t6⟩ := obind t4
          obtain ⟨s1, s2, rfl⟩ := stTy_ok t5
          obtain ⟨L5, t7, t8⟩ := obind t6
          cases t7
          obtain ⟨⟨ty3, Lc⟩, t9, t10⟩ := obind t8
          obtain ⟨s3, s4, rfl⟩ := stTy_ok t10
          have ge := good_E e M.m h4 t1
          have gi := good_E i M.m h2 t3
          have gj := good_E j M.m h3 t9
          have pg := pg_tup (pos := pt) (k := k) M.m.calm (pgs_cons (pg_sub (pos := p2) (pv (p := p1) M.m h1) gi.pe set_list (sub_assign (chk_plain h2))) (pgs_cons (pg_sub (pos := p4) (pv (p := p3) M.m h1') gj.pe set_list (sub_assign (chk_plain h3))) pgs_nil))
          exact (ps_asg ge.pe pg (show PySem.swapsWithSole [.Tuple [.Subscript (.Name n p1) ix p2, .Subscript (.Name m p3) jx p4] k pt] v p.line X.env = pure false from sw_tup (v := v) (env := X.env) (es := [.Subscript (.Name n p1) ix p2, .Subscript (.Name m p3) jx p4]) (k := k) (p := pt) (chk_plain h4) p.line) (ss_tup M.m.hsc M.kind h0) (ae_one rfl)).imp (swp_imp s1 s2 s3 s4)
        · cases h
      · cases h
    · cases h
  | .aug x op e, Ex, sc, X, M, lr, st, L, o, h, t => by
    simp only [chkS] at h
    split at h
    · rename_i tg p' v q
      obtain ⟨p, rfl⟩ := yAug_some q
      split at h
      · rename_i n q2
        obtain ⟨pn, rfl⟩ := xName_some q2
        simp only [Bool.and_eq_true, decide_eq_true_eq] at h
        obtain ⟨⟨⟨ha, rfl⟩, h1⟩, h2⟩ := h
        simp only [tyS] at t
        obtain ⟨⟨ty, La⟩, t1, t2⟩ := omap t
        cases t2
        obtain ⟨f, hp, hf⟩ := aug_op (X := X) ha
        have h1' := h1
        simp only [tgtB, slotB, Bool.and_eq_true, decide_eq_true_eq] at h1'
        obtain ⟨⟨q1, q2⟩, q3⟩ := h1'
        obtain ⟨l1, l2⟩ := M.m.loc q3
        exact (ps_aug M.m.nd (by rw [M.m.hN]; exact q1) l1 (good_E e M.m h2 t1).pe hp l2).imp (aug_imp ha hf)
      · cases h
    · cases h
  | .aix x i op e, Ex, sc, X, M, lr, st, L, o, h, t => by
    simp only [chkS] at h
    split at h
    · rename_i tg p' v q
      obtain ⟨p, rfl⟩ := yAug_some q
      split at h
      · rename_i n ix q2
        obtain ⟨p1, p2, rfl⟩ := xSub1_some q2
        simp only [Bool.and_eq_true, decide_eq_true_eq] at h
        obtain ⟨⟨⟨⟨ha, rfl⟩, h1⟩, h2⟩, h3⟩ := h
        simp only [tyS] at t
        obtain ⟨⟨ty, La⟩, t1, t2⟩ := obind t
        obtain ⟨⟨ty2, Lb⟩, t3, t4⟩ := obind t2
        obtain ⟨s1, s2, rfl⟩ := stTy_ok t4
        obtain ⟨f, hp, hf⟩ := aug_op (X := X) ha
        exact (ps_augS (pv M.m h1) (good_E i M.m h2 t1).pe get_list (good_E e M.m h3 t3).pe hp set_list (sub_aug (chk_plain h2))).imp (aix_imp ha hf s1 s2)
      · cases h
    · cases h
  | .app x e, Ex, sc, X, M, lr, st, L, o, h, t => by
    simp only [chkS] at h
    split at h
    · rename_i n v q
      obtain ⟨p, ap, cp, p2, rfl, hl⟩ := yApp_some q
      simp only [Bool.and_eq_true] at h
      obtain ⟨h1, h2⟩ := h
      simp only [tyS] at t
      obtain ⟨⟨ty, La⟩, t1, t2⟩ := obind t
      obtain ⟨s1, s2, rfl⟩ := stTy_ok t2
      have st1 := plain_star1 (env := X.env) (chk_plain h2)
      exact (ps_expr (pe_bm PySem.F.plainAttrs_list PySem.F.slot_list_append PySem.F.type_list_append mt_append (pv M.m h1) (pa_cons (good_E e M.m h2 t1).pe pa_nil (by rw [st1, star_nil])) rfl (by rw [st1]; rfl) hl (by rw [st1, star_nil]) (by rw [star_nil]; rfl)) rfl).imp (app_imp s1 s2)
    · cases h
  | .ex e, Ex, sc, X, M, lr, st, L, o, h, t => by
    simp only [chkS] at h
    split at h
    · rename_i v q
      obtain ⟨p, rfl⟩ := yEx_some q
      simp only [Bool.and_eq_true, Bool.not_eq_true'] at h
      simp only [tyS] at t
      obtain ⟨⟨ty, La⟩, t1, t2⟩ := omap t
      cases t2
      exact (ps_expr (good_E e M.m h.1 t1).pe (sw_none h.2 _)).imp ex_imp
    · cases h
  | .iff c a b, Ex, sc, X, M, lr, st, L, o, h, t => by
    simp only [chkS] at h
    split at h
    · rename_i cx as bs q
      obtain ⟨p, rfl⟩ := yIf_some q
      simp only [Bool.and_eq_true] at h
      obtain ⟨⟨h1, h2⟩, h3⟩ := h
      simp only [tyS] at t
      obtain ⟨⟨ty, La⟩, t1, t2⟩ := obind t
      obtain ⟨o1, t3, t4⟩ := obind t2
      obtain ⟨o2, t5, t6⟩ := omap t4
      cases t6
      exact (ps_if (good_E c M.m h1 t1).pt (good_Ss a M lr h2 t3) (good_Ss b M lr h3 t5)).imp iff_imp
    · cases h
  | .frr t it b, Ex, sc, X, M, lr, st, L, o, h, ht => by
    simp only [chkS] at h
    split at h
    · rename_i tg ix bs q
      obtain ⟨p, rfl⟩ := yFor_some q
      simp only [Bool.and_eq_true] at h
      obtain ⟨⟨h1, h2⟩, h3⟩ := h
      simp only [tyS] at ht
      obtain ⟨La, t1, t2⟩ := obind ht
      obtain ⟨⟨Ls, Le, ob⟩, t3, t4⟩ := omap t2
      cases t4
      obtain ⟨t5, l0, ln, lc⟩ := tyLoop_ok 12 t3
      obtain ⟨ob', t6, t7⟩ := omap t5
      cases t7
      exact (ps_for M.po M.m.calm (good_I it M.m true (tg_tup h1) t1 h2) (g_ok M.m h1) (good_Ss b M lr h3 t6) (plain_fold (chkI_plain h2))).imp (frr_imp l0 ln lc)
    · cases h
  | .whl c b, Ex, sc, X, M, lr, st, L, o, h, t => by
    simp only [chkS] at h
    split at h
    · rename_i cx bs q
      obtain ⟨p, rfl⟩ := yWhl_some q
      simp only [Bool.and_eq_true] at h
      obtain ⟨h1, h2⟩ := h
      simp only [tyS] at t
      obtain ⟨⟨Ls, Le, ob⟩, t3, t4⟩ := omap t
      cases t4
      obtain ⟨t5, l0, ln, lc⟩ := tyLoop_ok 12 t3
      obtain ⟨⟨ty, Lc⟩, t6, t7⟩ := obind t5
      obtain ⟨ob', t8, t9⟩ := omap t7
      cases t9
      exact (ps_while M.po (good_E c M.m h1 t6).pt (good_Ss b M lr h2 t8)).imp (whl_imp l0 ln lc)
    · cases h
  | .ret e, Ex, sc, X, M, lr, st, L, o, h, t => by
    simp only [chkS] at h
    split at h
    · rename_i v q
      obtain ⟨p, rfl⟩ := yRet_some q
      by_cases hv : ∃ x, e = .var x
      · obtain ⟨x, rfl⟩ := hv
        simp only [tyS] at t
        split at t
        · rename_i c
          simp only [decide_eq_true_eq] at c
          simp only [chk] at h
          split at h
          · rename_i n qn
            obtain ⟨pn, rfl⟩ := xName_some qn
            exact (ps_ret (pv M.m h)).imp (retv_imp c)
          · cases h
        · cases t
      · rw [ty_ret fun x hx => hv ⟨x, hx⟩] at t
        obtain ⟨⟨ty, La⟩, t1, t2⟩ := obind t
        split at t2
        · rename_i c
          simp only [decide_eq_true_eq] at c
          exact (ps_ret (good_E e M.m h t1).pe).imp (ret_imp c)
        · cases t2
    · cases h
  | .rtn, Ex, sc, X, M, lr, st, L, o, h, t => by
    simp only [chkS] at h
    split at h
    · rename_i q
      obtain ⟨p, rfl⟩ := yRet_some q
      exact ps_retN.imp rtn_imp
    · cases h
  | .brk, Ex, sc, X, M, lr, st, L, o, h, t => by
    simp only [chkS] at h
    obtain ⟨p, rfl⟩ := yBrk_some h
    simp only [tyS, Option.some.injEq] at t
    subst t
    exact ps_break.imp brk_imp
  | .cnt, Ex, sc, X, M, lr, st, L, o, h, t => by
    simp only [chkS] at h
    obtain ⟨p, rfl⟩ := yCnt_some h
    simp only [tyS, Option.some.injEq] at t
    subst t
    exact ps_continue.imp cnt_imp
  | .pas, Ex, sc, X, M, lr, st, L, o, h, t => by
    simp only [chkS] at h
    obtain ⟨p, rfl⟩ := yPas_some h
    simp only [tyS, Option.some.injEq] at t
    subst t
    exact ps_pass.imp pas_imp
  | .tse j k e, Ex, sc, X, M, lr, st, L, o, h, t => by
    simp only [chkS] at h
    split at h
    · rename_i tg v q
      obtain ⟨p, rfl⟩ := yAsg_some q
      simp only [Bool.and_eq_true, Bool.not_eq_true'] at h
      obtain ⟨⟨h1, h2⟩, h3⟩ := h
      obtain ⟨n, s, p1, kk, p2, p3, rfl, h4, h5⟩ := fld_some h1
      simp only [tyS] at t
      obtain ⟨⟨ty, La⟩, t1, t2⟩ := omap t
      cases t2
      exact (ps_dput (by have := M.m.hu; omega) (pvar M.m h4) pe_str (good_E e M.m h2 t1).pe (sw_sub (v := v) (env := X.env) (chk_plain h2) p.line)).imp (tse_imp h5)
    · cases h
  | .rtp x y, Ex, sc, X, M, lr, st, L, o, h, t => by
    simp only [chkS] at h
    split at h
    · rename_i n m q
      simp only [Bool.and_eq_true] at h
      simp only [tyS] at t
      split at t
      · rename_i c
        simp only [decide_eq_true_eq] at c
        obtain ⟨p, k1, q1, k2, q2, k3, q3, k4, q4, k5, q5, r1, k6, r2, k7, r3, r4, k8, r5, r6, rfl⟩ := yRtp_some q
        exact (ps_ret (pe_freeze (pe_disp (pps_cons pe_str (pvar M.m h.1) (pps_cons pe_str pe_int (pps_cons pe_str pe_int (pps_cons pe_str (pvar M.m h.2) (pps_cons pe_str pe_int pps_nil))))) rfl rfl (fun z => by cases z) (by show 5 ≤ 15; decide)))).imp (rtp_imp c)
      · cases t
    · cases h
  | .fra t it i e, Ex, sc, X, M, lr, st, L, o, h, ht => by
    simp only [chkS] at h
    split at h
    · rename_i tg ix b q
      obtain ⟨p, rfl⟩ := yFor_some q
      split at h
      · rename_i tg2 v q2
        obtain ⟨p2, rfl⟩ := yAsg_some q2
        simp only [Bool.and_eq_true, Bool.not_eq_true'] at h
        obtain ⟨⟨⟨⟨h1, h2⟩, h3⟩, h4⟩, h5⟩ := h
        simp only [tyS] at ht
        obtain ⟨La, t1, t2⟩ := obind ht
        obtain ⟨⟨Ls, Le, ob⟩, t3, t4⟩ := omap t2
        cases t4
        obtain ⟨t5, l0, ln, lc⟩ := tyLoop_ok 12 t3
        obtain ⟨⟨ty, Lc⟩, t6, t7⟩ := obind t5
        split at t7
        · rename_i hi
          simp only [decide_eq_true_eq] at hi
          cases t7
          simp only [chkT] at h3
          split at h3
          · rename_i n qn
            obtain ⟨pn, rfl⟩ := xName_some qn
            have g := good_E e M.m h4 t6
            obtain ⟨b, hb, hb2⟩ := sw_name (env := X.env) (chk_plain h4) n pn p2.line
            cases b with
            | true => have := (hb2 rfl).1; rw [h5] at this; cases this
            | false => exact (ps_for M.po M.m.calm (good_I it M.m false (tg_tup h1) t1 h2) (g_ok M.m h1) (pss_one (ps_asg g.pe (g_name M.m h3) hb ss_name (ae_one rfl))) (plain_fold (chkI_plain h2))).imp (fra_imp hi l0 (ln _ rfl))
          · cases h3
        · cases t7
      · cases h
    · cases h
theorem good_Ss : ∀ (ss : List S) {Ex : XK} {sc : Scope} {X : Cx} (M : CmpS C cf XP Ex sc X) (lr : Nat) {sts : List Stmt} {L : List Nat} {o : Out}, chkSs C sc ss sts = true → tySs C.lv lr ss L = some o → PSs X sts (tSt lr XP Ex (evSs cf ss) L o)
  | [], Ex, sc, X, M, lr, [], L, o, h, t => by
    simp only [tySs, Option.some.injEq] at t
    subst t
    exact pss_nil.imp nil_imp
  | [], Ex, sc, X, M, lr, st :: sts, L, o, h, t => by simp [chkSs] at h
  | s :: ss, Ex, sc, X, M, lr, [], L, o, h, t => by simp [chkSs] at h
  | s :: ss, Ex, sc, X, M, lr, st :: sts, L, o, h, t => by
    simp only [chkSs, Bool.and_eq_true] at h
    simp only [tySs] at t
    obtain ⟨o1, t1, t2⟩ := obind t
    have g1 := good_S s M lr h.1 t1
    cases hn : o1.nx with
    | none =>
      rw [hn] at t2
      simp only [Option.some.injEq] at t2
      subst t2
      exact (pss_cons g1 pss_never).imp (cut_imp hn)
    | some L1 =>
      rw [hn] at t2
      simp only at t2
      obtain ⟨o2, t3, t4⟩ := omap t2
      cases t4
      exact (pss_cons g1 (good_Ss ss M lr h.2 t3)).imp (seq_imp hn)
end
end Py

/-! EwC: functions: each keeps what its small text says, by the depth of calls. -/
namespace Py
open PySem (Str Addr Expr Stmt Scope NameKind Const Comprehension Operator CmpOp Value PyData Shared Program World Heap)
open L2
variable [kf : Kf]

abbrev XP0 : XPr := fun _ _ _ _ _ => False
/-- a function of the law: the name it is called by, its own name, parameters, slots, text, small text -/
structure FnE where
  gl : Str
  nm : Str
  ps : List Str
  N : List Str
  st : Stmt
  fn : Fn
def lvOf (P : List FnE) (f : Nat) : Nat := match P[f]? with
  | some e => e.fn.lv
  | none => 9
def cstOf (P : List FnE) (N : List Str) : Cst := ⟨N, P.map (·.gl), lvOf P⟩
def scB (N ps : List Str) (sc : Scope) : Bool :=
  (match sc.kind with | .function => true | _ => false) && !sc.isCoroutine && !sc.isGenerator && decide N.Nodup && decide (N.take ps.length = ps) &&
    ps.all (fun x => sc.names.lookup x == some .local || sc.names.lookup x == some .cell) && sc.names.all fun y => !(y.2 == .free)
theorem scB_ok {N ps : List Str} {sc : Scope} (h : scB N ps sc = true) : FnScope N ps sc := by
  unfold scB at h
  simp only [Bool.and_eq_true, Bool.not_eq_true', decide_eq_true_eq, List.all_eq_true, Bool.or_eq_true, beq_iff_eq, beq_eq_false_iff_ne] at h
  obtain ⟨⟨⟨⟨⟨⟨h1, h2⟩, h3⟩, h4⟩, h5⟩, h6⟩, h7⟩ := h
  refine ⟨?_, h2, h3, h4, h5, h6, h7⟩
  split at h1
  · assumption
  · cases h1
def okE (P : List FnE) (e : FnE) : Bool :=
  decide (e.fn.np = e.ps.length) && decide (e.fn.ns = e.N.length) && scB e.N e.ps (defScope e.st) && chkSs (cstOf P e.N) (defScope e.st) e.fn.body (defBody e.st) && (tySs (lvOf P) e.fn.lv e.fn.body (List.replicate e.fn.ns 0)).isSome
structure FacE (K : PySem.W.Frag) (mg : Str → Option Value) (e : FnE) : Prop where
  ex : ∃ fa fd, FunD K e.nm e.nm (defArgs e.st) (defBody e.st) (defScope e.st) [] [] fa fd ∧ mg e.gl = some (.ref fa) ∧ Binds K fd e.ps []
abbrev cfOf (P : List FnE) (n : Nat) : CF := evF (P.map (·.fn)) n
theorem spF_bad {XP : XPr} {cf : CF} {f lv np : Nat} {vs : List V} {H : Hp} {Q : VK} {E : XK} (h : ∀ ds τ, cf f ds τ = .bad) : ¬ spF cf XP f lv np vs H Q E := by
  rintro ⟨Z, ta, ds, τ, _, _, _, _, _, q⟩
  rw [h] at q
  exact q
section
variable {prog : Program} {w : World} {K : PySem.W.Frag} {mg : Str → Option Value} {base : Heap} {P : List FnE}
theorem evF_len {P : List FnE} {n f : Nat} {e : FnE} (he : P[f]? = some e) (hok : okE P e = true) (ds : List D) (τ : Tp) (hl : ds.length ≠ e.ps.length) : cfOf P n f ds τ = .bad := by
  cases n with
  | zero => rfl
  | succ n =>
    have hf : (P.map (·.fn))[f]? = some e.fn := by rw [List.getElem?_map, he]; rfl
    show evF (P.map (·.fn)) (n + 1) f ds τ = .bad
    unfold evF
    rw [hf]
    unfold okE at hok
    simp only [Bool.and_eq_true, decide_eq_true_eq] at hok
    simp only
    rw [if_neg (by rw [hok.1.1.1.1]; exact hl)]
theorem start_look {ns : Nat} {ds : List D} {i : Nat} {d : D} (h : look (start ns ds) i = some d) : ds[i]? = some d := by
  unfold look start at h
  rw [List.getElem?_append] at h
  split at h
  · rename_i hi
    rw [List.getElem?_map] at h
    cases e : ds[i]? with
    | none => rw [e] at h; cases h
    | some x => rw [e] at h; simpa using h
  · rw [List.getElem?_replicate] at h
    split at h <;> cases h
theorem flat_reps (n : Nat) : (List.replicate n ([] : List Addr)).flatten = [] := by
  induction n with
  | zero => rfl
  | succ n ih => rw [List.replicate_succ, List.flatten_cons, ih]; rfl
theorem lev_reps (n i : Nat) : lev (List.replicate n 0) i = 0 := by
  unfold lev
  rw [List.getD_eq_getElem?_getD, List.getElem?_replicate]
  split <;> rfl
theorem fpa_reps (n i : Nat) : fpa (List.replicate n ([] : List Addr)) i = [] := by
  unfold fpa
  rw [List.getD_eq_getElem?_getD, List.getElem?_replicate]
  split <;> rfl
theorem start_sta {H : Hp} {Z : Addr → Prop} {ta : Option Addr} {N : List Str} {ds : List D} {vs : List V} (r : Rps H Z ta ds vs) (hl : ds.length ≤ N.length) (zin : ∀ a, Z a → H a ≠ none ∧ ta ≠ some a) (tk : ∀ a, ta = some a → ∃ kvs, H a = some (.dK kvs)) :
    Sta H Z ta (List.replicate N.length 0) (Py.start N.length ds) (L2.start N vs) (List.replicate N.length []) := by
  have hlen := r.len
  refine ⟨?_, ?_, fun i d e => ?_, by rw [flat_reps]; exact .nil, fun a ha => (by rw [flat_reps] at ha; cases ha), zin, tk⟩
  · unfold L2.start Py.start; simp [hlen]
  · unfold Py.start; simp; omega
  · have hd := start_look e
    obtain ⟨v, hv, rv⟩ := r.get hd
    refine ⟨v, ?_, by rw [lev_reps, fpa_reps]; exact Ow.zero.mpr ⟨rfl, rv⟩⟩
    unfold L2.start
    have hi : i < vs.length := by
      by_cases q : i < vs.length
      · exact q
      · rw [List.getElem?_eq_none (by omega)] at hv; cases hv
    rw [List.getElem?_append_left (by simpa using hi), List.getElem?_map, hv]
    rfl
theorem Gm.gw0 {H H' : Hp} {Z Z' : Addr → Prop} {ta ta' : Option Addr} {As As' : Fps} (g : Gm H Z ta As H' Z' ta' As') (h : As.flatten = []) : Gw H Z ta [] H' Z' ta' [] :=
  ⟨fun a o e n => g.keep a o e n (by rw [h]; exact fun q => by cases q), g.ex, g.tad, g.tnew, g.z, fun a z => by
    rcases g.znew a z with z | z | z
    · exact .inl z
    · rw [h] at z; cases z
    · exact .inr (.inr z), fun _ h => by cases h⟩
/-- all functions, by the depth of calls -/
theorem fns_ok (hKf : K = kf.K) (hok : ∀ e ∈ P, okE P e = true) (hF : ∀ e ∈ P, FacE K mg e) (hbi : ∀ x ∈ biAll, mg x = none) :
    ∀ (n f : Nat) (e : FnE) (fa : Addr) (fd : PySem.FuncData), P[f]? = some e → FunD K e.nm e.nm (defArgs e.st) (defBody e.st) (defScope e.st) [] [] fa fd → FnOk prog w K mg base CX0 n fa fd e.ps (spF (cfOf P n) XP0 f (lvOf P f) e.ps.length) := by
  intro n
  induction n with
  | zero =>
    intro f e fa fd he hf
    have nb : ∀ vs H Q E, ¬ spF (cfOf P 0) XP0 f (lvOf P f) e.ps.length vs H Q E := fun vs H Q E => spF_bad fun _ _ => rfl
    exact ⟨fun vs H Q E h => absurd h (nb _ _ _ _), fun A outer s H args us vs Q E _ _ _ _ h => absurd h (nb _ _ _ _)⟩
  | succ n ih =>
    intro f e fa fd he hf
    have hmem := List.mem_of_getElem? he
    have hoke := hok e hmem
    have hoke' := hoke
    unfold okE at hoke'
    simp only [Bool.and_eq_true, decide_eq_true_eq] at hoke'
    obtain ⟨⟨⟨⟨h1, h2⟩, h3⟩, h4⟩, h5⟩ := hoke'
    have hS := scB_ok h3
    obtain ⟨o, ho⟩ := Option.isSome_iff_exists.mp h5
    have hlv : lvOf P f = e.fn.lv := by unfold lvOf; rw [he]
    have hpl : e.ps.length ≤ e.N.length := by have := congrArg List.length hS.pre; rw [List.length_take] at this; omega
    refine hf.ok hS (fun vs H Q E h => ?_) (fun cdv A outer s H vs Q E hr h => ⟨_, PSs.nox (good_Ss (C := cstOf P e.N) (cf := cfOf P n) (XP := XP0) (Ex := ExF) (sc := defScope e.st) e.fn.body ⟨⟨rfl, hKf, hS.nd, rfl, rfl, fun _ _ => rfl, hbi, ?_, fun g x hx => ?_⟩, hS.kind, PySem.PassesOwn.never⟩ e.fn.lv h4 ho), ?_⟩)
    · obtain ⟨Z, ta, ds, τ, hl, _⟩ := h
      exact hl
    · have := hr.un
      show (A.deeper _).units + 65 < _
      omega
    · have hx : (P.map (·.gl))[g]? = some x := hx
      rw [List.getElem?_map] at hx
      cases hg : P[g]? with
      | none => rw [hg] at hx; cases hx
      | some e2 =>
        rw [hg] at hx
        simp only [Option.map_some, Option.some.injEq] at hx
        subst hx
        have hm2 := List.mem_of_getElem? hg
        obtain ⟨fa2, fd2, hf2, hmg2, hb2⟩ := (hF e2 hm2).ex
        exact ⟨CX0, n, fa2, fd2, e2.ps, ih g e2 fa2 fd2 hg hf2, hr, hmg2, hf2.kp, hb2, pass0, fun _ => pass0, fun ds τ hl => evF_len hg (hok e2 hm2) ds τ hl⟩
    · obtain ⟨Z, ta, ds, τ, hl, rps, zin, tk, T, q⟩ := h
      have hfm : (P.map (·.fn))[f]? = some e.fn := by rw [List.getElem?_map, he]; rfl
      have hdl : ds.length = e.fn.np := by rw [rps.len, hl, h1]
      have q : Sat (evF (P.map (·.fn)) (n + 1) f ds τ) _ _ := q
      unfold evF at q
      rw [hfm] at q
      simp only at q
      rw [if_pos hdl] at q
      rw [h2] at q
      refine ⟨Z, ta, List.replicate e.N.length [], Py.start e.N.length ds, τ, (by rw [h2]; exact start_sta rps (by omega) zin tk), T, q.bind.mono (fun fl τ1 q => ?_) fun k ds τ q => ?_⟩
      · rw [hlv] at q
        cases fl with
        | nx ρ =>
          intro L1 _ σ' H' Z' ta' As' g S' T'
          exact q .non H' Z' ta' [] (g.gw0 (flat_reps _)) S'.zin S'.tk T' ⟨by unfold Ow; exact ⟨rfl, rfl⟩, .nil, fun _ h => by cases h⟩ fun _ h => by cases h
        | rt d =>
          intro v H' Z' ta' A g zin' tk' T' t fr
          refine q v H' Z' ta' A (g.gw0 (flat_reps _)) zin' tk' T' t fun a ha => ?_
          rcases fr a ha with h | h
          · rw [flat_reps] at h; cases h
          · exact h
        | bk ρ => exact q.elim
        | ct ρ => exact q.elim
      · intro H' Z' ta' cls dx _ _ x
        exact x.elim
end
end Py

/-! EwD: from the head's facts to the law. -/
namespace Py
open PySem (Str Addr Expr Stmt Scope NameKind Const Comprehension Operator CmpOp Value PyData Shared Program World Heap)
open L2

def toDef (e : FnE) : He.DefD := ⟨(e.gl, none), e.nm, e.nm, defArgs e.st, defBody e.st, defScope e.st, [], []⟩
def faOf (P : List FnE) : List He.Fa := (P.map fun e => .glo e.gl) ++ biAll.map .free
def BindE (e : FnE) : Prop := ∀ (kV doc pm : Value) (an : Option Addr) (cdv ct : Value) (us : List Value), us.length = e.ps.length →
  PySem.bindArgs (PySem.W.fnOf e.nm e.nm (defArgs e.st) (defBody e.st) (defScope e.st) .none kV doc pm an cdv ct) ⟨us, []⟩ = pure (e.ps.zip us)
section
variable {K : PySem.W.Frag} {h : Heap} {mg : Str → Option Value} {P : List FnE}
theorem fact_of (X : K.In h) (G : h.Ns PySem.mainGlobals mg) (c : He.SaysD (faOf P) (P.map toDef) K) {i : Nat} {e : FnE} (hi : P[i]? = some e) :
    mg e.gl = some (.ref (He.ga K e.gl)) ∧ ∃ fd, FunD K e.nm e.nm (defArgs e.st) (defBody e.st) (defScope e.st) [] [] (He.ga K e.gl) fd := by
  have hl : i < P.length := by
    by_cases q : i < P.length
    · exact q
    · rw [List.getElem?_eq_none (by omega)] at hi; cases hi
  refine ⟨He.glo_ok X G (c.fact i (f := .glo e.gl) ?_), ?_⟩
  · unfold faOf
    rw [List.getElem?_append_left (by simpa using hl), List.getElem?_map, hi]
    rfl
  · exact c.def_ i (d := toDef e) (by rw [List.getElem?_map, hi]; rfl)
theorem free_of (X : K.In h) (G : h.Ns PySem.mainGlobals mg) (c : He.SaysD (faOf P) (P.map toDef) K) : ∀ x ∈ biAll, mg x = none := fun x hx => by
  obtain ⟨i, hi, e⟩ := List.mem_iff_getElem.mp hx
  refine He.free_ok X G (c.fact (P.length + i) (f := .free x) ?_)
  unfold faOf
  rw [List.getElem?_append_right (by simp), List.length_map, Nat.add_sub_cancel_left, List.getElem?_map, List.getElem?_eq_getElem hi, e]
  rfl
def spLaw (K : PySem.W.Frag) : Sp := fun vs H Q _ => ∃ (a : Addr) (ns : List Int), vs = [.ref a] ∧ Only H ∧ SqL K H a (ns.map V.int) ∧ ns.length ≤ 63 ∧ ∀ H', Q (.bl true) H'
theorem law_fn {prog : Program} {w : World} {n fl : Nat} {e : FnE} (hok : ∀ e ∈ P, okE P e = true) (hB : ∀ e ∈ P, BindE e) (hfl : P[fl]? = some e) (hps : e.ps = [("script" : Str)])
    (hlaw : ∀ ns : List Int, ns.length ≤ 63 → ∃ τ, evF (P.map (·.fn)) n fl [.scr ns] none = .ok (.bl true) τ) (X : K.In h) (G : h.Ns PySem.mainGlobals mg) (c : He.SaysD (faOf P) (P.map toDef) K) {f : Addr} (hfa : mg e.gl = some (.ref f)) :
    ∃ fd : PySem.FuncData, (∀ (s : Shared) (v : Value), PySem.BindsTo s fd ⟨[v], []⟩ [("script", v)]) ∧ ∀ base : Heap, K.In base → base.Ns PySem.mainGlobals mg → FnOk prog w K mg base CX0 n f fd ["script"] (spLaw K) := by
  letI kf : Kf := ⟨K⟩
  obtain ⟨m, fd, F⟩ := fact_of X G c hfl
  rw [hfa] at m
  cases m
  have hF : ∀ e ∈ P, FacE K mg e := fun e2 he2 => by
    obtain ⟨i, hi, e3⟩ := List.mem_iff_getElem.mp he2
    obtain ⟨m2, fd2, F2⟩ := fact_of X G c (i := i) (e := e2) (by rw [List.getElem?_eq_getElem hi, e3])
    exact ⟨_, fd2, F2, m2, F2.bindsN (hB e2 he2)⟩
  have b := FunD.bindsA (ps := e.ps) F (hB e (List.mem_of_getElem? hfl))
  refine ⟨fd, fun s v => ?_, fun base hb1 hb2 => ?_⟩
  · have := b s [v] (by rw [hps]; rfl)
    rw [hps] at this
    exact this
  · have W := fns_ok (prog := prog) (w := w) (base := base) (K := K) rfl hok hF (free_of X G c) n fl e _ fd hfl F
    rw [hps] at W
    refine W.imp fun vs H Q E ⟨a, ns, hvs, hO, hS, hn, hQ⟩ => ?_
    subst hvs
    have scr : Scr H a ns := by
      rcases hS with (hS | ⟨o, hS⟩) | hS
      · rcases hO a with z | ⟨o, xs, z⟩
        · rw [z] at hS; cases hS
        · rw [z] at hS; cases hS
      · exact .inl ⟨o, hS⟩
      · exact .inr fun H' => .inr hS
    obtain ⟨τ, hl⟩ := hlaw ns hn
    refine ⟨fun _ => False, none, [.scr ns], none, rfl, Rps.cons (by unfold Rp; exact ⟨a, rfl, scr⟩) Rps.nil, fun _ z => z.elim, (fun _ z => by cases z), rfl, ?_⟩
    show Sat (evF (P.map (·.fn)) n fl [.scr ns] none) _ _
    rw [hl]
    intro v H' Z' ta' A _ _ _ _ t _
    have ow := t.ow
    unfold Ow at ow
    rw [ow.2]
    exact hQ H'
end
end Py
set_option maxHeartbeats 0
namespace Py.Law
open PySem PySem.Spec PyProof.Rows L2
def top (i : Nat) : PySem.Stmt := PySem.Challenge.pw_spacehouse_k04_fields_and_fractions.main.body.getD i (.Pass ⟨0, 0, 0, 0⟩)
def e__law_full : FnE := ⟨"_law_full", "_law_full", ["rows", "width"], ["rows", "width", "got", "column", "found", "k", "row", "a", "b", "one", "other"], top 30, ⟨2, 11, b__law_full, 1⟩⟩
def e__law_gcd : FnE := ⟨"_law_gcd", "_law_gcd", ["a", "b"], ["a", "b"], top 29, ⟨2, 2, b__law_gcd, 0⟩⟩
def e__law_rank : FnE := ⟨"_law_rank", "_law_rank", ["rows", "prime"], ["rows", "prime", "got", "width", "column", "found", "back", "k", "row", "share", "one", "other"], top 27, ⟨2, 12, b__law_rank, 1⟩⟩
def e__law_take : FnE := ⟨"_law_take", "_law_take", ["tape", "many"], ["tape", "many", "mixed", "drawn"], top 23, ⟨2, 4, b__law_take, 1⟩⟩
def e__law_tape : FnE := ⟨"_law_tape", "_law_tape", ["script"], ["script", "cells", "seed", "cell"], top 22, ⟨1, 4, b__law_tape, 9⟩⟩
def e__law_times : FnE := ⟨"_law_times", "_law_times", ["matrix", "column"], ["matrix", "column", "row", "a", "b"], top 28, ⟨2, 5, b__law_times, 9⟩⟩
def e_inverse : FnE := ⟨"inverse", "inverse", ["number", "prime"], ["number", "prime", "other"], top 13, ⟨2, 3, b_inverse, 0⟩⟩
def e_reduced : FnE := ⟨"reduced", "reduced", ["matrix", "columns", "prime"], ["matrix", "columns", "prime", "rows", "places", "start", "column", "found", "factor", "row", "index", "one", "share", "other"], top 14, ⟨3, 14, b_reduced, 1⟩⟩
def e_kernel_fields : FnE := ⟨"kernel_fields", "kernel", ["matrix", "columns", "prime"], ["matrix", "columns", "prime", "found", "free", "rows", "places", "column", "row", "place"], top 17, ⟨3, 10, b_kernel_fields, 1⟩⟩
def e_common : FnE := ⟨"common", "common", ["first", "second"], ["first", "second", "one", "two", "share"], top 1, ⟨2, 5, b_common, 1⟩⟩
def e_cleared : FnE := ⟨"cleared", "cleared", ["row"], ["row", "shared", "number"], top 4, ⟨1, 3, b_cleared, 1⟩⟩
def e_reduced_rows : FnE := ⟨"reduced_rows", "reduced_rows", ["matrix", "columns"], ["matrix", "columns", "rows", "places", "start", "column", "found", "pivot", "row", "index", "share", "one", "other"], top 5, ⟨2, 13, b_reduced_rows, 1⟩⟩
def e_kernel_rational : FnE := ⟨"kernel_rational", "kernel", ["matrix", "columns"], ["matrix", "columns", "found", "free", "rows", "places", "whole", "column", "row", "place"], top 8, ⟨2, 10, b_kernel_rational, 1⟩⟩
def e_lowest : FnE := ⟨"lowest", "lowest", ["numbers", "denominator"], ["numbers", "denominator", "shared", "number"], top 3, ⟨2, 4, b_lowest, 1⟩⟩
def e_rank_fields : FnE := ⟨"rank_fields", "rank", ["matrix", "columns", "prime"], ["matrix", "columns", "prime"], top 15, ⟨3, 3, b_rank_fields, 9⟩⟩
def e_rank_rational : FnE := ⟨"rank_rational", "rank", ["matrix", "columns"], ["matrix", "columns"], top 6, ⟨2, 2, b_rank_rational, 9⟩⟩
def e_solution_fields : FnE := ⟨"solution_fields", "solution", ["matrix", "columns", "goal", "prime"], ["matrix", "columns", "goal", "prime", "found", "rows", "places", "row", "place", "one"], top 19, ⟨4, 10, b_solution_fields, 1⟩⟩
def e_solution_rational : FnE := ⟨"solution_rational", "solution", ["matrix", "columns", "goal"], ["matrix", "columns", "goal", "whole", "found", "rows", "places", "row", "place", "one"], top 10, ⟨3, 10, b_solution_rational, 1⟩⟩
def e_law : FnE := ⟨"law", "law", ["script"], ["script", "tape", "turn", "matrix", "goal", "wide", "prime", "own", "basis", "told", "shared", "number", "height", "width", "row", "bottom", "numbers", "low", "j", "k", "one", "column", "other"], top 31, ⟨1, 23, b_law, 9⟩⟩
def P : List FnE := [e__law_full, e__law_gcd, e__law_rank, e__law_take, e__law_tape, e__law_times, e_inverse, e_reduced, e_kernel_fields, e_common, e_cleared, e_reduced_rows, e_kernel_rational, e_lowest, e_rank_fields, e_rank_rational, e_solution_fields, e_solution_rational, e_law]
theorem hlaw : ∀ ns : List Int, ns.length ≤ 63 → ∃ τ, evF (P.map (·.fn)) 8 18 [.scr ns] none = .ok (.bl true) τ := Py.Wa.law4
theorem bind__law_full : BindE e__law_full := fun _ _ _ _ _ _ us hl => match us, hl with | [_, _], _ => rfl
theorem bind__law_gcd : BindE e__law_gcd := fun _ _ _ _ _ _ us hl => match us, hl with | [_, _], _ => rfl
theorem bind__law_rank : BindE e__law_rank := fun _ _ _ _ _ _ us hl => match us, hl with | [_, _], _ => rfl
theorem bind__law_take : BindE e__law_take := fun _ _ _ _ _ _ us hl => match us, hl with | [_, _], _ => rfl
theorem bind__law_tape : BindE e__law_tape := fun _ _ _ _ _ _ us hl => match us, hl with | [_], _ => rfl
theorem bind__law_times : BindE e__law_times := fun _ _ _ _ _ _ us hl => match us, hl with | [_, _], _ => rfl
theorem bind_inverse : BindE e_inverse := fun _ _ _ _ _ _ us hl => match us, hl with | [_, _], _ => rfl
theorem bind_reduced : BindE e_reduced := fun _ _ _ _ _ _ us hl => match us, hl with | [_, _, _], _ => rfl
theorem bind_kernel_fields : BindE e_kernel_fields := fun _ _ _ _ _ _ us hl => match us, hl with | [_, _, _], _ => rfl
theorem bind_common : BindE e_common := fun _ _ _ _ _ _ us hl => match us, hl with | [_, _], _ => rfl
theorem bind_cleared : BindE e_cleared := fun _ _ _ _ _ _ us hl => match us, hl with | [_], _ => rfl
theorem bind_reduced_rows : BindE e_reduced_rows := fun _ _ _ _ _ _ us hl => match us, hl with | [_, _], _ => rfl
theorem bind_kernel_rational : BindE e_kernel_rational := fun _ _ _ _ _ _ us hl => match us, hl with | [_, _], _ => rfl
theorem bind_lowest : BindE e_lowest := fun _ _ _ _ _ _ us hl => match us, hl with | [_, _], _ => rfl
theorem bind_rank_fields : BindE e_rank_fields := fun _ _ _ _ _ _ us hl => match us, hl with | [_, _, _], _ => rfl
theorem bind_rank_rational : BindE e_rank_rational := fun _ _ _ _ _ _ us hl => match us, hl with | [_, _], _ => rfl
theorem bind_solution_fields : BindE e_solution_fields := fun _ _ _ _ _ _ us hl => match us, hl with | [_, _, _, _], _ => rfl
theorem bind_solution_rational : BindE e_solution_rational := fun _ _ _ _ _ _ us hl => match us, hl with | [_, _, _], _ => rfl
theorem bind_law : BindE e_law := fun _ _ _ _ _ _ us hl => match us, hl with | [_], _ => rfl
theorem binds : ∀ e ∈ P, BindE e := by
  intro e he
  simp only [P, List.mem_cons, List.not_mem_nil, or_false] at he
  rcases he with rfl | rfl | rfl | rfl | rfl | rfl | rfl | rfl | rfl | rfl | rfl | rfl | rfl | rfl | rfl | rfl | rfl | rfl | rfl
  · exact bind__law_full
  · exact bind__law_gcd
  · exact bind__law_rank
  · exact bind__law_take
  · exact bind__law_tape
  · exact bind__law_times
  · exact bind_inverse
  · exact bind_reduced
  · exact bind_kernel_fields
  · exact bind_common
  · exact bind_cleared
  · exact bind_reduced_rows
  · exact bind_kernel_rational
  · exact bind_lowest
  · exact bind_rank_fields
  · exact bind_rank_rational
  · exact bind_solution_fields
  · exact bind_solution_rational
  · exact bind_law
theorem ok__law_full : okE P e__law_full = true := by decide +kernel
theorem ok__law_gcd : okE P e__law_gcd = true := by decide +kernel
theorem ok__law_rank : okE P e__law_rank = true := by decide +kernel
theorem ok__law_take : okE P e__law_take = true := by decide +kernel
theorem ok__law_tape : okE P e__law_tape = true := by decide +kernel
theorem ok__law_times : okE P e__law_times = true := by decide +kernel
theorem ok_inverse : okE P e_inverse = true := by decide +kernel
theorem ok_reduced : okE P e_reduced = true := by decide +kernel
theorem ok_kernel_fields : okE P e_kernel_fields = true := by decide +kernel
theorem ok_common : okE P e_common = true := by decide +kernel
theorem ok_cleared : okE P e_cleared = true := by decide +kernel
theorem ok_reduced_rows : okE P e_reduced_rows = true := by decide +kernel
theorem ok_kernel_rational : okE P e_kernel_rational = true := by decide +kernel
theorem ok_lowest : okE P e_lowest = true := by decide +kernel
theorem ok_rank_fields : okE P e_rank_fields = true := by decide +kernel
theorem ok_rank_rational : okE P e_rank_rational = true := by decide +kernel
theorem ok_solution_fields : okE P e_solution_fields = true := by decide +kernel
theorem ok_solution_rational : okE P e_solution_rational = true := by decide +kernel
theorem ok_law : okE P e_law = true := by decide +kernel
theorem oks : ∀ e ∈ P, okE P e = true := by
  intro e he
  simp only [P, List.mem_cons, List.not_mem_nil, or_false] at he
  rcases he with rfl | rfl | rfl | rfl | rfl | rfl | rfl | rfl | rfl | rfl | rfl | rfl | rfl | rfl | rfl | rfl | rfl | rfl | rfl
  · exact ok__law_full
  · exact ok__law_gcd
  · exact ok__law_rank
  · exact ok__law_take
  · exact ok__law_tape
  · exact ok__law_times
  · exact ok_inverse
  · exact ok_reduced
  · exact ok_kernel_fields
  · exact ok_common
  · exact ok_cleared
  · exact ok_reduced_rows
  · exact ok_kernel_rational
  · exact ok_lowest
  · exact ok_rank_fields
  · exact ok_rank_rational
  · exact ok_solution_fields
  · exact ok_solution_rational
  · exact ok_law
def loose_0 : List Str := ["common", "lowest", "cleared", "reduced_rows", "rank", "rank_rational", "kernel", "kernel_rational", "solution", "solution_rational", "inverse", "reduced", "rank", "rank_fields", "kernel", "kernel_fields", "solution", "solution_fields", "_law_tape", "_law_take", "_law_is_integer", "_law_same_items", "_law_same", "_law_rank", "_law_times", "_law_gcd", "_law_full"]
def loose : List Str := loose_0
abbrev RR : PySem.W.OpenRow := PySem.W.OpenLaw.row PySem.Challenge.rw_spacehouse_k04_fields_and_fractions
abbrev hk : PySem.W.Hook := He.hookD 4 (faOf P) (P.map toDef)
def ob (s : PySem.W.SharedT) : He.AlD := He.obsDG 4 (faOf P) (P.map toDef) (HandSHeadRun.getT s)
theorem ob_eq (s : PySem.W.SharedT) : ob s = hk.obs s.abs := He.obsDG_eq (HandSHeadRun.getT_eq s)
theorem run (w : World) : HandSHeadRun.RunEq RR (PySem.W.view RR.prog [31]) hk ob 2000 loose w := by
  intro os
  kernel_rfl
end Py.Law
open PySem PySem.W PySem.Calls PyProof.Rows
theorem PySem.Challenge.cw_spacehouse_k04_fields_and_fractions_holds : PySem.Challenge.rw_spacehouse_k04_fields_and_fractions.Holds := by
  w_on; o_law
  refine HandSHeadRun.head_any (r := OpenLaw.row PySem.Challenge.rw_spacehouse_k04_fields_and_fractions) (q := view (OpenLaw.row PySem.Challenge.rw_spacehouse_k04_fields_and_fractions).prog [31]) (H := Py.Law.hk) (ob := Py.Law.ob) (M := 2000) (loose := Py.Law.loose) (d := HandSHeadRun.topDef (OpenLaw.row PySem.Challenge.rw_spacehouse_k04_fields_and_fractions).prog 31) (kwd := []) Py.Law.ob_eq
    (by kernel_rfl) (fun s => by kernel_rfl) Py.Law.run (by kernel_rfl) (by kernel_rfl) (by kernel_rfl) (by rfl) (by first | assumption | decide +kernel) (by decide +kernel) ⟨rfl, rfl, rfl, rfl, rfl, by decide +kernel⟩ ?hw ?hc
  case hw => w_witness2
  case hc =>
    refine L2.walk_ofE (l := PySem.Challenge.rw_spacehouse_k04_fields_and_fractions) (n := 63) (k := 8) (x := "script") (CX := L2.CX0) rfl (by decide) (by kernel_rfl) ⟨rfl, by decide, by decide⟩ ?F (fun _ _ _ _ z => z)
    intro w mg fa h Y G hmg0
    obtain ⟨K, KX, c⟩ := Y
    have hmg : mg ("law" : PySem.Str) = some (.ref fa) := by
      have e : (HandSHeadRun.topDef (OpenLaw.row PySem.Challenge.rw_spacehouse_k04_fields_and_fractions).prog 31).name = ("law" : PySem.Str) := by kernel_rfl
      rw [← e]
      exact hmg0
    obtain ⟨fd, hb, hF⟩ := Py.law_fn (prog := (PySem.Challenge.rw_spacehouse_k04_fields_and_fractions).prog) (w := w) (n := 8) (fl := 18) (e := Py.Law.e_law) Py.Law.oks Py.Law.binds rfl rfl Py.Law.hlaw KX G c hmg
    exact ⟨K, fd, Py.spLaw K, KX, hb, fun H a ns hl hO hS => ⟨a, ns, rfl, hO, hS, hl, fun _ => rfl⟩, hF⟩
