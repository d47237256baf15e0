import PyProof.Rows.All
import Wide.All
import OpenK.AllK
import Wide.FinOn
import HandS.ForMost
import HandS.ForExc
import HandS.TupAny
import HandS.TupMul
import HandS.Deep
import HandS.Wide
import HandS.Style
import HandS.Zip
import HandS.Walk
import KE.GoesEnum
import HandS.Flow
import HandS.IsInst
import HandS.Strs
import HandS.Conv
import HandS.Ends
import HandS.Words
import PySem.Challenge.RW_lastgames_k53_whole_magic_numbers
set_option Elab.async false
set_option linter.all false
set_option maxRecDepth 100000
section
/-! The data layer, part 1: data without a heap, programs in short (IE, IS), what they compute. -/
namespace DL
open PySem

/-- data: what never changes any more -/
inductive D where
  | non | bl (b : Bool) | int (i : Int) | str (s : Str)
  | tup (xs : List D) | lst (xs : List D)
  | ins (c : Str) (fs : List (Str × D))
  | fn (x : Str)

mutual
def D.py : D → Option PyData
  | .non => some .none
  | .bl b => some (.bool b)
  | .int i => some (.int i)
  | .str s => some (.str s)
  | .tup xs => (D.pyAll xs).map .tuple
  | .lst xs => (D.pyAll xs).map .list
  | .ins _ _ => none
  | .fn _ => none
def D.pyAll : List D → Option (List PyData)
  | [] => some []
  | x :: xs => match D.py x, D.pyAll xs with
    | some d, some ds => some (d :: ds)
    | _, _ => none
end

abbrev Store := List (List D)
/-- what a call ends with -/
inductive FR where
  | ok (d : D) (S : Store)
  | fresh (xs : List D) (S : Store)
  | err (c : Str) (fs : List (Str × D)) (S : Store)
  | stuck
inductive Arg where
  | d (x : D)
  | scr (ns : List Int)
  | loc (l : Nat)
  | lam (g : Store → FR)
abbrev FSem := List Arg → Store → FR
/-- a slot of a frame -/
inductive Sl where
  | none
  | d (x : D)
  | scr (ns : List Int)
  | own (xs : List D)
  | loc (l : Nat)
  | lam (g : Store → FR)
  | obj (c : Str) (fs : List (Str × D))
/-- what an expression ends with -/
inductive R where
  | d (x : D)
  | scr (ns : List Int)
  | fresh (xs : List D)
  | own (i : Nat)
  | loc (l : Nat)
  | lam (g : Store → FR)

inductive Out (α : Type) where
  | ok (a : α) (r : List Sl) (S : Store)
  | err (c : Str) (fs : List (Str × D)) (r : List Sl) (S : Store)
  | stuck
@[reducible] def M (α : Type) := List Sl → Store → Out α
@[reducible] def M.pure {α : Type} (a : α) : M α := fun r S => .ok a r S
@[reducible] def M.bind {α β : Type} (f : M α) (g : α → M β) : M β := fun r S => match f r S with
  | .ok a r' S' => g a r' S'
  | .err c fs r' S' => .err c fs r' S'
  | .stuck => .stuck
def M.stuck {α : Type} : M α := fun _ _ => .stuck
def M.ofO {α : Type} (o : Option α) : M α := fun r S => match o with
  | some a => .ok a r S
  | none => .stuck

/-- operators -/
inductive Bop where | add | sub | mul | fdiv | mod | pow
inductive Cop where | eq | ne | lt | le | gt | ge | isin | notin | isnone | notnone
inductive B1 where | len | int | abs | tuple | list | sum | max | min | any | all | repr
inductive B2 where | max | min
inductive Mt where | append | count | index | pop0 | pop | extend
inductive Ty where | ty (n : String) | cls (x : Str)
inductive Tg where | one (i : Nat) | many (is : List Nat)
inductive Vk where | val | own | loc

/-- expressions; also lists of them (nil, cons) -/
inductive IE where
  | nil | cons (e es : IE)
  | var (i : Nat) | cint (i : Int) | cbl (b : Bool) | cnon | cstr (s : Str) | gint (x : Str) (i : Int) | gstr (x : Str) (s : Str) | gfn (x : Str)
  | bin (o : Bop) (a b : IE) | neg (a : IE)
  | cmp (o : Cop) (a b : IE) | cmp2 (o o' : Cop) (a b c : IE)
  | and (a b : IE) | or (a b : IE) | not (a : IE) | ife (c a b : IE)
  | tup (es : IE) | lst (es : IE)
  | sub (a i : IE) | slc (a lo hi : IE) | rev (a : IE) | no
  | attr (a : IE) (f : Str)
  | call (k : Nat) (es : IE) | new (k : Nat) (es : IE)
  | b1 (b : B1) (a : IE) | b2 (b : B2) (a c : IE) | isi (a : IE) (t : Ty)
  | meth (m : Mt) (o es : IE)
  | lc (own : List Nat) (tg : Tg) (it ifs elt : IE)
  | lc2 (own own1 : List Nat) (tg : Tg) (it ifs : IE) (tg1 : Tg) (it1 ifs1 elt : IE)
  | rng1 (a : IE) | rng2 (a b : IE) | enum (a : IE) | zip2 (a b : IE) | zip3 (a b c : IE)
  | tupr (a : IE)
  | scut (i : Nat) (hi : Int)

/-- statements; also blocks (nil, cons) -/
inductive IS where
  | nil | cons (s ss : IS)
  | set (i : Nat) (k : Vk) (e : IE)
  | setT (is : List Nat) (e : IE)
  | par (ks : List (Nat × Vk)) (es : IE)
  | subs (i : Nat) (ix e : IE)
  | fld (i : Nat) (f : Str) (e : IE)
  | expr (e : IE)
  | ret (e : IE) | retN
  | ife (c : IE) (a b : IS)
  | loop (tg : Tg) (it : IE) (body : IS)
  | whl (c : IE) (body : IS)
  | never

/-! ### operations by values -/
def szOk (n : Nat) : Bool := decide (n ≤ sizeLine)
def small (i : Int) : Bool := decide (-(2 ^ 64) < i ∧ i < 2 ^ 64)
def mulOk (i j : Int) : Bool := small i || small j
def divOk (j : Int) : Bool := decide (j ≠ 0 ∧ j.natAbs < 1073741824)
def powOk (i j : Int) : Bool := decide (0 ≤ j ∧ j ≤ 1000000 ∧ i.natAbs < 2 ^ 64)

def rep (xs : List D) : Nat → List D
  | 0 => []
  | n + 1 => xs ++ rep xs n

def bop : Bop → D → D → Option R
  | .add, .int i, .int j => some (.d (.int (i + j)))
  | .add, .int i, .bl b => some (.d (.int (i + (if b then 1 else 0))))
  | .add, .str x, .str y => if szOk (x.length + y.length) then some (.d (.str (x ++ y))) else none
  | .add, .tup xs, .tup ys => if szOk (xs.length + ys.length) then some (.d (.tup (xs ++ ys))) else none
  | .add, .lst xs, .lst ys => if szOk (xs.length + ys.length) then some (.fresh (xs ++ ys)) else none
  | .sub, .int i, .int j => some (.d (.int (i - j)))
  | .mul, .int i, .int j => if mulOk i j then some (.d (.int (i * j))) else none
  | .mul, .lst xs, .int k => if small k && decide (k < 2 ^ 63) && decide (-(2 ^ 63) ≤ k) && szOk (xs.length * k.toNat) then some (.fresh (rep xs k.toNat)) else none
  | .fdiv, .int i, .int j => if divOk j then some (.d (.int (i.fdiv j))) else none
  | .mod, .int i, .int j => if j ≠ 0 then some (.d (.int (i.fmod j))) else none
  | .pow, .int i, .int j => if powOk i j then some (.d (.int (i ^ j.toNat))) else none
  | _, _, _ => none

def eqD (a b : D) : Option Bool := match a.py, b.py with
  | some x, some y => if SeqAt.shaped x && SeqAt.shaped y then some (PyData.eqv x y) else none
  | _, _ => none
def isNone : D → Bool
  | .non => true
  | _ => false
def itemsOf : D → Option (List D)
  | .tup xs => some xs
  | .lst xs => some xs
  | _ => none
/-- is one of them equal -/
def inD (x b : D) : Option Bool := match x.py, b.py with
  | some d, some (.list ds) => if SeqAt.shaped d && SeqAt.shaped (.list ds) then some (ds.any fun z => PyData.eqv z d) else none
  | some d, some (.tuple ds) => if SeqAt.shaped d && SeqAt.shaped (.tuple ds) then some (ds.any fun z => PyData.eqv z d) else none
  | _, _ => none
def cop : Cop → D → D → Option Bool
  | .eq, a, b => eqD a b
  | .ne, a, b => (eqD a b).map not
  | .lt, .int i, .int j => some (decide (i < j))
  | .le, .int i, .int j => some (decide (i ≤ j))
  | .gt, .int i, .int j => some (decide (j < i))
  | .ge, .int i, .int j => some (decide (j ≤ i))
  | .isin, a, b => inD a b
  | .notin, a, b => (inD a b).map not
  | .isnone, a, .non => some (isNone a)
  | .notnone, a, .non => some (!isNone a)
  | _, _, _ => none
def truth : D → Option Bool
  | .non => some false
  | .bl b => some b
  | .int i => some (i != 0)
  | .tup xs => some (!xs.isEmpty)
  | .lst xs => some (!xs.isEmpty)
  | _ => none
def toInts : List D → Option (List Int)
  | [] => some []
  | .int i :: xs => (toInts xs).map (i :: ·)
  | _ => none
def bools : List D → Option (List Bool)
  | [] => some []
  | .bl i :: xs => (bools xs).map (i :: ·)
  | _ => none
def maxI : List Int → Option Int
  | [] => none
  | x :: xs => match maxI xs with
    | some m => some (if m ≤ x then x else m)
    | none => some x
def minI : List Int → Option Int
  | [] => none
  | x :: xs => match minI xs with
    | some m => some (if x ≤ m then x else m)
    | none => some x
def reprD (x : D) : Option D := match x.py with
  | some d => if d.showable && decide (d.shown.length ≤ sizeLine) && decide (d.depth ≤ 64) then some (.str d.shown) else none
  | none => none
def b1 : B1 → D → Option R
  | .len, .tup xs => some (.d (.int xs.length))
  | .len, .lst xs => some (.d (.int xs.length))
  | .len, .str s => if szOk s.length then some (.d (.int s.length)) else none
  | .int, .int i => some (.d (.int i))
  | .int, .bl b => some (.d (.int (if b then 1 else 0)))
  | .abs, .int i => some (.d (.int (if i < 0 then -i else i)))
  | .tuple, .tup xs => some (.d (.tup xs))
  | .tuple, .lst xs => some (.d (.tup xs))
  | .list, .tup xs => some (.fresh xs)
  | .list, .lst xs => some (.fresh xs)
  | .sum, .lst xs => (toInts xs).map fun ns => .d (.int ns.sum)
  | .max, .lst xs => ((toInts xs).bind maxI).map fun n => .d (.int n)
  | .min, .lst xs => ((toInts xs).bind minI).map fun n => .d (.int n)
  | .any, .lst xs => (bools xs).map fun bs => .d (.bl (bs.any id))
  | .all, .lst xs => (bools xs).map fun bs => .d (.bl (bs.all id))
  | .repr, x => (reprD x).map .d
  | _, _ => none
def b2 : B2 → D → D → Option R
  | .max, .int i, .int j => some (.d (.int (if j > i then j else i)))
  | .min, .int i, .int j => some (.d (.int (if j < i then j else i)))
  | _, _, _ => none
def tyOf : D → Option String
  | .non => some "NoneType"
  | .bl _ => some "bool"
  | .int _ => some "int"
  | .str _ => some "str"
  | .tup _ => some "tuple"
  | .lst _ => some "list"
  | _ => none
def subTy (a b : String) : Bool := a == b || (a == "bool" && b == "int")
def isTy (d : D) (n : String) : Bool := match tyOf d with
  | some a => subTy a n
  | none => false
def tyNames : List String := ["int", "bool", "str", "tuple", "list", "NoneType", "dict", "set", "float"]
/-- the names of the fields -/
def fldNames : List Str := ["teams", "games", "league", "stood", "deeds", "season", "noted"]
def isi : D → Ty → Option Bool
  | .fn _, _ => none
  | .ins c _, .cls x => if c = x then some true else none
  | .ins _ _, .ty n => if n ∈ tyNames then some false else none
  | _, .cls _ => some false
  | x, .ty n => if n ∈ tyNames then some (isTy x n) else none
def ixOf (n : Nat) (i : Int) : Option Nat := if 0 ≤ i then (if i < n then some i.toNat else none) else if -(n : Int) ≤ i then some (i + n).toNat else none
def subD : D → D → Option D
  | .tup xs, .int i => (ixOf xs.length i).bind fun j => xs[j]?
  | .lst xs, .int i => (ixOf xs.length i).bind fun j => xs[j]?
  | _, _ => none
/-- a slice's end in a sequence of n, d where it is left out -/
def cutIx (n d : Nat) : Option Int → Nat
  | none => d
  | some i => if i < 0 then (i + n).toNat else min i.toNat n
def cut (xs : List D) (lo hi : Option Int) : List D := (xs.drop (cutIx xs.length 0 lo)).take (cutIx xs.length xs.length hi - cutIx xs.length 0 lo)
def slcD : D → Option Int → Option Int → Option R
  | .tup xs, lo, hi => some (.d (.tup (cut xs lo hi)))
  | .lst xs, lo, hi => some (.fresh (cut xs lo hi))
  | _, _, _ => none
def revD : D → Option R
  | .lst xs => some (.fresh xs.reverse)
  | _ => none
def attrD : D → Str → Option D
  | .ins _ fs, f => if f ∈ fldNames then fs.lookup f else none
  | _, _ => none
def shD (x : D) : Option PyData := match x.py with
  | some d => if SeqAt.shaped d then some d else none
  | none => none
def pysS (xs : List D) : Option (List PyData) := match D.pyAll xs with
  | some ds => if PyData.canLayAll0 ds then some ds else none
  | none => none
def cntD (x : D) (xs : List D) : Option Nat := match shD x, pysS xs with
  | some d, some ds => some (ds.countP fun z => PyData.eqv z d)
  | _, _ => none
def idxD (x : D) (xs : List D) : Option Nat := match shD x, pysS xs with
  | some d, some ds => if ds.any fun z => PyData.eqv z d then some (ds.findIdx fun z => PyData.eqv z d) else none
  | _, _ => none

/-! ### the machine -/
def rd (i : Nat) : M R := fun r S => match r[i]? with
  | some (.d x) => .ok (.d x) r S
  | some (.own _) => .ok (.own i) r S
  | some (.loc l) => .ok (.loc l) r S
  | some (.lam g) => .ok (.lam g) r S
  | some (.scr ns) => .ok (.scr ns) r S
  | _ => .stuck
/-- the script's first items -/
def scutM (i : Nat) (hi : Int) : M R := fun r S => match r[i]? with
  | some (.scr ns) => .ok (.fresh ((ns.take hi.toNat).map .int)) r S
  | _ => .stuck
/-- as data: an own list is own no more -/
def asD (x : R) : M D := fun r S => match x with
  | .d x => .ok x r S
  | .fresh xs => .ok (.lst xs) r S
  | .own i => match r[i]? with
    | some (.own xs) => .ok (.lst xs) (r.set i (.d (.lst xs))) S
    | some (.d x) => .ok x r S
    | _ => .stuck
  | _ => .stuck
/-- looked at -/
def peek (x : R) : M D := fun r S => match x with
  | .d x => .ok x r S
  | .fresh xs => .ok (.lst xs) r S
  | .own i => match r[i]? with
    | some (.own xs) => .ok (.lst xs) r S
    | some (.d x) => .ok x r S
    | _ => .stuck
  | .loc l => match S[l]? with
    | some xs => .ok (.lst xs) r S
    | none => .stuck
  | .lam _ => .stuck
  | .scr _ => .stuck
def asArg (x : R) : M Arg := fun r S => match x with
  | .scr ns => .ok (.scr ns) r S
  | .loc l => .ok (.loc l) r S
  | .lam g => .ok (.lam g) r S
  | x => ((asD x).bind fun d => M.pure (.d d)) r S
def truthR (x : R) : M Bool := (peek x).bind fun d => M.ofO (truth d)
/-- a call's end in the caller -/
def ofFR : FR → List Sl → Out R
  | .ok d S, r => .ok (.d d) r S
  | .fresh xs S, r => .ok (.fresh xs) r S
  | .err c fs S, r => .err c fs r S
  | .stuck, _ => .stuck
def doCall (g : FSem) (as : List Arg) : M R := fun r S => ofFR (g as S) r
def setSl (i : Nat) (s : Sl) : M Unit := fun r S => if i < r.length then .ok () (r.set i s) S else .stuck
def setMany (is : List Nat) (xs : List D) : M Unit := fun r S => match is, xs with
  | [], [] => .ok () r S
  | i :: is, x :: xs => ((setSl i (.d x)).bind fun _ => setMany is xs) r S
  | _, _ => .stuck
def bindTg (t : Tg) (x : D) : M Unit := fun r S => match t, x with
  | .one i, x => setSl i (.d x) r S
  | .many is, .tup xs => setMany is xs r S
  | .many _, _ => .stuck
def wipeS (r : List Sl) : List Nat → List Sl
  | [] => r
  | v :: vs => (wipeS r vs).set v .none
/-- the slots vs as r₀ has them -/
def backS (r₀ r : List Sl) : List Nat → List Sl
  | [] => r
  | v :: vs => match r₀[v]? with
    | some s => (backS r₀ r vs).set v s
    | none => backS r₀ r vs
def plainAt (r : List Sl) (i : Nat) : Bool := match r[i]? with
  | some .none => true
  | some (.d _) => true
  | _ => false
/-- within a block: its own names forgotten, as they were behind it -/
def inBlk {α : Type} (own : List Nat) (f : M α) : M α := fun r S =>
  if own.all (plainAt r) then match f (wipeS r own) S with
    | .ok a r' S' => .ok a (backS r r' own) S'
    | _ => .stuck
  else .stuck
def wipeM (own : List Nat) : M Unit := fun r S => .ok () (wipeS r own) S
def compL (own : List Nat) (tg : Tg) (c : M Bool) (e : M D) : List D → M (List D)
  | [] => M.pure []
  | x :: xs => (bindTg tg x).bind fun _ => c.bind fun b =>
      if b then e.bind fun y => (wipeM own).bind fun _ => (compL own tg c e xs).bind fun ys => M.pure (y :: ys)
      else (wipeM own).bind fun _ => compL own tg c e xs
/-- two clauses: e gives the second clause's list -/
def comp2L (own : List Nat) (tg : Tg) (c : M Bool) (e : M (List D)) : List D → M (List D)
  | [] => M.pure []
  | x :: xs => (bindTg tg x).bind fun _ => c.bind fun b =>
      if b then e.bind fun y => (wipeM own).bind fun _ => (comp2L own tg c e xs).bind fun ys => M.pure (y ++ ys)
      else (wipeM own).bind fun _ => comp2L own tg c e xs

def optI : D → Option (Option Int)
  | .int i => some (some i)
  | _ => none
def rngL (lo : Int) (n : Nat) : List D := (List.range n).map fun i => .int (lo + (i : Nat))
def enumL (k : Int) : List D → List D
  | [] => []
  | x :: xs => .tup [.int k, x] :: enumL (k + 1) xs
def zip2L : List D → List D → List D
  | x :: xs, y :: ys => .tup [x, y] :: zip2L xs ys
  | _, _ => []
def zip3L : List D → List D → List D → List D
  | x :: xs, y :: ys, z :: zs => .tup [x, y, z] :: zip3L xs ys zs
  | _, _, _ => []
/-- two lists or two tuples -/
def zipOf : D → D → Option (List D)
  | .tup xs, .tup ys => some (zip2L xs ys)
  | .lst xs, .lst ys => some (zip2L xs ys)
  | _, _ => none
def inR62 (i : Int) : Bool := decide (-(2 ^ 62) ≤ i ∧ i < 2 ^ 62)
def rngOf (lo hi : D) : Option (List D) := match lo, hi with
  | .int i, .int j => if inR62 i && inR62 j then some (rngL i (j - i).toNat) else none
  | _, _ => none

/-- methods, upon a list that may be written -/
def mtOwn : Mt → List D → List D → Option (D × List D)
  | .append, xs, [y] => if decide (xs.length < sizeLine) then some (.non, xs ++ [y]) else none
  | .extend, xs, [.lst ys] => if szOk (xs.length + ys.length) then some (.non, xs ++ ys) else none
  | .pop, xs, [] => (xs[xs.length - 1]?).map fun y => (y, xs.dropLast)
  | .pop0, xs, [.int 0] => (xs[0]?).map fun y => (y, xs.eraseIdx 0)
  | .count, xs, [y] => (cntD y xs).map fun n => (.int n, xs)
  | .index, xs, [y] => (idxD y xs).map fun n => (.int n, xs)
  | _, _, _ => none
/-- upon what stays -/
def mtD : Mt → List D → List D → Option D
  | .count, xs, [y] => (cntD y xs).map fun n => .int n
  | .index, xs, [y] => (idxD y xs).map fun n => .int n
  | _, _, _ => none
/-- a list (true), a tuple (false) -/
def kindOf : Mt → D → Option Bool
  | _, .lst _ => some true
  | .count, .tup _ => some false
  | .index, .tup _ => some false
  | _, _ => none
def kindR (m : Mt) (x : R) : M Bool := (peek x).bind fun d => M.ofO (kindOf m d)
def lstOf : D → Option (List D)
  | .lst xs => some xs
  | _ => none
def tupOf : D → Option (List D)
  | .tup xs => some xs
  | _ => none
def doMethT (m : Mt) (o : R) (ys : List D) : M R := (peek o).bind fun d => M.ofO ((tupOf d).bind fun xs => (mtD m xs ys).map .d)
def doMethL (m : Mt) (o : R) (ys : List D) : M R := fun r S => match o with
  | .own i => match r[i]? with
    | some (.own xs) => match mtOwn m xs ys with
      | some (x, zs) => .ok (.d x) (r.set i (.own zs)) S
      | none => .stuck
    | some (.d x) => match (lstOf x).bind fun xs => mtD m xs ys with
      | some x => .ok (.d x) r S
      | none => .stuck
    | _ => .stuck
  | .loc l => match S[l]? with
    | some xs => match mtOwn m xs ys with
      | some (x, zs) => .ok (.d x) r (S.set l zs)
      | none => .stuck
    | none => .stuck
  | o => ((peek o).bind fun d => M.ofO ((lstOf d).bind fun xs => (mtD m xs ys).map R.d)) r S
def doMeth (m : Mt) (o : R) (k : Bool) (ys : List D) : M R := if k then doMethL m o ys else doMethT m o ys

/-- the class table's entry: its name, its __init__ -/
inductive FI where
  | ok (fs : List (Str × D)) (S : Store)
  | err (c : Str) (fs : List (Str × D)) (S : Store)
  | stuck
structure CSem where
  name : Str
  init : List Arg → Store → FI
/-- the functions, the classes, by number -/
structure Lk where
  fns : Nat → Option FSem
  cls : Nat → Option CSem
def doNew (g : CSem) (as : List Arg) : M R := fun r S => match g.init as S with
  | .ok fs S' => .ok (.d (.ins g.name fs)) r S'
  | .err c fs S' => .err c fs r S'
  | .stuck => .stuck

/-- what an expression gives: as a value, as a test, as what is walked, as a slice's end, as a list of data, of arguments -/
structure EV where
  v : M R
  t : M Bool
  i : M (List D)
  o : M (Option Int)
  l : M (List D)
  a : M (List Arg)
def mkV (v : M R) : EV where
  v := v
  t := v.bind truthR
  i := v.bind fun x => (asD x).bind fun u => M.ofO (itemsOf u)
  o := v.bind fun x => (peek x).bind fun u => M.ofO (optI u)
  l := M.stuck
  a := M.stuck
def noV : EV := mkV M.stuck
def op2 (a b : M R) (f : D → D → Option R) : M R := a.bind fun x => b.bind fun y => (peek x).bind fun u => (peek y).bind fun v => M.ofO (f u v)
def op1 (a : M R) (f : D → Option R) : M R := a.bind fun x => (peek x).bind fun u => M.ofO (f u)
def iff {α : Type} (c : M Bool) (a b : M α) : M α := c.bind fun k => if k then a else b
def negR : D → Option R
  | .int i => some (.d (.int (-i)))
  | _ => none
def blR (b : Option Bool) : Option R := b.map fun k => .d (.bl k)
def walkM (xs : List D) : M (List D) := if szOk xs.length then M.pure xs else M.stuck
def ev (L : Lk) : IE → EV
  | .nil => { noV with l := M.pure [], a := M.pure [] }
  | .cons e es => { noV with l := (ev L e).v.bind fun x => (asD x).bind fun d => (ev L es).l.bind fun ds => M.pure (d :: ds), a := (ev L e).v.bind fun x => (asArg x).bind fun d => (ev L es).a.bind fun ds => M.pure (d :: ds) }
  | .no => { noV with t := M.pure true, o := M.pure none }
  | .var i => mkV (rd i)
  | .cint i => mkV (M.pure (.d (.int i)))
  | .cbl b => mkV (M.pure (.d (.bl b)))
  | .cnon => mkV (M.pure (.d .non))
  | .cstr s => mkV (M.pure (.d (.str s)))
  | .gint _ i => mkV (M.pure (.d (.int i)))
  | .gstr _ s => mkV (M.pure (.d (.str s)))
  | .gfn x => mkV (M.pure (.d (.fn x)))
  | .bin o a b => mkV (op2 (ev L a).v (ev L b).v (bop o))
  | .neg a => mkV (op1 (ev L a).v negR)
  | .cmp o a b => mkV (op2 (ev L a).v (ev L b).v fun u v => blR (cop o u v))
  | .cmp2 o o' a b c => mkV ((ev L a).v.bind fun x => (ev L b).v.bind fun y => (peek x).bind fun u => (peek y).bind fun v => (M.ofO (cop o u v)).bind fun k =>
      if k then (ev L c).v.bind fun z => (peek y).bind fun v => (peek z).bind fun w => M.ofO (blR (cop o' v w)) else M.pure (.d (.bl false)))
  | .and a b => { mkV ((ev L a).v.bind fun x => (truthR x).bind fun k => if k then (ev L b).v else M.pure x) with t := iff (ev L a).t (ev L b).t (M.pure false) }
  | .or a b => { mkV ((ev L a).v.bind fun x => (truthR x).bind fun k => if k then M.pure x else (ev L b).v) with t := iff (ev L a).t (M.pure true) (ev L b).t }
  | .not a => { mkV ((ev L a).v.bind fun x => (truthR x).bind fun k => M.pure (.d (.bl (!k)))) with t := (ev L a).t.bind fun k => M.pure (!k) }
  | .ife c a b => { mkV (iff (ev L c).t (ev L a).v (ev L b).v) with t := iff (ev L c).t (ev L a).t (ev L b).t }
  | .tup es => mkV ((ev L es).l.bind fun xs => M.pure (.d (.tup xs)))
  | .lst es => mkV ((ev L es).l.bind fun xs => M.pure (.fresh xs))
  | .sub a i => mkV (op2 (ev L a).v (ev L i).v fun u v => (subD u v).map .d)
  | .slc a lo hi => mkV ((ev L a).v.bind fun x => (ev L lo).o.bind fun l => (ev L hi).o.bind fun h => (peek x).bind fun u => M.ofO (slcD u l h))
  | .rev a => mkV (op1 (ev L a).v revD)
  | .attr a f => mkV (op1 (ev L a).v fun u => (attrD u f).map .d)
  | .call k es => mkV ((ev L es).a.bind fun as => match L.fns k with
    | some g => doCall g as
    | none => M.stuck)
  | .new k es => mkV ((ev L es).a.bind fun as => match L.cls k with
    | some g => doNew g as
    | none => M.stuck)
  | .b1 b a => mkV (op1 (ev L a).v (b1 b))
  | .b2 b a c => mkV (op2 (ev L a).v (ev L c).v (b2 b))
  | .isi a t => mkV (op1 (ev L a).v fun u => blR (isi u t))
  | .meth m o es => mkV ((ev L o).v.bind fun x => (kindR m x).bind fun k => (ev L es).l.bind fun ys => doMeth m x k ys)
  | .lc own tg it ifs elt => mkV ((ev L it).i.bind fun xs => (inBlk own (compL own tg (ev L ifs).t ((ev L elt).v.bind asD) xs)).bind fun ys => M.pure (.fresh ys))
  | .lc2 own own1 tg it ifs tg1 it1 ifs1 elt => mkV ((ev L it).i.bind fun xs =>
      (inBlk own (comp2L own tg (ev L ifs).t ((ev L it1).i.bind fun ys => inBlk own1 (compL own1 tg1 (ev L ifs1).t ((ev L elt).v.bind asD) ys)) xs)).bind fun ys => if szOk ys.length then M.pure (.fresh ys) else M.stuck)
  | .rng1 a => { noV with i := (ev L a).v.bind fun x => (peek x).bind fun u => (M.ofO (rngOf (.int 0) u)).bind walkM }
  | .rng2 a b => { noV with i := (ev L a).v.bind fun x => (ev L b).v.bind fun y => (peek x).bind fun u => (peek y).bind fun v => (M.ofO (rngOf u v)).bind walkM }
  | .enum a => { noV with i := (ev L a).v.bind fun x => (asD x).bind fun u => (M.ofO (itemsOf u)).bind fun xs => M.pure (enumL 0 xs) }
  | .zip2 a b => { noV with i := (ev L a).v.bind fun x => (asD x).bind fun u => (ev L b).v.bind fun y => (asD y).bind fun v => M.ofO (zipOf u v) }
  | .zip3 a b c => { noV with i := (ev L a).v.bind fun x => (asD x).bind fun u => (ev L b).v.bind fun y => (asD y).bind fun v => (ev L c).v.bind fun z => (asD z).bind fun t =>
      (M.ofO (itemsOf u)).bind fun xs => (M.ofO (itemsOf v)).bind fun ys => (M.ofO (itemsOf t)).bind fun zs => M.pure (zip3L xs ys zs) }
  | .scut i hi => mkV (scutM i hi)
  | .tupr a => mkV ((ev L a).v.bind fun x => (peek x).bind fun u => (M.ofO (rngOf (.int 0) u)).bind fun xs => (walkM xs).bind fun xs => M.pure (.d (.tup xs)))
/-! ### statements -/
/-- how a statement ends -/
inductive Fl where | next | ret (x : R) | brk | cont
def setK (i : Nat) (k : Vk) (x : R) : M Unit := fun r S => match k, x with
  | .own, .fresh xs => setSl i (.own xs) r S
  | .loc, .fresh xs => if i < r.length then .ok () (r.set i (.loc S.length)) (S ++ [xs]) else .stuck
  | _, .lam g => setSl i (.lam g) r S
  | _, .loc l => setSl i (.loc l) r S
  | _, x => ((asD x).bind fun d => setSl i (.d d)) r S
def setAll (is : List (Nat × Vk)) (xs : List R) : M Unit := fun r S => match is, xs with
  | [], [] => .ok () r S
  | (i, k) :: is, x :: xs => ((setK i k x).bind fun _ => setAll is xs) r S
  | _, _ => .stuck
/-- an own list as data, all else as it is -/
def asV (x : R) : M R := fun r S => match x with
  | .own i => ((asD (.own i)).bind fun d => M.pure (R.d d)) r S
  | x => .ok x r S
def vals (L : Lk) : IE → M (List R)
  | .nil => M.pure []
  | .cons e es => (ev L e).v.bind fun x => (asV x).bind fun x => (vals L es).bind fun xs => M.pure (x :: xs)
  | _ => M.stuck
def putAt (i : Nat) (ix x : D) : M Unit := fun r S => match r[i]?, ix with
  | some (.own xs), .int k => match ixOf xs.length k with
    | some j => .ok () (r.set i (.own (xs.set j x))) S
    | none => .stuck
  | some (.loc l), .int k => match S[l]? with
    | some xs => match ixOf xs.length k with
      | some j => .ok () r (S.set l (xs.set j x))
      | none => .stuck
    | none => .stuck
  | _, _ => .stuck
/-- a list that may be written stands there -/
def isLst (i : Nat) : M Unit := fun r S => match r[i]? with
  | some (.own _) => .ok () r S
  | some (.loc _) => .ok () r S
  | _ => .stuck
/-- an object that is being made stands there -/
def isObj (i : Nat) : M Unit := fun r S => match r[i]? with
  | some (.obj _ _) => .ok () r S
  | _ => .stuck
def putF (f : Str) (x : D) : List (Str × D) → List (Str × D)
  | [] => [(f, x)]
  | (g, y) :: r => if g = f then (g, x) :: r else (g, y) :: putF f x r
def putFld (i : Nat) (f : Str) (x : D) : M Unit := fun r S => match r[i]? with
  | some (.obj c fs) => if fs.length < 1000 ∧ f ∈ fldNames then .ok () (r.set i (.obj c (putF f x fs))) S else .stuck
  | _ => .stuck
def forL (tg : Tg) (b : M Fl) : List D → M Fl
  | [] => M.pure .next
  | x :: xs => (bindTg tg x).bind fun _ => b.bind fun f => match f with
    | .next => forL tg b xs
    | .cont => forL tg b xs
    | .brk => M.pure .next
    | .ret x => M.pure (.ret x)
def whlN (c : M Bool) (b : M Fl) : Nat → M Fl
  | 0 => M.stuck
  | n + 1 => c.bind fun k => if k then b.bind fun f => match f with
      | .next => whlN c b n
      | .cont => whlN c b n
      | .brk => M.pure .next
      | .ret x => M.pure (.ret x)
    else M.pure .next
def whlFuel : Nat := 2 ^ 64
def exS (L : Lk) : IS → M Fl
  | .nil => M.pure .next
  | .cons s ss => (exS L s).bind fun f => match f with
    | .next => exS L ss
    | f => M.pure f
  | .set i k e => (ev L e).v.bind fun x => (setK i k x).bind fun _ => M.pure .next
  | .setT is e => (ev L e).v.bind fun x => (asD x).bind fun d => (bindTg (.many is) d).bind fun _ => M.pure .next
  | .par ks es => (vals L es).bind fun xs => (setAll ks xs).bind fun _ => M.pure .next
  | .subs i ix e => (ev L e).v.bind fun x => (asD x).bind fun d => (isLst i).bind fun _ => (ev L ix).v.bind fun y => (peek y).bind fun u => (putAt i u d).bind fun _ => M.pure .next
  | .fld i f e => (ev L e).v.bind fun x => (asD x).bind fun d => (putFld i f d).bind fun _ => M.pure .next
  | .expr e => (ev L e).v.bind fun _ => M.pure .next
  | .ret e => (ev L e).v.bind fun x => M.pure (.ret x)
  | .retN => M.pure (.ret (.d .non))
  | .ife c a b => iff (ev L c).t (exS L a) (exS L b)
  | .loop tg it body => (ev L it).i.bind fun xs => forL tg (exS L body) xs
  | .whl c body => whlN (ev L c).t (exS L body) whlFuel
  | .never => M.stuck
/-! ### defs -/
def slOf : Arg → Sl
  | .scr ns => .scr ns
  | .d x => .d x
  | .loc l => .loc l
  | .lam g => .lam g
/-- a frame's end -/
def endFR (n : Nat) : Out Fl → FR
  | .ok .next _ S => .ok .non (S.take n)
  | .ok (.ret (.d x)) _ S => .ok x (S.take n)
  | .ok (.ret (.fresh xs)) _ S => .fresh xs (S.take n)
  | .ok (.ret (.own i)) r S => match r[i]? with
    | some (.own xs) => .fresh xs (S.take n)
    | some (.d x) => .ok x (S.take n)
    | _ => .stuck
  | .err c fs _ S => .err c fs (S.take n)
  | _ => .stuck
/-- a def of np parameters and n slots -/
def runF (np n : Nat) (body : IS) (L : Lk) : FSem := fun as S =>
  if as.length = np then endFR S.length (exS L body (as.map slOf ++ List.replicate (n - np) .none) S) else .stuck
def runI (c : Str) (np n : Nat) (body : IS) (L : Lk) : CSem where
  name := c
  init := fun as S => if as.length + 1 = np then match (exS L body (.obj c [] :: as.map slOf ++ List.replicate (n - np) .none) S : Out Fl) with
      | .ok .next r S' => match (r[0]? : Option Sl) with
        | some (.obj c' fs) => if c' = c then .ok fs (S'.take S.length) else .stuck
        | _ => .stuck
      | .err c fs _ S' => .err c fs (S'.take S.length)
      | _ => .stuck
    else .stuck
end DL
end

section
/-! The data layer, part 2: how data stands in the abstract heap, how a frame stands in it. -/
namespace DL
open PySem PySem.Spec PyProof.Rows L2

/-- the module's names, its written part -/
structure Gm where
  f : Str → Option Value
  K : PySem.W.Frag
instance : CoeFun Gm (fun _ => Str → Option Value) := ⟨Gm.f⟩
/-- what a class of the module must have -/
structure ClsOk (K : PySem.W.Frag) (C : Addr) : Prop where
  cl : Cls K C
  ha : PySem.W.findIn K (.ref C) "__class__" = some (some (.builtin "object.__class__"))
  hn : PySem.W.specialIn K (.builtin "object.__class__") "__get__" = some (some (.builtin "getset_descriptor.__get__"))
  ht : PySem.W.takesIn K (.builtin "object.__class__") = some true
  hm : PySem.W.mroIn K C (.type "object") = some true
  it : ∀ n ∈ tyNames, PySem.W.kitOne K (.ref C) (.type n) = some false
  ti : ∀ n ∈ tyNames, PySem.W.kitOne K (.type n) (.ref C) = some false
  na : ∀ f ∈ fldNames, NoAttr K C f
def ClsAt (mg : Gm) (c : Str) (C : Addr) : Prop := mg c = some (.ref C) ∧ ClsOk mg.K C
/-- a tuple, its record known -/
def TupAt (H : Hp) (a : Addr) (vs : List V) : Prop := ∃ ob : Obj, H a = some (.frz ob (.tup vs)) ∧ ob.dict = none
theorem TupAt.sq {K : PySem.W.Frag} {H : Hp} {a : Addr} {vs : List V} (h : TupAt H a vs) : SqT K H a vs := let ⟨ob, e, _⟩ := h; .inl (.inr ⟨ob, e⟩)
theorem TupAt.keep {H H' : Hp} {a : Addr} {vs : List V} (h : TupAt H a vs) (k : ∀ o, H a = some o → H' a = some o) : TupAt H' a vs := let ⟨ob, e, d⟩ := h; ⟨ob, k _ e, d⟩
mutual
/-- v stands for the data d; nothing of it is in Av -/
inductive Rep (mg : Gm) (H : Hp) (Av : Addr → Prop) : V → D → Prop
  | non : Rep mg H Av .non .non
  | bl (b : Bool) : Rep mg H Av (.bl b) (.bl b)
  | int (i : Int) : Rep mg H Av (.int i) (.int i)
  | str (x : Str) : Rep mg H Av (.str x) (.str x)
  | tup {a : Addr} {vs : List V} {ds : List D} : TupAt H a vs → ¬ Av a → RepL mg H Av vs ds → Rep mg H Av (.ref a) (.tup ds)
  | lst {a : Addr} {vs : List V} {ds : List D} : H a = some (.lst vs) → ¬ Av a → RepL mg H Av vs ds → Rep mg H Av (.ref a) (.lst ds)
  | ins {a C dx : Addr} {c : Str} {vfs : List (Str × V)} {fs : List (Str × D)} : H a = some (.ins C dx vfs) → ¬ Av a → ClsAt mg c C → RepF mg H Av vfs fs → Rep mg H Av (.ref a) (.ins c fs)
  | fn {x : Str} {f : Addr} : mg x = some (.ref f) → Rep mg H Av (.ref f) (.fn x)
inductive RepL (mg : Gm) (H : Hp) (Av : Addr → Prop) : List V → List D → Prop
  | nil : RepL mg H Av [] []
  | cons {v : V} {vs : List V} {d : D} {ds : List D} : Rep mg H Av v d → RepL mg H Av vs ds → RepL mg H Av (v :: vs) (d :: ds)
inductive RepF (mg : Gm) (H : Hp) (Av : Addr → Prop) : List (Str × V) → List (Str × D) → Prop
  | nil : RepF mg H Av [] []
  | cons {f : Str} {v : V} {vs : List (Str × V)} {d : D} {ds : List (Str × D)} : Rep mg H Av v d → RepF mg H Av vs ds → RepF mg H Av ((f, v) :: vs) ((f, d) :: ds)
end

section
variable {mg : Gm} {H H' : Hp} {Av Av' : Addr → Prop}
theorem Rd.keep {a : Addr} {u : HO} (h : Rd H a u) (k : ∀ o, H a = some o → H' a = some o) : Rd H' a u := by
  rcases h with h | ⟨o, h⟩
  · exact .inl (k _ h)
  · exact .inr ⟨o, k _ h⟩
theorem Rd.dom {a : Addr} {u : HO} (h : Rd H a u) : ∃ o, H a = some o := by
  rcases h with h | ⟨o, h⟩
  · exact ⟨_, h⟩
  · exact ⟨_, h⟩
mutual
theorem Rep.keep (k : ∀ a o, H a = some o → ¬ Av a → H' a = some o) (m : ∀ a o, H a = some o → Av' a → Av a) : ∀ {v : V} {d : D}, Rep mg H Av v d → Rep mg H' Av' v d
  | _, _, .non => .non
  | _, _, .bl b => .bl b
  | _, _, .int i => .int i
  | _, _, .str x => .str x
  | _, _, .tup h n r => .tup (h.keep fun o e => k _ o e n) (fun z => let ⟨_, e, _⟩ := h; n (m _ _ e z)) (RepL.keep k m r)
  | _, _, .lst h n r => .lst (k _ _ h n) (fun z => n (m _ _ h z)) (RepL.keep k m r)
  | _, _, .ins h n c r => .ins (k _ _ h n) (fun z => n (m _ _ h z)) c (RepF.keep k m r)
  | _, _, .fn h => .fn h
theorem RepL.keep (k : ∀ a o, H a = some o → ¬ Av a → H' a = some o) (m : ∀ a o, H a = some o → Av' a → Av a) : ∀ {vs : List V} {ds : List D}, RepL mg H Av vs ds → RepL mg H' Av' vs ds
  | _, _, .nil => .nil
  | _, _, .cons r t => .cons (Rep.keep k m r) (RepL.keep k m t)
theorem RepF.keep (k : ∀ a o, H a = some o → ¬ Av a → H' a = some o) (m : ∀ a o, H a = some o → Av' a → Av a) : ∀ {vs : List (Str × V)} {ds : List (Str × D)}, RepF mg H Av vs ds → RepF mg H' Av' vs ds
  | _, _, .nil => .nil
  | _, _, .cons r t => .cons (Rep.keep k m r) (RepF.keep k m t)
end
theorem Rep.same {v : V} {d : D} (h : Rep mg H Av v d) (s : Same H H') : Rep mg H' Av v d := h.keep (fun a o e _ => s a o e) fun _ _ _ z => z
theorem RepL.same {v : List V} {d : List D} (h : RepL mg H Av v d) (s : Same H H') : RepL mg H' Av v d := h.keep (fun a o e _ => s a o e) fun _ _ _ z => z
theorem RepF.same {v : List (Str × V)} {d : List (Str × D)} (h : RepF mg H Av v d) (s : Same H H') : RepF mg H' Av v d := h.keep (fun a o e _ => s a o e) fun _ _ _ z => z
theorem RepL.length : ∀ {vs : List V} {ds : List D}, RepL mg H Av vs ds → vs.length = ds.length
  | _, _, .nil => rfl
  | _, _, .cons _ t => congrArg Nat.succ (RepL.length t)
theorem RepL.append : ∀ {vs us : List V} {ds es : List D}, RepL mg H Av vs ds → RepL mg H Av us es → RepL mg H Av (vs ++ us) (ds ++ es)
  | _, _, _, _, .nil, s => s
  | _, _, _, _, .cons r t, s => .cons r (RepL.append t s)
theorem RepL.get : ∀ {vs : List V} {ds : List D} {i : Nat} {d : D}, RepL mg H Av vs ds → ds[i]? = some d → ∃ v, vs[i]? = some v ∧ Rep mg H Av v d
  | _, _, _, _, .nil, e => by simp at e
  | _, _, 0, _, .cons r _, e => by simp at e; subst e; exact ⟨_, rfl, r⟩
  | _, _, i + 1, _, .cons _ t, e => by
    obtain ⟨v, h1, h2⟩ := RepL.get (i := i) t (by simpa using e)
    exact ⟨v, by simpa using h1, h2⟩
theorem RepL.getV : ∀ {vs : List V} {ds : List D} {i : Nat} {v : V}, RepL mg H Av vs ds → vs[i]? = some v → ∃ d, ds[i]? = some d ∧ Rep mg H Av v d
  | _, _, _, _, .nil, e => by simp at e
  | _, _, 0, _, .cons r _, e => by simp at e; subst e; exact ⟨_, rfl, r⟩
  | _, _, i + 1, _, .cons _ t, e => by
    obtain ⟨v, h1, h2⟩ := RepL.getV (i := i) t (by simpa using e)
    exact ⟨v, by simpa using h1, h2⟩
theorem RepL.drop : ∀ {vs : List V} {ds : List D} (n : Nat), RepL mg H Av vs ds → RepL mg H Av (vs.drop n) (ds.drop n)
  | _, _, 0, r => r
  | _, _, _ + 1, .nil => .nil
  | _, _, n + 1, .cons _ t => RepL.drop n t
theorem RepL.take : ∀ {vs : List V} {ds : List D} (n : Nat), RepL mg H Av vs ds → RepL mg H Av (vs.take n) (ds.take n)
  | _, _, 0, _ => .nil
  | _, _, _ + 1, .nil => .nil
  | _, _, n + 1, .cons r t => .cons r (RepL.take n t)
theorem RepL.set : ∀ {vs : List V} {ds : List D} (i : Nat) {v : V} {d : D}, Rep mg H Av v d → RepL mg H Av vs ds → RepL mg H Av (vs.set i v) (ds.set i d)
  | _, _, _, _, _, _, .nil => .nil
  | _, _, 0, _, _, r, .cons _ t => .cons r t
  | _, _, i + 1, _, _, r, .cons q t => .cons q (RepL.set i r t)
theorem RepL.dropLast {vs : List V} {ds : List D} (r : RepL mg H Av vs ds) : RepL mg H Av vs.dropLast ds.dropLast := by
  rw [List.dropLast_eq_take, List.dropLast_eq_take, r.length]
  exact r.take _
theorem RepL.reverse {vs : List V} {ds : List D} (r : RepL mg H Av vs ds) : RepL mg H Av vs.reverse ds.reverse := by
  have go : ∀ {vs : List V} {ds : List D} {us : List V} {es : List D}, RepL mg H Av vs ds → RepL mg H Av us es → RepL mg H Av (vs.reverse ++ us) (ds.reverse ++ es) := by
    intro vs ds
    induction vs generalizing ds with
    | nil => intro us es h1 h2; cases h1; simpa using h2
    | cons v vs ih =>
      intro us es h1 h2
      cases h1 with
      | cons q t =>
        simp only [List.reverse_cons, List.append_assoc, List.singleton_append]
        exact ih t (.cons q h2)
  simpa using go r .nil
theorem RepL.ints : ∀ {vs : List V} {ds : List D} {ns : List Int}, RepL mg H Av vs ds → toInts ds = some ns → vs = ns.map V.int
  | _, _, _, .nil, e => by simp [toInts] at e; subst e; rfl
  | _, d :: ds, ns, .cons r t, e => by
    cases d with
    | int i =>
      simp only [toInts, Option.map_eq_some_iff] at e
      obtain ⟨ms, e1, rfl⟩ := e
      cases r
      rw [RepL.ints t e1]; rfl
    | _ => simp [toInts] at e
theorem RepL.bools : ∀ {vs : List V} {ds : List D} {ns : List Bool}, RepL mg H Av vs ds → bools ds = some ns → vs = ns.map V.bl
  | _, _, _, .nil, e => by simp [DL.bools] at e; subst e; rfl
  | _, d :: ds, ns, .cons r t, e => by
    cases d with
    | bl i =>
      simp only [DL.bools, Option.map_eq_some_iff] at e
      obtain ⟨ms, e1, rfl⟩ := e
      cases r
      rw [RepL.bools t e1]; rfl
    | _ => simp [DL.bools] at e
theorem RepF.lookup {f : Str} : ∀ {vs : List (Str × V)} {ds : List (Str × D)} {d : D}, RepF mg H Av vs ds → ds.lookup f = some d → ∃ v, vs.lookup f = some v ∧ Rep mg H Av v d
  | _, _, _, .nil, e => by simp at e
  | _, _, d, .cons (f := g) (vs := vs) (ds := ds) r t, e => by
    by_cases h : f == g
    · simp only [List.lookup_cons, h] at e ⊢
      cases e
      exact ⟨_, rfl, r⟩
    · simp only [List.lookup_cons, h] at e ⊢
      exact RepF.lookup t e
theorem RepF.lookup_none {f : Str} : ∀ {vs : List (Str × V)} {ds : List (Str × D)}, RepF mg H Av vs ds → ds.lookup f = none → vs.lookup f = none
  | _, _, .nil, e => rfl
  | _, _, .cons (f := g) r t, e => by
    by_cases h : f == g
    · simp [List.lookup_cons, h] at e
    · simp only [List.lookup_cons, h] at e ⊢
      exact RepF.lookup_none t e
theorem RepF.length : ∀ {vs : List (Str × V)} {ds : List (Str × D)}, RepF mg H Av vs ds → vs.length = ds.length
  | _, _, .nil => rfl
  | _, _, .cons _ t => congrArg Nat.succ (RepF.length t)
theorem RepF.put {f : Str} {v : V} {d : D} (q : Rep mg H Av v d) : ∀ {vs : List (Str × V)} {ds : List (Str × D)}, RepF mg H Av vs ds → RepF mg H Av (L2.putF f v vs) (putF f d ds)
  | _, _, .nil => .cons q .nil
  | _, _, .cons (f := g) r t => by
    unfold L2.putF putF
    by_cases h : g = f
    · rw [if_pos h, if_pos h]; exact .cons q t
    · rw [if_neg h, if_neg h]; exact .cons r (RepF.put q t)
mutual
theorem Rep.dp {K : PySem.W.Frag} : ∀ {v : V} {d : D} {p : PyData}, Rep mg H Av v d → d.py = some p → Dp K H v p
  | _, _, _, .non, e => by simp [D.py] at e; subst e; exact .non
  | _, _, _, .bl b, e => by simp [D.py] at e; subst e; exact .bl b
  | _, _, _, .int i, e => by simp [D.py] at e; subst e; exact .int i
  | _, _, _, .str x, e => by simp [D.py] at e; subst e; exact .str x
  | _, _, _, .tup h n r, e => by
    simp only [D.py, Option.map_eq_some_iff] at e
    obtain ⟨ps, e1, rfl⟩ := e
    exact .tup h.sq (RepL.dp r e1)
  | _, _, _, .lst h n r, e => by
    simp only [D.py, Option.map_eq_some_iff] at e
    obtain ⟨ps, e1, rfl⟩ := e
    exact .lst (SqL.of h) (RepL.dp r e1)
  | _, _, _, .ins .., e => by simp [D.py] at e
  | _, _, _, .fn _, e => by simp [D.py] at e
theorem RepL.dp {K : PySem.W.Frag} : ∀ {v : List V} {d : List D} {p : List PyData}, RepL mg H Av v d → D.pyAll d = some p → DpAll K H v p
  | _, _, _, .nil, e => by simp [D.pyAll] at e; subst e; exact .nil
  | _, d :: ds, p, .cons r t, e => by
    simp only [D.pyAll] at e
    cases e1 : d.py with
    | none => rw [e1] at e; cases e
    | some x =>
      cases e2 : D.pyAll ds with
      | none => rw [e1, e2] at e; cases e
      | some xs =>
        rw [e1, e2] at e; cases e
        exact .cons (Rep.dp r e1) (RepL.dp t e2)
end
end

/-- seen as d: its own place may be in Av -/
inductive Lk1 (mg : Gm) (H : Hp) (Av : Addr → Prop) : V → D → Prop
  | of {v : V} {d : D} : Rep mg H Av v d → Lk1 mg H Av v d
  | lst {p : Addr} {vs : List V} {xs : List D} : H p = some (.lst vs) → RepL mg H Av vs xs → Lk1 mg H Av (.ref p) (.lst xs)

/-! ### frames -/
def isPriv : Sl → Bool
  | .own _ => true
  | .obj _ _ => true
  | _ => false
def Pv (σ : L2.St) (ρ : List Sl) (a : Addr) : Prop := ∃ (i : Nat) (s : Sl), ρ[i]? = some s ∧ isPriv s = true ∧ σ[i]? = some (some (.ref a))
def Av (A : Addr → Prop) (μ : List Addr) (σ : L2.St) (ρ : List Sl) (a : Addr) : Prop := A a ∨ a ∈ μ ∨ Pv σ ρ a
/-- a function value that does g when it is called (nothing yet) -/
def LamR (mg : Gm) (H : Hp) (Av : Addr → Prop) (f : Addr) (g : Store → FR) : Prop := False
/-- the script: a list of ints from outside, read alone -/
def ScrR (mg : Gm) (H : Hp) (Av : Addr → Prop) (a : Addr) (ns : List Int) : Prop := (∃ o, H a = some (.frz o (.lst (ns.map V.int))) ∧ ¬ Av a) ∨ (∀ H', SqL mg.K H' a (ns.map V.int))
theorem ScrR.keep {mg : Gm} {H H' : Hp} {Av Av' : Addr → Prop} (k : ∀ a o, H a = some o → ¬ Av a → H' a = some o) (m : ∀ a o, H a = some o → Av' a → Av a) {a : Addr} {ns : List Int} (h : ScrR mg H Av a ns) : ScrR mg H' Av' a ns := by
  rcases h with ⟨o, e, n⟩ | h
  · exact .inl ⟨o, k _ _ e n, fun z => n (m _ _ e z)⟩
  · exact .inr h
theorem ScrR.same {mg : Gm} {H H' : Hp} {Av : Addr → Prop} {a : Addr} {ns : List Int} (h : ScrR mg H Av a ns) (s : Same H H') : ScrR mg H' Av a ns := h.keep (fun a o e _ => s a o e) fun _ _ _ z => z
theorem ScrR.sq {mg : Gm} {H : Hp} {Av : Addr → Prop} {a : Addr} {ns : List Int} (h : ScrR mg H Av a ns) : SqL mg.K H a (ns.map V.int) := by
  rcases h with ⟨o, e, n⟩ | h
  · exact .inl (.inr ⟨o, e⟩)
  · exact h H
def SlR (mg : Gm) (H : Hp) (Av : Addr → Prop) (μ : List Addr) (e : Option V) : Sl → Prop
  | .none => True
  | .d x => ∃ v, e = some v ∧ Rep mg H Av v x
  | .own xs => ∃ p vs, e = some (.ref p) ∧ H p = some (.lst vs) ∧ RepL mg H Av vs xs
  | .loc l => ∃ a, e = some (.ref a) ∧ μ[l]? = some a
  | .lam g => ∃ f, e = some (.ref f) ∧ LamR mg H Av f g
  | .scr ns => ∃ a, e = some (.ref a) ∧ ScrR mg H Av a ns
  | .obj c fs => ∃ p C dx vfs, e = some (.ref p) ∧ H p = some (.ins C dx vfs) ∧ ClsAt mg c C ∧ RepF mg H Av vfs fs

structure SR (mg : Gm) (A : Addr → Prop) (G : Hp) (μ : List Addr) (σ : L2.St) (H : Hp) (ρ : List Sl) (S : Store) : Prop where
  len : σ.length = ρ.length
  slot : ∀ (i : Nat) (s : Sl) (e : Option V), ρ[i]? = some s → σ[i]? = some e → SlR mg H (Av A μ σ ρ) μ e s
  inj : ∀ (i j : Nat) (s t : Sl) (a : Addr), ρ[i]? = some s → ρ[j]? = some t → isPriv s = true → isPriv t = true → σ[i]? = some (some (.ref a)) → σ[j]? = some (some (.ref a)) → i = j
  priv : ∀ a, Pv σ ρ a → ¬ A a ∧ a ∉ μ
  sl : S.length = μ.length
  st : ∀ (l : Nat) (a : Addr) (xs : List D), μ[l]? = some a → S[l]? = some xs → ∃ vs, H a = some (.lst vs) ∧ RepL mg H (Av A μ σ ρ) vs xs
  nd : μ.Nodup
  av : ∀ a, A a → a ∉ μ ∧ ∃ o, H a = some o
  gd : ∀ a o, G a = some o → H a = some o ∧ a ∉ μ ∧ ¬ Pv σ ρ a
def PM (σ : L2.St) (ρ ρ' : List Sl) : Prop := ∀ a, Pv σ ρ' a → Pv σ ρ a
/-- what an expression's value is -/
def RR (mg : Gm) (G H : Hp) (Av : Addr → Prop) (μ : List Addr) (σ : L2.St) (v : V) : R → Prop
  | .d x => Rep mg H Av v x
  | .fresh xs => ∃ p vs, v = .ref p ∧ H p = some (.lst vs) ∧ RepL mg H (fun a => Av a ∨ a = p) vs xs ∧ ¬ Av p ∧ G p = none
  | .own i => σ[i]? = some (some v)
  | .loc l => ∃ a, v = .ref a ∧ μ[l]? = some a
  | .lam g => ∃ f, v = .ref f ∧ LamR mg H Av f g
  | .scr ns => ∃ a, v = .ref a ∧ ScrR mg H Av a ns

theorem RepL.wk {mg : Gm} {H : Hp} {Av : Addr → Prop} {p : Addr} {vs : List V} {xs : List D} (r : RepL mg H (fun a => Av a ∨ a = p) vs xs) : RepL mg H Av vs xs := r.keep (fun _ _ e _ => e) fun _ _ _ z => .inl z
open Classical in
/-- all that is tracked but what may change -/
noncomputable def fullG (H : Hp) (μ : List Addr) (σ : L2.St) (ρ : List Sl) : Hp := fun a => if a ∈ μ ∨ Pv σ ρ a then none else H a
theorem fullG_of {H : Hp} {μ : List Addr} {σ : L2.St} {ρ : List Sl} {a : Addr} {o : HO} (h : H a = some o) (h1 : a ∉ μ) (h2 : ¬ Pv σ ρ a) : fullG H μ σ ρ a = some o := by
  unfold fullG
  rw [if_neg (by rintro (z | z); exact h1 z; exact h2 z)]
  exact h
theorem of_fullG {H : Hp} {μ : List Addr} {σ : L2.St} {ρ : List Sl} {a : Addr} {o : HO} (h : fullG H μ σ ρ a = some o) : H a = some o ∧ a ∉ μ ∧ ¬ Pv σ ρ a := by
  unfold fullG at h
  by_cases z : a ∈ μ ∨ Pv σ ρ a
  · rw [if_pos z] at h; cases h
  · rw [if_neg z] at h
    exact ⟨h, fun q => z (.inl q), fun q => z (.inr q)⟩
section
variable {mg : Gm} {A : Addr → Prop} {G G' : Hp} {μ : List Addr} {σ : L2.St} {H H' : Hp} {ρ ρ' : List Sl} {S S' : Store}
theorem SR.full (s : SR mg A G μ σ H ρ S) : SR mg A (fullG H μ σ ρ) μ σ H ρ S := ⟨s.len, s.slot, s.inj, s.priv, s.sl, s.st, s.nd, s.av, fun _ _ e => of_fullG e⟩
theorem SR.weakG (s : SR mg A G μ σ H ρ S) (h : ∀ a o, G' a = some o → G a = some o) : SR mg A G' μ σ H ρ S := ⟨s.len, s.slot, s.inj, s.priv, s.sl, s.st, s.nd, s.av, fun a o e => s.gd a o (h a o e)⟩
theorem SR.back {ρ1 : List Sl} {S1 : Store} {H1 : Hp} (s : SR mg A (fullG H1 μ σ ρ1) μ σ H ρ S) (s1 : SR mg A G μ σ H1 ρ1 S1) : SR mg A G μ σ H ρ S := s.weakG fun a o e => let ⟨h1, h2, h3⟩ := s1.gd a o e; fullG_of h1 h2 h3
theorem SR.dom (s : SR mg A G μ σ H ρ S) {a : Addr} (h : Av A μ σ ρ a) : ∃ o, H a = some o := by
  rcases h with h | h | ⟨i, t, h1, h2, h3⟩
  · exact (s.av a h).2
  · obtain ⟨l, hl⟩ := List.getElem?_of_mem h
    have hs : l < S.length := by rw [s.sl]; exact (List.getElem?_eq_some_iff.mp hl).1
    obtain ⟨vs, e, _⟩ := s.st l a _ hl (List.getElem?_eq_getElem hs)
    exact ⟨_, e⟩
  · have q := s.slot i t _ h1 h3
    cases t with
    | own xs => obtain ⟨p, vs, e, h, _⟩ := q; cases e; exact ⟨_, h⟩
    | obj c fs => obtain ⟨p, C, dx, vfs, e, h, _⟩ := q; cases e; exact ⟨_, h⟩
    | _ => cases h2
theorem SR.fresh (s : SR mg A G μ σ H ρ S) {a : Addr} (h : H a = none) : ¬ Av A μ σ ρ a := fun z => by
  obtain ⟨o, e⟩ := s.dom z
  rw [h] at e; cases e
/-- more is tracked -/
theorem SR.same (s : SR mg A G μ σ H ρ S) (k : Same H H') : SR mg A G μ σ H' ρ S := by
  refine ⟨s.len, fun i t e h1 h2 => ?_, s.inj, s.priv, s.sl, fun l a xs h1 h2 => ?_, s.nd, fun a h => ⟨(s.av a h).1, let ⟨o, e⟩ := (s.av a h).2; ⟨o, k a o e⟩⟩, fun a o e => let ⟨h1, h2⟩ := s.gd a o e; ⟨k a o h1, h2⟩⟩
  · have q := s.slot i t e h1 h2
    cases t with
    | none => trivial
    | d x => obtain ⟨v, e1, r⟩ := q; exact ⟨v, e1, r.same k⟩
    | own xs => obtain ⟨p, vs, e1, h, r⟩ := q; exact ⟨p, vs, e1, k _ _ h, r.same k⟩
    | loc l => exact q
    | lam g => obtain ⟨f, e1, r⟩ := q; exact r.elim
    | scr ns => obtain ⟨a, e1, r⟩ := q; exact ⟨a, e1, r.same k⟩
    | obj c fs => obtain ⟨p, C, dx, vfs, e1, h, hc, r⟩ := q; exact ⟨p, C, dx, vfs, e1, k _ _ h, hc, r.same k⟩
  · obtain ⟨vs, e, r⟩ := s.st l a xs h1 h2
    exact ⟨vs, k _ _ e, r.same k⟩
theorem RR.same {Av : Addr → Prop} {v : V} {r : R} (h : RR mg G H Av μ σ v r) (k : Same H H') : RR mg G H' Av μ σ v r := by
  cases r with
  | d x => exact Rep.same h k
  | fresh xs => obtain ⟨p, vs, e, h1, h2, h3, h4⟩ := h; exact ⟨p, vs, e, k _ _ h1, h2.same k, h3, h4⟩
  | own i => exact h
  | loc l => exact h
  | lam g => obtain ⟨f, _, z⟩ := h; exact z.elim
  | scr ns => obtain ⟨a, e, z⟩ := h; exact ⟨a, e, z.same k⟩
theorem RR.lessG {G' : Hp} {Av : Addr → Prop} {v : V} {r : R} (h : RR mg G H Av μ σ v r) (k : ∀ a o, G' a = some o → G a = some o) : RR mg G' H Av μ σ v r := by
  cases r with
  | fresh xs =>
    obtain ⟨p, vs, e, h1, h2, h3, h4⟩ := h
    refine ⟨p, vs, e, h1, h2, h3, ?_⟩
    cases z : G' p with
    | none => rfl
    | some o => rw [k p o z] at h4; cases h4
  | _ => exact h
/-- D, too, is avoided -/
def withD (A : Addr → Prop) (D : Addr) : Addr → Prop := fun a => A a ∨ a = D
theorem PM.refl : PM σ ρ ρ := fun _ h => h
theorem PM.trans {ρ1 : List Sl} (a : PM σ ρ ρ1) (b : PM σ ρ1 ρ') : PM σ ρ ρ' := fun x h => a x (b x h)
/-- behind a further step that kept all but what may change -/
theorem keep_step (s1 : SR mg A G' μ σ H' ρ' S') (pm : PM σ ρ ρ') (hG : ∀ a o, H a = some o → a ∉ μ → ¬ Pv σ ρ a → H' a = some o) :
    (∀ a o, H a = some o → ¬ Av A μ σ ρ a → H' a = some o) ∧ ∀ a o, H a = some o → Av A μ σ ρ' a → Av A μ σ ρ a := by
  refine ⟨fun a o e n => hG a o e (fun z => n (.inr (.inl z))) fun z => n (.inr (.inr z)), fun a o e z => ?_⟩
  rcases z with z | z | z
  · exact .inl z
  · exact .inr (.inl z)
  · exact .inr (.inr (pm a z))
theorem RR.step {G0 : Hp} {v : V} {r : R} (h : RR mg G0 H (Av A μ σ ρ) μ σ v r) (s1 : SR mg A (fullG H μ σ ρ) μ σ H' ρ' S') (pm : PM σ ρ ρ') : RR mg G0 H' (Av A μ σ ρ') μ σ v r := by
  obtain ⟨k, m⟩ := keep_step (H := H) s1 pm fun a o e h1 h2 => (s1.gd a o (fullG_of e h1 h2)).1
  cases r with
  | d x => exact Rep.keep k m h
  | fresh xs => obtain ⟨p, vs, e, h1, h2, h3, h4⟩ := h; exact ⟨p, vs, e, k _ _ h1 h3, h2.keep (fun a o e n => k a o e fun z => n (.inl z)) (fun a o e z => z.imp (m a o e) id), fun z => h3 (m _ _ h1 z), h4⟩
  | own i => exact h
  | loc l => exact h
  | lam g => obtain ⟨f, _, z⟩ := h; exact z.elim
  | scr ns => obtain ⟨a, e, z⟩ := h; exact ⟨a, e, z.keep k m⟩
theorem Rep.step {v : V} {d : D} (h : Rep mg H (Av A μ σ ρ) v d) (s1 : SR mg A (fullG H μ σ ρ) μ σ H' ρ' S') (pm : PM σ ρ ρ') : Rep mg H' (Av A μ σ ρ') v d := by
  obtain ⟨k, m⟩ := keep_step (H := H) s1 pm fun a o e h1 h2 => (s1.gd a o (fullG_of e h1 h2)).1
  exact Rep.keep k m h
theorem RepL.step {v : List V} {d : List D} (h : RepL mg H (Av A μ σ ρ) v d) (s1 : SR mg A (fullG H μ σ ρ) μ σ H' ρ' S') (pm : PM σ ρ ρ') : RepL mg H' (Av A μ σ ρ') v d := by
  obtain ⟨k, m⟩ := keep_step (H := H) s1 pm fun a o e h1 h2 => (s1.gd a o (fullG_of e h1 h2)).1
  exact RepL.keep k m h

theorem get_set_self {α : Type} {l : List α} {i : Nat} {x y : α} (h : l[i]? = some x) : (l.set i y)[i]? = some y := by
  rw [List.getElem?_set_self (List.getElem?_eq_some_iff.mp h).1]
/-- a slot's data gets another word, where nothing more is private -/
theorem pv_set {i : Nat} {t u : Sl} (h : ρ[i]? = some t) (hu : isPriv u = false) {a : Addr} (z : Pv σ (ρ.set i u) a) : Pv σ ρ a ∧ (isPriv t = true → σ[i]? = some (some (.ref a)) → ∃ j s, j ≠ i ∧ ρ[j]? = some s ∧ isPriv s = true ∧ σ[j]? = some (some (.ref a))) := by
  obtain ⟨j, s, h1, h2, h3⟩ := z
  by_cases hj : j = i
  · subst hj
    rw [get_set_self h] at h1; cases h1
    rw [hu] at h2; cases h2
  · rw [List.getElem?_set_ne (Ne.symm hj)] at h1
    exact ⟨⟨j, s, h1, h2, h3⟩, fun _ _ => ⟨j, s, hj, h1, h2, h3⟩⟩
/-- an own list is own no more -/
theorem SR.freeze {i : Nat} {xs : List D} {v : V} (s : SR mg A G μ σ H ρ S) (h : ρ[i]? = some (.own xs)) (hv : σ[i]? = some (some v)) :
    SR mg A G μ σ H (ρ.set i (.d (.lst xs))) S ∧ PM σ ρ (ρ.set i (.d (.lst xs))) ∧ Rep mg H (Av A μ σ (ρ.set i (.d (.lst xs)))) v (.lst xs) := by
  obtain ⟨p, vs, e, hp, rl⟩ := s.slot i _ _ h hv
  cases e
  have pm : PM σ ρ (ρ.set i (.d (.lst xs))) := fun a z => (pv_set h rfl z).1
  have hpv : Pv σ ρ p := ⟨i, _, h, rfl, hv⟩
  have m : ∀ a o, H a = some o → Av A μ σ (ρ.set i (.d (.lst xs))) a → Av A μ σ ρ a := fun a o _ z => by
    rcases z with z | z | z
    · exact .inl z
    · exact .inr (.inl z)
    · exact .inr (.inr (pm a z))
  have np : ¬ Av A μ σ (ρ.set i (.d (.lst xs))) p := by
    rintro (z | z | z)
    · exact (s.priv p hpv).1 z
    · exact (s.priv p hpv).2 z
    · obtain ⟨j, t, hj, h1, h2, h3⟩ := (pv_set h rfl z).2 rfl hv
      exact hj (s.inj j i _ _ p h1 h h2 rfl h3 hv)
  have rp : Rep mg H (Av A μ σ (ρ.set i (.d (.lst xs)))) (.ref p) (.lst xs) := .lst hp np (rl.keep (fun a o e _ => e) m)
  refine ⟨⟨by rw [List.length_set]; exact s.len, fun j t e h1 h2 => ?_, fun j k t u a h1 h2 h3 h4 h5 h6 => ?_, fun a z => s.priv a (pm a z), s.sl, fun l a ys h1 h2 => ?_, s.nd, s.av, fun a o e => let ⟨h1, h2, h3⟩ := s.gd a o e; ⟨h1, h2, fun z => h3 (pm a z)⟩⟩, pm, rp⟩
  · by_cases hj : j = i
    · subst hj
      rw [get_set_self h] at h1; cases h1
      rw [hv] at h2; cases h2
      exact ⟨_, rfl, rp⟩
    · rw [List.getElem?_set_ne (Ne.symm hj)] at h1
      have q := s.slot j t e h1 h2
      cases t with
      | none => trivial
      | d x => obtain ⟨v, e1, r⟩ := q; exact ⟨v, e1, r.keep (fun a o e _ => e) m⟩
      | own xs => obtain ⟨p, vs, e1, h, r⟩ := q; exact ⟨p, vs, e1, h, r.keep (fun a o e _ => e) m⟩
      | loc l => exact q
      | lam g => obtain ⟨f, e1, r⟩ := q; exact r.elim
      | scr ns => obtain ⟨a, e1, r⟩ := q; exact ⟨a, e1, r.keep (fun a o e _ => e) m⟩
      | obj c fs => obtain ⟨p, C, dx, vfs, e1, h, hc, r⟩ := q; exact ⟨p, C, dx, vfs, e1, h, hc, r.keep (fun a o e _ => e) m⟩
  · have nj : j ≠ i := by
      rintro rfl
      rw [get_set_self h] at h1; cases h1; cases h3
    have nk : k ≠ i := by
      rintro rfl
      rw [get_set_self h] at h2; cases h2; cases h4
    rw [List.getElem?_set_ne (Ne.symm nj)] at h1
    rw [List.getElem?_set_ne (Ne.symm nk)] at h2
    exact s.inj j k t u a h1 h2 h3 h4 h5 h6
  · obtain ⟨vs, e, r⟩ := s.st l a ys h1 h2
    exact ⟨vs, e, r.keep (fun a o e _ => e) m⟩
end
end DL
end

section
/-! The data layer, part 3: judgements by data; calls. -/
namespace DL
open PySem PySem.Spec PyProof.Rows L2

theorem pe_weak {X : Cx} {e : Expr} {t u : TE} (h : PE X e t) (w : ∀ σ H Q, u σ H Q → t σ H Q) : PE X e u := ⟨fun pins s σ H Q I q => h.run pins s σ H Q I (w σ H Q q)⟩
theorem pt_weak {X : Cx} {e : Expr} {t u : TT} (h : PT X e t) (w : ∀ σ H Q, u σ H Q → t σ H Q) : PT X e u := ⟨fun pins s σ H Q I q => h.run pins s σ H Q I (w σ H Q q)⟩
theorem pw_weak {X : Cx} {e : Expr} {t u : TT} (h : PW X e t) (w : ∀ σ H Q, u σ H Q → t σ H Q) : PW X e u := ⟨fun wh pins s σ H Q I q => h.run wh pins s σ H Q I (w σ H Q q)⟩
theorem pa_weak {X : Cx} {e : List Expr} {t u : TA} (h : PA X e t) (w : ∀ σ H Q, u σ H Q → t σ H Q) : PA X e u := ⟨fun pos pins s σ H Q I q => h.run pos pins s σ H Q I (w σ H Q q)⟩
theorem ps_weak {X : Cx} {e : Stmt} {t u : TS} (h : PS X e t) (w : ∀ D σ H, u D σ H → t D σ H) : PS X e u := ⟨fun pins s σ H D I q => h.run pins s σ H D I (w D σ H q)⟩
theorem pss_weak {X : Cx} {e : List Stmt} {t u : TS} (h : PSs X e t) (w : ∀ D σ H, u D σ H → t D σ H) : PSs X e u := ⟨fun pins s σ H D I q => h.run pins s σ H D I (w D σ H q)⟩
theorem pi_weak {X : Cx} {tg e : Expr} {t u : TI} (h : PI X tg e t) (w : ∀ σ H Q, u σ H Q → t σ H Q) : PI X tg e u := ⟨fun pins s σ H Q I q => h.run pins s σ H Q I (w σ H Q q)⟩
theorem po_weak {X : Cx} {e : Option Expr} {t u : TO} (h : PO X e t) (w : ∀ σ H Q, u σ H Q → t σ H Q) : PO X e u := ⟨fun pins s σ H Q I q => h.run pins s σ H Q I (w σ H Q q)⟩
theorem pg_weak {X : Cx} {e : Expr} {t u : TG} (h : PG X e t) (w : ∀ v σ H Q, u v σ H Q → t v σ H Q) : PG X e u := ⟨fun pins s σ H v u Q I r q => h.run pins s σ H v u Q I r (w v σ H Q q)⟩

/-- an exception of the class c with the fields fs -/
def ExcR (mg : Gm) (H : Hp) (Av : Addr → Prop) (c : Str) (fs : List (Str × D)) (cls : Value) (d : Option Addr) : Prop :=
  ∃ C, mg c = some (.ref C) ∧ cls = .ref C ∧ ((fs = [] ∧ d = none) ∨ ∃ a vfs, d = some a ∧ H a = some (.xd vfs) ∧ RepF mg H Av vfs fs)

/-- what f does, by data: rel tells how its result stands -/
def Tr {α β : Type} (mg : Gm) (W : WX) (rel : (Addr → Prop) → Hp → Hp → List Sl → Store → List Addr → L2.St → β → α → Prop) (f : M α) : L2.St → Hp → (β → Hp → Prop) → Prop := fun σ H Q =>
  ∃ A G μ ρ S, SR mg A G μ σ H ρ S ∧ match f ρ S with
    | .ok a ρ' S' => ∀ b H', SR mg A G μ σ H' ρ' S' → PM σ ρ ρ' → rel A G H' ρ' S' μ σ b a → Q b H'
    | .err c fs ρ' S' => ∀ cls d H', SR mg A G μ σ H' ρ' S' → ExcR mg H' (Av A μ σ ρ') c fs cls d → W cls d σ H'
    | .stuck => False
def rE (mg : Gm) : (Addr → Prop) → Hp → Hp → List Sl → Store → List Addr → L2.St → V → R → Prop := fun A G H ρ S μ σ v r => match r with
  | .fresh xs => RR mg G H (Av A μ σ ρ) μ σ v (.fresh xs) ∧ ∀ p, v = .ref p → SR mg (withD A p) G μ σ H ρ S
  | r => RR mg G H (Av A μ σ ρ) μ σ v r
theorem rE.rr {mg : Gm} {A : Addr → Prop} {G H : Hp} {ρ : List Sl} {S : Store} {μ : List Addr} {σ : L2.St} {v : V} {r : R} (h : rE mg A G H ρ S μ σ v r) : RR mg G H (Av A μ σ ρ) μ σ v r := by
  cases r with
  | fresh xs => exact h.1
  | _ => exact h
def rL (mg : Gm) : (Addr → Prop) → Hp → Hp → List Sl → Store → List Addr → L2.St → List V → List D → Prop := fun A _ H ρ _ μ σ v r => RepL mg H (Av A μ σ ρ) v r
def rB : (Addr → Prop) → Hp → Hp → List Sl → Store → List Addr → L2.St → Bool → Bool → Prop := fun _ _ _ _ _ _ _ a b => a = b
def rO : (Addr → Prop) → Hp → Hp → List Sl → Store → List Addr → L2.St → Option Int → Option Int → Prop := fun _ _ _ _ _ _ _ a b => a = b
def ArgR (mg : Gm) (H : Hp) (Av : Addr → Prop) (μ : List Addr) (v : V) : Arg → Prop
  | .d x => Rep mg H Av v x
  | .loc l => ∃ a, v = .ref a ∧ μ[l]? = some a
  | .lam g => ∃ f, v = .ref f ∧ LamR mg H Av f g
  | .scr ns => ∃ a, v = .ref a ∧ ScrR mg H Av a ns
inductive ArgL (mg : Gm) (H : Hp) (Av : Addr → Prop) (μ : List Addr) : List V → List Arg → Prop
  | nil : ArgL mg H Av μ [] []
  | cons {v : V} {vs : List V} {a : Arg} {as : List Arg} : ArgR mg H Av μ v a → ArgL mg H Av μ vs as → ArgL mg H Av μ (v :: vs) (a :: as)
def rA (mg : Gm) : (Addr → Prop) → Hp → Hp → List Sl → Store → List Addr → L2.St → List V → List Arg → Prop := fun A _ H ρ _ μ σ v r => ArgL mg H (Av A μ σ ρ) μ v r
/-- what a walk gives to the target tg: a pair that is taken apart at once need not stay -/
def YR (mg : Gm) (H : Hp) (Av : Addr → Prop) : Tg → V → D → Prop
  | .one _, v, d => Rep mg H Av v d
  | .many _, v, d => Rep mg H Av v d ∨ ∃ p vs xs, v = .ref p ∧ d = .tup xs ∧ H p = some (.tup vs) ∧ RepL mg H Av vs xs
theorem YR.of {mg : Gm} {H : Hp} {Av : Addr → Prop} {tg : Tg} {v : V} {d : D} (h : Rep mg H Av v d) : YR mg H Av tg v d := by
  cases tg with
  | one i => exact h
  | many is => exact .inl h
/-- the walk J gives the data xs, one behind another, while what stands now stands -/
def WalkR (tg : Tg) (mg : Gm) (H0 : Hp) (Av : Addr → Prop) (J : It) (xs : List D) : Prop :=
  ∀ (H1 : Hp) (Av1 : Addr → Prop), (∀ a o, H0 a = some o → ¬ Av a → H1 a = some o) → (∀ a o, H0 a = some o → Av1 a → Av a) → (∀ a, Av1 a → ∃ o, H1 a = some o) →
    (∀ (i : Nat) (d : D), xs[i]? = some d → J.go i H1 ∧ ∀ x H2, J.yld i H1 x H2 → Same H1 H2 ∧ YR mg H2 Av1 tg x d) ∧ J.stop xs.length H1
def rI' (tg : Tg) (mg : Gm) : (Addr → Prop) → Hp → Hp → List Sl → Store → List Addr → L2.St → It → List D → Prop := fun A _ H ρ _ μ σ J xs => WalkR tg mg H (Av A μ σ ρ) J xs ∧ xs.length ≤ sizeLine
abbrev tE (mg : Gm) (W : WX) (f : M R) : TE := Tr mg W (rE mg) f
abbrev tT (mg : Gm) (W : WX) (f : M Bool) : TT := Tr mg W rB f
abbrev tO (mg : Gm) (W : WX) (f : M (Option Int)) : TO := Tr mg W rO f
abbrev tL (mg : Gm) (W : WX) (f : M (List D)) : TA := Tr mg W (rL mg) f
abbrev tA (mg : Gm) (W : WX) (f : M (List Arg)) : TA := Tr mg W (rA mg) f
abbrev tI (tg : Tg) (mg : Gm) (W : WX) (f : M (List D)) : TI := Tr mg W (rI' tg mg) f

/-- the end of a step within the caller's wants -/
def End {α β : Type} (mg : Gm) (W : WX) (rel : (Addr → Prop) → Hp → Hp → List Sl → Store → List Addr → L2.St → β → α → Prop) (A : Addr → Prop) (G : Hp) (μ : List Addr) (σ : L2.St) (ρ : List Sl) (Q : β → Hp → Prop) : Out α → Prop
  | .ok a ρ' S' => ∀ b H', SR mg A G μ σ H' ρ' S' → PM σ ρ ρ' → rel A G H' ρ' S' μ σ b a → Q b H'
  | .err c fs ρ' S' => ∀ cls d H', SR mg A G μ σ H' ρ' S' → ExcR mg H' (Av A μ σ ρ') c fs cls d → W cls d σ H'
  | .stuck => False
section
variable {α β γ δ : Type} {mg : Gm} {W : WX} {rel : (Addr → Prop) → Hp → Hp → List Sl → Store → List Addr → L2.St → β → α → Prop} {rel' : (Addr → Prop) → Hp → Hp → List Sl → Store → List Addr → L2.St → δ → γ → Prop}
theorem Tr.iff {f : M α} {σ : L2.St} {H : Hp} {Q : β → Hp → Prop} : Tr mg W rel f σ H Q ↔ ∃ A G μ ρ S, SR mg A G μ σ H ρ S ∧ End mg W rel A G μ σ ρ Q (f ρ S) := by
  unfold Tr
  constructor
  · rintro ⟨A, G, μ, ρ, S, s, h⟩
    refine ⟨A, G, μ, ρ, S, s, ?_⟩
    generalize f ρ S = o at h ⊢
    cases o <;> exact h
  · rintro ⟨A, G, μ, ρ, S, s, h⟩
    refine ⟨A, G, μ, ρ, S, s, ?_⟩
    generalize f ρ S = o at h ⊢
    cases o <;> exact h
/-- f, then g: what is wanted of the whole is wanted of g behind f -/
theorem Tr.seq {A : Addr → Prop} {G : Hp} {μ : List Addr} {σ : L2.St} {H : Hp} {ρ : List Sl} {S : Store} {f : M α} {g : α → M γ} {Q : δ → Hp → Prop} {R : β → Hp → Prop} (s : SR mg A G μ σ H ρ S)
    (h : End mg W rel' A G μ σ ρ Q ((f.bind g) ρ S))
    (k : ∀ a ρ' S' b H', SR mg A G μ σ H' ρ' S' → PM σ ρ ρ' → rel A G H' ρ' S' μ σ b a → End mg W rel' A G μ σ ρ Q (g a ρ' S') → R b H') : Tr mg W rel f σ H R := by
  refine Tr.iff.mpr ⟨A, G, μ, ρ, S, s, ?_⟩
  unfold M.bind at h
  cases e : f ρ S with
  | ok a ρ' S' =>
    rw [e] at h
    exact fun b H' s' pm r => k a ρ' S' b H' s' pm r h
  | err c fs ρ' S' => rw [e] at h; exact h
  | stuck => rw [e] at h; exact h
class RelM {α β : Type} (rel : (Addr → Prop) → Hp → Hp → List Sl → Store → List Addr → L2.St → β → α → Prop) : Prop where
  less : ∀ {A : Addr → Prop} {G G' H : Hp} {ρ : List Sl} {S : Store} {μ : List Addr} {σ : L2.St} {b : β} {a : α}, (∀ x o, G' x = some o → G x = some o) → rel A G H ρ S μ σ b a → rel A G' H ρ S μ σ b a
instance {mg : Gm} : RelM (rE mg) := ⟨fun {A G G' H ρ S μ σ v r} h q => by
  cases r with
  | fresh xs => exact ⟨q.1.lessG h, fun p e => (q.2 p e).weakG h⟩
  | _ => exact q⟩
instance {mg : Gm} : RelM (rL mg) := ⟨fun _ r => r⟩
instance : RelM rB := ⟨fun _ r => r⟩
instance : RelM rO := ⟨fun _ r => r⟩
instance {mg : Gm} : RelM (rA mg) := ⟨fun _ r => r⟩
instance {tg : Tg} {mg : Gm} : RelM (rI' tg mg) := ⟨fun _ r => r⟩
/-- f, then g, and what f left as it was -/
theorem Tr.seq2 [RelM rel] {A : Addr → Prop} {G : Hp} {μ : List Addr} {σ : L2.St} {H : Hp} {ρ ρ0 : List Sl} {S : Store} {f : M α} {g : α → M γ} {Q : δ → Hp → Prop} {R : β → Hp → Prop} (s : SR mg A G μ σ H ρ S) (pm0 : PM σ ρ0 ρ)
    (h : End mg W rel' A G μ σ ρ0 Q ((f.bind g) ρ S))
    (k : ∀ a ρ' S' b H', SR mg A G μ σ H' ρ' S' → SR mg A (fullG H μ σ ρ) μ σ H' ρ' S' → PM σ ρ ρ' → PM σ ρ0 ρ' → rel A G H' ρ' S' μ σ b a → End mg W rel' A G μ σ ρ0 Q (g a ρ' S') → R b H') : Tr mg W rel f σ H R := by
  refine Tr.iff.mpr ⟨A, fullG H μ σ ρ, μ, ρ, S, s.full, ?_⟩
  unfold M.bind at h
  cases e : f ρ S with
  | ok a ρ' S' =>
    rw [e] at h
    exact fun b H' s' pm r => k a ρ' S' b H' (s'.back s) s' pm (pm0.trans pm) (RelM.less (fun x o e => let ⟨h1, h2, h3⟩ := s.gd x o e; fullG_of h1 h2 h3) r) h
  | err c fs ρ' S' =>
    rw [e] at h
    exact fun cls d H' s' x => h cls d H' (s'.back s) x
  | stuck => rw [e] at h; exact h
/-- the last step -/
theorem Tr.last {A : Addr → Prop} {G : Hp} {μ : List Addr} {σ : L2.St} {H : Hp} {ρ ρ0 : List Sl} {S : Store} {f : M α} {Q : β → Hp → Prop} (s : SR mg A G μ σ H ρ S) (pm0 : PM σ ρ0 ρ)
    (h : End mg W rel A G μ σ ρ0 Q (f ρ S)) : Tr mg W rel f σ H Q := by
  refine Tr.iff.mpr ⟨A, G, μ, ρ, S, s, ?_⟩
  cases e : f ρ S with
  | ok a ρ' S' =>
    rw [e] at h
    exact fun b H' s' pm r => h b H' s' (pm0.trans pm) r
  | err c fs ρ' S' => rw [e] at h; exact h
  | stuck => rw [e] at h; exact h
end
/-- peek, asD: no heap is asked -/
theorem peek_ok {mg : Gm} {A : Addr → Prop} {G G0 : Hp} {μ : List Addr} {σ : L2.St} {H : Hp} {ρ : List Sl} {S : Store} {v : V} {r : R} (s : SR mg A G μ σ H ρ S) (h : RR mg G0 H (Av A μ σ ρ) μ σ v r) :
    (∃ d, peek r ρ S = .ok d ρ S ∧ Lk1 mg H (Av A μ σ ρ) v d) ∨ peek r ρ S = .stuck := by
  cases r with
  | d x => exact .inl ⟨x, rfl, .of h⟩
  | fresh xs =>
    have h : ∃ p vs, v = .ref p ∧ H p = some (.lst vs) ∧ RepL mg H (fun a => Av A μ σ ρ a ∨ a = p) vs xs ∧ ¬ Av A μ σ ρ p ∧ G0 p = none := h
    obtain ⟨p, vs, e, h1, h2, h3, _⟩ := h
    have h2 := h2.wk
    exact .inl ⟨.lst xs, rfl, by rw [e]; exact .lst h1 h2⟩
  | own i =>
    have h : σ[i]? = some (some v) := h
    cases e : ρ[i]? with
    | none => right; simp [peek, e]
    | some t =>
      have q := s.slot i t _ e h
      cases t with
      | own xs => obtain ⟨p, vs, e1, h1, h2⟩ := q; cases e1; exact .inl ⟨_, by simp [peek, e], .lst h1 h2⟩
      | d x => obtain ⟨w, e1, r⟩ := q; cases e1; exact .inl ⟨_, by simp [peek, e], .of r⟩
      | _ => right; simp [peek, e]
  | loc l =>
    obtain ⟨a, rfl, h⟩ := h
    cases e : S[l]? with
    | none => right; simp [peek, e]
    | some xs =>
      obtain ⟨vs, h1, h2⟩ := s.st l a xs h e
      exact .inl ⟨_, by simp [peek, e], .lst h1 h2⟩
  | lam g => obtain ⟨f, _, z⟩ := h; exact z.elim
  | scr ns => right; rfl
theorem asD_ok {mg : Gm} {A : Addr → Prop} {G G0 : Hp} {μ : List Addr} {σ : L2.St} {H : Hp} {ρ : List Sl} {S : Store} {v : V} {r : R} (s : SR mg A G μ σ H ρ S) (h : RR mg G0 H (Av A μ σ ρ) μ σ v r) :
    (∃ d ρ', asD r ρ S = .ok d ρ' S ∧ SR mg A G μ σ H ρ' S ∧ PM σ ρ ρ' ∧ Rep mg H (Av A μ σ ρ') v d) ∨ asD r ρ S = .stuck := by
  cases r with
  | d x => exact .inl ⟨x, ρ, rfl, s, PM.refl, h⟩
  | fresh xs =>
    have h : ∃ p vs, v = .ref p ∧ H p = some (.lst vs) ∧ RepL mg H (fun a => Av A μ σ ρ a ∨ a = p) vs xs ∧ ¬ Av A μ σ ρ p ∧ G0 p = none := h
    obtain ⟨p, vs, e, h1, h2, h3, _⟩ := h
    have h2 := h2.wk
    exact .inl ⟨.lst xs, ρ, rfl, s, PM.refl, by rw [e]; exact .lst h1 h3 h2⟩
  | own i =>
    have h : σ[i]? = some (some v) := h
    cases e : ρ[i]? with
    | none => right; simp [asD, e]
    | some t =>
      cases t with
      | own xs =>
        obtain ⟨f1, f2, f3⟩ := s.freeze e h
        exact .inl ⟨_, _, by simp [asD, e], f1, f2, f3⟩
      | d x =>
        obtain ⟨w, e1, r⟩ := s.slot i _ _ e h
        cases e1
        exact .inl ⟨_, ρ, by simp [asD, e], s, PM.refl, r⟩
      | _ => right; simp [asD, e]
  | loc l => right; rfl
  | lam g => right; rfl
  | scr ns => right; rfl
theorem asArg_ok {mg : Gm} {A : Addr → Prop} {G G0 : Hp} {μ : List Addr} {σ : L2.St} {H : Hp} {ρ : List Sl} {S : Store} {v : V} {r : R} (s : SR mg A G μ σ H ρ S) (h : RR mg G0 H (Av A μ σ ρ) μ σ v r) :
    (∃ d ρ', asArg r ρ S = .ok d ρ' S ∧ SR mg A G μ σ H ρ' S ∧ PM σ ρ ρ' ∧ ArgR mg H (Av A μ σ ρ') μ v d) ∨ asArg r ρ S = .stuck := by
  have go : ∀ r', RR mg G0 H (Av A μ σ ρ) μ σ v r' → ((∃ d ρ', ((asD r').bind fun d => M.pure (.d d)) ρ S = .ok (Arg.d d) ρ' S ∧ SR mg A G μ σ H ρ' S ∧ PM σ ρ ρ' ∧ Rep mg H (Av A μ σ ρ') v d) ∨ ((asD r').bind fun d => M.pure (Arg.d d)) ρ S = .stuck) := fun r' h' => by
    rcases asD_ok s h' with ⟨d, ρ', e, q⟩ | e
    · exact .inl ⟨d, ρ', by unfold M.bind; rw [e], q⟩
    · exact .inr (by unfold M.bind; rw [e])
  cases r with
  | loc l => exact .inl ⟨_, ρ, rfl, s, PM.refl, h⟩
  | lam g => exact .inl ⟨_, ρ, rfl, s, PM.refl, h⟩
  | scr ns => exact .inl ⟨_, ρ, rfl, s, PM.refl, h⟩
  | d x => rcases go _ h with ⟨d, ρ', e, q⟩ | e; exact .inl ⟨_, ρ', e, q⟩; exact .inr e
  | fresh xs => rcases go _ h with ⟨d, ρ', e, q⟩ | e; exact .inl ⟨_, ρ', e, q⟩; exact .inr e
  | own i => rcases go _ h with ⟨d, ρ', e, q⟩ | e; exact .inl ⟨_, ρ', e, q⟩; exact .inr e

/-! ### defs -/
/-- what a call's end is to bring -/
def FRok (mg : Gm) (A : Addr → Prop) (G : Hp) (μ : List Addr) (Q : VK) (E : XK) : FR → Prop
  | .ok d S => ∀ v H, SR mg A G μ [] H [] S → Rep mg H (Av A μ [] []) v d → Q v H
  | .fresh xs S => ∀ v H, SR mg A G μ [] H [] S → rE mg A G H [] S μ [] v (.fresh xs) → Q v H
  | .err c fs S => ∀ cls d H, SR mg A G μ [] H [] S → ExcR mg H (Av A μ [] []) c fs cls d → E cls d H
  | .stuck => False
structure FnG (P : Program) (w : World) (K : PySem.W.Frag) (mg : Str → Option Value) (base : Heap) (k : Nat) (f : Addr) (fd : FuncData) (ps : List Str) (g : FSem) : Prop where
  run : ∀ (B : Around) (outer : List Env) (s : Shared) (H : Hp) (args : Args) (us : List Value) (vs : List V) (Q : VK) (E : XK) (as : List Arg) (A : Addr → Prop) (G : Hp) (μ : List Addr) (S : Store),
    Room k B → B.guards = some [] → Env0 P w K mg base B outer s H → BindsTo s fd args (ps.zip us) → Vals vs us → as.length = ps.length → SR ⟨mg, K⟩ A G μ [] H [] S → ArgL ⟨mg, K⟩ H (Av A μ [] []) μ vs as → FRok ⟨mg, K⟩ A G μ Q E (g as S) →
    codeAny (model P w) B (.call (.ref f) args) (CR (CX P w) outer P w H s Q E) s
theorem FnG.mono {P : Program} {w : World} {K : PySem.W.Frag} {mg : Str → Option Value} {base : Heap} {j k : Nat} {f : Addr} {fd : FuncData} {ps : List Str} {g : FSem} (F : FnG P w K mg base j f fd ps g) (h : j ≤ k) : FnG P w K mg base k f fd ps g :=
  ⟨fun B outer s H args us vs Q E as A G μ S hr => F.run B outer s H args us vs Q E as A G μ S (hr.mono h)⟩
theorem ArgL.length {mg : Gm} {H : Hp} {Av : Addr → Prop} {μ : List Addr} : ∀ {vs : List V} {as : List Arg}, ArgL mg H Av μ vs as → vs.length = as.length
  | _, _, .nil => rfl
  | _, _, .cons _ t => congrArg Nat.succ (ArgL.length t)
theorem ArgR.keep {mg : Gm} {H H' : Hp} {Av Av' : Addr → Prop} {μ : List Addr} (k : ∀ a o, H a = some o → ¬ Av a → H' a = some o) (m : ∀ a o, H a = some o → Av' a → Av a) {v : V} {a : Arg} (h : ArgR mg H Av μ v a) : ArgR mg H' Av' μ v a := by
  cases a with
  | d x => exact Rep.keep k m h
  | loc l => exact h
  | lam g => obtain ⟨f, _, z⟩ := h; exact z.elim
  | scr ns => obtain ⟨a, e, z⟩ := h; exact ⟨a, e, z.keep k m⟩
theorem ArgL.keep {mg : Gm} {H H' : Hp} {Av Av' : Addr → Prop} {μ : List Addr} (k : ∀ a o, H a = some o → ¬ Av a → H' a = some o) (m : ∀ a o, H a = some o → Av' a → Av a) : ∀ {vs : List V} {as : List Arg}, ArgL mg H Av μ vs as → ArgL mg H' Av' μ vs as
  | _, _, .nil => .nil
  | _, _, .cons r t => .cons (r.keep k m) (ArgL.keep k m t)

section
variable {mg : Gm} {A : Addr → Prop} {G : Hp} {μ : List Addr} {σ : L2.St} {H H' : Hp} {ρ : List Sl} {S S' : Store}
open Classical in
noncomputable def callG (H : Hp) (μ : List Addr) : Hp := fun a => if a ∈ μ then none else H a
theorem av_call {a : Addr} : Av (fun a => A a ∨ Pv σ ρ a) μ [] [] a ↔ Av A μ σ ρ a := by
  unfold Av
  constructor
  · rintro ((h | h) | h | ⟨i, t, h, _⟩)
    · exact .inl h
    · exact .inr (.inr h)
    · exact .inr (.inl h)
    · simp at h
  · rintro (h | h | h)
    · exact .inl (.inl h)
    · exact .inr (.inl h)
    · exact .inl (.inr h)
/-- the callee's view -/
theorem SR.call_in (s : SR mg A G μ σ H ρ S) : SR mg (fun a => A a ∨ Pv σ ρ a) (callG H μ) μ [] H [] S := by
  refine ⟨rfl, fun i t e h => by simp at h, fun i j t u a h => by simp at h, fun a ⟨i, t, h, _⟩ => by simp at h, s.sl, fun l a xs h1 h2 => ?_, s.nd, fun a h => ?_, fun a o h => ?_⟩
  · obtain ⟨vs, e, r⟩ := s.st l a xs h1 h2
    exact ⟨vs, e, r.keep (fun a o e _ => e) fun a o _ z => av_call.mp z⟩
  · rcases h with h | h
    · exact s.av a h
    · exact ⟨(s.priv a h).2, s.dom (.inr (.inr h))⟩
  · unfold callG at h
    by_cases z : a ∈ μ
    · rw [if_pos z] at h; cases h
    · rw [if_neg z] at h
      exact ⟨h, z, fun ⟨i, t, h, _⟩ => by simp at h⟩
/-- back in the caller; B: what is new and still alone -/
theorem SR.call_outB {B : Addr → Prop} (hB : ∀ a, B a → H a = none) (s : SR mg A G μ σ H ρ S) (c : SR mg (fun a => (A a ∨ Pv σ ρ a) ∨ B a) (callG H μ) μ [] H' [] S') : SR mg (fun a => A a ∨ B a) G μ σ H' ρ S' := by
  have k : ∀ a o, H a = some o → a ∉ μ → H' a = some o := fun a o e h => (c.gd a o (by unfold callG; rw [if_neg h]; exact e)).1
  have kr : ∀ a o, H a = some o → ¬ Av A μ σ ρ a → H' a = some o := fun a o e n => k a o e fun z => n (.inr (.inl z))
  have mr : ∀ a o, H a = some o → Av (fun a => A a ∨ B a) μ σ ρ a → Av A μ σ ρ a := fun a o e z => by
    rcases z with (z | z) | z
    · exact .inl z
    · rw [hB a z] at e; cases e
    · exact .inr z
  refine ⟨s.len, fun i t e h1 h2 => ?_, s.inj, fun a z => ⟨?_, (s.priv a z).2⟩, c.sl, fun l a xs h1 h2 => ?_, s.nd, fun a h => ?_, fun a o e => let ⟨h1, h2, h3⟩ := s.gd a o e; ⟨k a o h1 h2, h2, h3⟩⟩
  · have q := s.slot i t e h1 h2
    cases t with
    | none => trivial
    | d x => obtain ⟨v, e1, r⟩ := q; exact ⟨v, e1, r.keep kr mr⟩
    | own xs =>
      obtain ⟨p, vs, e1, h, r⟩ := q
      have hp := s.priv p ⟨i, _, h1, rfl, by rw [h2, e1]⟩
      exact ⟨p, vs, e1, k _ _ h hp.2, r.keep kr mr⟩
    | loc l => exact q
    | lam g => obtain ⟨f, e1, r⟩ := q; exact r.elim
    | scr ns => obtain ⟨a, e1, r⟩ := q; exact ⟨a, e1, r.keep kr mr⟩
    | obj cc fs =>
      obtain ⟨p, C, dx, vfs, e1, h, hc, r⟩ := q
      have hp := s.priv p ⟨i, _, h1, rfl, by rw [h2, e1]⟩
      exact ⟨p, C, dx, vfs, e1, k _ _ h hp.2, hc, r.keep kr mr⟩
  · rintro (q | q)
    · exact (s.priv a z).1 q
    · obtain ⟨o, e⟩ := s.dom (.inr (.inr z))
      rw [hB a q] at e; cases e
  · obtain ⟨vs, e, r⟩ := c.st l a xs h1 h2
    refine ⟨vs, e, r.keep (fun a o e _ => e) fun a o _ z => ?_⟩
    rcases z with (z | z) | z | z
    · exact .inl (.inl (.inl z))
    · exact .inl (.inr z)
    · exact .inr (.inl z)
    · exact .inl (.inl (.inr z))
  · rcases h with h | h
    · exact ⟨(s.av a h).1, (c.av a (.inl (.inl h))).2⟩
    · exact c.av a (.inr h)
theorem SR.less (s : SR mg A G μ σ H ρ S) {A' : Addr → Prop} (h : ∀ a, A' a → A a) : SR mg A' G μ σ H ρ S := by
  have m : ∀ a o, H a = some o → Av A' μ σ ρ a → Av A μ σ ρ a := fun a o _ z => by
    rcases z with z | z
    · exact .inl (h a z)
    · exact .inr z
  have k : ∀ a o, H a = some o → ¬ Av A μ σ ρ a → H a = some o := fun _ _ e _ => e
  refine ⟨s.len, fun i t e h1 h2 => ?_, s.inj, fun a z => ⟨fun q => (s.priv a z).1 (h a q), (s.priv a z).2⟩, s.sl, fun l a xs h1 h2 => ?_, s.nd, fun a z => s.av a (h a z), s.gd⟩
  · have q := s.slot i t e h1 h2
    cases t with
    | none => trivial
    | d x => obtain ⟨v, e1, r⟩ := q; exact ⟨v, e1, r.keep k m⟩
    | own xs => obtain ⟨p, vs, e1, h, r⟩ := q; exact ⟨p, vs, e1, h, r.keep k m⟩
    | loc l => exact q
    | lam g => obtain ⟨f, e1, r⟩ := q; exact r.elim
    | scr ns => obtain ⟨a, e1, r⟩ := q; exact ⟨a, e1, r.keep k m⟩
    | obj cc fs => obtain ⟨p, C, dx, vfs, e1, h, hc, r⟩ := q; exact ⟨p, C, dx, vfs, e1, h, hc, r.keep k m⟩
  · obtain ⟨vs, e, r⟩ := s.st l a xs h1 h2
    exact ⟨vs, e, r.keep k m⟩
theorem SR.call_out (s : SR mg A G μ σ H ρ S) (c : SR mg (fun a => A a ∨ Pv σ ρ a) (callG H μ) μ [] H' [] S') : SR mg A G μ σ H' ρ S' :=
  (s.call_outB (B := fun _ => False) (fun _ z => z.elim) (c.less fun a z => z.elim id False.elim)).less fun a z => .inl z
end
/-- the callee's end, in the caller -/
theorem FRok.in_caller {mg : Gm} {W : WX} {A : Addr → Prop} {G : Hp} {μ : List Addr} {σ : L2.St} {H : Hp} {ρ ρ0 : List Sl} {S : Store} {Q : VK} {r : FR} (s : SR mg A G μ σ H ρ S) (pm : PM σ ρ0 ρ) (h : End mg W (rE mg) A G μ σ ρ0 Q (ofFR r ρ)) :
    FRok mg (fun a => A a ∨ Pv σ ρ a) (callG H μ) μ Q (fun cls d H' => W cls d σ H') r := by
  cases r with
  | ok d S' => exact fun v H' c r => h v H' (s.call_out c) pm (Rep.keep (fun a o e _ => e) (fun a o _ z => av_call.mpr z) r)
  | fresh xs S' =>
      intro v H' c ⟨⟨p, vs, e, h1, h2, h3, h4⟩, al⟩
      have hp : H p = none := by
        cases z : H p with
        | none => rfl
        | some o =>
          have h4 : callG H μ p = none := h4
          unfold callG at h4
          rw [if_neg fun q => h3 (.inr (.inl q)), z] at h4
          cases h4
      refine h v H' (s.call_out c) pm ⟨⟨p, vs, e, h1, h2.keep (fun a o e _ => e) (fun a o _ z => z.imp av_call.mpr id), fun z => h3 (av_call.mpr z), ?_⟩, fun q eq => ?_⟩
      · cases z : G p with
        | none => rfl
        | some o => rw [(s.gd p o z).1] at hp; cases hp
      · rw [e] at eq
        cases eq
        exact s.call_outB (B := fun a => a = p) (fun a z => by rw [z]; exact hp) (al p e)
  | err c fs S' =>
      intro cls d H' cc x
      refine h cls d H' (s.call_out cc) ?_
      obtain ⟨C, h1, h2, h3⟩ := x
      refine ⟨C, h1, h2, ?_⟩
      rcases h3 with h3 | ⟨a, vfs, e1, e2, e3⟩
      · exact .inl h3
      · exact .inr ⟨a, vfs, e1, e2, e3.keep (fun a o e _ => e) (fun a o _ z => av_call.mpr z)⟩
  | stuck => exact h
theorem run_g {X : Cx} {W : WX} {k : Nat} {f : Addr} {fd : FuncData} {ps : List Str} {g : FSem} {pins : List (Addr × Obj)} {σ : L2.St} {H : Hp} {s : Shared} {Q : VK} {us : List Value} {vs : List V} {as : List Arg} {A : Addr → Prop} {G : Hp} {μ : List Addr} {ρ ρ0 : List Sl} {S : Store}
    (F : FnG X.prog X.w X.K X.mg X.base k f fd ps g) (hr : Room k X.A) (hg : X.A.guards = some []) (hb : Binds X.K fd ps []) (tk : Takes X W) (I : Inv X pins σ H s) (r : Vals vs us) (st : SR ⟨X.mg, X.K⟩ A G μ σ H ρ S) (pm : PM σ ρ0 ρ) (ha : ArgL ⟨X.mg, X.K⟩ H (Av A μ σ ρ) μ vs as)
    (hl : as.length = ps.length) (h : End ⟨X.mg, X.K⟩ W (rE ⟨X.mg, X.K⟩) A G μ σ ρ0 Q (doCall g as ρ S)) : wpAny (model X.prog X.w) X.A (call (.ref f) us) (EP X pins σ Q) X.xe s := by
  have hlu : us.length = ps.length := by rw [← r.length, ha.length, hl]
  have hbind := hb s us I.kIn (by rw [List.append_nil]; exact hlu)
  rw [List.append_nil] at hbind
  refine wpAny_call (codeAny_mono (F.run X.A X.stack s H ⟨us, []⟩ us vs Q (fun cls d H' => W cls d σ H') as _ _ μ S hr hg I.env0 hbind r hl st.call_in
    (ha.keep (fun a o e _ => e) fun a o _ z => av_call.mp z) (FRok.in_caller st pm h)) fun res s' hq => ?_)
  cases res with
  | error e => exact tk e s' (XE.of_call I (fun cls d H' z => z) hq)
  | ok fl =>
    cases fl with
    | ret u => exact I.after hq
    | next => exact False.elim hq
    | brk => exact False.elim hq
    | cont => exact False.elim hq
end DL
end

section
/-! The data layer, part 4: operators by data. -/
namespace DL
open PySem PySem.Spec PyProof.Rows L2

/-- r does f upon data -/
def Op2 (mg : Gm) (f : D → D → Option R) (r : R2) : Prop := ∀ (H : Hp) (Av : Addr → Prop) (x y : V) (u v : D) (res : R) (Q : VK), (∀ a, Av a → ∃ o, H a = some o) → Lk1 mg H Av x u → Lk1 mg H Av y v → f u v = some res →
  (∀ z H', Same H H' → RR mg H H' Av [] [] z res → Q z H') → (∃ d, res = .d d) ∨ (∃ xs, res = .fresh xs) → r x y H Q
def isVal : R → Prop
  | .d _ => True
  | .fresh _ => True
  | _ => False
theorem RR.frame {mg : Gm} {G0 H : Hp} {Av : Addr → Prop} {μ μ' : List Addr} {σ σ' : L2.St} {v : V} {r : R} (hv : isVal r) (h : RR mg G0 H Av μ σ v r) : RR mg G0 H Av μ' σ' v r := by
  cases r with
  | d x => exact h
  | fresh xs => exact h
  | _ => exact hv.elim
section
variable {mg : Gm} {H : Hp} {Av : Addr → Prop}
theorem same_up {p : Addr} {o : HO} (h : H p = none) : Same H (upd H p o) := fun b x e => by
  rw [upd_ne (ne_of_none e h)]; exact e
/-- a new object's place -/
theorem notAv (hA : ∀ a, Av a → ∃ o, H a = some o) {p : Addr} (h : H p = none) : ¬ Av p := fun z => by
  obtain ⟨o, e⟩ := hA p z
  rw [h] at e; cases e
theorem Lk1.int_inv {x : V} {i : Int} (h : Lk1 mg H Av x (.int i)) : x = .int i := by
  cases h with
  | of h => cases h; rfl
theorem Lk1.bl_inv {x : V} {i : Bool} (h : Lk1 mg H Av x (.bl i)) : x = .bl i := by
  cases h with
  | of h => cases h; rfl
theorem Lk1.str_inv {x : V} {i : Str} (h : Lk1 mg H Av x (.str i)) : x = .str i := by
  cases h with
  | of h => cases h; rfl
theorem Lk1.non_inv {x : V} (h : Lk1 mg H Av x .non) : x = .non := by
  cases h with
  | of h => cases h; rfl
theorem Lk1.lst_inv {x : V} {xs : List D} (h : Lk1 mg H Av x (.lst xs)) : ∃ p vs, x = .ref p ∧ H p = some (.lst vs) ∧ RepL mg H Av vs xs := by
  cases h with
  | of h => cases h with
    | lst h1 h2 h3 => exact ⟨_, _, rfl, h1, h3⟩
  | lst h1 h2 => exact ⟨_, _, rfl, h1, h2⟩
theorem Lk1.tup_inv {x : V} {xs : List D} (h : Lk1 mg H Av x (.tup xs)) : ∃ p vs, x = .ref p ∧ TupAt H p vs ∧ RepL mg H Av vs xs ∧ ¬ Av p := by
  cases h with
  | of h => cases h with
    | tup h1 h2 h3 => exact ⟨_, _, rfl, h1, h3, h2⟩
theorem Lk1.dp {K : PySem.W.Frag} {x : V} {d : D} {p : PyData} (h : Lk1 mg H Av x d) (e : d.py = some p) : Dp K H x p := by
  cases h with
  | of h => exact h.dp e
  | lst h1 h2 =>
    simp only [D.py, Option.map_eq_some_iff] at e
    obtain ⟨ps, e1, rfl⟩ := e
    exact .lst (SqL.of h1) (h2.dp e1)
/-- isNone is told by the value -/
theorem Lk1.none_iff {x : V} {d : D} (h : Lk1 mg H Av x d) : decide (x = .non) = isNone d := by
  cases h with
  | of h => cases h <;> rfl
  | lst => rfl
theorem new_fresh (hA : ∀ a, Av a → ∃ o, H a = some o) {p : Addr} {vs : List V} {xs : List D} (h : H p = none) (r : RepL mg H Av vs xs) : RR mg H (upd H p (.lst vs)) Av [] [] (.ref p) (.fresh xs) :=
  ⟨p, vs, rfl, upd_same, r.keep (fun a o e _ => same_up h a o e) (fun a o e z => z.elim id fun z => by rw [z, h] at e; cases e), notAv hA h, h⟩
theorem new_tup (hA : ∀ a, Av a → ∃ o, H a = some o) {p : Addr} {ob : Obj} {vs : List V} {xs : List D} (h : H p = none) (ho : ob.dict = none) (r : RepL mg H Av vs xs) : RR mg H (upd H p (.frz ob (.tup vs))) Av [] [] (.ref p) (.d (.tup xs)) :=
  Rep.tup ⟨ob, upd_same, ho⟩ (notAv hA h) (r.same (same_up h))
end

theorem ints_eq {xs : List D} {mg : Gm} {H : Hp} {Av : Addr → Prop} {vs : List V} (r : RepL mg H Av vs xs) {ns : List Int} (h : toInts xs = some ns) : vs = ns.map V.int := r.ints h

/-- what is new is nobody's -/
theorem SR.aloneD {mg : Gm} {A : Addr → Prop} {G H H' : Hp} {μ : List Addr} {σ : L2.St} {ρ : List Sl} {S : Store} (s : SR mg A G μ σ H ρ S) (sm : Same H H') {p : Addr} (h : H p = none) (h' : ∃ o, H' p = some o) : SR mg (withD A p) G μ σ H' ρ S := by
  have n : ¬ Av A μ σ ρ p := s.fresh h
  have k : ∀ a o, H a = some o → ¬ Av A μ σ ρ a → H' a = some o := fun a o e _ => sm a o e
  have m : ∀ a o, H a = some o → Av (withD A p) μ σ ρ a → Av A μ σ ρ a := fun a o e z => by
    rcases z with (z | z) | z
    · exact .inl z
    · rw [z, h] at e; cases e
    · exact .inr z
  refine ⟨s.len, fun i t e h1 h2 => ?_, s.inj, fun a z => ⟨?_, (s.priv a z).2⟩, s.sl, fun l a xs h1 h2 => ?_, s.nd, fun a z => ?_, fun a o e => let ⟨h1, h2⟩ := s.gd a o e; ⟨sm a o h1, h2⟩⟩
  · have q := s.slot i t e h1 h2
    cases t with
    | none => trivial
    | d x => obtain ⟨v, e1, r⟩ := q; exact ⟨v, e1, r.keep k m⟩
    | own xs => obtain ⟨p, vs, e1, h, r⟩ := q; exact ⟨p, vs, e1, sm _ _ h, r.keep k m⟩
    | loc l => exact q
    | lam g => obtain ⟨f, e1, r⟩ := q; exact r.elim
    | scr ns => obtain ⟨a, e1, r⟩ := q; exact ⟨a, e1, r.keep k m⟩
    | obj cc fs => obtain ⟨p, C, dx, vfs, e1, h, hc, r⟩ := q; exact ⟨p, C, dx, vfs, e1, sm _ _ h, hc, r.keep k m⟩
  · rintro (q | q)
    · exact (s.priv a z).1 q
    · exact n (.inr (.inr (q ▸ z)))
  · obtain ⟨vs, e, r⟩ := s.st l a xs h1 h2
    exact ⟨vs, sm _ _ e, r.keep k m⟩
  · rcases z with z | z
    · exact ⟨(s.av a z).1, let ⟨o, e⟩ := (s.av a z).2; ⟨o, sm _ _ e⟩⟩
    · rw [z]; exact ⟨fun q => n (.inr (.inl q)), h'⟩
/-- a result of a step that lays at most -/
theorem SR.toE {mg : Gm} {A : Addr → Prop} {G H H' : Hp} {μ : List Addr} {σ : L2.St} {ρ : List Sl} {S : Store} (s : SR mg A G μ σ H ρ S) (sm : Same H H') {w : V} {z : R} (hv : isVal z) (r : RR mg H H' (Av A μ σ ρ) [] [] w z) : rE mg A G H' ρ S μ σ w z := by
  cases z with
  | d x => exact r
  | fresh xs =>
    obtain ⟨p, vs, e, h1, h2, h3, h4⟩ := r
    refine ⟨⟨p, vs, e, h1, h2, h3, ?_⟩, fun q eq => ?_⟩
    · cases z : G p with
      | none => rfl
      | some o => rw [(s.gd p o z).1] at h4; cases h4
    · rw [e] at eq
      cases eq
      exact s.aloneD sm h4 ⟨_, h1⟩
  | _ => exact hv.elim
theorem SR.newF {mg : Gm} {H : Hp} {A : Addr → Prop} {G : Hp} {μ : List Addr} {σ : L2.St} {ρ : List Sl} {S : Store} (s : SR mg A G μ σ H ρ S) {p : Addr} {vs : List V} {xs : List D} (h : H p = none) (r : RepL mg H (Av A μ σ ρ) vs xs) : rE mg A G (upd H p (.lst vs)) ρ S μ σ (.ref p) (.fresh xs) :=
  s.toE (same_up h) trivial ⟨p, vs, rfl, upd_same, r.keep (fun a o e _ => same_up h a o e) (fun a o e z => z.elim id fun z => by rw [z, h] at e; cases e), s.fresh h, h⟩
theorem SR.newT {mg : Gm} {H : Hp} {A : Addr → Prop} {G : Hp} {μ : List Addr} {σ : L2.St} {ρ : List Sl} {S : Store} (s : SR mg A G μ σ H ρ S) {p : Addr} {ob : Obj} {vs : List V} {xs : List D} (h : H p = none) (ho : ob.dict = none) (r : RepL mg H (Av A μ σ ρ) vs xs) : RR mg G (upd H p (.frz ob (.tup vs))) (Av A μ σ ρ) μ σ (.ref p) (.d (.tup xs)) :=
  Rep.tup ⟨ob, upd_same, ho⟩ (s.fresh h) (r.same (same_up h))
/-- tuple + tuple; a new one's record is known -/
def rCatZ (K : PySem.W.Frag) : R2 := fun x y H Q => ∃ a b xs ys, x = .ref a ∧ y = .ref b ∧ SqT K H a xs ∧ SqT K H b ys ∧ xs.length + ys.length ≤ sizeLine ∧
  (xs = [] → Q (.ref b) H) ∧ (xs ≠ [] → ys = [] → Q (.ref a) H) ∧ (xs ≠ [] → ys ≠ [] → ∀ (p : Addr) (ob : Obj), H p = none → ob.dict = none → Q (.ref p) (upd H p (.frz ob (.tup (xs ++ ys)))))
theorem laidT {X : Cx} {pins : List (Addr × Obj)} {s : Shared} {σ : L2.St} {H : Hp} {xs : List V} {its : List Value} {tk : Nat} (I : Inv X pins σ H s) (r : Vals xs its) (hz : xs.length ≤ sizeLine) :
    Inv X pins σ (upd H s.heap.objs.size (.frz { cls := .type "tuple", data := .seq its.toArray } (.tup xs))) { s with heap := s.heap.push { cls := .type "tuple", data := .seq its.toArray }, toks := tk } :=
  I.laid (t' := tk) (fun _ _ e => Heap.get?_push_of_some _ e) (Nat.le_refl _) ⟨Heap.get?_push_size _ rfl, hz, its, r, IsTup.new _ _⟩
theorem op_catZ {X : Cx} : OpR X (binaryOp .Add) (rCatZ X.K) := by
  intro pins s σ H x y v u Q I rx ry ⟨a, b, xs, ys, ex, ey, ha, hb, hz, q0, q1, q2⟩
  subst ex ey
  obtain rfl : v = .ref a := rx
  obtain rfl : u = .ref b := ry
  obtain ⟨ia, ra, ta, _⟩ := I.tuple ha
  obtain ⟨ib, rb, tb, _⟩ := I.tuple hb
  by_cases hx : xs = []
  · subst hx
    cases ra
    exact cat_tup0 ta tb ⟨.ref b, H, I, rfl, q0 rfl⟩
  · refine HT.cat_tup ta tb (fun z => hx (ra.nil_iff.mp z)) (fun z => ⟨.ref a, H, I, rfl, q1 hx (rb.nil_iff.mp z)⟩) (fun z => ?_) (by rw [← ra.length, ← rb.length]; exact hz)
    exact ⟨.ref s.heap.objs.size, _, laidT (tk := s.toks) I (ra.append rb) (by rw [List.length_append]; exact hz), rfl, q2 hx (fun e => z (rb.nil_iff.mpr e)) _ _ (I.hok.fresh (Nat.le_refl _)) rfl⟩
def rAddD (K : PySem.W.Frag) : R2 := fun x y H Q => rI0 (fun i j => .int (i + j)) x y H Q ∨ (∃ i k, x = .int i ∧ y = .bl k ∧ Q (.int (i + b2i k)) H) ∨ (∃ i j, x = .str i ∧ y = .str j ∧ i.length + j.length ≤ sizeLine ∧ Q (.str (i ++ j)) H) ∨ rCatZ K x y H Q ∨ rCat x y H Q
theorem or_addD {X : Cx} : OpR X (binaryOp .Add) (rAddD X.K) := OpR.or op_add (OpR.or op_add_ib (OpR.or op_add_str (OpR.or op_catZ op_cat)))
theorem d_add {mg : Gm} : Op2 mg (bop .add) (rAddD mg.K) := by
  intro H Av x y u v res Q hA hx hy hf q hv
  cases u <;> cases v <;> simp only [bop, reduceCtorEq] at hf
  case int.int i j =>
    cases hf
    exact .inl ⟨i, j, hx.int_inv, hy.int_inv, q _ H (Same.refl H) (.int _)⟩
  case int.bl i b =>
    cases hf
    exact .inr (.inl ⟨i, b, hx.int_inv, hy.bl_inv, by
      have e : b2i b = if b = true then 1 else 0 := by cases b <;> rfl
      rw [e]; exact q _ H (Same.refl H) (.int _)⟩)
  case str.str i j =>
    split at hf
    · rename_i hz
      cases hf
      exact .inr (.inr (.inl ⟨i, j, hx.str_inv, hy.str_inv, of_decide_eq_true hz, q _ H (Same.refl H) (.str _)⟩))
    · cases hf
  case tup.tup xs ys =>
    split at hf
    · rename_i hz
      cases hf
      obtain ⟨p, vs, rfl, h1, r1, n1⟩ := hx.tup_inv
      obtain ⟨p', vs', rfl, h2, r2, n2⟩ := hy.tup_inv
      have l1 := r1.length
      have l2 := r2.length
      have hz' : xs.length + ys.length ≤ sizeLine := of_decide_eq_true hz
      refine .inr (.inr (.inr (.inl ⟨p, p', vs, vs', rfl, rfl, h1.sq, h2.sq, by omega, fun e => ?_, fun _ e => ?_, fun _ _ a ob ha ho => ?_⟩)))
      · subst e
        cases r1
        exact q _ H (Same.refl H) (.tup h2 n2 r2)
      · subst e
        cases r2
        refine q _ H (Same.refl H) ?_
        rw [List.append_nil]
        exact .tup h1 n1 r1
      · exact q _ _ (same_up ha) (new_tup hA ha ho (r1.append r2))
    · cases hf
  case lst.lst xs ys =>
    split at hf
    · rename_i hz
      cases hf
      obtain ⟨p, vs, rfl, h1, r1⟩ := hx.lst_inv
      obtain ⟨p', vs', rfl, h2, r2⟩ := hy.lst_inv
      have l1 := r1.length
      have l2 := r2.length
      have hz' : xs.length + ys.length ≤ sizeLine := of_decide_eq_true hz
      exact .inr (.inr (.inr (.inr ⟨p, p', vs, vs', rfl, rfl, h1, h2, by omega, fun a ha => q _ _ (same_up ha) (new_fresh hA ha (r1.append r2))⟩)))
    · cases hf

theorem rep_eq (xs : List D) : ∀ n, rep xs n = (List.replicate n xs).flatten
  | 0 => rfl
  | n + 1 => by rw [rep, rep_eq xs n, List.replicate_succ, List.flatten_cons]
theorem repL_rep {mg : Gm} {H : Hp} {Av : Addr → Prop} {vs : List V} {xs : List D} (r : RepL mg H Av vs xs) : ∀ n, RepL mg H Av (List.replicate n vs).flatten (rep xs n)
  | 0 => .nil
  | n + 1 => by
    rw [List.replicate_succ, List.flatten_cons]
    exact r.append (repL_rep r n)
def rMulD (K : PySem.W.Frag) : R2 := fun x y H Q => rI CMul (fun i j => .int (i * j)) x y H Q ∨ rRep x y H Q 
theorem or_mulD {X : Cx} : OpR X (binaryOp .Mult) (rMulD X.K) := OpR.or op_mul op_rep
theorem d_mul {mg : Gm} : Op2 mg (bop .mul) (rMulD mg.K) := by
  intro H Av x y u v res Q hA hx hy hf q hv
  cases u <;> cases v <;> simp only [bop, reduceCtorEq] at hf
  case int.int i j =>
    split at hf
    · rename_i hz
      cases hf
      refine .inl ⟨i, j, hx.int_inv, hy.int_inv, ?_, q _ H (Same.refl H) (.int _)⟩
      unfold mulOk small at hz
      rw [Bool.or_eq_true, decide_eq_true_eq, decide_eq_true_eq] at hz
      exact hz
    · cases hf
  case lst.int xs k =>
    split at hf
    · rename_i hz
      cases hf
      simp only [Bool.and_eq_true, decide_eq_true_eq, szOk] at hz
      obtain ⟨⟨⟨_, h1⟩, h2⟩, h3⟩ := hz
      obtain ⟨p, vs, rfl, g1, r1⟩ := hx.lst_inv
      refine .inr (⟨p, k, vs, rfl, hy.int_inv, g1, h2, h1, by rw [r1.length]; exact h3, fun a ha => q _ _ (same_up ha) ?_⟩)
      exact new_fresh hA ha (repL_rep r1 _)
    · cases hf
theorem d_sub {mg : Gm} : Op2 mg (bop .sub) (rI0 fun i j => .int (i - j)) := by
  intro H Av x y u v res Q hA hx hy hf q hv
  cases u <;> cases v <;> simp only [bop, reduceCtorEq] at hf
  cases hf
  exact ⟨_, _, hx.int_inv, hy.int_inv, q _ H (Same.refl H) (.int _)⟩
theorem d_fdiv {mg : Gm} : Op2 mg (bop .fdiv) (rI CDivN fun i j => .int (i.fdiv j)) := by
  intro H Av x y u v res Q hA hx hy hf q hv
  cases u <;> cases v <;> simp only [bop, reduceCtorEq] at hf
  split at hf
  · rename_i hz
    cases hf
    exact ⟨_, _, hx.int_inv, hy.int_inv, of_decide_eq_true (p := _ ∧ _) hz, q _ H (Same.refl H) (.int _)⟩
  · cases hf
theorem d_mod {mg : Gm} : Op2 mg (bop .mod) (rI (fun _ j => j ≠ 0) fun i j => .int (i.fmod j)) := by
  intro H Av x y u v res Q hA hx hy hf q hv
  cases u <;> cases v <;> simp only [bop, reduceCtorEq] at hf
  split at hf
  · rename_i hz
    cases hf
    exact ⟨_, _, hx.int_inv, hy.int_inv, hz, q _ H (Same.refl H) (.int _)⟩
  · cases hf
theorem d_pow {mg : Gm} : Op2 mg (bop .pow) (rI CPow fun i j => .int (i ^ j.toNat)) := by
  intro H Av x y u v res Q hA hx hy hf q hv
  cases u <;> cases v <;> simp only [bop, reduceCtorEq] at hf
  split at hf
  · rename_i hz
    cases hf
    exact ⟨_, _, hx.int_inv, hy.int_inv, of_decide_eq_true (p := _ ∧ _ ∧ _) hz, q _ H (Same.refl H) (.int _)⟩
  · cases hf

/-! ### comparisons -/
def fC (o : Cop) : D → D → Option R := fun u v => blR (cop o u v)
theorem eqD_some {u v : D} {b : Bool} (h : eqD u v = some b) : ∃ x y, u.py = some x ∧ v.py = some y ∧ SeqAt.shaped x = true ∧ SeqAt.shaped y = true ∧ b = PyData.eqv x y := by
  unfold eqD at h
  cases e1 : u.py with
  | none => rw [e1] at h; cases h
  | some x =>
    cases e2 : v.py with
    | none => rw [e1, e2] at h; cases h
    | some y =>
      rw [e1, e2] at h
      simp only at h
      split at h
      · rename_i hz
        rw [Bool.and_eq_true] at hz
        cases h
        exact ⟨x, y, rfl, rfl, hz.1, hz.2, rfl⟩
      · cases h
theorem d_eq {mg : Gm} : Op2 mg (fC .eq) (rEqD mg.K) := by
  intro H Av x y u v res Q hA hx hy hf q hv
  simp only [fC, blR, cop, Option.map_eq_some_iff] at hf
  obtain ⟨b, h, rfl⟩ := hf
  obtain ⟨d, e, e1, e2, s1, s2, rfl⟩ := eqD_some h
  exact ⟨d, e, hx.dp e1, hy.dp e2, s1, s2, q _ H (Same.refl H) (.bl _)⟩
theorem d_ne {mg : Gm} : Op2 mg (fC .ne) (rNeD mg.K) := by
  intro H Av x y u v res Q hA hx hy hf q hv
  simp only [fC, blR, cop, Option.map_eq_some_iff] at hf
  obtain ⟨b, ⟨c, h, rfl⟩, rfl⟩ := hf
  obtain ⟨d, e, e1, e2, s1, s2, rfl⟩ := eqD_some h
  exact ⟨d, e, hx.dp e1, hy.dp e2, s1, s2, q _ H (Same.refl H) (.bl _)⟩
theorem d_lt {mg : Gm} : Op2 mg (fC .lt) (rI0 fun i j => .bl (decide (i < j))) := by
  intro H Av x y u v res Q hA hx hy hf q hv
  cases u <;> cases v <;> simp only [fC, blR, cop, Option.map_none, Option.map_some, reduceCtorEq] at hf
  cases hf
  exact ⟨_, _, hx.int_inv, hy.int_inv, q _ H (Same.refl H) (.bl _)⟩
theorem d_le {mg : Gm} : Op2 mg (fC .le) (rI0 fun i j => .bl (decide (i ≤ j))) := by
  intro H Av x y u v res Q hA hx hy hf q hv
  cases u <;> cases v <;> simp only [fC, blR, cop, Option.map_none, Option.map_some, reduceCtorEq] at hf
  cases hf
  exact ⟨_, _, hx.int_inv, hy.int_inv, q _ H (Same.refl H) (.bl _)⟩
theorem d_gt {mg : Gm} : Op2 mg (fC .gt) (rI0 fun i j => .bl (decide (j < i))) := by
  intro H Av x y u v res Q hA hx hy hf q hv
  cases u <;> cases v <;> simp only [fC, blR, cop, Option.map_none, Option.map_some, reduceCtorEq] at hf
  cases hf
  exact ⟨_, _, hx.int_inv, hy.int_inv, q _ H (Same.refl H) (.bl _)⟩
theorem d_ge {mg : Gm} : Op2 mg (fC .ge) (rI0 fun i j => .bl (decide (j ≤ i))) := by
  intro H Av x y u v res Q hA hx hy hf q hv
  cases u <;> cases v <;> simp only [fC, blR, cop, Option.map_none, Option.map_some, reduceCtorEq] at hf
  cases hf
  exact ⟨_, _, hx.int_inv, hy.int_inv, q _ H (Same.refl H) (.bl _)⟩
theorem d_isn {mg : Gm} : Op2 mg (fC .isnone) (fun x y H Q => y = .non ∧ Q (.bl (decide (x = .non))) H) := by
  intro H Av x y u v res Q hA hx hy hf q hv
  cases v <;> simp only [fC, blR, cop, Option.map_none, Option.map_some, reduceCtorEq] at hf
  cases hf
  exact ⟨hy.non_inv, by rw [hx.none_iff]; exact q _ H (Same.refl H) (.bl _)⟩
theorem d_notn {mg : Gm} : Op2 mg (fC .notnone) (fun x y H Q => y = .non ∧ Q (.bl (!decide (x = .non))) H) := by
  intro H Av x y u v res Q hA hx hy hf q hv
  cases v <;> simp only [fC, blR, cop, Option.map_none, Option.map_some, reduceCtorEq] at hf
  cases hf
  exact ⟨hy.non_inv, by rw [hx.none_iff]; exact q _ H (Same.refl H) (.bl _)⟩
/-- in, over lists and tuples of data -/
def rInDD (K : PySem.W.Frag) (neg : Bool) : R2 := fun x y H Q => ∃ d e ds, Dp K H x d ∧ Dp K H y e ∧ (e = .list ds ∨ e = .tuple ds) ∧ SeqAt.shaped d = true ∧ SeqAt.shaped e = true ∧ Q (.bl (if neg then !ds.any (fun z => PyData.eqv z d) else ds.any fun z => PyData.eqv z d)) H
theorem or_inDD {X : Cx} (hu : X.A.units + 65 < cLine) : OpR X (compareOp .In) (rInDD X.K false) := by
  intro pins s σ H x y v u Q I rx ry h
  obtain ⟨d, e, ds, hd, he, ho, sd, se, q⟩ := h
  obtain ⟨as, r1⟩ := Dp.reads I d x v hd rx
  obtain ⟨bs, r2⟩ := Dp.reads I e y u he ry
  rcases ho with rfl | rfl
  · exact SeqAt.in_list_reads r2 r1 (SeqAt.canLay_of_shaped se) (SeqAt.canLay_of_shaped sd) (room_in_shaped sd hu) ⟨.bl _, H, I, rfl, q⟩
  · exact SeqAt.in_tuple_reads r2 r1 (SeqAt.canLay_of_shaped se) (SeqAt.canLay_of_shaped sd) (room_in_shaped sd hu) ⟨.bl _, H, I, rfl, q⟩
theorem or_notInDD {X : Cx} (hu : X.A.units + 65 < cLine) : OpR X (compareOp .NotIn) (rInDD X.K true) := by
  intro pins s σ H x y v u Q I rx ry h
  obtain ⟨d, e, ds, hd, he, ho, sd, se, q⟩ := h
  obtain ⟨as, r1⟩ := Dp.reads I d x v hd rx
  obtain ⟨bs, r2⟩ := Dp.reads I e y u he ry
  rcases ho with rfl | rfl
  · exact SeqAt.notIn_list_reads r2 r1 (SeqAt.canLay_of_shaped se) (SeqAt.canLay_of_shaped sd) (room_in_shaped sd hu) ⟨.bl _, H, I, rfl, q⟩
  · exact SeqAt.notIn_tuple_reads r2 r1 (SeqAt.canLay_of_shaped se) (SeqAt.canLay_of_shaped sd) (room_in_shaped sd hu) ⟨.bl _, H, I, rfl, q⟩
theorem inD_some {u v : D} {b : Bool} (h : inD u v = some b) : ∃ d e ds, u.py = some d ∧ v.py = some e ∧ (e = .list ds ∨ e = .tuple ds) ∧ SeqAt.shaped d = true ∧ SeqAt.shaped e = true ∧ b = ds.any fun z => PyData.eqv z d := by
  unfold inD at h
  split at h
  · rename_i d ds e1 e2
    split at h
    · rename_i hz
      rw [Bool.and_eq_true] at hz
      cases h
      exact ⟨_, _, _, e1, e2, .inl rfl, hz.1, hz.2, rfl⟩
    · cases h
  · rename_i d ds e1 e2
    split at h
    · rename_i hz
      rw [Bool.and_eq_true] at hz
      cases h
      exact ⟨_, _, _, e1, e2, .inr rfl, hz.1, hz.2, rfl⟩
    · cases h
  · cases h
theorem d_in {mg : Gm} : Op2 mg (fC .isin) (rInDD mg.K false) := by
  intro H Av x y u v res Q hA hx hy hf q hv
  simp only [fC, blR, cop, Option.map_eq_some_iff] at hf
  obtain ⟨b, h, rfl⟩ := hf
  obtain ⟨d, e, ds, e1, e2, ho, s1, s2, rfl⟩ := inD_some h
  exact ⟨d, e, ds, hx.dp e1, hy.dp e2, ho, s1, s2, q _ H (Same.refl H) (.bl _)⟩
theorem d_notin {mg : Gm} : Op2 mg (fC .notin) (rInDD mg.K true) := by
  intro H Av x y u v res Q hA hx hy hf q hv
  simp only [fC, blR, cop, Option.map_eq_some_iff] at hf
  obtain ⟨b, ⟨c, h, rfl⟩, rfl⟩ := hf
  obtain ⟨d, e, ds, e1, e2, ho, s1, s2, rfl⟩ := inD_some h
  exact ⟨d, e, ds, hx.dp e1, hy.dp e2, ho, s1, s2, q _ H (Same.refl H) (.bl _)⟩

/-! ### items, slices -/
theorem ixN_eq (n : Nat) (i : Int) : ixN n i = ixOf n i := rfl
def rIxD (K : PySem.W.Frag) : R2 := fun x y H Q => rIxL K x y H Q ∨ rIxT K x y H Q
theorem d_ix {mg : Gm} : Op2 mg (fun u v => (subD u v).map .d) (rIxD mg.K) := by
  intro H Av x y u v res Q hA hx hy hf q hv
  simp only [Option.map_eq_some_iff] at hf
  obtain ⟨d, hf, rfl⟩ := hf
  cases u <;> cases v <;> simp only [subD, reduceCtorEq, Option.bind_eq_some_iff] at hf
  case tup.int xs i =>
    obtain ⟨j, h1, h2⟩ := hf
    obtain ⟨p, vs, rfl, g1, r1, n1⟩ := hx.tup_inv
    obtain ⟨z, g2, r2⟩ := r1.get h2
    refine .inr ⟨p, vs, i, z, rfl, hy.int_inv, g1.sq, ?_, q z H (Same.refl H) r2⟩
    unfold atI
    rw [r1.length, ixN_eq, h1]
    exact g2
  case lst.int xs i =>
    obtain ⟨j, h1, h2⟩ := hf
    obtain ⟨p, vs, rfl, g1, r1⟩ := hx.lst_inv
    obtain ⟨z, g2, r2⟩ := r1.get h2
    refine .inl ⟨p, vs, i, z, rfl, hy.int_inv, SqL.of g1, ?_, q z H (Same.refl H) r2⟩
    unfold atI
    rw [r1.length, ixN_eq, h1]
    exact g2
end DL
end

section
/-! The data layer, part 5: what is walked. -/
namespace DL
open PySem PySem.Spec PyProof.Rows L2

/-! ### enumerate(tuple) -/
set_option maxHeartbeats 1000000 in
theorem newEnumT (t : Addr) (items : Array Value) : Meets (Builtin.«enumerate.__new__» ⟨[.type "enumerate", .ref t], []⟩) (fun _ R s => s.heap.IsTuple t items ∧
    R (.ok (.ret (.ref (s.heap.push { cls := .type "tuple_iterator", data := .fields #[.ref t, .int 0 0] }).objs.size)))
      { s with heap := (s.heap.push { cls := .type "tuple_iterator", data := .fields #[.ref t, .int 0 0] }).push { cls := .type "enumerate", data := .fields #[.none, .bool false, .ref s.heap.objs.size, rawInt 0, .none, .none] } }) := by
  refine .of_wp fun prog w A R s h => ?_
  obtain ⟨hp, gg, dd, tk, os⟩ := s
  obtain ⟨ht, hR⟩ := h
  have sub' := sub_enumerate
  have ht' : Heap.IsTuple (Shared.heap ⟨hp, gg, dd, tk, os⟩) t items := ht
  have it1 : ∀ {A' : Around} {E : Value → Shared → Prop} {Q : Value → Shared → Prop}, Q (.ref hp.objs.size) ⟨hp.push { cls := .type "tuple_iterator", data := .fields #[.ref t, .int 0 0] }, gg, dd, tk, os⟩ → wpAny (model prog w) A' (pyIter (.ref t)) Q E ⟨hp, gg, dd, tk, os⟩ :=
    fun q => wpAny_pyIter_tuple ht' q
  wp_walk using it1
  refine wpAny_stack_any fun st => (wpAny_pure ?_)
  split
  · rename_i c _ _ _ _ _
    cases (c == Value.type "enumerate") <;> (wp_walk using it1; exact ⟨_, rfl, hR⟩)
  · wp_walk using it1
    exact ⟨_, rfl, hR⟩
theorem call_enumT {prog : Program} {w : World} {A : Around} {E : Value → Shared → Prop} {s : Shared} {t : Addr} {items : Array Value} {Q : Value → Shared → Prop} (ht : s.heap.IsTuple t items)
    (h : ∀ h', IsEnum h' (s.heap.objs.size + 1) s.heap.objs.size 0 .none → h'.IsTupleIter s.heap.objs.size t 0 → (∀ b o, s.heap.get? b = some o → h'.get? b = some o) → Q (.ref (s.heap.objs.size + 1)) { s with heap := h' }) :
    wpAny (model prog w) A (call (.type "enumerate") [.ref t]) Q E s := by
  refine callType_new F.called_enumerate (by decide) (F.typeCall_enumerate_1 _) (F.newCall_enumerate_1 _) (fun obj => F.args_object_init_2 obj _) F.entry_enumerate_new (newEnumT t items) ⟨ht, ?_⟩
  have sz : (s.heap.push { cls := .type "tuple_iterator", data := .fields #[.ref t, .int 0 0] }).objs.size = s.heap.objs.size + 1 := Heap.size_push ..
  show _ ∧ _
  rw [sz]
  have e1 : IsEnum ((s.heap.push { cls := .type "tuple_iterator", data := .fields #[.ref t, .int 0 0] }).push { cls := .type "enumerate", data := .fields #[.none, .bool false, .ref s.heap.objs.size, rawInt 0, .none, .none] })
      (s.heap.objs.size + 1) s.heap.objs.size 0 .none := by
    have q := Heap.get?_push_size (s.heap.push { cls := .type "tuple_iterator", data := .fields #[.ref t, .int 0 0] }) (o := { cls := .type "enumerate", data := .fields #[.none, .bool false, .ref s.heap.objs.size, rawInt 0, .none, .none] }) rfl
    rw [sz] at q
    exact q
  exact ⟨⟨_, e1, rfl⟩, h _ e1 ⟨_, Heap.get?_push_of_some _ (Heap.get?_push_size _ rfl), rfl, rfl⟩ fun b o x => Heap.get?_push_of_some _ (Heap.get?_push_of_some _ x)⟩
/-- the tuple at a, each item in a new pair -/
def IteT (K : PySem.W.Frag) (a : Addr) : It :=
  ⟨fun i H => ∃ (xs : List V) (x : V), SqT K H a xs ∧ xs[i]? = some x, fun i H v H' => ∃ T x, v = .ref T ∧ H T = none ∧ H' = upd H T (.tup [.int (i : Nat), x]) ∧ ∀ xs, SqT K H a xs → xs[i]? = some x, fun i H => ∃ xs : List V, SqT K H a xs ∧ xs.length = i⟩
theorem turn_enumT {P : Program} {w : World} {K : PySem.W.Frag} {elts : List Expr} {kk : Nat} {tpos : Pos} (a e it : Addr) (hae : a ≠ e) (hai : a ≠ it) :
    Turn P w K (.Tuple elts kk tpos) (IteT K a) [e, it] e (fun i h => (∃ old, IsEnum h e it ((i : Nat) : Int) old) ∧ h.IsTupleIter it a i ∧ e ≠ it) where
  mem := by simp
  obj := by
    rintro i h ⟨⟨old, he⟩, ⟨o, ho, hc, hd⟩, _⟩ b hb
    rcases List.mem_cons.mp hb with z | z
    · rw [z]; exact ⟨_, he, fun v q => nomatch q⟩
    · rw [List.mem_singleton.mp z]; exact ⟨o, ho, fun v q => by rw [hd] at q; cases q⟩
  keep := by
    rintro i h h' ⟨⟨old, he⟩, hi, hne⟩ k
    exact ⟨⟨old, k e (by simp) _ he⟩, hi.at fun o q => k it (by simp) o q, hne⟩
  item := by
    intro X hP hw hK hc i pins s σ H E I hf st hg
    subst hP hw hK
    obtain ⟨⟨old, he⟩, hit, hne⟩ := st
    obtain ⟨xs, x, hq, hx⟩ := hg
    obtain ⟨its, rv, p, hz⟩ := I.tuple hq
    obtain ⟨u, hu, ru⟩ := rv.get hx
    have le : e < s.heap.objs.size := Heap.lt_size he
    have li : it < s.heap.objs.size := by obtain ⟨_, q, _⟩ := hit; exact Heap.lt_size q
    have hlt : i < its.toArray.size := by
      rw [List.size_toArray]
      exact (List.getElem?_eq_some_iff.mp hu).1
    have nf : e ∉ [it, a] := by
      intro z
      rcases List.mem_cons.mp z with z | z
      · exact hne z
      · exact hae (List.mem_singleton.mp z).symm
    refine wpAny_pyNext_enum_itemC (Draws.tuple (prog := X.prog) (w := X.w) (A := X.A.in1) (I.ok.hd hc) it a hai its.toArray) he ⟨hit, p⟩ hlt hne nf fun y h' tk hy ho hst hT hsz hk => ?_
    have hy' : y = u := by
      rw [List.getElem?_toArray] at hy
      exact Option.some.inj (hy.symm.trans hu)
    subst hy'
    refine ⟨_, rfl, wpAny_letOwnedTupleGo_enum (s := { s with heap := h', toks := tk + 1 }) ho fun h'' he' sb => ?_⟩
    have hT2 : h''.get? s.heap.objs.size = some { cls := .type "tuple", data := .seq #[.int i tk, y] } := (sb.2 _ (Nat.ne_of_gt le)).trans hT
    have nw : ObjOk X.prog X.w (upd H s.heap.objs.size (.tup [.int (i : Nat), x])) h'' s.heap.objs.size (.tup [.int (i : Nat), x]) :=
      ⟨by show 2 ≤ sizeLine; decide, [.int i tk, y], .cons ⟨_, rfl⟩ (.cons ru .nil), ⟨_, hT2, rfl, _, rfl⟩⟩
    have I1 : Inv X pins σ (upd H s.heap.objs.size (.tup [.int (i : Nat), x])) { s with heap := h'', toks := tk + 1 } := by
      refine I.turnedNew (ch := [e, it]) (fun b ob hb q => ?_) hf (Nat.le_refl _) nw
      have b1 : b ≠ e := fun z => hb (by simp [z])
      have b2 : b ≠ it := fun z => hb (by simp [z])
      exact (sb.2 b b1).trans (hk b ob b1 b2 q)
    refine ⟨.ref s.heap.objs.size, _, I1, rfl, ⟨_, x, rfl, I.hok.fresh (Nat.le_refl _), rfl, fun ys hy => by rw [I.tuple_inj hy hq]; exact hx⟩, ⟨⟨y, ?_⟩, hst.1.at fun o q => (sb.2 it (Ne.symm hne)).trans q, hne⟩, fun b hb => ?_⟩
    · rw [show ((i + 1 : Nat) : Int) = (i : Int) + 1 by omega]; exact he'
    · have lb : b < s.heap.objs.size := by
        rcases List.mem_cons.mp hb with z | z
        · rw [z]; exact le
        · rw [List.mem_singleton.mp z]; exact li
      rw [upd_ne (Nat.ne_of_lt lb)]
      exact (hf b hb).1
  done := by
    intro X hP hw hK hc i pins s σ H E I hf st hg
    subst hP hw hK
    obtain ⟨⟨old, he⟩, hit, hne⟩ := st
    obtain ⟨xs, hq, hx⟩ := hg
    obtain ⟨its, rv, p, hz⟩ := I.tuple hq
    obtain ⟨f0, f1, f2, f3, f4, f5⟩ := hf it (by simp)
    have hn : its.toArray.size = i := by rw [List.size_toArray, ← rv.length, hx]
    have D := Draws.tuple (prog := X.prog) (w := X.w) (A := X.A.in1) (I.ok.hd hc) it a hai its.toArray
    rw [hn] at D
    exact wpAny_pyNext_enum_endD D he ⟨hit, p⟩ fun h' eb => ⟨rfl, I.turned (t' := s.toks) (fun b o hb q => eb b o hb q) f0 f1 f3 f4 f5⟩
  self := fun A i s Q E st h => let ⟨⟨_, he⟩, _⟩ := st; wpAny_pyIter_enum he h
def iEnumD (K : PySem.W.Frag) (ta : TA) : TI := fun σ H R => ta σ H fun vs H1 => ∃ a xs, vs = [.ref a] ∧ ((SqL K H1 a xs ∧ (xs.length ≤ sizeLine → R (Ite K a) H1)) ∨ (SqT K H1 a xs ∧ (xs.length ≤ sizeLine → R (IteT K a) H1)))
theorem pi_enumD {X : Cx} {e : Expr} {ta : TA} {p pos tpos : Pos} {elts : List Expr} {kk : Nat} (hg : Gl X "enumerate") (hm : X.mg "enumerate" = none) (ha : PA X [e] ta) (hs : starEach [e] X.env = [(false, eval e X.env)]) :
    PI X (.Tuple elts kk tpos) (.Call (.Name "enumerate" p) [e] [] pos) (iEnumD X.K ta) := by
  refine ⟨fun pins s σ H R I h => ?_⟩
  refine Call_ (ld_blt I hg hm boot_enumerate (PyProof.Rows.callWith_type1 (thn (ha.run pos pins s σ H _ I h) fun us s1 ⟨vs, H1, I1, r1, q1⟩ => ?_) hs rfl))
  obtain ⟨a, xs, ex, q⟩ := q1
  subst ex
  obtain ⟨u, rfl, r⟩ := r1.one
  cases r
  have fp : ∀ b ∈ [s1.heap.objs.size + 1, s1.heap.objs.size], FpOk X pins H1 b := fun b hb => by
    have hle : s1.heap.objs.size ≤ b := by
      rcases List.mem_cons.mp hb with z | z
      · rw [z]; exact Nat.le_add_right _ _
      · rw [List.mem_singleton.mp z]; exact Nat.le_refl _
    exact I1.fpOk hle (I1.hok.fresh hle)
  rcases q with ⟨hq, q⟩ | ⟨hq, q⟩
  · obtain ⟨its, rv, p', hz⟩ := I1.list hq
    refine call_enumerate_list p'.isList fun h' he hit hsz hk => wpAny_pyIter_enum he ?_
    exact ⟨s1.heap.objs.size + 1, [s1.heap.objs.size + 1, s1.heap.objs.size], _, _, H1, rfl, I1.kept (t' := s1.toks) hk, turn_enum a (s1.heap.objs.size + 1) s1.heap.objs.size, ⟨⟨.none, he⟩, hit, Nat.succ_ne_self _⟩, fp, q hz⟩
  · obtain ⟨its, rv, p', hz⟩ := I1.tuple hq
    have la : a < s1.heap.objs.size := by obtain ⟨o, ho, _⟩ := id p'; exact Heap.lt_size ho
    refine call_enumT (show s1.heap.IsTuple a its.toArray from p') fun h' he hit hk => wpAny_pyIter_enum he ?_
    exact ⟨s1.heap.objs.size + 1, [s1.heap.objs.size + 1, s1.heap.objs.size], _, _, H1, rfl, I1.kept (t' := s1.toks) hk, turn_enumT a (s1.heap.objs.size + 1) s1.heap.objs.size (Nat.ne_of_lt (Nat.lt_succ_of_lt la)) (Nat.ne_of_lt la), ⟨⟨.none, he⟩, hit, Nat.succ_ne_self _⟩, fp, q hz⟩
/-! ### a list or a tuple, by its value -/
def iSeqD (K : PySem.W.Frag) (tl : TE) : TI := fun σ H R => tl σ H fun x H1 => ∃ a xs, x = .ref a ∧ ((SqL K H1 a xs ∧ (xs.length ≤ sizeLine → R (Itl K a) H1)) ∨ (SqT K H1 a xs ∧ (xs.length ≤ sizeLine → R (Itt K a) H1)))
theorem pi_seqD {X : Cx} {tg l : Expr} {tl : TE} (hl : PE X l tl) : PI X tg l (iSeqD X.K tl) := by
  refine ⟨fun pins s σ H R I h => ?_⟩
  refine thn (hl.run pins s σ H _ I h) fun v s1 ⟨x, H1, I1, r1, q1⟩ => ?_
  obtain ⟨a, xs, e, q⟩ := q1
  subst e
  cases r1
  have fp : ∀ b ∈ [s1.heap.objs.size], FpOk X pins H1 b := fun b hb => by
    rw [List.mem_singleton.mp hb]
    exact I1.fpOk (Nat.le_refl _) (I1.hok.fresh (Nat.le_refl _))
  rcases q with ⟨hq, q⟩ | ⟨hq, q⟩
  · obtain ⟨its, rv, p, hz⟩ := I1.list hq
    refine wpAny_pyIter_list p.isList ?_
    exact ⟨s1.heap.objs.size, [s1.heap.objs.size], _, _, H1, rfl, I1.kept (t' := s1.toks) fun b o e => Heap.get?_push_of_some _ e, turn_list a _, ⟨_, Heap.get?_push_size _ rfl, rfl, rfl⟩, fp, q hz⟩
  · obtain ⟨its, rv, p, hz⟩ := I1.tuple hq
    refine wpAny_pyIter_tuple (show s1.heap.IsTuple a its.toArray from p) ?_
    exact ⟨s1.heap.objs.size, [s1.heap.objs.size], _, _, H1, rfl, I1.kept (t' := s1.toks) fun b o e => Heap.get?_push_of_some _ e, turn_tuple a _, ⟨_, Heap.get?_push_size _ rfl, rfl, rfl⟩, fp, q hz⟩

/-! ### zip of two lists or two tuples -/
def iZipD (K : PySem.W.Frag) (ta : TA) : TI := fun σ H R => ta σ H fun vs H1 => ∃ a b xs ys, vs = [.ref a, .ref b] ∧ ((SqL K H1 a xs ∧ SqL K H1 b ys ∧ (xs.length ≤ sizeLine → ys.length ≤ sizeLine → R (Itz K a b) H1)) ∨ (SqT K H1 a xs ∧ SqT K H1 b ys ∧ (xs.length ≤ sizeLine → ys.length ≤ sizeLine → R (RZ.ItzT K a b) H1)))
theorem pi_zipD {X : Cx} {e e2 : Expr} {ta : TA} {p pos tpos : Pos} {elts : List Expr} {kk : Nat} (hg : Gl X "zip") (hm : X.mg "zip" = none) (ha : PA X [e, e2] ta)
    (hs : starEach [e, e2] X.env = (false, eval e X.env) :: starEach [e2] X.env) (hpl : (backTo pos (starEach [e2] X.env)).any (·.1) = false) : PI X (.Tuple elts kk tpos) (.Call (.Name "zip" p) [e, e2] [] pos) (iZipD X.K ta) := by
  refine ⟨fun pins s σ H R I h => Call_ (ld_blt I hg hm PyProof.Rows.boot_zip (PyProof.Rows.callWith_type1 (thn (ha.run pos pins s σ H _ I h) fun us s1 ⟨vs, H1, I1, r1, q1⟩ => ?_) hs hpl))⟩
  obtain ⟨a, b, xs, ys, ex, q1⟩ := q1
  subst ex
  obtain ⟨u, v, rfl, r, r'⟩ := r1.two
  cases r
  cases r'
  generalize hN : s1.heap.objs.size = N
  have fp : ∀ c ∈ [N + 4, N + 2, N + 3, N, N + 1], FpOk X pins H1 c := fun c hc => by
    have hle : s1.heap.objs.size ≤ c := by
      rw [hN]
      simp only [List.mem_cons, List.not_mem_nil, or_false] at hc
      rcases hc with z | z | z | z | z <;> rw [z] <;> first | exact Nat.le_add_right _ _ | exact Nat.le_refl _
    exact I1.fpOk hle (I1.hok.fresh hle)
  rcases q1 with ⟨hx, hy, q⟩ | ⟨hx, hy, q⟩
  · obtain ⟨its, rv, p1, z1⟩ := I1.list hx
    obtain ⟨its2, rv2, p2, z2⟩ := I1.list hy
    refine call_zip_2 p1.isList p2.isList fun h' hz hTI hTO h1 h2 hsz hk => wpAny_pyIter_zip hz ?_
    rw [hN] at hz hTI hTO h1 h2 ⊢
    exact ⟨N + 4, [N + 4, N + 2, N + 3, N, N + 1], _, _, H1, rfl, I1.kept (t' := s1.toks) hk, turn_zip (PySem.W.ktu_apart N a b (by rw [← hN]; exact p1.lt) (by rw [← hN]; exact p2.lt)), ⟨hz, hTI, ⟨_, _, hTO⟩, h1, h2⟩, fp, q z1 z2⟩
  · obtain ⟨its, rv, p1, z1⟩ := I1.tuple hx
    obtain ⟨its2, rv2, p2, z2⟩ := I1.tuple hy
    have l1 : a < N := by obtain ⟨o, ho, _⟩ := id p1; rw [← hN]; exact Heap.lt_size ho
    have l2 : b < N := by obtain ⟨o, ho, _⟩ := id p2; rw [← hN]; exact Heap.lt_size ho
    refine RZ.call_zipT (show s1.heap.IsTuple a its.toArray from p1) (show s1.heap.IsTuple b its2.toArray from p2) fun h' hz hTI hTO h1 h2 hsz hk => wpAny_pyIter_zip hz ?_
    rw [hN] at hz hTI hTO h1 h2 ⊢
    exact ⟨N + 4, [N + 4, N + 2, N + 3, N, N + 1], _, _, H1, rfl, I1.kept (t' := s1.toks) hk, RZ.turn_zipT (PySem.W.ktu_apart N a b l1 l2), ⟨hz, hTI, ⟨_, _, hTO⟩, h1, h2⟩, fp, q z1 z2⟩

/-! ### walks by data -/
section
variable {mg : Gm} {H0 : Hp} {Av : Addr → Prop} {tg : Tg} {is : List Nat}
theorem RepL.at {H : Hp} {vs : List V} {ds : List D} (r : RepL mg H Av vs ds) {i : Nat} {d : D} (h : ds[i]? = some d) {x : V} (hx : ∀ v, vs[i]? = some v → x = v) : Rep mg H Av x d := by
  obtain ⟨v, h1, h2⟩ := r.get h
  rw [hx v h1]; exact h2
theorem walk_lst {a : Addr} {vs : List V} {xs : List D} (h : H0 a = some (.lst vs)) (n : ¬ Av a) (r : RepL mg H0 Av vs xs) : WalkR tg mg H0 Av (Itl mg.K a) xs := by
  intro H1 Av1 k m d
  have q : SqL mg.K H1 a vs := SqL.of (k _ _ h n)
  have r1 := r.keep k m
  refine ⟨fun i d hd => ?_, ⟨vs, q, by rw [r.length]; exact Nat.le_refl _⟩⟩
  obtain ⟨v, h1, h2⟩ := r1.get hd
  refine ⟨⟨vs, v, q, h1⟩, fun x H2 hy => ?_⟩
  obtain ⟨rfl, f⟩ := hy
  have e := f vs q
  rw [h1] at e; cases e
  exact ⟨Same.refl _, .of h2⟩
theorem walk_tup {a : Addr} {vs : List V} {xs : List D} (h : TupAt H0 a vs) (n : ¬ Av a) (r : RepL mg H0 Av vs xs) : WalkR tg mg H0 Av (Itt mg.K a) xs := by
  intro H1 Av1 k m d
  have q : SqT mg.K H1 a vs := TupAt.sq (h.keep fun o e => k _ o e n)
  have r1 := r.keep k m
  refine ⟨fun i d hd => ?_, ⟨vs, q, by rw [r.length]; exact Nat.le_refl _⟩⟩
  obtain ⟨v, h1, h2⟩ := r1.get hd
  refine ⟨⟨vs, v, q, h1⟩, fun x H2 hy => ?_⟩
  obtain ⟨rfl, f⟩ := hy
  have e := f vs q
  rw [h1] at e; cases e
  exact ⟨Same.refl _, .of h2⟩
theorem rngL_get {lo : Int} {n i : Nat} {d : D} (h : (rngL lo n)[i]? = some d) : i < n ∧ d = .int (lo + (i : Nat)) := by
  unfold rngL at h
  rw [List.getElem?_map] at h
  by_cases hi : i < n
  · rw [List.getElem?_range hi] at h
    cases h
    exact ⟨hi, rfl⟩
  · rw [List.getElem?_eq_none (by rw [List.length_range]; omega)] at h
    cases h
theorem rngL_len (lo : Int) (n : Nat) : (rngL lo n).length = n := by unfold rngL; rw [List.length_map, List.length_range]
theorem walk_rng (lo : Int) (n : Nat) : WalkR tg mg H0 Av (Itr lo n) (rngL lo n) := by
  intro H1 Av1 k m d
  refine ⟨fun i d hd => ?_, by rw [rngL_len]; exact Nat.le_refl _⟩
  obtain ⟨hi, rfl⟩ := rngL_get hd
  refine ⟨hi, fun x H2 hy => ?_⟩
  obtain ⟨rfl, rfl⟩ := hy
  exact ⟨Same.refl _, .of (.int _)⟩
theorem enumL_len : ∀ (k : Int) (xs : List D), (enumL k xs).length = xs.length
  | _, [] => rfl
  | k, x :: xs => congrArg Nat.succ (enumL_len (k + 1) xs)
theorem enumL_get : ∀ {k : Int} {xs : List D} {i : Nat} {d : D}, (enumL k xs)[i]? = some d → ∃ x, xs[i]? = some x ∧ d = .tup [.int (k + (i : Nat)), x]
  | _, [], _, _, h => by simp [enumL] at h
  | k, x :: xs, 0, d, h => by
    simp only [enumL, List.getElem?_cons_zero, Option.some.injEq] at h
    exact ⟨x, rfl, by rw [← h]; simp⟩
  | k, x :: xs, i + 1, d, h => by
    simp only [enumL, List.getElem?_cons_succ] at h
    obtain ⟨y, h1, h2⟩ := enumL_get h
    refine ⟨y, by simpa using h1, ?_⟩
    rw [h2, show k + 1 + (i : Int) = k + ((i + 1 : Nat) : Int) by omega]
theorem rep_new2 {H : Hp} {Av1 : Addr → Prop} (dm : ∀ a, Av1 a → ∃ o, H a = some o) {T : Addr} {x y : V} {u v : D} (hT : H T = none) (r1 : Rep mg H Av1 x u) (r2 : Rep mg H Av1 y v) : YR mg (upd H T (.tup [x, y])) Av1 (.many is) (.ref T) (.tup [u, v]) :=
  .inr ⟨T, _, _, rfl, rfl, upd_same, .cons (r1.same (same_up hT)) (.cons (r2.same (same_up hT)) .nil)⟩
theorem walk_enum {a : Addr} {vs : List V} {xs : List D} (h : H0 a = some (.lst vs)) (n : ¬ Av a) (r : RepL mg H0 Av vs xs) : WalkR (.many is) mg H0 Av (Ite mg.K a) (enumL 0 xs) := by
  intro H1 Av1 k m dm
  have q : SqL mg.K H1 a vs := SqL.of (k _ _ h n)
  have r1 := r.keep k m
  refine ⟨fun i d hd => ?_, ⟨vs, q, by rw [r.length, enumL_len]; exact Nat.le_refl _⟩⟩
  obtain ⟨x, hx, rfl⟩ := enumL_get hd
  obtain ⟨v, h1, h2⟩ := r1.get hx
  refine ⟨⟨vs, v, q, h1⟩, fun z H2 hy => ?_⟩
  obtain ⟨T, y, rfl, hT, rfl, f⟩ := hy
  have e := f vs q
  rw [h1] at e; cases e
  exact ⟨same_up hT, rep_new2 dm hT (by rw [Int.zero_add]; exact .int _) h2⟩
theorem walk_enumT {a : Addr} {vs : List V} {xs : List D} (h : TupAt H0 a vs) (n : ¬ Av a) (r : RepL mg H0 Av vs xs) : WalkR (.many is) mg H0 Av (IteT mg.K a) (enumL 0 xs) := by
  intro H1 Av1 k m dm
  have q : SqT mg.K H1 a vs := TupAt.sq (h.keep fun o e => k _ o e n)
  have r1 := r.keep k m
  refine ⟨fun i d hd => ?_, ⟨vs, q, by rw [r.length, enumL_len]⟩⟩
  obtain ⟨x, hx, rfl⟩ := enumL_get hd
  obtain ⟨v, h1, h2⟩ := r1.get hx
  refine ⟨⟨vs, v, q, h1⟩, fun z H2 hy => ?_⟩
  obtain ⟨T, y, rfl, hT, rfl, f⟩ := hy
  have e := f vs q
  rw [h1] at e; cases e
  exact ⟨same_up hT, rep_new2 dm hT (by rw [Int.zero_add]; exact .int _) h2⟩
theorem zip2L_len : ∀ (xs ys : List D), (zip2L xs ys).length = min xs.length ys.length
  | [], _ => by simp [zip2L]
  | _ :: _, [] => by simp [zip2L]
  | x :: xs, y :: ys => by
    simp only [zip2L, List.length_cons, zip2L_len xs ys]
    omega
theorem zip2L_get : ∀ {xs ys : List D} {i : Nat} {d : D}, (zip2L xs ys)[i]? = some d → ∃ x y, xs[i]? = some x ∧ ys[i]? = some y ∧ d = .tup [x, y]
  | [], _, _, _, h => by simp [zip2L] at h
  | _ :: _, [], _, _, h => by simp [zip2L] at h
  | x :: xs, y :: ys, 0, d, h => by
    simp only [zip2L, List.getElem?_cons_zero, Option.some.injEq] at h
    exact ⟨x, y, rfl, rfl, h.symm⟩
  | x :: xs, y :: ys, i + 1, d, h => by
    simp only [zip2L, List.getElem?_cons_succ] at h
    simpa using zip2L_get h
theorem walk_zipL {a b : Addr} {vs ws : List V} {xs ys : List D} (h : H0 a = some (.lst vs)) (n : ¬ Av a) (r : RepL mg H0 Av vs xs) (h' : H0 b = some (.lst ws)) (n' : ¬ Av b) (r' : RepL mg H0 Av ws ys) : WalkR (.many is) mg H0 Av (Itz mg.K a b) (zip2L xs ys) := by
  intro H1 Av1 k m dm
  have q : SqL mg.K H1 a vs := SqL.of (k _ _ h n)
  have q' : SqL mg.K H1 b ws := SqL.of (k _ _ h' n')
  refine ⟨fun i d hd => ?_, ⟨vs, ws, q, q', by rw [r.length, r'.length, zip2L_len]; omega⟩⟩
  obtain ⟨x, y, hx, hy, rfl⟩ := zip2L_get hd
  obtain ⟨v, h1, h2⟩ := (r.keep k m).get hx
  obtain ⟨w, h3, h4⟩ := (r'.keep k m).get hy
  refine ⟨⟨vs, ws, v, w, q, q', h1, h3⟩, fun z H2 hz => ?_⟩
  obtain ⟨T, x1, y1, rfl, hT, rfl, f, f'⟩ := hz
  have e := f vs q
  rw [h1] at e; cases e
  have e' := f' ws q'
  rw [h3] at e'; cases e'
  exact ⟨same_up hT, rep_new2 dm hT h2 h4⟩
theorem walk_zipT {a b : Addr} {vs ws : List V} {xs ys : List D} (h : TupAt H0 a vs) (n : ¬ Av a) (r : RepL mg H0 Av vs xs) (h' : TupAt H0 b ws) (n' : ¬ Av b) (r' : RepL mg H0 Av ws ys) : WalkR (.many is) mg H0 Av (RZ.ItzT mg.K a b) (zip2L xs ys) := by
  intro H1 Av1 k m dm
  have q : SqT mg.K H1 a vs := TupAt.sq (h.keep fun o e => k _ o e n)
  have q' : SqT mg.K H1 b ws := TupAt.sq (h'.keep fun o e => k _ o e n')
  refine ⟨fun i d hd => ?_, ⟨vs, ws, q, q', by rw [r.length, r'.length, zip2L_len]; omega⟩⟩
  obtain ⟨x, y, hx, hy, rfl⟩ := zip2L_get hd
  obtain ⟨v, h1, h2⟩ := (r.keep k m).get hx
  obtain ⟨w, h3, h4⟩ := (r'.keep k m).get hy
  refine ⟨⟨vs, ws, v, w, q, q', h1, h3⟩, fun z H2 hz => ?_⟩
  obtain ⟨T, x1, y1, rfl, hT, rfl, f, f'⟩ := hz
  have e := f vs q
  rw [h1] at e; cases e
  have e' := f' ws q'
  rw [h3] at e'; cases e'
  exact ⟨same_up hT, rep_new2 dm hT h2 h4⟩
end
end DL
end

section
/-! The data layer, part 6: targets, blocks, comprehensions. -/
namespace DL
open PySem PySem.Spec PyProof.Rows L2

section
variable {mg : Gm} {A : Addr → Prop} {G : Hp} {μ : List Addr} {σ : L2.St} {H H' : Hp} {ρ ρ' : List Sl} {S S' : Store}
theorem pv_set' {i : Nat} {u : Sl} {v : V} (hu : isPriv u = false) {a : Addr} (z : Pv (σ.set i (some v)) (ρ.set i u) a) : ∃ j s, j ≠ i ∧ ρ[j]? = some s ∧ isPriv s = true ∧ σ[j]? = some (some (.ref a)) := by
  obtain ⟨j, s, h1, h2, h3⟩ := z
  by_cases hj : j = i
  · subst hj
    by_cases hl : j < ρ.length
    · rw [List.getElem?_set_self hl] at h1; cases h1
      rw [hu] at h2; cases h2
    · rw [List.getElem?_eq_none (by rw [List.length_set]; omega)] at h1; cases h1
  · rw [List.getElem?_set_ne (Ne.symm hj)] at h1
    rw [List.getElem?_set_ne (Ne.symm hj)] at h3
    exact ⟨j, s, hj, h1, h2, h3⟩
/-- what a slot's word says is kept where less is in Av -/
theorem SlR.keep {Av Av' : Addr → Prop} {μ' : List Addr} (k : ∀ a o, H a = some o → ¬ Av a → H' a = some o) (m : ∀ a o, H a = some o → Av' a → Av a) (own : ∀ p vs, H p = some (.lst vs) → H' p = some (.lst vs)) (obj : ∀ p C dx fs, H p = some (.ins C dx fs) → H' p = some (.ins C dx fs))
    (hμ : ∀ (l : Nat) (a : Addr), μ[l]? = some a → μ'[l]? = some a) {e : Option V} {t : Sl} (h : SlR mg H Av μ e t) : SlR mg H' Av' μ' e t := by
  cases t with
  | none => trivial
  | d x => obtain ⟨v, e1, r⟩ := h; exact ⟨v, e1, r.keep k m⟩
  | own xs => obtain ⟨p, vs, e1, h, r⟩ := h; exact ⟨p, vs, e1, own p vs h, r.keep k m⟩
  | loc l => obtain ⟨a, e1, r⟩ := h; exact ⟨a, e1, hμ l a r⟩
  | lam g => obtain ⟨f, e1, r⟩ := h; exact r.elim
  | scr ns => obtain ⟨a, e1, r⟩ := h; exact ⟨a, e1, r.keep k m⟩
  | obj c fs => obtain ⟨p, C, dx, vfs, e1, h, hc, r⟩ := h; exact ⟨p, C, dx, vfs, e1, obj p C dx vfs h, hc, r.keep k m⟩
/-- the same heap, less in Av -/
theorem SlR.less {Av Av' : Addr → Prop} (m : ∀ a o, H a = some o → Av' a → Av a) {e : Option V} {t : Sl} (h : SlR mg H Av μ e t) : SlR mg H Av' μ e t :=
  h.keep (fun a o e _ => e) m (fun _ _ h => h) (fun _ _ _ _ h => h) fun _ _ h => h
/-- a slot gets data -/
theorem SR.put {i : Nat} {v : V} {x : D} (s : SR mg A G μ σ H ρ S) (hi : i < ρ.length) (r : Rep mg H (Av A μ σ ρ) v x) : SR mg A G μ (σ.set i (some v)) H (ρ.set i (.d x)) S := by
  have pm : ∀ a, Pv (σ.set i (some v)) (ρ.set i (.d x)) a → Pv σ ρ a := fun a z => by
    obtain ⟨j, t, _, h⟩ := pv_set' (u := .d x) rfl z
    exact ⟨j, t, h⟩
  have m : ∀ a o, H a = some o → Av A μ (σ.set i (some v)) (ρ.set i (.d x)) a → Av A μ σ ρ a := fun a o _ z => by
    rcases z with z | z | z
    · exact .inl z
    · exact .inr (.inl z)
    · exact .inr (.inr (pm a z))
  have hi' : i < σ.length := by rw [s.len]; exact hi
  refine ⟨by rw [List.length_set, List.length_set]; exact s.len, fun j t e h1 h2 => ?_, fun j k t u a h1 h2 h3 h4 h5 h6 => ?_, fun a z => s.priv a (pm a z), s.sl, fun l a ys h1 h2 => ?_, s.nd, s.av, fun a o e => let ⟨h1, h2, h3⟩ := s.gd a o e; ⟨h1, h2, fun z => h3 (pm a z)⟩⟩
  · by_cases hj : j = i
    · subst hj
      rw [List.getElem?_set_self hi] at h1; cases h1
      rw [List.getElem?_set_self hi'] at h2; cases h2
      exact ⟨v, rfl, r.keep (fun a o e _ => e) m⟩
    · rw [List.getElem?_set_ne (Ne.symm hj)] at h1
      rw [List.getElem?_set_ne (Ne.symm hj)] at h2
      exact (s.slot j t e h1 h2).less m
  · have nj : j ≠ i := by
      rintro rfl
      rw [List.getElem?_set_self hi] at h1; cases h1; cases h3
    have nk : k ≠ i := by
      rintro rfl
      rw [List.getElem?_set_self hi] at h2; cases h2; cases h4
    rw [List.getElem?_set_ne (Ne.symm nj)] at h1 h5
    rw [List.getElem?_set_ne (Ne.symm nk)] at h2 h6
    exact s.inj j k t u a h1 h2 h3 h4 h5 h6
  · obtain ⟨vs, e, r⟩ := s.st l a ys h1 h2
    exact ⟨vs, e, r.keep (fun a o e _ => e) m⟩

/-! ### the own names of a block -/
theorem wipeS_len (r : List Sl) : ∀ vs : List Nat, (wipeS r vs).length = r.length
  | [] => rfl
  | v :: vs => by unfold wipeS; rw [List.length_set, wipeS_len r vs]
theorem wipeS_get (r : List Sl) (i : Nat) : ∀ vs : List Nat, (wipeS r vs)[i]? = if i ∈ vs ∧ i < r.length then some .none else r[i]?
  | [] => by simp [wipeS]
  | v :: vs => by
    unfold wipeS
    by_cases hv : v = i
    · subst hv
      by_cases hl : v < r.length
      · rw [List.getElem?_set_self (by rw [wipeS_len]; exact hl), if_pos ⟨List.mem_cons_self, hl⟩]
      · rw [List.getElem?_eq_none (by rw [List.length_set, wipeS_len]; omega), if_neg (fun z => hl z.2), List.getElem?_eq_none (by omega)]
    · rw [List.getElem?_set_ne hv, wipeS_get r i vs]
      by_cases hm : i ∈ vs ∧ i < r.length
      · rw [if_pos hm, if_pos ⟨List.mem_cons_of_mem _ hm.1, hm.2⟩]
      · rw [if_neg hm, if_neg (fun z => hm ⟨(List.mem_cons.mp z.1).resolve_left (Ne.symm hv), z.2⟩)]
theorem wipe_get (r : L2.St) (i : Nat) : ∀ vs : List Nat, (wipe r vs)[i]? = if i ∈ vs ∧ i < r.length then some none else r[i]?
  | [] => by simp [wipe]
  | v :: vs => by
    unfold wipe
    by_cases hv : v = i
    · subst hv
      by_cases hl : v < r.length
      · rw [List.getElem?_set_self (by rw [wipe_length]; exact hl), if_pos ⟨List.mem_cons_self, hl⟩]
      · rw [List.getElem?_eq_none (by rw [List.length_set, wipe_length]; omega), if_neg (fun z => hl z.2), List.getElem?_eq_none (by omega)]
    · rw [List.getElem?_set_ne hv, wipe_get r i vs]
      by_cases hm : i ∈ vs ∧ i < r.length
      · rw [if_pos hm, if_pos ⟨List.mem_cons_of_mem _ hm.1, hm.2⟩]
      · rw [if_neg hm, if_neg (fun z => hm ⟨(List.mem_cons.mp z.1).resolve_left (Ne.symm hv), z.2⟩)]
theorem backS_len (r0 r : List Sl) : ∀ vs : List Nat, (backS r0 r vs).length = r.length
  | [] => rfl
  | v :: vs => by
    unfold backS
    cases r0[v]? with
    | none => exact backS_len r0 r vs
    | some s => show ((backS r0 r vs).set v s).length = _; rw [List.length_set, backS_len r0 r vs]
theorem backS_get (r0 r : List Sl) (hl : r0.length = r.length) (i : Nat) : ∀ vs : List Nat, (backS r0 r vs)[i]? = if i ∈ vs then r0[i]? else r[i]?
  | [] => by simp [backS]
  | v :: vs => by
    unfold backS
    have ih := backS_get r0 r hl i vs
    by_cases hv : v = i
    · subst hv
      rw [if_pos List.mem_cons_self]
      cases e : r0[v]? with
      | none =>
        have : r0.length ≤ v := List.getElem?_eq_none_iff.mp e
        show (backS r0 r vs)[v]? = none
        rw [List.getElem?_eq_none (by rw [backS_len]; omega)]
      | some s =>
        have : v < r0.length := (List.getElem?_eq_some_iff.mp e).1
        show ((backS r0 r vs).set v s)[v]? = some s
        rw [List.getElem?_set_self (by rw [backS_len]; omega)]
    · have e1 : (if i ∈ v :: vs then r0[i]? else r[i]?) = if i ∈ vs then r0[i]? else r[i]? := by
        by_cases hm : i ∈ vs
        · rw [if_pos hm, if_pos (List.mem_cons_of_mem _ hm)]
        · rw [if_neg hm, if_neg (fun z => hm ((List.mem_cons.mp z).resolve_left (Ne.symm hv)))]
      rw [e1, ← ih]
      cases r0[v]? with
      | none => rfl
      | some s => show ((backS r0 r vs).set v s)[i]? = _; rw [List.getElem?_set_ne hv]
theorem plain_priv {r : List Sl} {i : Nat} (h : plainAt r i = true) {t : Sl} (e : r[i]? = some t) : isPriv t = false := by
  unfold plainAt at h
  rw [e] at h
  cases t <;> first | rfl | cases h
theorem pv_wipe {vs : List Nat} {a : Addr} (h : Pv (wipe σ vs) (wipeS ρ vs) a) : Pv σ ρ a := by
  obtain ⟨i, t, h1, h2, h3⟩ := h
  rw [wipeS_get] at h1
  rw [wipe_get] at h3
  split at h1
  · cases h1; cases h2
  · split at h3
    · cases h3
    · exact ⟨i, t, h1, h2, h3⟩
theorem av_wipe {vs : List Nat} {a : Addr} (h : Av A μ (wipe σ vs) (wipeS ρ vs) a) : Av A μ σ ρ a := by
  rcases h with z | z | z
  · exact .inl z
  · exact .inr (.inl z)
  · exact .inr (.inr (pv_wipe z))
theorem SR.wiped (vs : List Nat) (s : SR mg A G μ σ H ρ S) : SR mg A G μ (wipe σ vs) H (wipeS ρ vs) S := by
  have m : ∀ a o, H a = some o → Av A μ (wipe σ vs) (wipeS ρ vs) a → Av A μ σ ρ a := fun a o _ z => av_wipe z
  refine ⟨by rw [wipe_length, wipeS_len]; exact s.len, fun i t e h1 h2 => ?_, fun i j t u a h1 h2 h3 h4 h5 h6 => ?_, fun a z => s.priv a (pv_wipe z), s.sl, fun l a ys h1 h2 => ?_, s.nd, s.av, fun a o e => let ⟨h1, h2, h3⟩ := s.gd a o e; ⟨h1, h2, fun z => h3 (pv_wipe z)⟩⟩
  · rw [wipeS_get] at h1
    split at h1
    · cases h1; trivial
    · rename_i hn
      rw [wipe_get, if_neg (by rw [s.len]; exact hn)] at h2
      exact (s.slot i t e h1 h2).less m
  · rw [wipeS_get] at h1 h2
    rw [wipe_get] at h5 h6
    split at h1
    · cases h1; cases h3
    · split at h2
      · cases h2; cases h4
      · split at h5
        · cases h5
        · split at h6
          · cases h6
          · exact s.inj i j t u a h1 h2 h3 h4 h5 h6
  · obtain ⟨vs, e, r⟩ := s.st l a ys h1 h2
    exact ⟨vs, e, r.keep (fun a o e _ => e) m⟩
/-- behind a block: the names of the def as they were -/
theorem SR.unwiped {vs : List Nat} {A' : Addr → Prop} {G1 : Hp} (hA : ∀ a, A' a → A a ∨ H a = none) (hA2 : ∀ a, A a → A' a) (hp : vs.all (plainAt ρ) = true) (s : SR mg A G μ σ H ρ S) (s1 : SR mg A' G1 μ (wipe σ vs) H' ρ' S') (hG : ∀ a o, H a = some o → a ∉ μ → ¬ Pv σ ρ a → (¬ A a ∨ G a = some o) → G1 a = some o) (pm : PM (wipe σ vs) (wipeS ρ vs) ρ') :
    SR mg A' G μ σ H' (backS ρ ρ' vs) S' ∧ PM σ ρ (backS ρ ρ' vs) ∧ ∀ a o, H' a = some o → Av A' μ σ (backS ρ ρ' vs) a → Av A' μ (wipe σ vs) ρ' a := by
  have hl : ρ.length = ρ'.length := by rw [← s.len, ← wipe_length σ vs, s1.len]
  have pv1 : ∀ a, Pv σ (backS ρ ρ' vs) a → Pv (wipe σ vs) ρ' a := fun a ⟨i, t, h1, h2, h3⟩ => by
    rw [backS_get ρ ρ' hl] at h1
    split at h1
    · rename_i hm
      have q := plain_priv (List.all_eq_true.mp hp i hm) h1
      rw [q] at h2; cases h2
    · rename_i hm
      exact ⟨i, t, h1, h2, by rw [wipe_get, if_neg (fun z => hm z.1)]; exact h3⟩
  have pm2 : PM σ ρ (backS ρ ρ' vs) := fun a z => pv_wipe (pm a (pv1 a z))
  have m : ∀ a o, H' a = some o → Av A' μ σ (backS ρ ρ' vs) a → Av A' μ (wipe σ vs) ρ' a := fun a o _ z => by
    rcases z with z | z | z
    · exact .inl z
    · exact .inr (.inl z)
    · exact .inr (.inr (pv1 a z))
  have kk : ∀ a o, H a = some o → ¬ Av A μ σ ρ a → H' a = some o := fun a o e n => (s1.gd a o (hG a o e (fun z => n (.inr (.inl z))) (fun z => n (.inr (.inr z))) (.inl fun z => n (.inl z)))).1
  have mm : ∀ a o, H a = some o → Av A' μ σ (backS ρ ρ' vs) a → Av A μ σ ρ a := fun a o e z => by
    rcases z with z | z | z
    · rcases hA a z with q | q
      · exact .inl q
      · rw [q] at e; cases e
    · exact .inr (.inl z)
    · exact .inr (.inr (pm2 a z))
  refine ⟨⟨by rw [backS_len, ← hl]; exact s.len, fun i t e h1 h2 => ?_, fun i j t u a h1 h2 h3 h4 h5 h6 => ?_, fun a z => ⟨fun q => (s1.priv a (pv1 a z)).1 q, (s.priv a (pm2 a z)).2⟩, s1.sl, fun l a ys h1 h2 => ?_, s1.nd, s1.av, fun a o e => ?_⟩, pm2, m⟩
  · rw [backS_get ρ ρ' hl] at h1
    split at h1
    · rename_i hm
      have q := s.slot i t e h1 h2
      have hq := List.all_eq_true.mp hp i hm
      unfold plainAt at hq
      rw [h1] at hq
      cases t with
      | none => trivial
      | d x => obtain ⟨v, e1, r⟩ := q; exact ⟨v, e1, r.keep kk mm⟩
      | _ => cases hq
    · rename_i hm
      exact (s1.slot i t e h1 (by rw [wipe_get, if_neg (fun z => hm z.1)]; exact h2)).less m
  · rw [backS_get ρ ρ' hl] at h1 h2
    split at h1
    · rename_i hm
      have q := plain_priv (List.all_eq_true.mp hp i hm) h1
      rw [q] at h3; cases h3
    · rename_i hm
      split at h2
      · rename_i hm2
        have q := plain_priv (List.all_eq_true.mp hp j hm2) h2
        rw [q] at h4; cases h4
      · rename_i hm2
        exact s1.inj i j t u a h1 h2 h3 h4 (by rw [wipe_get, if_neg (fun z => hm z.1)]; exact h5) (by rw [wipe_get, if_neg (fun z => hm2 z.1)]; exact h6)
  · obtain ⟨vs, e, r⟩ := s1.st l a ys h1 h2
    exact ⟨vs, e, r.keep (fun a o e _ => e) m⟩
  · obtain ⟨h1, h2, h3⟩ := s.gd a o e
    have q := s1.gd a o (hG a o h1 h2 h3 (.inr e))
    exact ⟨q.1, h2, fun z => h3 (pm2 a z)⟩
/-- the own names forgotten again -/
theorem SR.rewipe {vs : List Nat} {σ2 : L2.St} {ρ2 : List Sl} (hw : wipe σ2 vs = wipe σ vs) (s : SR mg A G μ σ2 H ρ2 S) : SR mg A G μ (wipe σ vs) H (wipeS ρ2 vs) S := by
  rw [← hw]
  exact s.wiped vs
end
end DL
end

section
/-! The data layer, part 7: targets; comprehensions. -/
namespace DL
open PySem PySem.Spec PyProof.Rows L2

def gMany : List Nat → TGs
  | [] => gNil
  | i :: is => gCons (gName i) (gMany is)
def gTg (K : PySem.W.Frag) : Tg → TG
  | .one i => gName i
  | .many is => gTup K is.length (gMany is)
def tgSl : Tg → List Nat
  | .one i => [i]
  | .many is => is
theorem wipe_set {σ : L2.St} {i : Nat} {x : Option V} {vs : List Nat} (h : i ∈ vs) : wipe (σ.set i x) vs = wipe σ vs := by
  refine List.ext_getElem? fun j => ?_
  rw [wipe_get, wipe_get, List.length_set]
  by_cases hj : j ∈ vs ∧ j < σ.length
  · rw [if_pos hj, if_pos hj]
  · rw [if_neg hj, if_neg hj]
    by_cases e : i = j
    · subst e
      have : σ.length ≤ i := by
        by_cases hl : i < σ.length
        · exact absurd ⟨h, hl⟩ hj
        · omega
      rw [List.getElem?_eq_none (by rw [List.length_set]; exact this), List.getElem?_eq_none this]
    · rw [List.getElem?_set_ne e]
section
variable {mg : Gm} {A : Addr → Prop} {G : Hp} {μ : List Addr} {σ : L2.St} {H : Hp} {ρ : List Sl} {S : Store}
/-- between two frames' states: no more is private -/
def PX (σ : L2.St) (ρ : List Sl) (σ' : L2.St) (ρ' : List Sl) : Prop := ∀ a, Pv σ' ρ' a → Pv σ ρ a
theorem PX.refl : PX σ ρ σ ρ := fun _ h => h
theorem PX.av {σ' : L2.St} {ρ' : List Sl} (h : PX σ ρ σ' ρ') {a : Addr} (z : Av A μ σ' ρ' a) : Av A μ σ ρ a := by
  rcases z with z | z | z
  · exact .inl z
  · exact .inr (.inl z)
  · exact .inr (.inr (h a z))
theorem px_set {i : Nat} {v : V} {x : D} : PX σ ρ (σ.set i (some v)) (ρ.set i (.d x)) := fun a z => by
  obtain ⟨j, t, _, h⟩ := pv_set' (u := .d x) rfl z
  exact ⟨j, t, h⟩
theorem setSl_cases (i : Nat) (x : Sl) : (i < ρ.length ∧ setSl i x ρ S = .ok () (ρ.set i x) S) ∨ setSl i x ρ S = .stuck := by
  unfold setSl
  by_cases h : i < ρ.length
  · exact .inl ⟨h, by rw [if_pos h]⟩
  · exact .inr (by rw [if_neg h])
theorem many_ok : ∀ (is : List Nat) (xs : List D) (vs : List V) (σ : L2.St) (ρ : List Sl), SR mg A G μ σ H ρ S → RepL mg H (Av A μ σ ρ) vs xs →
    (∃ ρ', setMany is xs ρ S = .ok () ρ' S ∧ is.length = xs.length ∧ ∃ σ', SR mg A G μ σ' H ρ' S ∧ PX σ ρ σ' ρ' ∧ (∀ us, (∀ i ∈ is, i ∈ us) → wipe σ' us = wipe σ us) ∧ ∀ Q : L2.St → Hp → Prop, Q σ' H → gMany is vs σ H Q) ∨ setMany is xs ρ S = .stuck
  | [], [], _, σ, ρ, s, .nil => .inl ⟨ρ, rfl, rfl, σ, s, PX.refl, fun _ _ => rfl, fun Q h => ⟨rfl, h⟩⟩
  | [], _ :: _, _, _, _, _, _ => .inr rfl
  | _ :: _, [], _, _, _, _, _ => .inr rfl
  | i :: is, x :: xs, _, σ, ρ, s, .cons (v := v) (vs := vs) r t => by
    rcases setSl_cases (ρ := ρ) (S := S) i (.d x) with ⟨hi, e⟩ | e
    · have s1 := s.put hi r
      have t1 : RepL mg H (Av A μ (σ.set i (some v)) (ρ.set i (.d x))) vs xs := t.keep (fun a o e _ => e) fun a o _ z => px_set.av z
      rcases many_ok is xs vs _ _ s1 t1 with ⟨ρ', e2, hl, σ', s2, px, hw, q⟩ | e2
      · refine .inl ⟨ρ', ?_, by rw [List.length_cons, List.length_cons, hl], σ', s2, fun a z => px_set a (px a z), fun us hu => ?_, fun Q h => ⟨v, vs, rfl, q Q h⟩⟩
        · unfold setMany M.bind
          simp only
          rw [e]
          exact e2
        · rw [hw us fun j hj => hu j (List.mem_cons_of_mem _ hj), wipe_set (hu i List.mem_cons_self)]
      · refine .inr ?_
        unfold setMany M.bind
        simp only
        rw [e]
        exact e2
    · refine .inr ?_
      unfold setMany M.bind
      simp only
      rw [e]
theorem tg_ok (tg : Tg) {d : D} {v : V} (s : SR mg A G μ σ H ρ S) (r : YR mg H (Av A μ σ ρ) tg v d) :
    (∃ ρ', bindTg tg d ρ S = .ok () ρ' S ∧ ∃ σ', SR mg A G μ σ' H ρ' S ∧ PX σ ρ σ' ρ' ∧ (∀ us, (∀ i ∈ tgSl tg, i ∈ us) → wipe σ' us = wipe σ us) ∧ ∀ Q : L2.St → Hp → Prop, Q σ' H → gTg mg.K tg v σ H Q) ∨ bindTg tg d ρ S = .stuck := by
  cases tg with
  | one i =>
    rcases setSl_cases (ρ := ρ) (S := S) i (.d d) with ⟨hi, e⟩ | e
    · exact .inl ⟨_, e, _, s.put hi r, px_set, fun us hu => wipe_set (hu i (List.mem_singleton.mpr rfl)), fun Q h => h⟩
    · exact .inr e
  | many is =>
    have go : ∀ {a : Addr} {vs : List V} {ds : List D}, SqT mg.K H a vs → RepL mg H (Av A μ σ ρ) vs ds →
        (∃ ρ', bindTg (.many is) (.tup ds) ρ S = .ok () ρ' S ∧ ∃ σ', SR mg A G μ σ' H ρ' S ∧ PX σ ρ σ' ρ' ∧ (∀ us, (∀ i ∈ is, i ∈ us) → wipe σ' us = wipe σ us) ∧ ∀ Q : L2.St → Hp → Prop, Q σ' H → gTg mg.K (.many is) (.ref a) σ H Q) ∨ bindTg (.many is) (.tup ds) ρ S = .stuck := by
      intro a vs ds h t
      rcases many_ok is ds vs σ ρ s t with ⟨ρ', e, hl, σ', s2, px, hw, q⟩ | e
      · exact .inl ⟨ρ', e, σ', s2, px, hw, fun Q hq => ⟨a, vs, rfl, h, by rw [t.length, hl], q Q hq⟩⟩
      · exact .inr e
    rcases r with r | ⟨p, vs, xs, rfl, rfl, h, t⟩
    · cases r with
      | tup h n t => exact go h.sq t
      | _ => exact .inr rfl
    · exact go (SqT.of h) t

/-! ### one clause -/
/-- what is avoided while a list is made at D -/
theorem SR.addA {D : Addr} {acc : List V} (s : SR mg A G μ σ H ρ S) (hD : H D = none) : SR mg (withD A D) (fullG (upd H D (.lst acc)) μ σ ρ) μ σ (upd H D (.lst acc)) ρ S := by
  have nA : ¬ Av A μ σ ρ D := s.fresh hD
  have s1 := s.same (same_up (o := .lst acc) hD)
  have m : ∀ a o, H a = some o → Av (withD A D) μ σ ρ a → Av A μ σ ρ a := fun a o e z => by
    rcases z with (z | z) | z | z
    · exact .inl z
    · rw [z, hD] at e; cases e
    · exact .inr (.inl z)
    · exact .inr (.inr z)
  refine ⟨s.len, fun i t e h1 h2 => ?_, s.inj, fun a z => ⟨?_, (s.priv a z).2⟩, s.sl, fun l a xs h1 h2 => ?_, s.nd, fun a z => ?_, fun a o e => of_fullG e⟩
  · have q := (s.slot i t e h1 h2).less m
    exact q.keep (fun a o e _ => same_up hD a o e) (fun a o _ z => z) (fun p vs h => same_up hD _ _ h) (fun p C dx fs h => same_up hD _ _ h) fun _ _ h => h
  · rintro (q | q)
    · exact (s.priv a z).1 q
    · exact nA (.inr (.inr (q ▸ z)))
  · obtain ⟨vs, e, r⟩ := s.st l a xs h1 h2
    exact ⟨vs, same_up hD _ _ e, r.keep (fun a o e _ => same_up hD a o e) m⟩
  · rcases z with z | z
    · exact ⟨(s.av a z).1, let ⟨o, e⟩ := (s.av a z).2; ⟨o, same_up hD _ _ e⟩⟩
    · rw [z]
      exact ⟨fun q => nA (.inr (.inl q)), _, upd_same⟩
/-- the list at D grows; it is nobody's -/
theorem SR.grow {D : Addr} {acc acc' : List V} (s : SR mg (withD A D) G μ σ H ρ S) (hD : H D = some (.lst acc)) (hG : G D = none) : SR mg (withD A D) G μ σ (upd H D (.lst acc')) ρ S := by
  have dA : withD A D D := .inr rfl
  have k : ∀ a o, H a = some o → ¬ Av (withD A D) μ σ ρ a → (upd H D (.lst acc')) a = some o := fun a o e n => by
    rw [upd_ne fun z => n (.inl (.inr z))]; exact e
  have k2 : ∀ a o, a ≠ D → H a = some o → (upd H D (.lst acc')) a = some o := fun a o z e => by rw [upd_ne z]; exact e
  refine ⟨s.len, fun i t e h1 h2 => ?_, s.inj, s.priv, s.sl, fun l a xs h1 h2 => ?_, s.nd, fun a z => ⟨(s.av a z).1, ?_⟩, fun a o e => ?_⟩
  · have q := s.slot i t e h1 h2
    have np : ∀ p, e = some (.ref p) → isPriv t = true → p ≠ D := fun p e1 e2 z => by
      subst e1
      exact (s.priv p ⟨i, t, h1, e2, h2⟩).1 (z ▸ dA)
    cases t with
    | none => trivial
    | d x => obtain ⟨v, e1, r⟩ := q; exact ⟨v, e1, r.keep k fun _ _ _ z => z⟩
    | own xs => obtain ⟨p, vs, e1, h, r⟩ := q; exact ⟨p, vs, e1, k2 _ _ (np p e1 rfl) h, r.keep k fun _ _ _ z => z⟩
    | loc l => exact q
    | lam g => obtain ⟨f, e1, r⟩ := q; exact r.elim
    | scr ns => obtain ⟨a, e1, r⟩ := q; exact ⟨a, e1, r.keep k fun _ _ _ z => z⟩
    | obj c fs => obtain ⟨p, C, dx, vfs, e1, h, hc, r⟩ := q; exact ⟨p, C, dx, vfs, e1, k2 _ _ (np p e1 rfl) h, hc, r.keep k fun _ _ _ z => z⟩
  · obtain ⟨vs, e, r⟩ := s.st l a xs h1 h2
    have : a ≠ D := fun z => (s.av D dA).1 (z ▸ List.mem_of_getElem? h1)
    exact ⟨vs, k2 _ _ this e, r.keep k fun _ _ _ z => z⟩
  · obtain ⟨o, e⟩ := (s.av a z).2
    by_cases hz : a = D
    · rw [hz]; exact ⟨_, upd_same⟩
    · exact ⟨o, k2 _ _ hz e⟩
  · obtain ⟨h1, h2⟩ := s.gd a o e
    refine ⟨k2 _ _ (fun z => ?_) h1, h2⟩
    rw [z, hG] at e; cases e
/-- the list at D is anybody's again -/
theorem SR.dropA {D : Addr} (s : SR mg (withD A D) G μ σ H ρ S) : SR mg A G μ σ H ρ S := by
  have m : ∀ a o, H a = some o → Av A μ σ ρ a → Av (withD A D) μ σ ρ a := fun a o _ z => by
    rcases z with z | z
    · exact .inl (.inl z)
    · exact .inr z
  refine ⟨s.len, fun i t e h1 h2 => (s.slot i t e h1 h2).less m, s.inj, fun a z => ⟨fun q => (s.priv a z).1 (.inl q), (s.priv a z).2⟩, s.sl, fun l a xs h1 h2 => ?_, s.nd, fun a z => s.av a (.inl z), s.gd⟩
  obtain ⟨vs, e, r⟩ := s.st l a xs h1 h2
  exact ⟨vs, e, r.keep (fun a o e _ => e) m⟩
end
end DL
end

section
/-! The data layer, part 8: list comprehensions. -/
namespace DL
open PySem PySem.Spec PyProof.Rows L2

abbrev W0 : WX := fun _ _ _ _ => False
def lcM (own : List Nat) (tg : Tg) (fi : M (List D)) (fc : M Bool) (fe : M R) : M R := fi.bind fun xs => (inBlk own (compL own tg fc (fe.bind asD) xs)).bind fun ys => M.pure (.fresh ys)
theorem wipe_wipe {σ : L2.St} {vs : List Nat} : wipe (wipe σ vs) vs = wipe σ vs := by
  refine List.ext_getElem? fun j => ?_
  rw [wipe_get, wipe_get, wipe_length]
  by_cases hj : j ∈ vs ∧ j < σ.length
  · rw [if_pos hj, if_pos hj]
  · rw [if_neg hj]
theorem bind_ok {α β : Type} {f : M α} {g : α → M β} {ρ ρ' : List Sl} {S S' : Store} {b : β} (h : (f.bind g) ρ S = .ok b ρ' S') : ∃ a ρ1 S1, f ρ S = .ok a ρ1 S1 ∧ g a ρ1 S1 = .ok b ρ' S' := by
  unfold M.bind at h
  cases e : f ρ S with
  | ok a ρ1 S1 => rw [e] at h; exact ⟨a, ρ1, S1, rfl, h⟩
  | err _ _ _ _ => rw [e] at h; cases h
  | stuck => rw [e] at h; cases h
/-- a turn of compL that ends well -/
theorem compL_cons {own : List Nat} {tg : Tg} {c : M Bool} {e : M D} {x : D} {xs zs : List D} {ρ ρF : List Sl} {S SF : Store} (h : compL own tg c e (x :: xs) ρ S = .ok zs ρF SF) :
    ∃ ρ1 S1, bindTg tg x ρ S = .ok () ρ1 S1 ∧ ∃ b ρ2 S2, c ρ1 S1 = .ok b ρ2 S2 ∧ ((b = true ∧ ∃ y ρ3 S3 ws, e ρ2 S2 = .ok y ρ3 S3 ∧ compL own tg c e xs (wipeS ρ3 own) S3 = .ok ws ρF SF ∧ zs = y :: ws) ∨ (b = false ∧ compL own tg c e xs (wipeS ρ2 own) S2 = .ok zs ρF SF)) := by
  have h : ((bindTg tg x).bind fun _ => c.bind fun b => if b then e.bind fun y => (wipeM own).bind fun _ => (compL own tg c e xs).bind fun ys => M.pure (y :: ys) else (wipeM own).bind fun _ => compL own tg c e xs) ρ S = .ok zs ρF SF := h
  obtain ⟨_, ρ1, S1, e1, h⟩ := bind_ok h
  obtain ⟨b, ρ2, S2, e2, h⟩ := bind_ok h
  refine ⟨ρ1, S1, e1, b, ρ2, S2, e2, ?_⟩
  cases b with
  | true =>
    rw [if_pos rfl] at h
    obtain ⟨y, ρ3, S3, e3, h⟩ := bind_ok h
    obtain ⟨_, ρ4, S4, e4, h⟩ := bind_ok h
    have e4 : Out.ok () (wipeS ρ3 own) S3 = Out.ok () ρ4 S4 := e4
    cases e4
    obtain ⟨ws, ρ5, S5, e5, h⟩ := bind_ok h
    have h : Out.ok (y :: ws) ρ5 S5 = Out.ok zs ρF SF := h
    cases h
    exact .inl ⟨rfl, y, ρ3, S3, ws, e3, e5, rfl⟩
  | false =>
    rw [if_neg (by decide)] at h
    obtain ⟨_, ρ4, S4, e4, h⟩ := bind_ok h
    have e4 : Out.ok () (wipeS ρ2 own) S2 = Out.ok () ρ4 S4 := e4
    cases e4
    exact .inr ⟨rfl, h⟩
section
variable {mg : Gm} {A : Addr → Prop} {G : Hp} {μ : List Addr} {σ : L2.St} {H : Hp} {ρ : List Sl} {S : Store}
open Classical in
/-- what stands through the making of a list at D, that list apart -/
noncomputable def butD (G : Hp) (D : Addr) : Hp := fun a => if a = D then none else G a
theorem butD_D {G : Hp} {D : Addr} : butD G D D = none := by unfold butD; rw [if_pos rfl]
theorem of_butD {G : Hp} {D a : Addr} {o : HO} (h : butD G D a = some o) : G a = some o := by
  unfold butD at h
  by_cases z : a = D
  · rw [if_pos z] at h; cases h
  · rw [if_neg z] at h; exact h
theorem butD_of {G : Hp} {D a : Addr} {o : HO} (h : G a = some o) (n : a ≠ D) : butD G D a = some o := by
  unfold butD; rw [if_neg n]; exact h
/-- through the making of a list: N holds what stands for ys -/
def Mk (mg : Gm) (A : Addr → Prop) (Gd : Hp) (μ : List Addr) (σw : L2.St) (ρw : List Sl) (N : Addr) (ys : List D) (H : Hp) (ρ : List Sl) (S : Store) : Prop :=
  SR mg (withD A N) Gd μ σw H ρ S ∧ PX σw ρw σw ρ ∧ ∃ acc, H N = some (.lst acc) ∧ RepL mg H (Av (withD A N) μ σw ρ) acc ys
/-- one clause, its values behind those at N -/
theorem clause_ok {own : List Nat} {tg : Tg} (hown : ∀ i ∈ tgSl tg, i ∈ own) {fc : M Bool} {fe : M R} {N : Addr} {xs : List D} {J : It} {H1 : Hp} {ρ1 : List Sl} {S1 : Store} {acc0 : List V} {ys0 yF : List D} {ρF : List Sl} {SF : Store} {Qd : Hp → Prop}
    (s1 : SR mg (withD A N) G μ σ H1 ρ1 S1) (hGN : G N = none) (h0 : H1 N = some (.lst acc0)) (r0 : RepL mg H1 (Av (withD A N) μ σ ρ1) acc0 ys0) (wk : WalkR tg mg H1 (Av (withD A N) μ σ ρ1) J xs) (hp : own.all (plainAt ρ1) = true)
    (eF : compL own tg fc (fe.bind asD) xs (wipeS ρ1 own) S1 = .ok yF ρF SF) (hz : ys0.length + yF.length ≤ sizeLine)
    (hQ : ∀ H' acc, SR mg (withD A N) G μ σ H' (backS ρ1 ρF own) SF → PM σ ρ1 (backS ρ1 ρF own) → H' N = some (.lst acc) → RepL mg H' (Av (withD A N) μ σ (backS ρ1 ρF own)) acc (ys0 ++ yF) →
      (∀ a o, H1 a = some o → ¬ Av (withD A N) μ σ ρ1 a → H' a = some o) → Qd H') :
    ∃ Wv : Nat → Nat → Hp → Prop, (∃ m, Wv 0 m H1) ∧ ∀ i m H, Wv i m H →
      (J.stop i H ∧ Qd H) ∨ (J.go i H ∧ ∃ Nx : Hp → Prop, (∀ H', Nx H' → ∃ m', m' < m ∧ Wv (i + 1) m' H') ∧ ∀ x H', J.yld i H x H' → gTg mg.K tg x (wipe σ own) H' fun σ2 H2 => wipe σ2 own = wipe σ own ∧ tT mg W0 fc σ2 H2 fun b H3 =>
        if b = true then tE mg W0 fe σ2 H3 fun y H4 => ∃ acc, H4 N = some (.lst acc) ∧ acc.length < sizeLine ∧ Nx (upd H4 N (.lst (acc ++ [y]))) else Nx H3) := by
  generalize eσ : wipe σ own = σw
  generalize eρ : wipeS ρ1 own = ρw at eF
  have hpx : ∀ a, Pv σw ρw a → Pv σ ρ1 a := fun a z => by rw [← eσ, ← eρ] at z; exact pv_wipe z
  have sw : SR mg (withD A N) G μ σw H1 ρw S1 := by rw [← eσ, ← eρ]; exact s1.wiped own
  have dN : withD A N N := .inr rfl
  generalize eG : butD (fullG H1 μ σw ρw) N = Gd
  have GdN : Gd N = none := by rw [← eG]; exact butD_D
  have GdOf : ∀ a o, H1 a = some o → ¬ Av (withD A N) μ σ ρ1 a → Gd a = some o := fun a o e n => by
    rw [← eG]
    exact butD_of (fullG_of e (fun z => n (.inr (.inl z))) fun z => n (.inr (.inr (hpx a z)))) fun z => n (.inl (by rw [z]; exact dN))
  have s0 : SR mg (withD A N) Gd μ σw H1 ρw S1 := sw.full.weakG fun a o e => by rw [← eG] at e; exact of_butD e
  have r0w : RepL mg H1 (Av (withD A N) μ σw ρw) acc0 ys0 := r0.keep (fun _ _ e _ => e) fun a o _ z => by
    rcases z with z | z | z
    · exact .inl z
    · exact .inr (.inl z)
    · exact .inr (.inr (hpx a z))
  refine ⟨fun i m H => m = xs.length - i ∧ i ≤ xs.length ∧ ∃ ρi Si ys zs, Mk mg A Gd μ σw ρw N (ys0 ++ ys) H ρi Si ∧ compL own tg fc (fe.bind asD) (xs.drop i) ρi Si = .ok zs ρF SF ∧ ys ++ zs = yF, ⟨xs.length, rfl, Nat.zero_le _, ρw, S1, [], yF, ⟨s0, PX.refl, acc0, h0, by rw [List.append_nil]; exact r0w⟩, ?_, rfl⟩, ?_⟩
  · rw [List.drop_zero]
    exact eF
  · rintro i m Hi ⟨rfl, hi, ρi, Si, ys, zs, ⟨si, pi, acc, hacc, racc⟩, hc, hyz⟩
    have kH : ∀ a o, H1 a = some o → ¬ Av (withD A N) μ σ ρ1 a → Hi a = some o := fun a o e n => (si.gd a o (GdOf a o e n)).1
    have mA : ∀ a o, H1 a = some o → Av (withD A N) μ σw ρi a → Av (withD A N) μ σ ρ1 a := fun a o e z => by
      rcases z with z | z | z
      · exact .inl z
      · exact .inr (.inl z)
      · exact .inr (.inr (hpx a (pi a z)))
    have wi := wk Hi (Av (withD A N) μ σw ρi) kH mA fun a z => si.dom z
    by_cases hlt : i < xs.length
    · refine .inr ?_
      have ex : xs[i]? = some xs[i] := List.getElem?_eq_getElem hlt
      obtain ⟨go, yl⟩ := wi.1 i xs[i] ex
      refine ⟨go, fun H' => ∃ ρ' S' ys' zs', Mk mg A Gd μ σw ρw N (ys0 ++ ys') H' ρ' S' ∧ compL own tg fc (fe.bind asD) (xs.drop (i + 1)) ρ' S' = .ok zs' ρF SF ∧ ys' ++ zs' = yF, fun H' hx => ⟨xs.length - (i + 1), by omega, rfl, hlt, hx⟩, fun x H2 hy => ?_⟩
      obtain ⟨sm, rx⟩ := yl x H2 hy
      rw [List.drop_eq_getElem_cons hlt] at hc
      obtain ⟨ρ2, S2, e2, b, ρ3, S3, e3, hrest⟩ := compL_cons hc
      have s2 := si.same sm
      rcases tg_ok tg s2 rx with ⟨ρ2', e2', σ2, s2', px2, hw, q⟩ | e2'
      · rw [e2] at e2'
        cases e2'
        have hw2 : wipe σ2 own = σw := by rw [hw own hown, ← eσ, wipe_wipe]
        refine q _ ⟨hw2, ?_⟩
        have nN : ∀ {σ' : L2.St} {ρ' : List Sl} {H' : Hp} {S' : Store} {G' : Hp}, SR mg (withD A N) G' μ σ' H' ρ' S' → N ∉ μ ∧ ¬ Pv σ' ρ' N := fun t => ⟨(t.av N (.inr rfl)).1, fun z => (t.priv N z).1 (.inr rfl)⟩
        have racc2 : RepL mg H2 (Av (withD A N) μ σ2 ρ2) acc (ys0 ++ ys) := (racc.same sm).keep (fun a o e _ => e) fun a o _ z => px2.av z
        have hacc2 : H2 N = some (.lst acc) := sm _ _ hacc
        -- the turn's end
        have fin : ∀ {ρ4 : List Sl} {S4 : Store} {H4 : Hp} {acc' : List V} {ys' zs' : List D}, SR mg (withD A N) Gd μ σ2 H4 ρ4 S4 → PM σ2 ρ2 ρ4 → RepL mg H4 (Av (withD A N) μ σ2 ρ4) acc' (ys0 ++ ys') → H4 N = some (.lst acc) →
            compL own tg fc (fe.bind asD) (xs.drop (i + 1)) (wipeS ρ4 own) S4 = .ok zs' ρF SF → ys' ++ zs' = yF → ∀ H5, H5 = upd H4 N (.lst acc') ∨ (H5 = H4 ∧ acc' = acc) →
            ∃ ρ' S' ys' zs', Mk mg A Gd μ σw ρw N (ys0 ++ ys') H5 ρ' S' ∧ compL own tg fc (fe.bind asD) (xs.drop (i + 1)) ρ' S' = .ok zs' ρF SF ∧ ys' ++ zs' = yF := by
          intro ρ4 S4 H4 acc' ys' zs' s4 pm4 r4 h4 hc4 hz4 H5 h5
          have s5 : SR mg (withD A N) Gd μ σw H4 (wipeS ρ4 own) S4 := by rw [← hw2]; exact s4.wiped own
          have px5 : ∀ a, Pv σw (wipeS ρ4 own) a → Pv σ2 ρ4 a := fun a z => by rw [← hw2] at z; exact pv_wipe z
          have px6 : PX σw ρw σw (wipeS ρ4 own) := fun a z => pi a (px2 a (pm4 a (px5 a z)))
          have m5 : ∀ a o, H4 a = some o → Av (withD A N) μ σw (wipeS ρ4 own) a → Av (withD A N) μ σ2 ρ4 a := fun a o _ z => by
            rcases z with z | z | z
            · exact .inl z
            · exact .inr (.inl z)
            · exact .inr (.inr (px5 a z))
          have r5 : RepL mg H4 (Av (withD A N) μ σw (wipeS ρ4 own)) acc' (ys0 ++ ys') := r4.keep (fun a o e _ => e) m5
          refine ⟨wipeS ρ4 own, S4, ys', zs', ?_, hc4, hz4⟩
          rcases h5 with h5 | ⟨h5, h6⟩
          · rw [h5]
            refine ⟨s5.grow h4 GdN, px6, acc', upd_same, r5.keep (fun a o e n => ?_) fun _ _ _ z => z⟩
            rw [upd_ne fun z => n (.inl (.inr z))]; exact e
          · rw [h5]
            refine ⟨s5, px6, acc', ?_, r5⟩
            rw [h6]; exact h4
        refine Tr.iff.mpr ⟨withD A N, fullG H2 μ σ2 ρ2, μ, ρ2, Si, s2'.full, ?_⟩
        rw [e3]
        intro b' H3 s3 pm3 hb
        have hb : b' = b := hb
        subst hb
        have s3' : SR mg (withD A N) Gd μ σ2 H3 ρ3 S3 := s3.back s2'
        have hacc3 : H3 N = some (.lst acc) := (s3.gd N _ (fullG_of hacc2 (nN s2').1 (nN s2').2)).1
        have racc3 : RepL mg H3 (Av (withD A N) μ σ2 ρ3) acc (ys0 ++ ys) := by
          refine racc2.keep (fun a o e n => ?_) fun a o _ z => ?_
          · exact (s3.gd a o (fullG_of e (fun z => n (.inr (.inl z))) fun z => n (.inr (.inr z)))).1
          · rcases z with z | z | z
            · exact .inl z
            · exact .inr (.inl z)
            · exact .inr (.inr (pm3 a z))
        rcases hrest with ⟨rfl, y, ρ4, S4, ws, e4, hc4, rfl⟩ | ⟨rfl, hc4⟩
        · rw [if_pos rfl]
          obtain ⟨r, ρr, Sr, e5, e6⟩ := bind_ok e4
          refine Tr.iff.mpr ⟨withD A N, fullG H3 μ σ2 ρ3, μ, ρ3, S3, s3'.full, ?_⟩
          rw [e5]
          intro v H4 s4 pm4 rr
          have s4' : SR mg (withD A N) Gd μ σ2 H4 ρr Sr := s4.back s3'
          rcases asD_ok s4' rr.rr with ⟨d, ρd, e7, s5, pm5, rd⟩ | e7
          · rw [e6] at e7
            cases e7
            have hacc4 : H4 N = some (.lst acc) := (s4.gd N _ (fullG_of hacc3 (nN s3').1 (nN s3').2)).1
            have racc4 : RepL mg H4 (Av (withD A N) μ σ2 ρ4) acc (ys0 ++ ys) := by
              refine racc3.keep (fun a o e n => ?_) fun a o _ z => ?_
              · exact (s4.gd a o (fullG_of e (fun z => n (.inr (.inl z))) fun z => n (.inr (.inr z)))).1
              · rcases z with z | z | z
                · exact .inl z
                · exact .inr (.inl z)
                · exact .inr (.inr (pm4 a (pm5 a z)))
            refine ⟨acc, hacc4, ?_, ?_⟩
            · rw [racc.length, List.length_append]
              rw [← hyz, List.length_append, List.length_cons] at hz
              omega
            · refine fin (acc' := acc ++ [v]) (ys' := ys ++ [y]) s5 (fun a z => pm3 a (pm4 a (pm5 a z))) ?_ hacc4 hc4 (by rw [List.append_assoc]; exact hyz) _ (.inl rfl)
              rw [← List.append_assoc]
              exact racc4.append (.cons rd .nil)
          · rw [e6] at e7; cases e7
        · rw [if_neg (by decide)]
          exact fin s3' pm3 racc3 hacc3 hc4 hyz H3 (.inr ⟨rfl, rfl⟩)
      · rw [e2] at e2'; cases e2'
    · refine .inl ?_
      have ei : i = xs.length := by omega
      subst ei
      refine ⟨wi.2, ?_⟩
      rw [List.drop_length] at hc
      have hc : Out.ok [] ρi Si = Out.ok zs ρF SF := hc
      cases hc
      rw [List.append_nil] at hyz
      subst hyz
      have su : SR mg (withD A N) Gd μ (wipe σ own) Hi ρF SF := by rw [eσ]; exact si
      obtain ⟨sF, pmF, mF⟩ := s1.unwiped (A' := withD A N) (fun a z => .inl z) (fun a z => z) hp su (fun a o e h2 h3 h4 => by
        rw [← eG]
        refine butD_of (fullG_of e h2 fun z => h3 (hpx a z)) fun z => ?_
        rcases h4 with h4 | h4
        · exact h4 (by rw [z]; exact dN)
        · rw [z, hGN] at h4; cases h4) (by rw [eσ, eρ]; exact fun a z => pi a z)
      refine hQ Hi acc sF pmF hacc (racc.keep (fun a o e _ => e) fun a o e z => ?_) kH
      have z2 := mF a o e z
      rw [eσ] at z2
      exact z2
theorem compL_len {own : List Nat} {tg : Tg} {c : M Bool} {e : M D} : ∀ {xs zs : List D} {ρ ρF : List Sl} {S SF : Store}, compL own tg c e xs ρ S = .ok zs ρF SF → zs.length ≤ xs.length
  | [], zs, ρ, ρF, S, SF, h => by
    have h : Out.ok [] ρ S = Out.ok zs ρF SF := h
    cases h; exact Nat.le_refl _
  | x :: xs, zs, ρ, ρF, S, SF, h => by
    obtain ⟨_, _, _, b, ρ2, S2, _, hr⟩ := compL_cons h
    rcases hr with ⟨_, y, _, _, ws, _, h2, rfl⟩ | ⟨_, h2⟩
    · exact Nat.succ_le_succ (compL_len h2)
    · exact Nat.le_succ_of_le (compL_len h2)
theorem inBlk_ok {α : Type} {own : List Nat} {f : M α} {ρ ρ' : List Sl} {S S' : Store} {a : α} (h : inBlk own f ρ S = .ok a ρ' S') : own.all (plainAt ρ) = true ∧ ∃ ρF, f (wipeS ρ own) S = .ok a ρF S' ∧ ρ' = backS ρ ρF own := by
  unfold inBlk at h
  by_cases hp : own.all (plainAt ρ) = true
  · rw [if_pos hp] at h
    cases e : f (wipeS ρ own) S with
    | ok b ρF SF => rw [e] at h; cases h; exact ⟨hp, ρF, rfl, rfl⟩
    | err _ _ _ _ => rw [e] at h; cases h
    | stuck => rw [e] at h; cases h
  · rw [if_neg hp] at h; cases h
theorem inBlk_bad {α : Type} {own : List Nat} {f : M α} {ρ : List Sl} {S : Store} : (∃ a ρ' S', inBlk own f ρ S = .ok a ρ' S') ∨ inBlk own f ρ S = .stuck := by
  unfold inBlk
  by_cases hp : own.all (plainAt ρ) = true
  · rw [if_pos hp]
    cases e : f (wipeS ρ own) S with
    | ok b ρF SF => exact .inl ⟨_, _, _, rfl⟩
    | err _ _ _ _ => exact .inr rfl
    | stuck => exact .inr rfl
  · rw [if_neg hp]; exact .inr rfl
/-- a new list at N, nobody's -/
theorem SR.newN {N : Addr} (s : SR mg A G μ σ H ρ S) (hN : H N = none) : SR mg (withD A N) G μ σ (upd H N (.lst [])) ρ S ∧ G N = none := by
  refine ⟨(s.addA (acc := []) hN).weakG fun a o e => ?_, ?_⟩
  · obtain ⟨g1, g2, g3⟩ := s.gd a o e
    refine fullG_of ?_ g2 g3
    rw [upd_ne (ne_of_none g1 hN)]; exact g1
  · cases z : G N with
    | none => rfl
    | some o => rw [(s.gd N o z).1] at hN; cases hN
theorem walk_new {tg : Tg} {J : It} {xs : List D} {N : Addr} (hN : H N = none) (w : WalkR tg mg H (Av A μ σ ρ) J xs) : WalkR tg mg (upd H N (.lst [])) (Av (withD A N) μ σ ρ) J xs := fun H2 Av1 k m d => by
  refine w H2 Av1 (fun a o e n => k a o (by rw [upd_ne (ne_of_none e hN)]; exact e) fun z => n ?_) (fun a o e z => ?_) d
  · rcases z with (z | z) | z
    · exact .inl z
    · rw [z, hN] at e; cases e
    · exact .inr z
  · rcases m a o (by rw [upd_ne (ne_of_none e hN)]; exact e) z with (z | z) | z
    · exact .inl z
    · rw [z, hN] at e; cases e
    · exact .inr z
/-- the list that was made, as a value -/
theorem made_ok {N : Addr} {acc : List V} {ys : List D} (s : SR mg (withD A N) G μ σ H ρ S) (hG : G N = none) (hA : ¬ A N) (h : H N = some (.lst acc)) (r : RepL mg H (Av (withD A N) μ σ ρ) acc ys) : rE mg A G H ρ S μ σ (.ref N) (.fresh ys) := by
  refine ⟨⟨N, acc, rfl, h, r.keep (fun _ _ e _ => e) fun a o _ z => ?_, fun z => ?_, hG⟩, fun q e => by cases e; exact s⟩
  · rcases z with (z | z) | z
    · exact .inl (.inl z)
    · exact .inr z
    · exact .inl (.inr z)
  · rcases z with z | z | z
    · exact hA z
    · exact (s.av N (.inr rfl)).1 z
    · exact (s.priv N z).1 (.inr rfl)
theorem lc_ok {own : List Nat} {tg : Tg} (hown : ∀ i ∈ tgSl tg, i ∈ own) {W : WX} {fi : M (List D)} {fc : M Bool} {fe : M R} {Q : VK} (h : Tr mg W (rE mg) (lcM own tg fi fc fe) σ H Q) :
    tLc (tI tg mg W fi) (gTg mg.K tg) (tT mg W0 fc) (tE mg W0 fe) own σ H Q := by
  obtain ⟨A, G, μ, ρ, S, s, h⟩ := Tr.iff.mp h
  refine Tr.seq2 (g := fun xs => (inBlk own (compL own tg fc (fe.bind asD) xs)).bind fun ys => M.pure (R.fresh ys)) s PM.refl h fun xs ρ1 S1 J H1 s1 _ pm _ hJ h1 => ?_
  obtain ⟨wk, hlen⟩ := hJ
  intro N hN
  rcases inBlk_bad (own := own) (f := compL own tg fc (fe.bind asD) xs) (ρ := ρ1) (S := S1) with ⟨yF, ρE, SF, e⟩ | e
  · simp only [M.bind, e] at h1
    obtain ⟨hp, ρF, eF, rfl⟩ := inBlk_ok e
    obtain ⟨sN, gN⟩ := s1.newN hN
    have hA : ¬ A N := fun z => by obtain ⟨o, e⟩ := (s1.av N z).2; rw [hN] at e; cases e
    refine clause_ok (ys0 := []) hown sN gN upd_same .nil (walk_new hN wk) hp eF (by have := compL_len eF; simp only [List.length_nil]; omega) fun H' acc s' pm' e1 r1 _ => ?_
    exact h1 _ H' s'.dropA (pm.trans pm') (made_ok s' gN hA e1 r1)
  · simp only [M.bind, e] at h1; exact h1.elim
/-! ### two clauses -/
theorem comp2L_cons {own : List Nat} {tg : Tg} {c : M Bool} {e : M (List D)} {x : D} {xs zs : List D} {ρ ρF : List Sl} {S SF : Store} (h : comp2L own tg c e (x :: xs) ρ S = .ok zs ρF SF) :
    ∃ ρ1 S1, bindTg tg x ρ S = .ok () ρ1 S1 ∧ ∃ b ρ2 S2, c ρ1 S1 = .ok b ρ2 S2 ∧ ((b = true ∧ ∃ us ρ3 S3 ws, e ρ2 S2 = .ok us ρ3 S3 ∧ comp2L own tg c e xs (wipeS ρ3 own) S3 = .ok ws ρF SF ∧ zs = us ++ ws) ∨ (b = false ∧ comp2L own tg c e xs (wipeS ρ2 own) S2 = .ok zs ρF SF)) := by
  have h : ((bindTg tg x).bind fun _ => c.bind fun b => if b then e.bind fun y => (wipeM own).bind fun _ => (comp2L own tg c e xs).bind fun ys => M.pure (y ++ ys) else (wipeM own).bind fun _ => comp2L own tg c e xs) ρ S = .ok zs ρF SF := h
  obtain ⟨_, ρ1, S1, e1, h⟩ := bind_ok h
  obtain ⟨b, ρ2, S2, e2, h⟩ := bind_ok h
  refine ⟨ρ1, S1, e1, b, ρ2, S2, e2, ?_⟩
  cases b with
  | true =>
    rw [if_pos rfl] at h
    obtain ⟨y, ρ3, S3, e3, h⟩ := bind_ok h
    obtain ⟨_, ρ4, S4, e4, h⟩ := bind_ok h
    have e4 : Out.ok () (wipeS ρ3 own) S3 = Out.ok () ρ4 S4 := e4
    cases e4
    obtain ⟨ws, ρ5, S5, e5, h⟩ := bind_ok h
    have h : Out.ok (y ++ ws) ρ5 S5 = Out.ok zs ρF SF := h
    cases h
    exact .inl ⟨rfl, y, ρ3, S3, ws, e3, e5, rfl⟩
  | false =>
    rw [if_neg (by decide)] at h
    obtain ⟨_, ρ4, S4, e4, h⟩ := bind_ok h
    have e4 : Out.ok () (wipeS ρ2 own) S2 = Out.ok () ρ4 S4 := e4
    cases e4
    exact .inr ⟨rfl, h⟩
def lc2M (own own1 : List Nat) (tg : Tg) (fi : M (List D)) (fc : M Bool) (tg1 : Tg) (fi1 : M (List D)) (fc1 : M Bool) (fe : M R) : M R := fi.bind fun xs =>
  (inBlk own (comp2L own tg fc (fi1.bind fun ys => inBlk own1 (compL own1 tg1 fc1 (fe.bind asD) ys)) xs)).bind fun ys => if szOk ys.length then M.pure (R.fresh ys) else M.stuck
theorem lc2_ok {own own1 : List Nat} {tg tg1 : Tg} (hown : ∀ i ∈ tgSl tg, i ∈ own) (hown1 : ∀ i ∈ tgSl tg1, i ∈ own1) {W : WX} {fi fi1 : M (List D)} {fc fc1 : M Bool} {fe : M R} {Q : VK} (h : Tr mg W (rE mg) (lc2M own own1 tg fi fc tg1 fi1 fc1 fe) σ H Q) :
    tLc2 (tI tg mg W fi) (gTg mg.K tg) (tT mg W0 fc) (tI tg1 mg W0 fi1) (gTg mg.K tg1) (tT mg W0 fc1) (tE mg W0 fe) own own1 σ H Q := by
  obtain ⟨A, G, μ, ρ, S, s, h⟩ := Tr.iff.mp h
  refine Tr.seq2 (g := fun xs => (inBlk own (comp2L own tg fc (fi1.bind fun ys => inBlk own1 (compL own1 tg1 fc1 (fe.bind asD) ys)) xs)).bind fun ys => if szOk ys.length then M.pure (R.fresh ys) else M.stuck) s PM.refl h fun xs ρ1 S1 J H1 s1 _ pm _ hJ h1 => ?_
  obtain ⟨wk0, hlen⟩ := hJ
  intro N hN
  rcases inBlk_bad (own := own) (f := comp2L own tg fc (fi1.bind fun ys => inBlk own1 (compL own1 tg1 fc1 (fe.bind asD) ys)) xs) (ρ := ρ1) (S := S1) with ⟨yF, ρE, SF, e⟩ | e
  · simp only [M.bind, e] at h1
    by_cases hz : szOk yF.length = true
    · rw [if_pos hz] at h1
      have hz : yF.length ≤ sizeLine := of_decide_eq_true hz
      obtain ⟨hp, ρF, eF, rfl⟩ := inBlk_ok e
      obtain ⟨sN, gN⟩ := s1.newN hN
      have hA : ¬ A N := fun z => by obtain ⟨o, e⟩ := (s1.av N z).2; rw [hN] at e; cases e
      have wk := walk_new (A := A) (mg := mg) (μ := μ) (σ := σ) (ρ := ρ1) hN wk0
      generalize eσ : wipe σ own = σw
      generalize eρ : wipeS ρ1 own = ρw at eF
      generalize eH : upd H1 N (.lst []) = HN at sN wk ⊢
      have hHN : HN N = some (.lst []) := by rw [← eH]; exact upd_same
      have hpx : ∀ a, Pv σw ρw a → Pv σ ρ1 a := fun a z => by rw [← eσ, ← eρ] at z; exact pv_wipe z
      have sw : SR mg (withD A N) G μ σw HN ρw S1 := by rw [← eσ, ← eρ]; exact sN.wiped own
      have dN : withD A N N := .inr rfl
      generalize eG : butD (fullG HN μ σw ρw) N = Gd
      have GdN : Gd N = none := by rw [← eG]; exact butD_D
      have GdOf : ∀ a o, HN a = some o → ¬ Av (withD A N) μ σ ρ1 a → Gd a = some o := fun a o e n => by
        rw [← eG]
        exact butD_of (fullG_of e (fun z => n (.inr (.inl z))) fun z => n (.inr (.inr (hpx a z)))) fun z => n (.inl (by rw [z]; exact dN))
      have s0 : SR mg (withD A N) Gd μ σw HN ρw S1 := sw.full.weakG fun a o e => by rw [← eG] at e; exact of_butD e
      refine ⟨fun i m H => m = xs.length - i ∧ i ≤ xs.length ∧ ∃ ρi Si ys zs, Mk mg A Gd μ σw ρw N ys H ρi Si ∧ comp2L own tg fc (fi1.bind fun ys => inBlk own1 (compL own1 tg1 fc1 (fe.bind asD) ys)) (xs.drop i) ρi Si = .ok zs ρF SF ∧ ys ++ zs = yF, ⟨xs.length, rfl, Nat.zero_le _, ρw, S1, [], yF, ⟨s0, PX.refl, [], hHN, .nil⟩, ?_, rfl⟩, ?_⟩
      · rw [List.drop_zero]
        exact eF
      · rintro i m Hi ⟨rfl, hi, ρi, Si, ys, zs, ⟨si, pi, acc, hacc, racc⟩, hc, hyz⟩
        have kH : ∀ a o, HN a = some o → ¬ Av (withD A N) μ σ ρ1 a → Hi a = some o := fun a o e n => (si.gd a o (GdOf a o e n)).1
        have mA : ∀ a o, HN a = some o → Av (withD A N) μ σw ρi a → Av (withD A N) μ σ ρ1 a := fun a o e z => by
          rcases z with z | z | z
          · exact .inl z
          · exact .inr (.inl z)
          · exact .inr (.inr (hpx a (pi a z)))
        have wi := wk Hi (Av (withD A N) μ σw ρi) kH mA fun a z => si.dom z
        by_cases hlt : i < xs.length
        · refine .inr ?_
          obtain ⟨go, yl⟩ := wi.1 i xs[i] (List.getElem?_eq_getElem hlt)
          refine ⟨go, fun H' => ∃ ρ' S' ys' zs', Mk mg A Gd μ σw ρw N ys' H' ρ' S' ∧ comp2L own tg fc (fi1.bind fun ys => inBlk own1 (compL own1 tg1 fc1 (fe.bind asD) ys)) (xs.drop (i + 1)) ρ' S' = .ok zs' ρF SF ∧ ys' ++ zs' = yF, fun H' hx => ⟨xs.length - (i + 1), by omega, rfl, hlt, hx⟩, fun x H2 hy => ?_⟩
          obtain ⟨sm, rx⟩ := yl x H2 hy
          rw [List.drop_eq_getElem_cons hlt] at hc
          obtain ⟨ρ2, S2, e2, b, ρ3, S3, e3, hrest⟩ := comp2L_cons hc
          have s2 := si.same sm
          rcases tg_ok tg s2 rx with ⟨ρ2', e2', σ2, s2', px2, hw, q⟩ | e2'
          · rw [e2] at e2'
            cases e2'
            have hw2 : wipe σ2 own = σw := by rw [hw own hown, ← eσ, wipe_wipe]
            refine q _ ⟨hw2.trans eσ.symm ▸ hw2.trans rfl, ?_⟩
            have nN : ∀ {σ' : L2.St} {ρ' : List Sl} {H' : Hp} {S' : Store} {G' : Hp}, SR mg (withD A N) G' μ σ' H' ρ' S' → N ∉ μ ∧ ¬ Pv σ' ρ' N := fun t => ⟨(t.av N (.inr rfl)).1, fun z => (t.priv N z).1 (.inr rfl)⟩
            have racc2 : RepL mg H2 (Av (withD A N) μ σ2 ρ2) acc ys := (racc.same sm).keep (fun a o e _ => e) fun a o _ z => px2.av z
            have hacc2 : H2 N = some (.lst acc) := sm _ _ hacc
            have fin : ∀ {ρ4 : List Sl} {S4 : Store} {H4 : Hp} {acc' : List V} {ys' zs' : List D}, SR mg (withD A N) Gd μ σ2 H4 ρ4 S4 → PM σ2 ρ2 ρ4 → RepL mg H4 (Av (withD A N) μ σ2 ρ4) acc' ys' → H4 N = some (.lst acc') →
                comp2L own tg fc (fi1.bind fun ys => inBlk own1 (compL own1 tg1 fc1 (fe.bind asD) ys)) (xs.drop (i + 1)) (wipeS ρ4 own) S4 = .ok zs' ρF SF → ys' ++ zs' = yF →
                ∃ ρ' S' ys' zs', Mk mg A Gd μ σw ρw N ys' H4 ρ' S' ∧ comp2L own tg fc (fi1.bind fun ys => inBlk own1 (compL own1 tg1 fc1 (fe.bind asD) ys)) (xs.drop (i + 1)) ρ' S' = .ok zs' ρF SF ∧ ys' ++ zs' = yF := by
              intro ρ4 S4 H4 acc' ys' zs' s4 pm4 r4 h4 hc4 hz4
              have s5 : SR mg (withD A N) Gd μ σw H4 (wipeS ρ4 own) S4 := by rw [← hw2]; exact s4.wiped own
              have px5 : ∀ a, Pv σw (wipeS ρ4 own) a → Pv σ2 ρ4 a := fun a z => by rw [← hw2] at z; exact pv_wipe z
              refine ⟨wipeS ρ4 own, S4, ys', zs', ⟨s5, fun a z => pi a (px2 a (pm4 a (px5 a z))), acc', h4, r4.keep (fun a o e _ => e) fun a o _ z => ?_⟩, hc4, hz4⟩
              rcases z with z | z | z
              · exact .inl z
              · exact .inr (.inl z)
              · exact .inr (.inr (px5 a z))
            refine Tr.iff.mpr ⟨withD A N, fullG H2 μ σ2 ρ2, μ, ρ2, Si, s2'.full, ?_⟩
            rw [e3]
            intro b' H3 s3 pm3 hb
            have hb : b' = b := hb
            subst hb
            have s3' : SR mg (withD A N) Gd μ σ2 H3 ρ3 S3 := s3.back s2'
            have hacc3 : H3 N = some (.lst acc) := (s3.gd N _ (fullG_of hacc2 (nN s2').1 (nN s2').2)).1
            have racc3 : RepL mg H3 (Av (withD A N) μ σ2 ρ3) acc ys := by
              refine racc2.keep (fun a o e n => ?_) fun a o _ z => ?_
              · exact (s3.gd a o (fullG_of e (fun z => n (.inr (.inl z))) fun z => n (.inr (.inr z)))).1
              · rcases z with z | z | z
                · exact .inl z
                · exact .inr (.inl z)
                · exact .inr (.inr (pm3 a z))
            rcases hrest with ⟨rfl, us, ρ4, S4, ws, e4, hc4, rfl⟩ | ⟨rfl, hc4⟩
            · rw [if_pos rfl]
              obtain ⟨vs, ρ5, S5, e5, e6⟩ := bind_ok e4
              obtain ⟨hp1, ρ6, e7, rfl⟩ := inBlk_ok e6
              refine Tr.iff.mpr ⟨withD A N, fullG H3 μ σ2 ρ3, μ, ρ3, S3, s3'.full, ?_⟩
              rw [e5]
              intro J1 H4 s4 pm4 ⟨wk1, _⟩
              have s4' : SR mg (withD A N) Gd μ σ2 H4 ρ5 S5 := s4.back s3'
              have hacc4 : H4 N = some (.lst acc) := (s4.gd N _ (fullG_of hacc3 (nN s3').1 (nN s3').2)).1
              have racc4 : RepL mg H4 (Av (withD A N) μ σ2 ρ5) acc ys := by
                refine racc3.keep (fun a o e n => ?_) fun a o _ z => ?_
                · exact (s4.gd a o (fullG_of e (fun z => n (.inr (.inl z))) fun z => n (.inr (.inr z)))).1
                · rcases z with z | z | z
                  · exact .inl z
                  · exact .inr (.inl z)
                  · exact .inr (.inr (pm4 a z))
              refine clause_ok hown1 s4' GdN hacc4 racc4 wk1 hp1 e7 ?_ fun H' acc' s' pm' h' r' _ => ?_
              · rw [← hyz, List.length_append, List.length_append] at hz; omega
              · exact fin s' (fun a z => pm3 a (pm4 a (pm' a z))) r' h' hc4 (by rw [List.append_assoc]; exact hyz)
            · rw [if_neg (by decide)]
              exact fin s3' pm3 racc3 hacc3 hc4 hyz
          · rw [e2] at e2'; cases e2'
        · refine .inl ?_
          have ei : i = xs.length := by omega
          subst ei
          refine ⟨wi.2, ?_⟩
          rw [List.drop_length] at hc
          have hc : Out.ok [] ρi Si = Out.ok zs ρF SF := hc
          cases hc
          rw [List.append_nil] at hyz
          subst hyz
          have su : SR mg (withD A N) Gd μ (wipe σ own) Hi ρF SF := by rw [eσ]; exact si
          obtain ⟨sF, pmF, mF⟩ := sN.unwiped (A' := withD A N) (fun a z => .inl z) (fun a z => z) hp su (fun a o e h2 h3 h4 => by
            rw [← eG]
            refine butD_of (fullG_of e h2 fun z => h3 (hpx a z)) fun z => ?_
            rcases h4 with h4 | h4
            · exact h4 (by rw [z]; exact dN)
            · rw [z, gN] at h4; cases h4) (by rw [eσ, eρ]; exact fun a z => pi a z)
          refine h1 _ Hi sF.dropA (pm.trans pmF) (made_ok sF gN hA hacc (racc.keep (fun a o e _ => e) fun a o e z => ?_))
          have z2 := mF a o e z
          rw [eσ] at z2
          exact z2
    · rw [if_neg hz] at h1; exact h1.elim
  · simp only [M.bind, e] at h1; exact h1.elim
end
end DL
end

section
/-! The data layer, part 9: what each form of an expression asks, by data. -/
namespace DL
open PySem PySem.Spec PyProof.Rows L2

abbrev gx (X : Cx) : Gm := ⟨X.mg, X.K⟩
/-- one place -/
def Op1 (mg : Gm) (f : D → Option R) (r : V → Hp → VK → Prop) : Prop := ∀ (H : Hp) (Av : Addr → Prop) (x : V) (u : D) (res : R) (Q : VK), (∀ a, Av a → ∃ o, H a = some o) → Lk1 mg H Av x u → f u = some res →
  (∀ z H', Same H H' → RR mg H H' Av [] [] z res → Q z H') → (∃ d, res = .d d) ∨ (∃ xs, res = .fresh xs) → r x H Q
theorem isVal_of {r : R} (h : (∃ d, r = .d d) ∨ (∃ xs, r = .fresh xs)) : isVal r := by
  rcases h with ⟨d, rfl⟩ | ⟨xs, rfl⟩ <;> trivial

section
variable {mg : Gm} {W : WX} {σ : L2.St} {H : Hp} {Q : VK}
/-- a value at hand -/
theorem end_val {A : Addr → Prop} {G : Hp} {μ : List Addr} {ρ ρ0 : List Sl} {S : Store} {r : R} {v : V} (s : SR mg A G μ σ H ρ S) (pm : PM σ ρ0 ρ) (h : End mg W (rE mg) A G μ σ ρ0 Q (.ok r ρ S)) (k : rE mg A G H ρ S μ σ v r) : Q v H := h v H s pm k
theorem var_ok {i : Nat} (h : tE mg W (rd i) σ H Q) : tVar i σ H Q := by
  obtain ⟨A, G, μ, ρ, S, s, h⟩ := Tr.iff.mp h
  cases e : ρ[i]? with
  | none => simp only [rd, e] at h; exact h.elim
  | some t =>
    have hi : i < σ.length := by rw [s.len]; exact (List.getElem?_eq_some_iff.mp e).1
    have e2 : σ[i]? = some σ[i] := List.getElem?_eq_getElem hi
    have q := s.slot i t _ e e2
    cases t with
    | none => simp only [rd, e] at h; exact h.elim
    | obj c fs => simp only [rd, e] at h; exact h.elim
    | d x =>
      simp only [rd, e] at h
      obtain ⟨v, e1, r⟩ := q
      exact ⟨v, by rw [e2, e1], end_val s PM.refl h r⟩
    | own xs =>
      simp only [rd, e] at h
      obtain ⟨p, vs, e1, r, _⟩ := q
      exact ⟨.ref p, by rw [e2, e1], end_val s PM.refl h (show σ[i]? = _ by rw [e2, e1])⟩
    | loc l =>
      simp only [rd, e] at h
      obtain ⟨a, e1, r⟩ := q
      exact ⟨.ref a, by rw [e2, e1], end_val s PM.refl h ⟨a, rfl, r⟩⟩
    | lam g => obtain ⟨f, _, z⟩ := q; exact z.elim
    | scr ns =>
      simp only [rd, e] at h
      obtain ⟨a, e1, r⟩ := q
      exact ⟨.ref a, by rw [e2, e1], end_val s PM.refl h ⟨a, rfl, r⟩⟩
theorem const_ok {v : V} {d : D} (hv : ∀ H Av, Rep mg H Av v d) (h : tE mg W (M.pure (R.d d)) σ H Q) : tC v σ H Q := by
  obtain ⟨A, G, μ, ρ, S, s, h⟩ := Tr.iff.mp h
  exact h v H s PM.refl (hv _ _)
/-- f's value looked at, then g -/
theorem op1_ok {fa : M R} {f : D → Option R} {r : V → Hp → VK → Prop} (hr : Op1 mg f r) (hv : ∀ u z, f u = some z → (∃ d, z = .d d) ∨ (∃ xs, z = .fresh xs)) (h : tE mg W (op1 fa f) σ H Q) : tE mg W fa σ H fun x H1 => r x H1 Q := by
  obtain ⟨A, G, μ, ρ, S, s, h⟩ := Tr.iff.mp h
  refine Tr.seq2 s PM.refl h fun a ρ1 S1 v H1 s1 _ pm _ ra h1 => ?_
  rcases peek_ok s1 ra.rr with ⟨d, e, l⟩ | e
  · simp only [M.bind, e] at h1
    cases e2 : f d with
    | none => simp only [M.ofO, e2] at h1; exact h1.elim
    | some z =>
      simp only [M.ofO, e2] at h1
      refine hr H1 _ v d z Q (fun a z => s1.dom z) l e2 (fun w H2 sm rz => ?_) (hv _ _ e2)
      exact h1 w H2 (s1.same sm) pm (s1.toE sm (isVal_of (hv _ _ e2)) rz)
  · simp only [M.bind, e] at h1; exact h1.elim
theorem op2_ok {fa fb : M R} {f : D → D → Option R} {r : R2} (hr : Op2 mg f r) (hv : ∀ u v z, f u v = some z → (∃ d, z = .d d) ∨ (∃ xs, z = .fresh xs)) (h : tE mg W (op2 fa fb f) σ H Q) : tOp r (tE mg W fa) (tE mg W fb) σ H Q := by
  obtain ⟨A, G, μ, ρ, S, s, h⟩ := Tr.iff.mp h
  refine Tr.seq2 s PM.refl h fun a ρ1 S1 v H1 s1 _ pm _ ra h1 => ?_
  refine Tr.seq2 s1 pm h1 fun b ρ2 S2 w H2 s2 s2' pm2 pm02 rb h2 => ?_
  have ra2 := ra.rr.step s2' pm2
  rcases peek_ok s2 ra2 with ⟨d, e, l⟩ | e
  · rcases peek_ok s2 rb.rr with ⟨d', e', l'⟩ | e'
    · simp only [M.bind, e, e'] at h2
      cases e2 : f d d' with
      | none => simp only [M.ofO, e2] at h2; exact h2.elim
      | some z =>
        simp only [M.ofO, e2] at h2
        refine hr H2 _ v w d d' z Q (fun a z => s2.dom z) l l' e2 (fun w H3 sm rz => ?_) (hv _ _ _ e2)
        exact h2 w H3 (s2.same sm) pm02 (s2.toE sm (isVal_of (hv _ _ _ e2)) rz)
    · simp only [M.bind, e, e'] at h2; exact h2.elim
  · simp only [M.bind, e] at h2; exact h2.elim
/-- truth -/
theorem tru_of {Av : Addr → Prop} {v : V} {d : D} {k : Bool} (l : Lk1 mg H Av v d) (h : truth d = some k) : TruV mg.K v H k := by
  cases d with
  | non => cases l.non_inv; cases h; rfl
  | bl b => cases l.bl_inv; cases h; rfl
  | int i => cases l.int_inv; cases h; rfl
  | str x => cases h
  | tup xs =>
    obtain ⟨p, vs, rfl, e, r, _⟩ := l.tup_inv
    cases h
    refine .inr (.inl ⟨vs, e.sq, ?_⟩)
    cases r <;> rfl
  | lst xs =>
    obtain ⟨p, vs, rfl, e, r⟩ := l.lst_inv
    cases h
    refine .inl ⟨vs, SqL.of e, ?_⟩
    cases r <;> rfl
  | ins _ _ => cases h
  | fn _ => cases h
theorem truR_ok {A : Addr → Prop} {G G0 : Hp} {μ : List Addr} {ρ : List Sl} {S : Store} {r : R} {v : V} (s : SR mg A G μ σ H ρ S) (k : RR mg G0 H (Av A μ σ ρ) μ σ v r) :
    (∃ b, truthR r ρ S = .ok b ρ S ∧ TruV mg.K v H b) ∨ truthR r ρ S = .stuck := by
  unfold truthR
  rcases peek_ok s k with ⟨d, e, l⟩ | e
  · simp only [M.bind, e]
    cases e2 : truth d with
    | none => exact .inr (by simp only [M.ofO])
    | some b => exact .inl ⟨b, by simp only [M.ofO], tru_of l e2⟩
  · exact .inr (by simp only [M.bind, e])
theorem truth_ok {fa : M R} {Q : Bool → Hp → Prop} (h : tT mg W (fa.bind truthR) σ H Q) : tE mg W fa σ H fun x H' => ∃ k, TruV mg.K x H' k ∧ Q k H' := by
  obtain ⟨A, G, μ, ρ, S, s, h⟩ := Tr.iff.mp h
  refine Tr.seq2 s PM.refl h fun a ρ1 S1 v H1 s1 _ pm _ ra h1 => ?_
  rcases truR_ok s1 ra.rr with ⟨b, e, l⟩ | e
  · rw [e] at h1; exact ⟨b, l, h1 b H1 s1 pm rfl⟩
  · rw [e] at h1; exact h1.elim
theorem andT_ok {fa fb : M R} (h : tE mg W (fa.bind fun x => (truthR x).bind fun k => if k then fb else M.pure x) σ H Q) : tAndT mg.K (tE mg W fa) (tE mg W fb) σ H Q := by
  obtain ⟨A, G, μ, ρ, S, s, h⟩ := Tr.iff.mp h
  refine Tr.seq2 s PM.refl h fun a ρ1 S1 v H1 s1 _ pm _ ra h1 => ?_
  rcases truR_ok s1 ra.rr with ⟨b, e, l⟩ | e
  · simp only [M.bind, e] at h1
    refine ⟨b, l, ?_⟩
    cases b with
    | true => simp only [if_true] at h1 ⊢; exact Tr.last s1 pm h1
    | false => simp only [Bool.false_eq_true, if_false] at h1 ⊢; exact h1 v H1 s1 pm ra
  · simp only [M.bind, e] at h1; exact h1.elim
theorem orT_ok {fa fb : M R} (h : tE mg W (fa.bind fun x => (truthR x).bind fun k => if k then M.pure x else fb) σ H Q) : tOrT mg.K (tE mg W fa) (tE mg W fb) σ H Q := by
  obtain ⟨A, G, μ, ρ, S, s, h⟩ := Tr.iff.mp h
  refine Tr.seq2 s PM.refl h fun a ρ1 S1 v H1 s1 _ pm _ ra h1 => ?_
  rcases truR_ok s1 ra.rr with ⟨b, e, l⟩ | e
  · simp only [M.bind, e] at h1
    refine ⟨b, l, ?_⟩
    cases b with
    | false => simp only [Bool.false_eq_true, if_false] at h1 ⊢; exact Tr.last s1 pm h1
    | true => simp only [if_true] at h1 ⊢; exact h1 v H1 s1 pm ra
  · simp only [M.bind, e] at h1; exact h1.elim
theorem notT_ok {fa : M R} (h : tE mg W (fa.bind fun x => (truthR x).bind fun k => M.pure (R.d (.bl (!k)))) σ H Q) : tNotT mg.K (tE mg W fa) σ H Q := by
  obtain ⟨A, G, μ, ρ, S, s, h⟩ := Tr.iff.mp h
  refine Tr.seq2 s PM.refl h fun a ρ1 S1 v H1 s1 _ pm _ ra h1 => ?_
  rcases truR_ok s1 ra.rr with ⟨b, e, l⟩ | e
  · simp only [M.bind, e] at h1
    exact ⟨b, l, h1 _ H1 s1 pm (.bl _)⟩
  · simp only [M.bind, e] at h1; exact h1.elim
theorem tests_ok {fa fb : M Bool} {Q : Bool → Hp → Prop} :
    (tT mg W (iff fa fb (M.pure false)) σ H Q → tAnd (tT mg W fa) (tT mg W fb) σ H Q) ∧ (tT mg W (iff fa (M.pure true) fb) σ H Q → tOr (tT mg W fa) (tT mg W fb) σ H Q) ∧ (tT mg W (fa.bind fun k => M.pure (!k)) σ H Q → tNot (tT mg W fa) σ H Q) := by
  refine ⟨fun h => ?_, fun h => ?_, fun h => ?_⟩
  · obtain ⟨A, G, μ, ρ, S, s, h⟩ := Tr.iff.mp h
    refine Tr.seq2 s PM.refl h fun a ρ1 S1 v H1 s1 _ pm _ ra h1 => ?_
    obtain rfl : v = a := ra
    cases v with
    | true => simp only [if_true] at h1 ⊢; exact Tr.last s1 pm h1
    | false => simp only [Bool.false_eq_true, if_false] at h1 ⊢; exact h1 _ H1 s1 pm rfl
  · obtain ⟨A, G, μ, ρ, S, s, h⟩ := Tr.iff.mp h
    refine Tr.seq2 s PM.refl h fun a ρ1 S1 v H1 s1 _ pm _ ra h1 => ?_
    obtain rfl : v = a := ra
    cases v with
    | false => simp only [Bool.false_eq_true, if_false] at h1 ⊢; exact Tr.last s1 pm h1
    | true => simp only [if_true] at h1 ⊢; exact h1 _ H1 s1 pm rfl
  · obtain ⟨A, G, μ, ρ, S, s, h⟩ := Tr.iff.mp h
    refine Tr.seq2 s PM.refl h fun a ρ1 S1 v H1 s1 _ pm _ ra h1 => ?_
    obtain rfl : v = a := ra
    exact h1 _ H1 s1 pm rfl
theorem iff_ok {β α : Type} {rel : (Addr → Prop) → Hp → Hp → List Sl → Store → List Addr → L2.St → β → α → Prop} {c : M Bool} {fa fb : M α} {Q : β → Hp → Prop} (h : Tr mg W rel (iff c fa fb) σ H Q) :
    tT mg W c σ H fun k H1 => if k = true then Tr mg W rel fa σ H1 Q else Tr mg W rel fb σ H1 Q := by
  obtain ⟨A, G, μ, ρ, S, s, h⟩ := Tr.iff.mp h
  refine Tr.seq2 s PM.refl h fun a ρ1 S1 v H1 s1 _ pm _ ra h1 => ?_
  obtain rfl : v = a := ra
  cases v with
  | true => simp only [if_true] at h1 ⊢; exact Tr.last s1 pm h1
  | false => simp only [Bool.false_eq_true, if_false] at h1 ⊢; exact Tr.last s1 pm h1
/-- a chain of two comparisons -/
theorem chain_ok {fa fb fc : M R} {o o' : Cop} {r r' : R2} (hr : Op2 mg (fC o) r) (hr' : Op2 mg (fC o') r') (h : tE mg W (fa.bind fun x => fb.bind fun y => (peek x).bind fun u => (peek y).bind fun v => (M.ofO (cop o u v)).bind fun k =>
      if k then fc.bind fun z => (peek y).bind fun v => (peek z).bind fun w => M.ofO (blR (cop o' v w)) else M.pure (R.d (.bl false))) σ H Q) :
    tChain r r' (tE mg W fa) (tE mg W fb) (tE mg W fc) σ H Q := by
  obtain ⟨A, G, μ, ρ, S, s, h⟩ := Tr.iff.mp h
  refine Tr.seq2 s PM.refl h fun a ρ1 S1 v H1 s1 _ pm _ ra h1 => ?_
  refine Tr.seq2 s1 pm h1 fun b ρ2 S2 w H2 s2 s2' pm2 pm02 rb h2 => ?_
  have ra2 := ra.rr.step s2' pm2
  rcases peek_ok s2 ra2 with ⟨d, e, l⟩ | e
  · rcases peek_ok s2 rb.rr with ⟨d', e', l'⟩ | e'
    · simp only [M.bind, e, e'] at h2
      cases e2 : cop o d d' with
      | none => simp only [M.ofO, e2] at h2; exact h2.elim
      | some k =>
        simp only [M.ofO, e2] at h2
        refine hr H2 _ v w d d' (.d (.bl k)) _ (fun a z => s2.dom z) l l' (by show blR (cop o d d') = _; rw [e2]; rfl) (fun x H3 sm rz => ?_) (.inl ⟨_, rfl⟩)
        have s3 := s2.same sm
        have rz : Rep mg H3 _ x (.bl k) := rz
        cases rz
        refine ⟨k, rfl, ?_⟩
        cases k with
        | false => simp only [Bool.false_eq_true, if_false] at h2 ⊢; exact h2 _ H3 s3 pm02 (.bl _)
        | true =>
          simp only [if_true] at h2 ⊢
          refine Tr.seq2 s3 pm02 h2 fun c ρ4 S4 z H4 s4 s4' pm4 pm04 rc h4 => ?_
          have rb4 := (rb.rr.same sm).step s4' pm4
          rcases peek_ok s4 rb4 with ⟨d2, f1, l2⟩ | f1
          · rcases peek_ok s4 rc.rr with ⟨d3, f2, l3⟩ | f2
            · simp only [M.bind, f1, f2] at h4
              cases f3 : blR (cop o' d2 d3) with
              | none => simp only [M.ofO, f3] at h4; exact h4.elim
              | some res =>
                simp only [M.ofO, f3] at h4
                have hv : (∃ d, res = .d d) ∨ (∃ xs, res = .fresh xs) := by
                  cases f4 : cop o' d2 d3 with
                  | none => rw [f4] at f3; cases f3
                  | some k => rw [f4] at f3; cases f3; exact .inl ⟨_, rfl⟩
                exact hr' H4 _ w z d2 d3 res Q (fun a z => s4.dom z) l2 l3 f3 (fun x H5 sm5 r5 => h4 x H5 (s4.same sm5) pm04 (s4.toE sm5 (isVal_of hv) r5)) hv
            · simp only [M.bind, f1, f2] at h4; exact h4.elim
          · simp only [M.bind, f1] at h4; exact h4.elim
    · simp only [M.bind, e, e'] at h2; exact h2.elim
  · simp only [M.bind, e] at h2; exact h2.elim
end
end DL
end

section
/-! The data layer, part 10: displays, arguments, slices, fields, built-in functions, by data. -/
namespace DL
open PySem PySem.Spec PyProof.Rows L2
section
variable {mg : Gm} {W : WX} {σ : L2.St} {H : Hp} {Q : VK}
/-! ### lists of values -/
theorem nilL_ok {Q : List V → Hp → Prop} (h : tL mg W (M.pure []) σ H Q) : tNil σ H Q := by
  obtain ⟨A, G, μ, ρ, S, s, h⟩ := Tr.iff.mp h
  exact h [] H s PM.refl .nil
theorem nilA_ok {Q : List V → Hp → Prop} (h : tA mg W (M.pure []) σ H Q) : tNil σ H Q := by
  obtain ⟨A, G, μ, ρ, S, s, h⟩ := Tr.iff.mp h
  exact h [] H s PM.refl .nil
theorem consL_ok {fe : M R} {fl : M (List D)} {Q : List V → Hp → Prop} (h : tL mg W (fe.bind fun x => (asD x).bind fun d => fl.bind fun ds => M.pure (d :: ds)) σ H Q) : tCons (tE mg W fe) (tL mg W fl) σ H Q := by
  obtain ⟨A, G, μ, ρ, S, s, h⟩ := Tr.iff.mp h
  refine Tr.seq2 s PM.refl h fun a ρ1 S1 v H1 s1 _ pm _ ra h1 => ?_
  rcases asD_ok s1 ra.rr with ⟨d, ρ2, e, s2, pm2, rd⟩ | e
  · simp only [M.bind, e] at h1
    refine Tr.seq2 s2 (pm.trans pm2) h1 fun ds ρ3 S3 vs H3 s3 s3' pm3 pm03 rs h3 => ?_
    exact h3 _ H3 s3 pm03 (.cons (rd.step s3' pm3) rs)
  · simp only [M.bind, e] at h1; exact h1.elim
theorem consA_ok {fe : M R} {fl : M (List Arg)} {Q : List V → Hp → Prop} (h : tA mg W (fe.bind fun x => (asArg x).bind fun d => fl.bind fun ds => M.pure (d :: ds)) σ H Q) : tCons (tE mg W fe) (tA mg W fl) σ H Q := by
  obtain ⟨A, G, μ, ρ, S, s, h⟩ := Tr.iff.mp h
  refine Tr.seq2 s PM.refl h fun a ρ1 S1 v H1 s1 _ pm _ ra h1 => ?_
  rcases asArg_ok s1 ra.rr with ⟨d, ρ2, e, s2, pm2, rd⟩ | e
  · simp only [M.bind, e] at h1
    refine Tr.seq2 s2 (pm.trans pm2) h1 fun ds ρ3 S3 vs H3 s3 s3' pm3 pm03 rs h3 => ?_
    obtain ⟨k, m⟩ := keep_step (H := H1) s3' pm3 fun a o e h1 h2 => (s3'.gd a o (fullG_of e h1 h2)).1
    exact h3 _ H3 s3 pm03 (.cons (rd.keep k m) rs)
  · simp only [M.bind, e] at h1; exact h1.elim
theorem SR.domAll {A : Addr → Prop} {G : Hp} {μ : List Addr} {ρ : List Sl} {S : Store} (s : SR mg A G μ σ H ρ S) : ∀ a, Av A μ σ ρ a → ∃ o, H a = some o := fun _ z => s.dom z
/-- as many results at most -/
def Most (fl : M (List D)) : Prop := ∀ ρ S xs ρ' S', fl ρ S = .ok xs ρ' S' → xs.length ≤ sizeLine
/-- a first step, and what it gave -/
theorem Tr.seqE {α β γ δ : Type} {mg : Gm} {W : WX} {rel : (Addr → Prop) → Hp → Hp → List Sl → Store → List Addr → L2.St → β → α → Prop} {rel' : (Addr → Prop) → Hp → Hp → List Sl → Store → List Addr → L2.St → δ → γ → Prop} {A : Addr → Prop} {G : Hp} {μ : List Addr} {σ : L2.St} {H : Hp} {ρ : List Sl} {S : Store} {f : M α} {g : α → M γ} {Q : δ → Hp → Prop} {R : β → Hp → Prop} (s : SR mg A G μ σ H ρ S)
    (h : End mg W rel' A G μ σ ρ Q ((f.bind g) ρ S))
    (k : ∀ a ρ' S' b H', f ρ S = .ok a ρ' S' → SR mg A G μ σ H' ρ' S' → PM σ ρ ρ' → rel A G H' ρ' S' μ σ b a → End mg W rel' A G μ σ ρ Q (g a ρ' S') → R b H') : Tr mg W rel f σ H R := by
  refine Tr.iff.mpr ⟨A, G, μ, ρ, S, s, ?_⟩
  unfold M.bind at h
  cases e : f ρ S with
  | ok a ρ' S' =>
    rw [e] at h
    exact fun b H' s' pm r => k a ρ' S' b H' e s' pm r h
  | err c fs ρ' S' => rw [e] at h; exact h
  | stuck => rw [e] at h; exact h
/-- (x, ..), the record known -/
def tTupZ (t : TA) : TE := fun σ H Q => t σ H fun xs H1 => xs.length ≤ sizeLine ∧ ∀ (p : Addr) (ob : Obj), H1 p = none → ob.dict = none → Q (.ref p) (upd H1 p (.frz ob (.tup xs)))
theorem pe_tupZ {X : Cx} {es : List Expr} {t : TA} {x1} {pos : Pos} (h : PA X es t) : PE X (.Tuple es x1 pos) (tTupZ t) := ⟨fun pins s σ H Q I hq => wpAny_Tuple_spliced (thn (h.run pos pins s σ H _ I hq) fun us s1 ⟨xs, H1, I1, r, z, q⟩ =>
  ⟨by rw [← r.length]; exact z, .ref s1.heap.objs.size, _, laidT (tk := s1.toks) I1 r z, rfl, q _ _ (I1.hok.fresh (Nat.le_refl _)) rfl⟩)⟩
theorem tup_ok {fl : M (List D)} (hl : Most fl) (h : tE mg W (fl.bind fun xs => M.pure (R.d (.tup xs))) σ H Q) : tTupZ (tL mg W fl) σ H Q := by
  obtain ⟨A, G, μ, ρ, S, s, h⟩ := Tr.iff.mp h
  refine Tr.seqE s h fun xs ρ1 S1 vs H1 e s1 pm rs h1 => ?_
  have rs : RepL mg H1 (Av A μ σ ρ1) vs xs := rs
  refine ⟨by rw [rs.length]; exact hl _ _ _ _ _ e, fun p ob hp ho => h1 _ _ (s1.same (same_up hp)) pm ?_⟩
  exact s1.newT hp ho rs
theorem lst_ok {fl : M (List D)} (hl : Most fl) (h : tE mg W (fl.bind fun xs => M.pure (R.fresh xs)) σ H Q) : tLst (tL mg W fl) σ H Q := by
  obtain ⟨A, G, μ, ρ, S, s, h⟩ := Tr.iff.mp h
  refine Tr.seqE s h fun xs ρ1 S1 vs H1 e s1 pm rs h1 => ?_
  have rs : RepL mg H1 (Av A μ σ ρ1) vs xs := rs
  refine ⟨by rw [rs.length]; exact hl _ _ _ _ _ e, fun p hp => h1 _ _ (s1.same (same_up hp)) pm ?_⟩
  exact s1.newF hp rs

/-! ### slices -/
/-- t[lo:hi] of a tuple -/
def rSlZ (K : PySem.W.Frag) : V → Option Int → Option Int → Hp → VK → Prop := fun x lo hi H Q => ∃ a xs, x = .ref a ∧ SqT K H a xs ∧
  (HT.sIx xs.length 0 lo = 0 ∧ HT.sIx xs.length xs.length hi = xs.length → Q (.ref a) H) ∧ (¬ (HT.sIx xs.length 0 lo = 0 ∧ HT.sIx xs.length xs.length hi = xs.length) → ∀ (p : Addr) (ob : Obj), H p = none → ob.dict = none → Q (.ref p) (upd H p (.frz ob (.tup (cutV xs lo hi)))))
theorem sl_tupZ {X : Cx} : L2.SlR X (rSlZ X.K) := by
  intro pins s σ H x v vl vu lo hi sl Q I rx hs pl pu ⟨a, xs, ex, hx, q1, q2⟩
  subst ex
  obtain rfl : v = .ref a := rx
  obtain ⟨its, r, ht, hz⟩ := I.tuple hx
  have hn : its.toArray.size = xs.length := by rw [List.size_toArray]; exact r.length.symm
  refine ⟨"tuple", _, PyProof.Rows.slot_tuple_getitem.lookup, ht.typeIs, ?_⟩
  by_cases hw : HT.sIx xs.length 0 lo = 0 ∧ HT.sIx xs.length xs.length hi = xs.length
  · exact getItem_tuple_whole ht hs pl pu (by rw [hn]; exact hw) ⟨.ref a, H, I, rfl, q1 hw⟩
  · refine HT.getItem_tuple_cut ht hs pl pu (by rw [hn]; exact hw) ?_ (by rw [hn]; exact hz)
    rw [hn]
    exact ⟨.ref s.heap.objs.size, _, laidT (tk := s.toks) I ((r.drop _).take _) (Nat.le_trans (cutV_length xs lo hi) hz), rfl, q2 hw _ _ (I.hok.fresh (Nat.le_refl _)) rfl⟩
theorem sl_D {X : Cx} : L2.SlR X (fun x lo hi H Q => rSlZ X.K x lo hi H Q ∨ rSlL X.K x lo hi H Q) := L2.SlR.or sl_tupZ sl_list
/-- tuple(x) -/
theorem call_tupZ {X : Cx} : CallR X (.type "tuple") (fun xs H Q => ∃ p ys, xs = [.ref p] ∧ ((SqL X.K H p ys ∧ ∀ (l : Addr) (ob : Obj), H l = none → ob.dict = none → Q (.ref l) (upd H l (.frz ob (.tup ys)))) ∨ (SqT X.K H p ys ∧ Q (.ref p) H))) := by
  intro pins s σ H xs us Q I r ⟨p, ys, ex, h⟩
  subst ex
  obtain ⟨u, rfl, ru⟩ := r.one
  obtain rfl : u = .ref p := ru
  rcases h with ⟨hs, q⟩ | ⟨hs, q⟩
  · obtain ⟨its, rv, pl, hz⟩ := I.list hs
    refine call_tuple_list pl.isList (fun h' hk => ?_) (by rw [List.size_toArray, ← rv.length]; exact hz)
    have J : Inv X pins σ H { s with heap := h' } := I.kept (t' := s.toks) hk
    exact ⟨.ref h'.objs.size, _, laidT (tk := s.toks) J rv hz, rfl, q _ _ (J.hok.fresh (Nat.le_refl _)) rfl⟩
  · obtain ⟨its, rv, pl, hz⟩ := I.tuple hs
    exact call_tuple_same pl ⟨.ref p, H, I, rfl, q⟩
theorem part_ok {fe : M R} {Q : Option Int → Hp → Prop} (h : tO mg W (fe.bind fun x => (peek x).bind fun u => M.ofO (optI u)) σ H Q) : tE mg W fe σ H fun x H1 => ∃ i, x = .int i ∧ Q (some i) H1 := by
  obtain ⟨A, G, μ, ρ, S, s, h⟩ := Tr.iff.mp h
  refine Tr.seq2 s PM.refl h fun a ρ1 S1 v H1 s1 _ pm _ ra h1 => ?_
  rcases peek_ok s1 ra.rr with ⟨d, e, l⟩ | e
  · simp only [M.bind, e] at h1
    cases d with
    | int i => exact ⟨i, l.int_inv, h1 _ H1 s1 pm rfl⟩
    | _ => exact h1.elim
  · simp only [M.bind, e] at h1; exact h1.elim
theorem nopart_ok {Q : Option Int → Hp → Prop} (h : tO mg W (M.pure none) σ H Q) : tNoPart σ H Q := by
  obtain ⟨A, G, μ, ρ, S, s, h⟩ := Tr.iff.mp h
  exact h none H s PM.refl rfl
theorem sIx_eq (n d : Nat) (o : Option Int) : HT.sIx n d o = cutIx n d o := by
  cases o <;> rfl
def rSlD (K : PySem.W.Frag) : V → Option Int → Option Int → Hp → VK → Prop := fun x lo hi H Q => rSlZ K x lo hi H Q ∨ rSlL K x lo hi H Q
theorem cut_rep {Av : Addr → Prop} {vs : List V} {xs : List D} (r : RepL mg H Av vs xs) (lo hi : Option Int) : RepL mg H Av (cutV vs lo hi) (cut xs lo hi) := by
  unfold cutV cut
  rw [sIx_eq, sIx_eq, r.length]
  exact (r.drop _).take _
theorem cut_all {xs : List D} {lo hi : Option Int} (h1 : HT.sIx xs.length 0 lo = 0) (h2 : HT.sIx xs.length xs.length hi = xs.length) : cut xs lo hi = xs := by
  unfold cut
  rw [← sIx_eq, ← sIx_eq, h1, h2]
  simp
theorem slc_ok {fa : M R} {fl fh : M (Option Int)} (h : tE mg W (fa.bind fun x => fl.bind fun l => fh.bind fun hh => (peek x).bind fun u => M.ofO (slcD u l hh)) σ H Q) : tSl (rSlD mg.K) (tE mg W fa) (tO mg W fl) (tO mg W fh) σ H Q := by
  obtain ⟨A, G, μ, ρ, S, s, h⟩ := Tr.iff.mp h
  refine Tr.seq2 s PM.refl h fun a ρ1 S1 v H1 s1 _ pm _ ra h1 => ?_
  refine Tr.seq2 s1 pm h1 fun l ρ2 S2 lo H2 s2 s2' pm2 pm02 rl h2 => ?_
  refine Tr.seq2 s2 pm02 h2 fun hh ρ3 S3 hi H3 s3 s3' pm3 pm03 rh h3 => ?_
  obtain rfl : lo = l := rl
  obtain rfl : hi = hh := rh
  have ra3 := (ra.rr.step s2' pm2).step s3' pm3
  rcases peek_ok s3 ra3 with ⟨d, e, lk⟩ | e
  · simp only [M.bind, e] at h3
    cases d with
    | tup xs =>
      obtain ⟨p, vs, rfl, e1, r, n⟩ := lk.tup_inv
      refine .inl ⟨p, vs, rfl, e1.sq, fun ⟨w1, w2⟩ => ?_, fun _ q ob hq ho => ?_⟩
      · rw [r.length] at w1 w2
        refine h3 _ H3 s3 pm03 ?_
        rw [cut_all w1 w2]
        exact .tup e1 n r
      · exact h3 _ _ (s3.same (same_up hq)) pm03 (s3.newT hq ho (cut_rep r lo hi))
    | lst xs =>
      obtain ⟨p, vs, rfl, e1, r⟩ := lk.lst_inv
      refine .inr ⟨p, vs, rfl, SqL.of e1, fun q hq => ?_⟩
      exact h3 _ _ (s3.same (same_up hq)) pm03 (s3.newF hq (cut_rep r lo hi))
    | _ => exact h3.elim
  · simp only [M.bind, e] at h3; exact h3.elim
/-- the script's first items -/
theorem scut_ok {i : Nat} {n : Int} (hn : 0 ≤ n) (h : tE mg W (scutM i n) σ H Q) : tSl (rSlD mg.K) (tVar i) tNoPart (tPart (tC (.int n))) σ H Q := by
  obtain ⟨A, G, μ, ρ, S, s, h⟩ := Tr.iff.mp h
  cases e : ρ[i]? with
  | none => simp only [scutM, e] at h; exact h.elim
  | some t =>
    have hi : i < σ.length := by rw [s.len]; exact (List.getElem?_eq_some_iff.mp e).1
    have e2 : σ[i]? = some σ[i] := List.getElem?_eq_getElem hi
    have q := s.slot i t _ e e2
    cases t with
    | scr ns =>
      simp only [scutM, e] at h
      obtain ⟨a, e1, r⟩ := q
      refine ⟨.ref a, by rw [e2, e1], n, rfl, .inr ⟨a, ns.map V.int, rfl, r.sq, fun p hp => ?_⟩⟩
      refine h _ _ (s.same (same_up hp)) PM.refl ?_
      have rr : RepL mg H (Av A μ σ ρ) (cutV (ns.map V.int) none (some n)) ((ns.take n.toNat).map D.int) := by
        have e3 : cutV (ns.map V.int) none (some n) = (ns.take n.toNat).map V.int := by
          unfold cutV
          simp only [sIx_eq, cutIx]
          rw [if_neg (by omega), List.length_map]
          simp only [List.drop_zero, Nat.sub_zero, List.map_take]
          by_cases hh : n.toNat ≤ ns.length
          · rw [Nat.min_eq_left hh]
          · rw [Nat.min_eq_right (by omega), List.take_of_length_le (by simp), List.take_of_length_le (by simp; omega)]
        rw [e3]
        generalize ns.take n.toNat = l
        induction l with
        | nil => exact .nil
        | cons x l ih => exact .cons (.int x) ih
      exact s.newF hp rr
    | none => simp only [scutM, e] at h; exact h.elim
    | obj c fs => simp only [scutM, e] at h; exact h.elim
    | d x => simp only [scutM, e] at h; exact h.elim
    | own xs => simp only [scutM, e] at h; exact h.elim
    | loc l => simp only [scutM, e] at h; exact h.elim
    | lam g => simp only [scutM, e] at h; exact h.elim
/-! ### one-place forms -/
theorem d_neg : Op1 mg negR (rU fun i => .int (-i)) := by
  intro H Av x u res Q hA hx hf q hv
  cases u with
  | int i => cases hf; exact ⟨i, hx.int_inv, q _ H (Same.refl H) (.int _)⟩
  | _ => cases hf
theorem d_rev : Op1 mg revD (fun x H1 Q => ∃ a xs, x = .ref a ∧ SqL mg.K H1 a xs ∧ ∀ p, H1 p = none → Q (.ref p) (upd H1 p (.lst xs.reverse))) := by
  intro H Av x u res Q hA hx hf q hv
  cases u with
  | lst xs =>
    cases hf
    obtain ⟨p, vs, rfl, e, r⟩ := hx.lst_inv
    exact ⟨p, vs, rfl, SqL.of e, fun l hl => q _ _ (same_up hl) (new_fresh hA hl r.reverse)⟩
  | _ => cases hf
def rFld (K : PySem.W.Frag) (f : Str) : V → Hp → VK → Prop := fun x H1 Q => ∃ a C dx fs v, x = .ref a ∧ H1 a = some (.ins C dx fs) ∧ Cls K C ∧ NoAttr K C f ∧ fs.lookup f = some v ∧ Q v H1
theorem d_attr {f : Str} : Op1 mg (fun u => (attrD u f).map .d) (rFld mg.K f) := by
  intro H Av x u res Q hA hx hf q hv
  cases u with
  | ins c fs =>
    have hf : (if f ∈ fldNames then fs.lookup f else none).map R.d = some res := hf
    by_cases hm : f ∈ fldNames
    · rw [if_pos hm] at hf
      cases e : fs.lookup f with
      | none => rw [e] at hf; cases hf
      | some d =>
        rw [e] at hf
        cases hf
        cases hx with
        | of hx =>
          cases hx with
          | ins h1 h2 h3 h4 =>
            obtain ⟨v, e1, r⟩ := h4.lookup e
            exact ⟨_, _, _, _, v, rfl, h1, h3.2.cl, h3.2.na f hm, e1, q _ H (Same.refl H) r⟩
    · rw [if_neg hm] at hf; cases hf
  | _ => cases hf
/-! ### built-in functions -/
abbrev rC (r : List V → Hp → VK → Prop) : V → Hp → VK → Prop := fun x H Q => r [x] H Q
def rLenD (K : PySem.W.Frag) : List V → Hp → VK → Prop := fun xs H Q => (∃ p ys, xs = [.ref p] ∧ (SqL K H p ys ∨ SqT K H p ys) ∧ Q (.int ys.length) H) ∨ ∃ z, xs = [.str z] ∧ z.length ≤ sizeLine ∧ Q (.int z.length) H
theorem d_len : Op1 mg (b1 .len) (rC (rLenD mg.K)) := by
  intro H Av x u res Q hA hx hf q hv
  cases u with
  | tup xs =>
    cases hf
    obtain ⟨p, vs, rfl, e, r, _⟩ := hx.tup_inv
    exact .inl ⟨p, vs, rfl, .inr e.sq, by rw [r.length]; exact q _ H (Same.refl H) (.int _)⟩
  | lst xs =>
    cases hf
    obtain ⟨p, vs, rfl, e, r⟩ := hx.lst_inv
    exact .inl ⟨p, vs, rfl, .inl (SqL.of e), by rw [r.length]; exact q _ H (Same.refl H) (.int _)⟩
  | str z =>
    have hf : (if szOk z.length then some (R.d (.int z.length)) else none) = some res := hf
    by_cases hz : szOk z.length = true
    · rw [if_pos hz] at hf; cases hf
      exact .inr ⟨z, by rw [hx.str_inv], by simpa [szOk] using hz, q _ H (Same.refl H) (.int _)⟩
    · rw [if_neg hz] at hf; cases hf
  | _ => cases hf
theorem d_int : Op1 mg (b1 .int) (rC fun xs H Q => (∃ i, xs = [.int i] ∧ Q (.int i) H) ∨ ∃ k, xs = [.bl k] ∧ Q (.int (if k then 1 else 0)) H) := by
  intro H Av x u res Q hA hx hf q hv
  cases u with
  | int i => cases hf; exact .inl ⟨i, by rw [hx.int_inv], q _ H (Same.refl H) (.int _)⟩
  | bl b => cases hf; exact .inr ⟨b, by rw [hx.bl_inv], q _ H (Same.refl H) (.int _)⟩
  | _ => cases hf
theorem d_abs : Op1 mg (b1 .abs) (rC fun xs H Q => ∃ i, xs = [.int i] ∧ Q (.int (if i < 0 then -i else i)) H) := by
  intro H Av x u res Q hA hx hf q hv
  cases u with
  | int i => cases hf; exact ⟨i, by rw [hx.int_inv], q _ H (Same.refl H) (.int _)⟩
  | _ => cases hf
theorem d_tuple : Op1 mg (b1 .tuple) (rC fun xs H Q => ∃ p ys, xs = [.ref p] ∧ ((SqL mg.K H p ys ∧ ∀ (l : Addr) (ob : Obj), H l = none → ob.dict = none → Q (.ref l) (upd H l (.frz ob (.tup ys)))) ∨ (SqT mg.K H p ys ∧ Q (.ref p) H))) := by
  intro H Av x u res Q hA hx hf q hv
  cases u with
  | tup xs =>
    cases hf
    obtain ⟨p, vs, rfl, e, r, n⟩ := hx.tup_inv
    exact ⟨p, vs, rfl, .inr ⟨e.sq, q _ H (Same.refl H) (.tup e n r)⟩⟩
  | lst xs =>
    cases hf
    obtain ⟨p, vs, rfl, e, r⟩ := hx.lst_inv
    exact ⟨p, vs, rfl, .inl ⟨SqL.of e, fun l ob hl ho => q _ _ (same_up hl) (new_tup hA hl ho r)⟩⟩
  | _ => cases hf
theorem d_list : Op1 mg (b1 .list) (rC fun xs H Q => ∃ p ys, xs = [.ref p] ∧ (SqL mg.K H p ys ∨ SqT mg.K H p ys) ∧ ∀ l, H l = none → Q (.ref l) (upd H l (.lst ys))) := by
  intro H Av x u res Q hA hx hf q hv
  cases u with
  | tup xs =>
    cases hf
    obtain ⟨p, vs, rfl, e, r, n⟩ := hx.tup_inv
    exact ⟨p, vs, rfl, .inr e.sq, fun l hl => q _ _ (same_up hl) (new_fresh hA hl r)⟩
  | lst xs =>
    cases hf
    obtain ⟨p, vs, rfl, e, r⟩ := hx.lst_inv
    exact ⟨p, vs, rfl, .inl (SqL.of e), fun l hl => q _ _ (same_up hl) (new_fresh hA hl r)⟩
  | _ => cases hf
theorem d_sum : Op1 mg (b1 .sum) (rC (rSum mg.K)) := by
  intro H Av x u res Q hA hx hf q hv
  cases u with
  | lst xs =>
    simp only [b1, Option.map_eq_some_iff] at hf
    obtain ⟨ns, e1, rfl⟩ := hf
    obtain ⟨p, vs, rfl, e, r⟩ := hx.lst_inv
    exact ⟨p, ns, rfl, by rw [← r.ints e1]; exact SqL.of e, q _ H (Same.refl H) (.int _)⟩
  | _ => cases hf
theorem maxI_some : ∀ {ns : List Int} {m : Int}, maxI ns = some m → m ∈ ns ∧ ∀ y ∈ ns, y ≤ m
  | [], _, h => by cases h
  | x :: xs, m, h => by
    unfold maxI at h
    cases e : maxI xs with
    | none =>
      rw [e] at h; cases h
      have : xs = [] := by
        cases xs with
        | nil => rfl
        | cons a b => unfold maxI at e; split at e <;> cases e
      subst this
      simp
    | some k =>
      rw [e] at h
      obtain ⟨h1, h2⟩ := maxI_some e
      have h : some (if k ≤ x then x else k) = some m := h
      cases h
      by_cases hk : k ≤ x
      · rw [if_pos hk]
        refine ⟨List.mem_cons_self, fun y hy => ?_⟩
        rcases List.mem_cons.mp hy with rfl | hy
        · omega
        · have := h2 y hy; omega
      · rw [if_neg hk]
        refine ⟨List.mem_cons_of_mem _ h1, fun y hy => ?_⟩
        rcases List.mem_cons.mp hy with rfl | hy
        · omega
        · exact h2 y hy
theorem minI_some : ∀ {ns : List Int} {m : Int}, minI ns = some m → m ∈ ns ∧ ∀ y ∈ ns, m ≤ y
  | [], _, h => by cases h
  | x :: xs, m, h => by
    unfold minI at h
    cases e : minI xs with
    | none =>
      rw [e] at h; cases h
      have : xs = [] := by
        cases xs with
        | nil => rfl
        | cons a b => unfold minI at e; split at e <;> cases e
      subst this
      simp
    | some k =>
      rw [e] at h
      obtain ⟨h1, h2⟩ := minI_some e
      have h : some (if x ≤ k then x else k) = some m := h
      cases h
      by_cases hk : x ≤ k
      · rw [if_pos hk]
        refine ⟨List.mem_cons_self, fun y hy => ?_⟩
        rcases List.mem_cons.mp hy with rfl | hy
        · omega
        · have := h2 y hy; omega
      · rw [if_neg hk]
        refine ⟨List.mem_cons_of_mem _ h1, fun y hy => ?_⟩
        rcases List.mem_cons.mp hy with rfl | hy
        · omega
        · exact h2 y hy
theorem d_max : Op1 mg (b1 .max) (rC (rMax mg.K)) := by
  intro H Av x u res Q hA hx hf q hv
  cases u with
  | lst xs =>
    simp only [b1, Option.map_eq_some_iff, Option.bind_eq_some_iff] at hf
    obtain ⟨m, ⟨ns, e1, e2⟩, rfl⟩ := hf
    obtain ⟨p, vs, rfl, e, r⟩ := hx.lst_inv
    obtain ⟨h1, h2⟩ := maxI_some e2
    refine ⟨p, ns, rfl, by rw [← r.ints e1]; exact SqL.of e, List.length_pos_of_mem h1, fun k hk hy => ?_⟩
    obtain rfl : k = m := Int.le_antisymm (h2 k hk) (hy m h1)
    exact q _ H (Same.refl H) (.int _)
  | _ => cases hf
theorem d_min : Op1 mg (b1 .min) (rC (rMin mg.K)) := by
  intro H Av x u res Q hA hx hf q hv
  cases u with
  | lst xs =>
    simp only [b1, Option.map_eq_some_iff, Option.bind_eq_some_iff] at hf
    obtain ⟨m, ⟨ns, e1, e2⟩, rfl⟩ := hf
    obtain ⟨p, vs, rfl, e, r⟩ := hx.lst_inv
    obtain ⟨h1, h2⟩ := minI_some e2
    refine ⟨p, ns, rfl, by rw [← r.ints e1]; exact SqL.of e, List.length_pos_of_mem h1, fun k hk hy => ?_⟩
    obtain rfl : k = m := Int.le_antisymm (hy m h1) (h2 k hk)
    exact q _ H (Same.refl H) (.int _)
  | _ => cases hf
theorem d_any : Op1 mg (b1 .any) (rC (rAny mg.K)) := by
  intro H Av x u res Q hA hx hf q hv
  cases u with
  | lst xs =>
    simp only [b1, Option.map_eq_some_iff] at hf
    obtain ⟨ns, e1, rfl⟩ := hf
    obtain ⟨p, vs, rfl, e, r⟩ := hx.lst_inv
    exact ⟨p, ns, rfl, by rw [← r.bools e1]; exact SqL.of e, q _ H (Same.refl H) (.bl _)⟩
  | _ => cases hf
theorem d_all : Op1 mg (b1 .all) (rC (rAll mg.K)) := by
  intro H Av x u res Q hA hx hf q hv
  cases u with
  | lst xs =>
    simp only [b1, Option.map_eq_some_iff] at hf
    obtain ⟨ns, e1, rfl⟩ := hf
    obtain ⟨p, vs, rfl, e, r⟩ := hx.lst_inv
    exact ⟨p, ns, rfl, by rw [← r.bools e1]; exact SqL.of e, q _ H (Same.refl H) (.bl _)⟩
  | _ => cases hf
theorem d_max2 : Op2 mg (b2 .max) (fun x y H Q => ∃ i j, [x, y] = [V.int i, V.int j] ∧ Q (.int (if j > i then j else i)) H) := by
  intro H Av x y u v res Q hA hx hy hf q hv
  cases u with
  | int i => cases v with
    | int j => cases hf; exact ⟨i, j, by rw [hx.int_inv, hy.int_inv], q _ H (Same.refl H) (.int _)⟩
    | _ => cases hf
  | _ => cases v <;> cases hf
theorem d_min2 : Op2 mg (b2 .min) (fun x y H Q => ∃ i j, [x, y] = [V.int i, V.int j] ∧ Q (.int (if j < i then j else i)) H) := by
  intro H Av x y u v res Q hA hx hy hf q hv
  cases u with
  | int i => cases v with
    | int j => cases hf; exact ⟨i, j, by rw [hx.int_inv, hy.int_inv], q _ H (Same.refl H) (.int _)⟩
    | _ => cases hf
  | _ => cases v <;> cases hf
/-! ### isinstance -/
theorem kit_all : ∀ a ∈ ["NoneType", "bool", "int", "str", "tuple", "list"], ∀ b ∈ tyNames, kitB a b = some (subTy a b) := by decide +kernel
theorem tyOf_mem {d : D} {a : String} (h : tyOf d = some a) : a ∈ ["NoneType", "bool", "int", "str", "tuple", "list"] ∧ a ∈ tyNames := by
  cases d <;> cases h <;> exact ⟨by decide, by decide⟩
theorem tyOf_sub {d : D} {a n : String} (h : tyOf d = some a) : isTy d n = subTy a n := by
  unfold isTy
  rw [h]
theorem tyOf_is {Av : Addr → Prop} {d : D} {a : String} {x : V} (h : tyOf d = some a) (l : Lk1 mg H Av x d) : TyX mg.K H x (.type a) := by
  cases d with
  | non => cases h; rw [l.non_inv]; exact .base .non
  | bl b => cases h; rw [l.bl_inv]; exact .base (.bl _)
  | int i => cases h; rw [l.int_inv]; exact .base (.int _)
  | str z => cases h; rw [l.str_inv]; exact .base (.str _)
  | tup xs => cases h; obtain ⟨p, vs, rfl, ⟨ob, e, _⟩, _, _⟩ := l.tup_inv; exact .fTuple e
  | lst xs => cases h; obtain ⟨p, vs, rfl, e, _⟩ := l.lst_inv; exact .base (.lst e)
  | ins _ _ => cases h
  | fn _ => cases h
theorem ins_is {Av : Addr → Prop} {c : Str} {fs : List (Str × D)} {x : V} (l : Lk1 mg H Av x (.ins c fs)) : ∃ C, ClsAt mg c C ∧ TyX mg.K H x (.ref C) := by
  cases l with
  | of l =>
    cases l with
    | ins h1 h2 h3 h4 =>
      obtain ⟨h3, k⟩ := h3
      exact ⟨_, ⟨h3, k⟩, .base (.ins h1 k.cl k.ha k.hn k.ht k.hm)⟩
theorem d_isiT {n : String} (hn : n ∈ tyNames) : Op1 mg (fun u => blR (isi u (.ty n))) (fun x H Q => rIsi mg.K [x, .ty n] H Q) := by
  intro H Av x u res Q hA hx hf q hv
  have hf : blR (isi u (.ty n)) = some res := hf
  cases h : tyOf u with
  | some a =>
    have e : isi u (.ty n) = some (isTy u n) := by
      cases u <;> cases h <;> exact if_pos hn
    rw [e] at hf
    cases hf
    refine ⟨x, .ty n, .type a, .type n, _, rfl, .ty n, tyOf_is h hx, kit_ty (kit_all a (tyOf_mem h).1 n hn), ?_⟩
    rw [← tyOf_sub h]
    exact q _ H (Same.refl H) (.bl _)
  | none =>
    cases u with
    | ins c fs =>
      have e : isi (.ins c fs) (.ty n) = some false := if_pos hn
      rw [e] at hf
      cases hf
      obtain ⟨C, k, t⟩ := ins_is hx
      exact ⟨x, .ty n, .ref C, .type n, false, rfl, .ty n, t, k.2.it n hn, q _ H (Same.refl H) (.bl _)⟩
    | fn z => cases hf
    | _ => cases h
theorem d_isiC {c : Str} {C : Addr} (hc : ClsAt mg c C) : Op1 mg (fun u => blR (isi u (.cls c))) (fun x H Q => rIsi mg.K [x, .ref C] H Q) := by
  intro H Av x u res Q hA hx hf q hv
  have hf : blR (isi u (.cls c)) = some res := hf
  cases h : tyOf u with
  | some a =>
    have e : isi u (.cls c) = some false := by cases u <;> cases h <;> rfl
    rw [e] at hf
    cases hf
    exact ⟨x, .ref C, .type a, .ref C, false, rfl, .own C, tyOf_is h hx, hc.2.ti a (tyOf_mem h).2, q _ H (Same.refl H) (.bl _)⟩
  | none =>
    cases u with
    | ins c' fs =>
      have hf : blR (if c' = c then some true else none) = some res := hf
      by_cases z : c' = c
      · rw [if_pos z] at hf
        cases hf
        subst z
        obtain ⟨C', k, t⟩ := ins_is hx
        have e1 := hc.1
        rw [k.1] at e1
        cases e1
        exact ⟨x, .ref C, .ref C, .ref C, true, rfl, .own C, t, by unfold PySem.W.kitOne; rw [if_pos (by simp)], q _ H (Same.refl H) (.bl _)⟩
      · rw [if_neg z] at hf; cases hf
    | fn z => cases hf
    | _ => cases h
end
end DL
end

section
/-! The data layer, part 11: a list that stands in a slot, or in the store, is written. -/
namespace DL
open PySem PySem.Spec PyProof.Rows L2
section
variable {mg : Gm} {A : Addr → Prop} {G : Hp} {μ : List Addr} {σ : L2.St} {H : Hp} {ρ : List Sl} {S : Store}
theorem pv_own {i : Nat} {xs ys : List D} (h : ρ[i]? = some (.own xs)) (a : Addr) : Pv σ (ρ.set i (.own ys)) a ↔ Pv σ ρ a := by
  constructor
  · rintro ⟨j, t, h1, h2, h3⟩
    by_cases hj : j = i
    · subst hj; exact ⟨j, _, h, rfl, h3⟩
    · rw [List.getElem?_set_ne (Ne.symm hj)] at h1; exact ⟨j, t, h1, h2, h3⟩
  · rintro ⟨j, t, h1, h2, h3⟩
    by_cases hj : j = i
    · subst hj; exact ⟨j, .own ys, get_set_self h, rfl, h3⟩
    · exact ⟨j, t, by rw [List.getElem?_set_ne (Ne.symm hj)]; exact h1, h2, h3⟩
theorem av_own {i : Nat} {xs ys : List D} (h : ρ[i]? = some (.own xs)) {a : Addr} : Av A μ σ (ρ.set i (.own ys)) a ↔ Av A μ σ ρ a := by
  unfold Av; rw [pv_own h]
theorem SR.mutOwn {i : Nat} {xs ys : List D} {p : Addr} {vs : List V} (s : SR mg A G μ σ H ρ S) (h : ρ[i]? = some (.own xs)) (e : σ[i]? = some (some (.ref p))) (r : RepL mg H (Av A μ σ ρ) vs ys) :
    SR mg A G μ σ (upd H p (.lst vs)) (ρ.set i (.own ys)) S ∧ PM σ ρ (ρ.set i (.own ys)) ∧ (∀ a o, H a = some o → ¬ Av A μ σ ρ a → upd H p (.lst vs) a = some o) := by
  have hp : Pv σ ρ p := ⟨i, _, h, rfl, e⟩
  have hpp := s.priv p hp
  have kr : ∀ a o, H a = some o → ¬ Av A μ σ ρ a → upd H p (.lst vs) a = some o := fun a o e1 n => by
    rw [upd_ne fun z : a = p => n (.inr (.inr (z ▸ hp)))]; exact e1
  have mr : ∀ a o, H a = some o → Av A μ σ (ρ.set i (.own ys)) a → Av A μ σ ρ a := fun a o _ z => (av_own h).mp z
  refine ⟨⟨by rw [List.length_set]; exact s.len, fun j t e1 h1 h2 => ?_, fun j k t u a h1 h2 h3 h4 h5 h6 => ?_, fun a z => s.priv a ((pv_own h a).mp z), s.sl, fun l a zs h1 h2 => ?_, s.nd, fun a z => ⟨(s.av a z).1, ?_⟩, fun a o e1 => ?_⟩, fun a z => (pv_own h a).mp z, kr⟩
  · by_cases hj : j = i
    · subst hj
      rw [get_set_self h] at h1; cases h1
      rw [e] at h2; cases h2
      exact ⟨p, vs, rfl, upd_same, r.keep kr mr⟩
    · rw [List.getElem?_set_ne (Ne.symm hj)] at h1
      have q := s.slot j t e1 h1 h2
      have ne : ∀ b, e1 = some (.ref b) → isPriv t = true → b ≠ p := fun b eb hb z => by
        subst z
        rw [eb] at h2
        exact hj (s.inj j i t (.own xs) b h1 h hb rfl h2 e)
      cases t with
      | none => trivial
      | d x => obtain ⟨v, e2, q⟩ := q; exact ⟨v, e2, q.keep kr mr⟩
      | own zs => obtain ⟨b, ws, e2, q, q2⟩ := q; exact ⟨b, ws, e2, by rw [upd_ne (ne b e2 rfl)]; exact q, q2.keep kr mr⟩
      | loc l => exact q
      | lam g => obtain ⟨f, _, z⟩ := q; exact z.elim
      | scr ns => obtain ⟨a, e2, q⟩ := q; exact ⟨a, e2, q.keep kr mr⟩
      | obj c fs => obtain ⟨b, C, dx, vfs, e2, q, q2, q3⟩ := q; exact ⟨b, C, dx, vfs, e2, by rw [upd_ne (ne b e2 rfl)]; exact q, q2, q3.keep kr mr⟩
  · have go : ∀ j t, (ρ.set i (.own ys))[j]? = some t → isPriv t = true → ∃ t', ρ[j]? = some t' ∧ isPriv t' = true := fun j t h1 h2 => by
      by_cases hj : j = i
      · subst hj; exact ⟨_, h, rfl⟩
      · rw [List.getElem?_set_ne (Ne.symm hj)] at h1; exact ⟨t, h1, h2⟩
    obtain ⟨t', g1, g2⟩ := go j t h1 h3
    obtain ⟨u', g3, g4⟩ := go k u h2 h4
    exact s.inj j k t' u' a g1 g3 g2 g4 h5 h6
  · obtain ⟨ws, q1, q2⟩ := s.st l a zs h1 h2
    have hm : a ∈ μ := List.mem_of_getElem? h1
    exact ⟨ws, by rw [upd_ne fun z : a = p => hpp.2 (z ▸ hm)]; exact q1, q2.keep kr mr⟩
  · by_cases z2 : a = p
    · subst z2; exact ⟨_, upd_same⟩
    · rw [upd_ne z2]; exact (s.av a z).2
  · obtain ⟨g1, g2, g3⟩ := s.gd a o e1
    refine ⟨?_, g2, fun z => g3 ((pv_own h a).mp z)⟩
    rw [upd_ne fun z : a = p => g3 (z ▸ hp)]; exact g1
theorem SR.mutLoc {l : Nat} {a : Addr} {ys : List D} {vs : List V} (s : SR mg A G μ σ H ρ S) (h : μ[l]? = some a) (r : RepL mg H (Av A μ σ ρ) vs ys) :
    SR mg A G μ σ (upd H a (.lst vs)) ρ (S.set l ys) ∧ (∀ b o, H b = some o → ¬ Av A μ σ ρ b → upd H a (.lst vs) b = some o) := by
  have hm : a ∈ μ := List.mem_of_getElem? h
  have kr : ∀ b o, H b = some o → ¬ Av A μ σ ρ b → upd H a (.lst vs) b = some o := fun b o e1 n => by
    rw [upd_ne fun z : b = a => n (.inr (.inl (z ▸ hm)))]; exact e1
  have mr : ∀ b o, H b = some o → Av A μ σ ρ b → Av A μ σ ρ b := fun _ _ _ z => z
  refine ⟨⟨s.len, fun j t e1 h1 h2 => ?_, s.inj, s.priv, by rw [List.length_set]; exact s.sl, fun k b zs h1 h2 => ?_, s.nd, fun b z => ⟨(s.av b z).1, ?_⟩, fun b o e1 => ?_⟩, kr⟩
  · have q := s.slot j t e1 h1 h2
    have ne : ∀ b, e1 = some (.ref b) → isPriv t = true → b ≠ a := fun b eb hb z => by
      subst z
      rw [eb] at h2
      exact (s.priv b ⟨j, t, h1, hb, h2⟩).2 hm
    cases t with
    | none => trivial
    | d x => obtain ⟨v, e2, q⟩ := q; exact ⟨v, e2, q.keep kr mr⟩
    | own zs => obtain ⟨b, ws, e2, q, q2⟩ := q; exact ⟨b, ws, e2, by rw [upd_ne (ne b e2 rfl)]; exact q, q2.keep kr mr⟩
    | loc l => exact q
    | lam g => obtain ⟨f, _, z⟩ := q; exact z.elim
    | scr ns => obtain ⟨a, e2, q⟩ := q; exact ⟨a, e2, q.keep kr mr⟩
    | obj c fs => obtain ⟨b, C, dx, vfs, e2, q, q2, q3⟩ := q; exact ⟨b, C, dx, vfs, e2, by rw [upd_ne (ne b e2 rfl)]; exact q, q2, q3.keep kr mr⟩
  · by_cases hk : k = l
    · subst hk
      rw [h] at h1; cases h1
      have hl : k < S.length := by rw [s.sl]; exact (List.getElem?_eq_some_iff.mp h).1
      rw [List.getElem?_set_self hl] at h2; cases h2
      exact ⟨vs, upd_same, r.keep kr mr⟩
    · rw [List.getElem?_set_ne (Ne.symm hk)] at h2
      obtain ⟨ws, q1, q2⟩ := s.st k b zs h1 h2
      have ne : b ≠ a := fun z => by
        subst z
        exact hk (by
          obtain ⟨g1, g2⟩ := List.getElem?_eq_some_iff.mp h
          obtain ⟨g3, g4⟩ := List.getElem?_eq_some_iff.mp h1
          exact (List.getElem_inj s.nd).mp (g4.trans g2.symm))
      exact ⟨ws, by rw [upd_ne ne]; exact q1, q2.keep kr mr⟩
  · by_cases z2 : b = a
    · subst z2; exact ⟨_, upd_same⟩
    · rw [upd_ne z2]; exact (s.av b z).2
  · obtain ⟨g1, g2, g3⟩ := s.gd b o e1
    refine ⟨?_, g2, g3⟩
    rw [upd_ne fun z : b = a => g2 (z ▸ hm)]; exact g1
end

/-! ### count, index -/
section
variable {X : Cx}
def rCntD (sq : PySem.W.Frag → Hp → Addr → List V → Prop) (K : PySem.W.Frag) : V → List V → Hp → VK → Prop := fun x xs H Q => ∃ (p : Addr) (ys : List V) (y : V) (d : PyData) (ds : List PyData), x = .ref p ∧ xs = [y] ∧ sq K H p ys ∧ DpAll K H ys ds ∧ Dp K H y d ∧
  PyData.canLayAll0 ds = true ∧ SeqAt.shaped d = true ∧ Q (.int ((ds.countP fun z => PyData.eqv z d : Nat) : Int)) H
def rIdxD (sq : PySem.W.Frag → Hp → Addr → List V → Prop) (K : PySem.W.Frag) : V → List V → Hp → VK → Prop := fun x xs H Q => ∃ (p : Addr) (ys : List V) (y : V) (d : PyData) (ds : List PyData) (j : Nat) (z : PyData), x = .ref p ∧ xs = [y] ∧ sq K H p ys ∧ DpAll K H ys ds ∧ Dp K H y d ∧
  PyData.canLayAll0 ds = true ∧ SeqAt.shaped d = true ∧ ds[j]? = some z ∧ PyData.eqv z d = true ∧ (∀ (m : Nat) (z' : PyData), m < j → ds[m]? = some z' → PyData.eqv z' d = false) ∧ Q (.int (j : Nat)) H
theorem room_min {n m : Nat} {d : PyData} (hd : SeqAt.shaped d = true) (hu : n + 65 < cLine) : n + 1 + min m d.depth < cLine := by
  have h : (d.canLay0 && decide (d.depth ≤ 64)) = true := hd
  rw [Bool.and_eq_true] at h
  have h2 := of_decide_eq_true h.2
  have := Nat.min_le_right m d.depth
  omega
theorem cnt_eq {h : Heap} {its : List Value} {ds : List PyData} {d : PyData} (hm : its.map (SeqAt.readOf h) = ds) : its.countP (fun u => PyData.eqv (SeqAt.readOf h u) d) = ds.countP fun z => PyData.eqv z d := by
  rw [← hm, List.countP_map]; rfl
theorem mt_cntL (hu : X.A.units + 65 < cLine) : MtR X "list.count" (rCntD SqL X.K) := by
  intro pins s σ H x xs v us Q I rx rxs h
  obtain ⟨p, ys, y, d, ds, rfl, rfl, hs, ha, hy, sl, sd, q⟩ := h
  cases rx
  obtain ⟨uy, rfl, ry⟩ := rxs.one
  obtain ⟨bs, r1⟩ := Dp.reads I d y uy hy ry
  obtain ⟨its, rv, ⟨⟨cls, dd, data, sls⟩, n, ho, hc, hdn, hdt⟩, hlen⟩ := I.list hs
  simp only at hc hdt
  subst hc hdt
  obtain ⟨as, h4⟩ := Dp.readsAll I ds _ its ha rv
  have hmap : its.map (SeqAt.readOf s.heap) = ds := SeqAt.readsAll_map ds its as sl h4
  refine call_meets PySem.F.slot_list_count ⟨_, ho, rfl⟩ PySem.F.entry_list_count (PySem.F.args_list_count_2 _ _)
    (SeqAt.list_countAt p its.toArray n dd sls uy fun u => PyData.eqv (SeqAt.readOf s.heap u) d) ⟨ho, SeqAt.items_eqAt (vs := its.toArray) (show ReadsAll s.heap its.toArray.toList ds as from h4) r1 sl (SeqAt.canLay_of_shaped sd) (room_min sd hu), ?_⟩
  exact ⟨.int ((ds.countP fun z => PyData.eqv z d : Nat) : Int), H, I.tok _, ⟨s.toks, by rw [← cnt_eq (d := d) hmap]⟩, q⟩
theorem mt_cntT (hu : X.A.units + 65 < cLine) : MtR X "tuple.count" (rCntD SqT X.K) := by
  intro pins s σ H x xs v us Q I rx rxs h
  obtain ⟨p, ys, y, d, ds, rfl, rfl, hs, ha, hy, sl, sd, q⟩ := h
  cases rx
  obtain ⟨uy, rfl, ry⟩ := rxs.one
  obtain ⟨bs, r1⟩ := Dp.reads I d y uy hy ry
  obtain ⟨its, rv, ⟨⟨cls, dd, data, sls⟩, ho, hc, n, hdt⟩, hlen⟩ := I.tuple hs
  simp only at hc hdt
  subst hc hdt
  obtain ⟨as, h4⟩ := Dp.readsAll I ds _ its ha rv
  have hmap : its.map (SeqAt.readOf s.heap) = ds := SeqAt.readsAll_map ds its as sl h4
  refine call_meets PySem.F.slot_tuple_count ⟨_, ho, rfl⟩ PySem.F.entry_tuple_count (PySem.F.args_tuple_count_2 _ _)
    (SeqAt.tuple_countAt p its.toArray n dd sls uy fun u => PyData.eqv (SeqAt.readOf s.heap u) d) ⟨ho, SeqAt.items_eqAt (vs := its.toArray) (show ReadsAll s.heap its.toArray.toList ds as from h4) r1 sl (SeqAt.canLay_of_shaped sd) (room_min sd hu), ?_⟩
  exact ⟨.int ((ds.countP fun z => PyData.eqv z d : Nat) : Int), H, I.tok _, ⟨s.toks, by rw [← cnt_eq (d := d) hmap]⟩, q⟩
theorem hits {h : Heap} {its : List Value} {ds : List PyData} (hmap : its.map (SeqAt.readOf h) = ds) (m : Nat) (hm : m < its.toArray.size) : ∃ z, ds[m]? = some z ∧ SeqAt.readOf h its.toArray[m] = z := by
  have hml : m < its.length := by simpa using hm
  refine ⟨SeqAt.readOf h its[m], ?_, by simp⟩
  rw [← hmap, List.getElem?_map, List.getElem?_eq_getElem hml]
  rfl
theorem mt_idxL (hu : X.A.units + 65 < cLine) : MtR X "list.index" (rIdxD SqL X.K) := by
  intro pins s σ H x xs v us Q I rx rxs h
  obtain ⟨p, ys, y, d, ds, j, z, rfl, rfl, hs, ha, hy, sl, sd, hz, hzj, hno, q⟩ := h
  cases rx
  obtain ⟨uy, rfl, ry⟩ := rxs.one
  obtain ⟨bs, r1⟩ := Dp.reads I d y uy hy ry
  obtain ⟨its, rv, ⟨⟨cls, dd, data, sls⟩, n, ho, hc, hdn, hdt⟩, hlen⟩ := I.list hs
  simp only at hc hdt
  subst hc hdt
  obtain ⟨as, h4⟩ := Dp.readsAll I ds _ its ha rv
  have hmap : its.map (SeqAt.readOf s.heap) = ds := SeqAt.readsAll_map ds its as sl h4
  have hl : its.length = ds.length := by rw [← hmap, List.length_map]
  have hj : j < its.toArray.size := by
    rw [List.size_toArray, hl]; exact (List.getElem?_eq_some_iff.mp hz).1
  have hsl := sizeLine_eq
  have hvl := rv.length
  refine call_meets PySem.F.slot_list_index ⟨_, ho, rfl⟩ PySem.F.entry_list_index (PySem.F.args_list_index_2 _ _)
    (SeqAt.list_indexAt p its.toArray n dd sls uy (fun u => PyData.eqv (SeqAt.readOf s.heap u) d) j hj (by have := hj; rw [List.size_toArray] at this; omega) ?_ ?_) ⟨ho, SeqAt.items_eqAt (vs := its.toArray) (show ReadsAll s.heap its.toArray.toList ds as from h4) r1 sl (SeqAt.canLay_of_shaped sd) (room_min sd hu), ?_⟩
  · obtain ⟨z2, g1, g2⟩ := hits hmap j hj
    rw [hz] at g1; cases g1
    show PyData.eqv (SeqAt.readOf s.heap its.toArray[j]) d = true
    rw [g2]; exact hzj
  · intro m hm hmj
    obtain ⟨z2, g1, g2⟩ := hits hmap m hm
    show PyData.eqv (SeqAt.readOf s.heap its.toArray[m]) d = false
    rw [g2]; exact hno m _ hmj g1
  · exact ⟨.int (j : Nat), H, I.tok _, ⟨_, rfl⟩, q⟩
theorem mt_idxT (hu : X.A.units + 65 < cLine) : MtR X "tuple.index" (rIdxD SqT X.K) := by
  intro pins s σ H x xs v us Q I rx rxs h
  obtain ⟨p, ys, y, d, ds, j, z, rfl, rfl, hs, ha, hy, sl, sd, hz, hzj, hno, q⟩ := h
  cases rx
  obtain ⟨uy, rfl, ry⟩ := rxs.one
  obtain ⟨bs, r1⟩ := Dp.reads I d y uy hy ry
  obtain ⟨its, rv, ⟨⟨cls, dd, data, sls⟩, ho, hc, n, hdt⟩, hlen⟩ := I.tuple hs
  simp only at hc hdt
  subst hc hdt
  obtain ⟨as, h4⟩ := Dp.readsAll I ds _ its ha rv
  have hmap : its.map (SeqAt.readOf s.heap) = ds := SeqAt.readsAll_map ds its as sl h4
  have hl : its.length = ds.length := by rw [← hmap, List.length_map]
  have hj : j < its.toArray.size := by
    rw [List.size_toArray, hl]; exact (List.getElem?_eq_some_iff.mp hz).1
  refine call_meets PySem.F.slot_tuple_index ⟨_, ho, rfl⟩ PySem.F.entry_tuple_index (PySem.F.args_tuple_index_2 _ _)
    (TI.tuple_indexAt p its.toArray n dd sls uy (fun u => PyData.eqv (SeqAt.readOf s.heap u) d) j hj ?_ ?_) ⟨ho, SeqAt.items_eqAt (vs := its.toArray) (show ReadsAll s.heap its.toArray.toList ds as from h4) r1 sl (SeqAt.canLay_of_shaped sd) (room_min sd hu), ?_⟩
  · obtain ⟨z2, g1, g2⟩ := hits hmap j hj
    rw [hz] at g1; cases g1
    show PyData.eqv (SeqAt.readOf s.heap its.toArray[j]) d = true
    rw [g2]; exact hzj
  · intro m hm hmj
    obtain ⟨z2, g1, g2⟩ := hits hmap m hm
    show PyData.eqv (SeqAt.readOf s.heap its.toArray[m]) d = false
    rw [g2]; exact hno m _ hmj g1
  · exact ⟨.int (j : Nat), H, I.tok _, ⟨_, rfl⟩, q⟩
end
end DL
end

section
/-! The data layer, part 12: methods of lists and tuples. -/
namespace DL
open PySem PySem.Spec PyProof.Rows L2
section
variable {X : Cx}
/-- o.m(e, ..), o a list or a tuple -/
def tupM : Mt → Bool
  | .count => true
  | .index => true
  | _ => false
def tBMD (K : PySem.W.Frag) (tb : Bool) (rL rT : V → List V → Hp → VK → Prop) (to : TE) (t : TA) : TE := fun σ H Q => to σ H fun x H1 => ∃ p, x = .ref p ∧ ((∃ xs, SqL K H1 p xs ∧ t σ H1 fun ys H2 => rL x ys H2 Q) ∨ (tb = true ∧ ∃ xs, TupAt H1 p xs ∧ t σ H1 fun ys H2 => rT x ys H2 Q))
variable {o e : Expr} {es : List Expr} {to : TE} {t : TA} {nm : Str} {apos cpos : Pos} {idL : String} {tb : Bool} {rL rT : V → List V → Hp → VK → Prop}
theorem pe_bmD (slL : Slot "list" nm idL) (tyL : typeOf (.builtin idL) = pure (.type "method_descriptor")) (hL : MtR X idL rL) (hT : tb = true → ∃ idT, Slot "tuple" nm idT ∧ typeOf (.builtin idT) = pure (.type "method_descriptor") ∧ MtR X idT rT) (ho : PE X o to) (ha : PA X (e :: es) t)
    (hbase : attributeBase o nm X.env (eval o X.env) = eval o X.env)
    (hfew : ((backTo cpos (starEach (e :: es) X.env)).all (fun x => !x.1) && (backToKw cpos (keywordEach [] X.env)).all (fun x => x.1.isSome) && decide ((e :: es).length + ([] : List Keyword).length + (if ([] : List Keyword).isEmpty then 0 else 1) < 30)) = true)
    (hline : (apos.endLine == cpos.line) = true) (hs : starEach (e :: es) X.env = (false, eval e X.env) :: starEach es X.env) (hpl : (backTo cpos (starEach es X.env)).any (·.1) = false) :
    PE X (.Call (.Attribute o nm apos) (e :: es) [] cpos) (tBMD X.K tb rL rT to t) := by
  refine ⟨fun pins s σ H Q I h => wpAny_Call_method_late hbase hfew hline rfl (thn (ho.run pins s σ H _ I h) fun v s1 ⟨x, H1, I1, r1, p, ex, q1⟩ => ?_)⟩
  have go : ∀ {id : String} {r : V → List V → Hp → VK → Prop}, MtR X id r → (t σ H1 fun ys H2 => r x ys H2 Q) → wpAny (model X.prog X.w) X.A (callWith cpos (.builtin id) [v] (backTo cpos (starEach (e :: es) X.env)) []) (EP X pins σ Q) X.xe s1 := fun {id r} hm q => by
    have hA := ha.run cpos pins s1 σ H1 _ I1 q
    rw [hs] at hA ⊢
    refine Calls.callWith_builtin (show (false || (backTo cpos (starEach es X.env)).any (·.1)) = false by rw [hpl]; rfl) (Calls.evalArgs_plain (thn hA fun us s2 ⟨vs, H2, I2, r2, q2⟩ => ?_))
    exact hm pins s2 σ H2 x vs v us Q I2 r1 r2 q2
  subst ex
  obtain rfl : v = .ref p := r1
  rcases q1 with ⟨xs, hq, q⟩ | ⟨htb, xs, ⟨ob, hq, hd⟩, q⟩
  · obtain ⟨t1, t2⟩ := tyV_is (T := "list") (x := .ref p) I1 rfl (.inl ⟨rfl, xs, hq⟩)
    exact ⟨"list", idL, PySem.F.plainAttrs_list, slL, tyL, t1, t2, go hL q⟩
  · obtain ⟨g1, _, _, _, o2, g2, g3, _⟩ := I1.hok p _ hq
    rw [g1] at g2; cases g2
    obtain ⟨idT, slT, tyT, hT⟩ := hT htb
    exact ⟨"tuple", idT, PySem.F.plainAttrs_tuple, slT, tyT, ⟨ob, g1, g3⟩, fun a ea => by cases ea; exact ⟨ob, g1, hd⟩, go hT q⟩
theorem pe_bmD0 (slL : Slot "list" nm idL) (tyL : typeOf (.builtin idL) = pure (.type "method_descriptor")) (hL : MtR X idL rL) (hT : tb = true → ∃ idT, Slot "tuple" nm idT ∧ typeOf (.builtin idT) = pure (.type "method_descriptor") ∧ MtR X idT rT) (ho : PE X o to) (ht : ∀ σ H Q, t σ H Q → Q [] H)
    (hbase : attributeBase o nm X.env (eval o X.env) = eval o X.env) (hline : (apos.endLine == cpos.line) = true) : PE X (.Call (.Attribute o nm apos) [] [] cpos) (tBMD X.K tb rL rT to t) := by
  refine ⟨fun pins s σ H Q I h => wpAny_Call_method_late hbase rfl hline rfl (thn (ho.run pins s σ H _ I h) fun v s1 ⟨x, H1, I1, r1, p, ex, q1⟩ => ?_)⟩
  have go : ∀ {id : String} {r : V → List V → Hp → VK → Prop}, MtR X id r → (t σ H1 fun ys H2 => r x ys H2 Q) → wpAny (model X.prog X.w) X.A (callWith cpos (.builtin id) [v] (backTo cpos (starEach [] X.env)) []) (EP X pins σ Q) X.xe s1 := fun {id r} hm q =>
    Calls.callWith_builtin rfl (PySem.evalArgs_none (hm pins s1 σ H1 x [] v [] Q I1 r1 .nil (ht _ _ _ q)))
  subst ex
  obtain rfl : v = .ref p := r1
  rcases q1 with ⟨xs, hq, q⟩ | ⟨htb, xs, ⟨ob, hq, hd⟩, q⟩
  · obtain ⟨t1, t2⟩ := tyV_is (T := "list") (x := .ref p) I1 rfl (.inl ⟨rfl, xs, hq⟩)
    exact ⟨"list", idL, PySem.F.plainAttrs_list, slL, tyL, t1, t2, go hL q⟩
  · obtain ⟨g1, _, _, _, o2, g2, g3, _⟩ := I1.hok p _ hq
    rw [g1] at g2; cases g2
    obtain ⟨idT, slT, tyT, hT⟩ := hT htb
    exact ⟨"tuple", idT, PySem.F.plainAttrs_tuple, slT, tyT, ⟨ob, g1, g3⟩, fun a ea => by cases ea; exact ⟨ob, g1, hd⟩, go hT q⟩
end

section
variable {mg : Gm} {H : Hp} {Av : Addr → Prop}
def rMt (K : PySem.W.Frag) : Mt → V → List V → Hp → VK → Prop
  | .append => rAppend
  | .extend => rExtend
  | .pop => rPop
  | .pop0 => rPopAt
  | .count => rCntD SqL K
  | .index => rIdxD SqL K
def rMtT (K : PySem.W.Frag) : Mt → V → List V → Hp → VK → Prop
  | .count => rCntD SqT K
  | .index => rIdxD SqT K
  | _ => fun _ _ _ _ => False
theorem shD_some {x : D} {d : PyData} (h : shD x = some d) : x.py = some d ∧ SeqAt.shaped d = true := by
  unfold shD at h
  split at h
  · rename_i d' e
    by_cases z : SeqAt.shaped d' = true
    · rw [if_pos z] at h; cases h; exact ⟨e, z⟩
    · rw [if_neg z] at h; cases h
  · cases h
theorem pysS_some {xs : List D} {ds : List PyData} (h : pysS xs = some ds) : D.pyAll xs = some ds ∧ PyData.canLayAll0 ds = true := by
  unfold pysS at h
  split at h
  · rename_i d' e
    by_cases z : PyData.canLayAll0 d' = true
    · rw [if_pos z] at h; cases h; exact ⟨e, z⟩
    · rw [if_neg z] at h; cases h
  · cases h
/-- count and index, of a list or a tuple -/
theorem cnt_r {sq : PySem.W.Frag → Hp → Addr → List V → Prop} {Q : VK} {p : Addr} {vs us : List V} {xs ys : List D} (hs : sq mg.K H p vs) (r : RepL mg H Av vs xs) (ru : RepL mg H Av us ys) :
    (∀ {d}, mtD .count xs ys = some d → (∀ z, Rep mg H Av z d → Q z H) → rCntD sq mg.K (.ref p) us H Q) ∧ (∀ {d}, mtD .index xs ys = some d → (∀ z, Rep mg H Av z d → Q z H) → rIdxD sq mg.K (.ref p) us H Q) := by
  constructor
  · intro d h q
    cases ru with
    | nil => cases h
    | cons r1 rt =>
      rename_i v us y ys
      cases rt with
      | cons _ _ => cases h
      | nil =>
        have h : (cntD y xs).map (fun n => D.int n) = some d := h
        unfold cntD at h
        split at h
        · rename_i pd pds e1 e2
          obtain ⟨a1, a2⟩ := shD_some e1
          obtain ⟨b1, b2⟩ := pysS_some e2
          cases h
          exact ⟨p, vs, v, pd, pds, rfl, rfl, hs, r.dp b1, r1.dp a1, b2, a2, q _ (.int _)⟩
        · cases h
  · intro d h q
    cases ru with
    | nil => cases h
    | cons r1 rt =>
      rename_i v us y ys
      cases rt with
      | cons _ _ => cases h
      | nil =>
        have h : (idxD y xs).map (fun n => D.int n) = some d := h
        unfold idxD at h
        split at h
        · rename_i pd pds e1 e2
          obtain ⟨a1, a2⟩ := shD_some e1
          obtain ⟨b1, b2⟩ := pysS_some e2
          by_cases hz : (pds.any fun z => PyData.eqv z pd) = true
          · rw [if_pos hz] at h
            cases h
            have hlt : pds.findIdx (fun z => PyData.eqv z pd) < pds.length := List.findIdx_lt_length.mpr (by simpa using hz)
            refine ⟨p, vs, v, pd, pds, pds.findIdx (fun z => PyData.eqv z pd), pds[pds.findIdx (fun z => PyData.eqv z pd)], rfl, rfl, hs, r.dp b1, r1.dp a1, b2, a2, List.getElem?_eq_getElem hlt, List.findIdx_getElem (p := fun z => PyData.eqv z pd) (w := hlt), fun m z hm e => ?_, q _ (.int _)⟩
            have := List.not_of_lt_findIdx hm
            obtain ⟨g1, g2⟩ := List.getElem?_eq_some_iff.mp e
            rw [← g2]
            simpa using this
          · rw [if_neg hz] at h; cases h
        · cases h
theorem upd_id {H : Hp} {p : Addr} {o : HO} (h : H p = some o) : upd H p o = H := funext fun a => by
  by_cases z : a = p
  · rw [z, upd_same, h]
  · rw [upd_ne z]
/-- a method of a list that may be written -/
theorem own_r {m : Mt} {Q : VK} {p : Addr} {vs us : List V} {xs ys zs : List D} {d : D} (hs : H p = some (.lst vs)) (r : RepL mg H Av vs xs) (ru : RepL mg H Av us ys) (h : mtOwn m xs ys = some (d, zs))
    (q : ∀ z vs', RepL mg H Av vs' zs → Rep mg H Av z d → Q z (upd H p (.lst vs'))) : rMt mg.K m (.ref p) us H Q := by
  have hl := r.length
  cases m with
  | append =>
    cases ru with
    | nil => cases h
    | cons r1 rt =>
      rename_i v us y ys
      cases rt with
      | cons _ _ => cases h
      | nil =>
        have h : (if decide (xs.length < sizeLine) then some (D.non, xs ++ [y]) else none) = some (d, zs) := h
        by_cases hz : xs.length < sizeLine
        · rw [if_pos (decide_eq_true hz)] at h
          cases h
          exact ⟨p, vs, v, rfl, rfl, hs, by omega, q _ _ (r.append (.cons r1 .nil)) .non⟩
        · rw [if_neg (by simpa using hz)] at h; cases h
  | extend =>
    cases ru with
    | nil => cases h
    | cons r1 rt =>
      rename_i v us y ys
      cases rt with
      | cons _ _ => cases y <;> cases h
      | nil =>
        cases r1 with
        | lst g1 g2 g3 =>
          rename_i b ws es
          have h : (if szOk (xs.length + es.length) then some (D.non, xs ++ es) else none) = some (d, zs) := h
          by_cases hz : szOk (xs.length + es.length) = true
          · rw [if_pos hz] at h
            cases h
            have hz : xs.length + es.length ≤ sizeLine := of_decide_eq_true hz
            have := g3.length
            exact ⟨p, b, vs, ws, rfl, rfl, hs, g1, by omega, q _ _ (r.append g3) .non⟩
          · rw [if_neg hz] at h; cases h
        | _ => cases h
  | pop =>
    cases ru with
    | cons _ _ => cases h
    | nil =>
      have h : (xs[xs.length - 1]?).map (fun y => (y, xs.dropLast)) = some (d, zs) := h
      cases e : xs[xs.length - 1]? with
      | none => rw [e] at h; cases h
      | some y =>
        rw [e] at h; cases h
        obtain ⟨v, g1, g2⟩ := r.get e
        exact ⟨p, vs, v, rfl, rfl, hs, by rw [hl]; exact g1, q _ _ r.dropLast g2⟩
  | pop0 =>
    cases ru with
    | nil => cases h
    | cons r1 rt =>
      rename_i v us y ys
      cases r1 with
      | int i =>
        cases rt with
        | cons _ _ =>
          unfold mtOwn at h
          split at h <;> rename_i e <;> first | (cases e; done) | cases h
          all_goals simp_all
        | nil =>
          by_cases hi : i = 0
          · subst hi
            have h : (xs[0]?).map (fun y => (y, xs.eraseIdx 0)) = some (d, zs) := h
            cases e : xs[0]? with
            | none => rw [e] at h; cases h
            | some y =>
              rw [e] at h; cases h
              obtain ⟨v, g1, g2⟩ := r.get e
              have hn : 0 < vs.length := (List.getElem?_eq_some_iff.mp g1).1
              refine ⟨p, vs, 0, 0, v, rfl, rfl, hs, by decide, by decide, ?_, g1, q _ _ ?_ g2⟩
              · exact seqIndex_of (Int.le_refl 0) (by omega)
              · cases r with
                | nil => exact .nil
                | cons _ t => exact t
          · unfold mtOwn at h
            split at h <;> first | cases h | skip
            all_goals simp_all
      | _ => cases h
  | count =>
    have h : ∃ d', mtD .count xs ys = some d' ∧ d' = d ∧ zs = xs := by
      cases ys with
      | nil => cases h
      | cons y ys => cases ys with
        | cons _ _ => cases h
        | nil =>
          have h : (cntD y xs).map (fun n => (D.int n, xs)) = some (d, zs) := h
          cases e : cntD y xs with
          | none => rw [e] at h; cases h
          | some n => rw [e] at h; cases h; exact ⟨.int n, by simp only [mtD, e]; rfl, rfl, rfl⟩
    obtain ⟨d', h1, rfl, rfl⟩ := h
    exact (cnt_r (SqL.of hs) r ru).1 h1 fun z rz => by have := q z vs r rz; rwa [upd_id hs] at this
  | index =>
    have h : ∃ d', mtD .index xs ys = some d' ∧ d' = d ∧ zs = xs := by
      cases ys with
      | nil => cases h
      | cons y ys => cases ys with
        | cons _ _ => cases h
        | nil =>
          have h : (idxD y xs).map (fun n => (D.int n, xs)) = some (d, zs) := h
          cases e : idxD y xs with
          | none => rw [e] at h; cases h
          | some n => rw [e] at h; cases h; exact ⟨.int n, by simp only [mtD, e]; rfl, rfl, rfl⟩
    obtain ⟨d', h1, rfl, rfl⟩ := h
    exact (cnt_r (SqL.of hs) r ru).2 h1 fun z rz => by have := q z vs r rz; rwa [upd_id hs] at this
theorem lst_r {m : Mt} {Q : VK} {p : Addr} {vs us : List V} {xs ys : List D} {d : D} (hs : H p = some (.lst vs)) (r : RepL mg H Av vs xs) (ru : RepL mg H Av us ys) (h : mtD m xs ys = some d) (q : ∀ z, Rep mg H Av z d → Q z H) : rMt mg.K m (.ref p) us H Q := by
  cases m with
  | count => exact (cnt_r (SqL.of hs) r ru).1 h q
  | index => exact (cnt_r (SqL.of hs) r ru).2 h q
  | _ => cases h
theorem tup_r {m : Mt} {Q : VK} {p : Addr} {vs us : List V} {xs ys : List D} {d : D} (hs : TupAt H p vs) (r : RepL mg H Av vs xs) (ru : RepL mg H Av us ys) (h : mtD m xs ys = some d) (q : ∀ z, Rep mg H Av z d → Q z H) : rMtT mg.K m (.ref p) us H Q := by
  cases m with
  | count => exact (cnt_r hs.sq r ru).1 h q
  | index => exact (cnt_r hs.sq r ru).2 h q
  | _ => cases h
end
section
variable {mg : Gm} {W : WX} {σ : L2.St} {H : Hp} {Q : VK}
theorem meth_ok {m : Mt} {fo : M R} {fl : M (List D)} (h : tE mg W (fo.bind fun x => (kindR m x).bind fun k => fl.bind fun ys => doMeth m x k ys) σ H Q) : tBMD mg.K (tupM m) (rMt mg.K m) (rMtT mg.K m) (tE mg W fo) (tL mg W fl) σ H Q := by
  obtain ⟨A, G, μ, ρ, S, s, h⟩ := Tr.iff.mp h
  refine Tr.seq2 s PM.refl h fun o ρ1 S1 v H1 s1 _ pm _ ro h1 => ?_
  unfold kindR at h1
  rcases peek_ok s1 ro.rr with ⟨d, e, lk⟩ | e
  · simp only [M.bind, e] at h1
    cases hk : kindOf m d with
    | none => simp only [M.ofO, hk] at h1; exact h1.elim
    | some k =>
      simp only [M.ofO, hk] at h1
      cases k with
      | true =>
        have hd : ∃ xs, d = .lst xs := by
          cases d with
          | lst xs => exact ⟨xs, rfl⟩
          | tup xs => cases m <;> cases hk
          | _ => cases m <;> cases hk
        obtain ⟨xs, rfl⟩ := hd
        obtain ⟨p, vs, rfl, e1, r1⟩ := lk.lst_inv
        refine ⟨p, rfl, .inl ⟨vs, SqL.of e1, Tr.seq2 s1 pm h1 fun ys ρ2 S2 us H2 s2 s2' pm2 pm02 rs h2 => ?_⟩⟩
        have ro2 := ro.rr.step s2' pm2
        have rs : RepL mg H2 (Av A μ σ ρ2) us ys := rs
        have h2 : End mg W (rE mg) A G μ σ ρ Q (doMethL m o ys ρ2 S2) := h2
        -- what only looks
        have look : ∀ {d : D} {r' : Option D}, Lk1 mg H2 (Av A μ σ ρ2) (.ref p) d → ((lstOf d).bind fun xs => mtD m xs ys) = r' → End mg W (rE mg) A G μ σ ρ Q (match r' with | some x => Out.ok (R.d x) ρ2 S2 | none => Out.stuck) → rMt mg.K m (.ref p) us H2 Q := by
          intro d r' l e h
          cases d with
          | lst zs =>
            obtain ⟨p', ws, e2, g1, g2⟩ := l.lst_inv
            cases e2
            cases r' with
            | none => exact h.elim
            | some x => exact lst_r g1 g2 rs e fun z rz => h z H2 s2 pm02 rz
          | _ => subst e; exact h.elim
        cases o with
        | own i =>
          have ro2 : σ[i]? = some (some (V.ref p)) := ro2
          cases e2 : ρ2[i]? with
          | none => simp only [doMethL, e2] at h2; exact h2.elim
          | some t =>
            have q := s2.slot i t _ e2 ro2
            cases t with
            | own zs =>
              simp only [doMethL, e2] at h2
              obtain ⟨p', ws, g0, g1, g2⟩ := q
              cases g0
              cases e3 : mtOwn m zs ys with
              | none => simp only [e3] at h2; exact h2.elim
              | some pr =>
                obtain ⟨x, zs'⟩ := pr
                simp only [e3] at h2
                refine own_r g1 g2 rs e3 fun z vs' rv rz => ?_
                obtain ⟨s3, pm3, k3⟩ := s2.mutOwn e2 ro2 rv
                refine h2 z _ s3 (pm02.trans pm3) (rz.keep k3 fun a o _ z => (av_own e2).mp z)
            | d x =>
              simp only [doMethL, e2] at h2
              obtain ⟨v', g0, g1⟩ := q
              cases g0
              exact look (.of g1) rfl h2
            | _ => simp only [doMethL, e2] at h2; exact h2.elim
        | loc l =>
          obtain ⟨a, ea, hl⟩ := ro2
          cases ea
          cases e2 : S2[l]? with
          | none => simp only [doMethL, e2] at h2; exact h2.elim
          | some zs =>
            simp only [doMethL, e2] at h2
            obtain ⟨ws, g1, g2⟩ := s2.st l p zs hl e2
            cases e3 : mtOwn m zs ys with
            | none => simp only [e3] at h2; exact h2.elim
            | some pr =>
              obtain ⟨x, zs'⟩ := pr
              simp only [e3] at h2
              refine own_r g1 g2 rs e3 fun z vs' rv rz => ?_
              obtain ⟨s3, k3⟩ := s2.mutLoc hl rv
              exact h2 z _ s3 pm02 (rz.keep k3 fun a o _ z => z)
        | d x =>
          have ro2 : Rep mg H2 (Av A μ σ ρ2) (.ref p) x := ro2
          refine look (.of ro2) rfl ?_
          simp only [doMethL, M.bind, peek, M.ofO] at h2
          cases e3 : (lstOf x).bind fun xs => mtD m xs ys with
          | none =>
            cases e4 : lstOf x with
            | none => simp only [e4, Option.bind_none] at h2; exact h2
            | some xs' =>
              simp only [e4, Option.bind_some] at h2 e3
              simp only [e3, Option.map_none] at h2
              exact h2
          | some y =>
            cases e4 : lstOf x with
            | none => simp only [e4, Option.bind_none] at e3; cases e3
            | some xs' =>
              simp only [e4, Option.bind_some] at h2 e3
              simp only [e3, Option.map_some] at h2
              exact h2
        | fresh zs =>
          obtain ⟨p', ws, g0, g1, g2, g3⟩ := ro2
          cases g0
          refine look (d := .lst zs) (.lst g1 g2.wk) rfl ?_
          simp only [doMethL, M.bind, peek, M.ofO, lstOf, Option.bind_some] at h2 ⊢
          cases e3 : mtD m zs ys with
          | none => simp only [e3, Option.map_none] at h2; exact h2
          | some y => simp only [e3, Option.map_some] at h2; exact h2
        | lam g => obtain ⟨f, _, z⟩ := ro2; exact z.elim
        | scr ns => simp only [doMethL, M.bind, peek] at h2; exact h2.elim
      | false =>
        have hd : ∃ xs, d = .tup xs := by
          cases d with
          | tup xs => exact ⟨xs, rfl⟩
          | lst xs => cases m <;> cases hk
          | _ => cases m <;> cases hk
        obtain ⟨xs, rfl⟩ := hd
        obtain ⟨p, vs, rfl, e1, r1, n1⟩ := lk.tup_inv
        refine ⟨p, rfl, .inr ⟨(by cases m <;> first | rfl | cases hk), vs, e1, Tr.seq2 s1 pm h1 fun ys ρ2 S2 us H2 s2 s2' pm2 pm02 rs h2 => ?_⟩⟩
        have ro2 := ro.rr.step s2' pm2
        have rs : RepL mg H2 (Av A μ σ ρ2) us ys := rs
        have h2 : End mg W (rE mg) A G μ σ ρ Q (doMethT m o ys ρ2 S2) := h2
        unfold doMethT at h2
        rcases peek_ok s2 ro2 with ⟨d2, e2, lk2⟩ | e2
        · simp only [M.bind, e2] at h2
          cases d2 with
          | tup zs =>
            obtain ⟨p', ws, g0, g1, g2, _⟩ := lk2.tup_inv
            cases g0
            simp only [tupOf, Option.bind_some] at h2
            cases e3 : mtD m zs ys with
            | none => simp only [e3, Option.map_none, M.ofO] at h2; exact h2.elim
            | some y =>
              simp only [e3, Option.map_some, M.ofO] at h2
              exact tup_r g1 g2 rs e3 fun z rz => h2 z H2 s2 pm02 rz
          | _ => simp only [tupOf, Option.bind_none, M.ofO] at h2; exact h2.elim
        · simp only [M.bind, e2] at h2; exact h2.elim
  · simp only [M.bind, e] at h1; exact h1.elim
end
end DL
end

section
/-! The data layer, part 16: a slot gets a value. -/
namespace DL
open PySem PySem.Spec PyProof.Rows L2
section
variable {mg : Gm} {A : Addr → Prop} {G : Hp} {μ : List Addr} {σ : L2.St} {H : Hp} {ρ : List Sl} {S : Store}
theorem SlR.mono {Av Av' : Addr → Prop} {μ' : List Addr} (m : ∀ a o, H a = some o → Av' a → Av a) (hm : ∀ (l : Nat) (a : Addr), μ[l]? = some a → μ'[l]? = some a) {e : Option V} {t : Sl} (h : SlR mg H Av μ e t) : SlR mg H Av' μ' e t := by
  have k : ∀ a o, H a = some o → ¬ Av a → H a = some o := fun _ _ e _ => e
  cases t with
  | none => trivial
  | d x => obtain ⟨v, e1, r⟩ := h; exact ⟨v, e1, r.keep k m⟩
  | own xs => obtain ⟨p, vs, e1, h, r⟩ := h; exact ⟨p, vs, e1, h, r.keep k m⟩
  | loc l => obtain ⟨a, e1, h⟩ := h; exact ⟨a, e1, hm _ _ h⟩
  | lam g => obtain ⟨f, e1, r⟩ := h; exact r.elim
  | scr ns => obtain ⟨a, e1, r⟩ := h; exact ⟨a, e1, r.keep k m⟩
  | obj cc fs => obtain ⟨p, C, dx, vfs, e1, h, hc, r⟩ := h; exact ⟨p, C, dx, vfs, e1, h, hc, r.keep k m⟩
/-- a word that is nobody's alone -/
theorem SR.put0 {i : Nat} {v : V} {t : Sl} (s : SR mg A G μ σ H ρ S) (hi : i < ρ.length) (ht : isPriv t = false) (q : SlR mg H (Av A μ σ ρ) μ (some v) t) : SR mg A G μ (σ.set i (some v)) H (ρ.set i t) S := by
  have pv : ∀ a, Pv (σ.set i (some v)) (ρ.set i t) a → Pv σ ρ a := fun a z => by
    obtain ⟨j, u, h0, h1, h2, h3⟩ := pv_set' ht z
    exact ⟨j, u, h1, h2, h3⟩
  have m : ∀ a o, H a = some o → Av A μ (σ.set i (some v)) (ρ.set i t) a → Av A μ σ ρ a := fun a o _ z => by
    rcases z with z | z | z
    · exact .inl z
    · exact .inr (.inl z)
    · exact .inr (.inr (pv a z))
  have hs : i < σ.length := by rw [s.len]; exact hi
  refine ⟨by rw [List.length_set, List.length_set]; exact s.len, fun j u e h1 h2 => ?_, fun j k u w a h1 h2 h3 h4 h5 h6 => ?_, fun a z => s.priv a (pv a z), s.sl, fun l a xs h1 h2 => ?_, s.nd, s.av, fun a o e => let ⟨h1, h2, h3⟩ := s.gd a o e; ⟨h1, h2, fun z => h3 (pv a z)⟩⟩
  · by_cases hj : j = i
    · subst hj
      rw [List.getElem?_set_self hi] at h1; cases h1
      rw [List.getElem?_set_self hs] at h2; cases h2
      exact q.mono m fun _ _ z => z
    · rw [List.getElem?_set_ne (Ne.symm hj)] at h1 h2
      exact (s.slot j u e h1 h2).mono m fun _ _ z => z
  · have go : ∀ j u, (ρ.set i t)[j]? = some u → isPriv u = true → j ≠ i := fun j u h1 h2 z => by
      subst z
      rw [List.getElem?_set_self hi] at h1; cases h1
      rw [ht] at h2; cases h2
    have n1 := go j u h1 h3
    have n2 := go k w h2 h4
    rw [List.getElem?_set_ne (Ne.symm n1)] at h1 h5
    rw [List.getElem?_set_ne (Ne.symm n2)] at h2 h6
    exact s.inj j k u w a h1 h2 h3 h4 h5 h6
  · obtain ⟨vs, e, r⟩ := s.st l a xs h1 h2
    exact ⟨vs, e, r.keep (fun _ _ e _ => e) m⟩
/-- a new list of one's own -/
theorem SR.putOwn {i : Nat} {p : Addr} {vs : List V} {xs : List D} (s : SR mg (withD A p) G μ σ H ρ S) (hi : i < ρ.length) (hA : ¬ A p) (hG : G p = none) (e1 : H p = some (.lst vs)) (r : RepL mg H (Av (withD A p) μ σ ρ) vs xs) :
    SR mg A G μ (σ.set i (some (.ref p))) H (ρ.set i (.own xs)) S := by
  have np : ¬ Pv σ ρ p := fun z => (s.priv p z).1 (.inr rfl)
  have pv : ∀ a, Pv (σ.set i (some (.ref p))) (ρ.set i (.own xs)) a → a = p ∨ Pv σ ρ a := fun a ⟨j, u, h1, h2, h3⟩ => by
    by_cases hj : j = i
    · subst hj
      have hs : j < σ.length := by rw [s.len]; exact hi
      rw [List.getElem?_set_self hs] at h3; cases h3
      exact .inl rfl
    · rw [List.getElem?_set_ne (Ne.symm hj)] at h1 h3
      exact .inr ⟨j, u, h1, h2, h3⟩
  have m : ∀ a o, H a = some o → Av A μ (σ.set i (some (.ref p))) (ρ.set i (.own xs)) a → Av (withD A p) μ σ ρ a := fun a o _ z => by
    rcases z with z | z | z
    · exact .inl (.inl z)
    · exact .inr (.inl z)
    · rcases pv a z with z | z
      · exact .inl (.inr z)
      · exact .inr (.inr z)
  have hs : i < σ.length := by rw [s.len]; exact hi
  refine ⟨by rw [List.length_set, List.length_set]; exact s.len, fun j u e h1 h2 => ?_, fun j k u w a h1 h2 h3 h4 h5 h6 => ?_, fun a z => ?_, s.sl, fun l a ys h1 h2 => ?_, s.nd, fun a z => s.av a (.inl z), fun a o e => let ⟨h1, h2, h3⟩ := s.gd a o e; ⟨h1, h2, fun z => ?_⟩⟩
  · by_cases hj : j = i
    · subst hj
      rw [List.getElem?_set_self hi] at h1; cases h1
      rw [List.getElem?_set_self hs] at h2; cases h2
      exact ⟨p, vs, rfl, e1, r.keep (fun _ _ e _ => e) m⟩
    · rw [List.getElem?_set_ne (Ne.symm hj)] at h1 h2
      exact (s.slot j u e h1 h2).mono m fun _ _ z => z
  · by_cases hj : j = i
    · by_cases hk : k = i
      · rw [hj, hk]
      · subst hj
        rw [List.getElem?_set_self hs] at h5; cases h5
        rw [List.getElem?_set_ne (Ne.symm hk)] at h2 h6
        exact absurd ⟨k, w, h2, h4, h6⟩ np
    · rw [List.getElem?_set_ne (Ne.symm hj)] at h1 h5
      by_cases hk : k = i
      · subst hk
        rw [List.getElem?_set_self hs] at h6; cases h6
        exact absurd ⟨j, u, h1, h3, h5⟩ np
      · rw [List.getElem?_set_ne (Ne.symm hk)] at h2 h6
        exact s.inj j k u w a h1 h2 h3 h4 h5 h6
  · rcases pv a z with z | z
    · rw [z]; exact ⟨hA, (s.av p (.inr rfl)).1⟩
    · exact ⟨fun q => (s.priv a z).1 (.inl q), (s.priv a z).2⟩
  · obtain ⟨ws, e, r⟩ := s.st l a ys h1 h2
    exact ⟨ws, e, r.keep (fun _ _ e _ => e) m⟩
  · rcases pv a z with z | z
    · rw [z, hG] at e; cases e
    · exact h3 z
/-- a new list of the store -/
theorem SR.putLoc {i : Nat} {p : Addr} {vs : List V} {xs : List D} (s : SR mg (withD A p) G μ σ H ρ S) (hi : i < ρ.length) (hA : ¬ A p) (hG : G p = none) (e1 : H p = some (.lst vs)) (r : RepL mg H (Av (withD A p) μ σ ρ) vs xs) :
    SR mg A G (μ ++ [p]) (σ.set i (some (.ref p))) H (ρ.set i (.loc S.length)) (S ++ [xs]) := by
  have np : ¬ Pv σ ρ p := fun z => (s.priv p z).1 (.inr rfl)
  have nm : p ∉ μ := (s.av p (.inr rfl)).1
  have pv : ∀ a, Pv (σ.set i (some (.ref p))) (ρ.set i (.loc S.length)) a → Pv σ ρ a := fun a z => by
    obtain ⟨j, u, h0, h1, h2, h3⟩ := pv_set' rfl z
    exact ⟨j, u, h1, h2, h3⟩
  have m : ∀ a o, H a = some o → Av A (μ ++ [p]) (σ.set i (some (.ref p))) (ρ.set i (.loc S.length)) a → Av (withD A p) μ σ ρ a := fun a o _ z => by
    rcases z with z | z | z
    · exact .inl (.inl z)
    · rcases List.mem_append.mp z with z | z
      · exact .inr (.inl z)
      · exact .inl (.inr (List.mem_singleton.mp z))
    · exact .inr (.inr (pv a z))
  have hs : i < σ.length := by rw [s.len]; exact hi
  have old : ∀ (l : Nat) (a : Addr), μ[l]? = some a → (μ ++ [p])[l]? = some a := fun l a h => by rw [List.getElem?_append_left (List.getElem?_eq_some_iff.mp h).1]; exact h
  refine ⟨by rw [List.length_set, List.length_set]; exact s.len, fun j u e h1 h2 => ?_, fun j k u w a h1 h2 h3 h4 h5 h6 => ?_, fun a z => ⟨fun q => (s.priv a (pv a z)).1 (.inl q), fun q => ?_⟩, by rw [List.length_append, List.length_append, s.sl]; rfl, fun l a ys h1 h2 => ?_, ?_, fun a z => ⟨fun q => ?_, (s.av a (.inl z)).2⟩, fun a o e => let ⟨h1, h2, h3⟩ := s.gd a o e; ⟨h1, fun q => ?_, fun z => h3 (pv a z)⟩⟩
  · by_cases hj : j = i
    · subst hj
      rw [List.getElem?_set_self hi] at h1; cases h1
      rw [List.getElem?_set_self hs] at h2; cases h2
      exact ⟨p, rfl, by rw [s.sl, List.getElem?_append_right (Nat.le_refl _)]; simp⟩
    · rw [List.getElem?_set_ne (Ne.symm hj)] at h1 h2
      exact (s.slot j u e h1 h2).mono m old
  · have go : ∀ j u, (ρ.set i (.loc S.length))[j]? = some u → isPriv u = true → j ≠ i := fun j u h1 h2 z => by
      subst z
      rw [List.getElem?_set_self hi] at h1; cases h1
      cases h2
    have n1 := go j u h1 h3
    have n2 := go k w h2 h4
    rw [List.getElem?_set_ne (Ne.symm n1)] at h1 h5
    rw [List.getElem?_set_ne (Ne.symm n2)] at h2 h6
    exact s.inj j k u w a h1 h2 h3 h4 h5 h6
  · rcases List.mem_append.mp q with q | q
    · exact (s.priv a (pv a z)).2 q
    · rw [List.mem_singleton.mp q] at z; exact np (pv p z)
  · by_cases hl : l < μ.length
    · rw [List.getElem?_append_left hl] at h1
      rw [List.getElem?_append_left (by rw [s.sl]; exact hl)] at h2
      obtain ⟨ws, e, r⟩ := s.st l a ys h1 h2
      exact ⟨ws, e, r.keep (fun _ _ e _ => e) m⟩
    · have hl2 : l = μ.length := by
        have := (List.getElem?_eq_some_iff.mp h1).1
        rw [List.length_append, List.length_singleton] at this
        omega
      subst hl2
      rw [List.getElem?_append_right (Nat.le_refl _)] at h1
      rw [List.getElem?_append_right (by rw [s.sl]; exact Nat.le_refl _)] at h2
      have e2 : a = p := by simpa using h1.symm
      have e3 : ys = xs := by
        rw [s.sl] at h2
        simpa using h2.symm
      subst e2 e3
      exact ⟨vs, e1, r.keep (fun _ _ e _ => e) m⟩
  · rw [List.nodup_append]
    refine ⟨s.nd, by simp, fun a ha b hb => ?_⟩
    rw [List.mem_singleton.mp hb]
    exact fun z => nm (z ▸ ha)
  · rcases List.mem_append.mp q with q | q
    · exact (s.av a (.inl z)).1 q
    · rw [List.mem_singleton.mp q] at z; exact hA z
  · rcases List.mem_append.mp q with q | q
    · exact h2 q
    · rw [List.mem_singleton.mp q, hG] at e; cases e
end
end DL
end

section
/-! The data layer, part 13: what is walked; calls; repr; tuple(range(..)); t[::-1]. -/
namespace DL
open PySem PySem.Spec PyProof.Rows L2
section
variable {mg : Gm} {W : WX} {σ : L2.St} {H : Hp} {R : It → Hp → Prop} {tg : Tg}
theorem Rep.lst_inv {Av : Addr → Prop} {v : V} {xs : List D} (h : Rep mg H Av v (.lst xs)) : ∃ p vs, v = .ref p ∧ H p = some (.lst vs) ∧ RepL mg H Av vs xs ∧ ¬ Av p := by
  cases h with
  | lst h1 h2 h3 => exact ⟨_, _, rfl, h1, h3, h2⟩
theorem Rep.tup_inv {Av : Addr → Prop} {v : V} {xs : List D} (h : Rep mg H Av v (.tup xs)) : ∃ p vs, v = .ref p ∧ TupAt H p vs ∧ RepL mg H Av vs xs ∧ ¬ Av p := by
  cases h with
  | tup h1 h2 h3 => exact ⟨_, _, rfl, h1, h3, h2⟩
/-- a list or a tuple is walked -/
theorem seq_ok {fv : M _root_.DL.R} (h : tI tg mg W (fv.bind fun x => (asD x).bind fun u => M.ofO (itemsOf u)) σ H R) : iSeqD mg.K (tE mg W fv) σ H R := by
  obtain ⟨A, G, μ, ρ, S, s, h⟩ := Tr.iff.mp h
  refine Tr.seq2 s PM.refl h fun a ρ1 S1 v H1 s1 _ pm _ ra h1 => ?_
  rcases asD_ok s1 ra.rr with ⟨d, ρ2, e, s2, pm2, rd⟩ | e
  · simp only [M.bind, e] at h1
    cases d with
    | lst xs =>
      obtain ⟨p, vs, rfl, e1, r, n⟩ := rd.lst_inv
      exact ⟨p, vs, rfl, .inl ⟨SqL.of e1, fun hz => h1 _ H1 s2 (pm.trans pm2) ⟨walk_lst e1 n r, by rw [← r.length]; exact hz⟩⟩⟩
    | tup xs =>
      obtain ⟨p, vs, rfl, e1, r, n⟩ := rd.tup_inv
      exact ⟨p, vs, rfl, .inr ⟨e1.sq, fun hz => h1 _ H1 s2 (pm.trans pm2) ⟨walk_tup e1 n r, by rw [← r.length]; exact hz⟩⟩⟩
    | _ => simp only [itemsOf, M.ofO] at h1; exact h1.elim
  · simp only [M.bind, e] at h1; exact h1.elim
theorem walkM_ok {xs : List D} {A : Addr → Prop} {G : Hp} {μ : List Addr} {ρ ρ0 : List Sl} {S : Store} {J : It} (s : SR mg A G μ σ H ρ S) (pm : PM σ ρ0 ρ) (h : End mg W (rI' tg mg) A G μ σ ρ0 R (walkM xs ρ S)) (w : WalkR tg mg H (Av A μ σ ρ) J xs) : R J H := by
  unfold walkM at h
  by_cases hz : szOk xs.length = true
  · rw [if_pos hz] at h
    exact h J H s pm ⟨w, of_decide_eq_true hz⟩
  · rw [if_neg hz] at h; exact h.elim
theorem inR {i : Int} (h : inR62 i = true) : -(2 ^ 62) ≤ i ∧ i < 2 ^ 62 := of_decide_eq_true h
theorem rngOf_some {u v : D} {xs : List D} (h : rngOf u v = some xs) : ∃ i j, u = .int i ∧ v = .int j ∧ inR62 i = true ∧ inR62 j = true ∧ xs = rngL i (j - i).toNat := by
  unfold rngOf at h
  split at h
  · rename_i i j
    by_cases hz : (inR62 i && inR62 j) = true
    · rw [if_pos hz] at h
      cases h
      rw [Bool.and_eq_true] at hz
      exact ⟨i, j, rfl, rfl, hz.1, hz.2, rfl⟩
    · rw [if_neg hz] at h; cases h
  · cases h
theorem rng1_ok {fv : M _root_.DL.R} (h : tI tg mg W (fv.bind fun x => (peek x).bind fun u => (M.ofO (rngOf (.int 0) u)).bind walkM) σ H R) : iRng1 (tCons (tE mg W fv) tNil) σ H R := by
  obtain ⟨A, G, μ, ρ, S, s, h⟩ := Tr.iff.mp h
  refine Tr.seq2 s PM.refl h fun a ρ1 S1 v H1 s1 _ pm _ ra h1 => ?_
  rcases peek_ok s1 ra.rr with ⟨d, e, l⟩ | e
  · simp only [M.bind, e] at h1
    cases e2 : rngOf (.int 0) d with
    | none => simp only [M.ofO, e2] at h1; exact h1.elim
    | some xs =>
      simp only [M.ofO, e2] at h1
      obtain ⟨i, j, ei, rfl, b1, b2, rfl⟩ := rngOf_some e2
      cases ei
      obtain ⟨c1, c2⟩ := inR b2
      rw [Int.sub_zero] at h1
      exact ⟨j, by rw [l.int_inv], c1, c2, walkM_ok s1 pm h1 (walk_rng 0 _)⟩
  · simp only [M.bind, e] at h1; exact h1.elim
theorem rng2_ok {fa fb : M _root_.DL.R} (h : tI tg mg W (fa.bind fun x => fb.bind fun y => (peek x).bind fun u => (peek y).bind fun v => (M.ofO (rngOf u v)).bind walkM) σ H R) : iRng2 (tCons (tE mg W fa) (tCons (tE mg W fb) tNil)) σ H R := by
  obtain ⟨A, G, μ, ρ, S, s, h⟩ := Tr.iff.mp h
  refine Tr.seq2 s PM.refl h fun a ρ1 S1 v H1 s1 _ pm _ ra h1 => ?_
  refine Tr.seq2 s1 pm h1 fun b ρ2 S2 w H2 s2 s2' pm2 pm02 rb h2 => ?_
  rcases peek_ok s2 (ra.rr.step s2' pm2) with ⟨d, e, l⟩ | e
  · rcases peek_ok s2 rb.rr with ⟨d', e', l'⟩ | e'
    · simp only [M.bind, e, e'] at h2
      cases e2 : rngOf d d' with
      | none => simp only [M.ofO, e2] at h2; exact h2.elim
      | some xs =>
        simp only [M.ofO, e2] at h2
        obtain ⟨i, j, rfl, rfl, b1, b2, rfl⟩ := rngOf_some e2
        obtain ⟨a1, a2⟩ := inR b1
        obtain ⟨c1, c2⟩ := inR b2
        exact ⟨i, j, by rw [l.int_inv, l'.int_inv], ⟨a1, a2, c1, c2⟩, walkM_ok s2 pm02 h2 (walk_rng i _)⟩
    · simp only [M.bind, e, e'] at h2; exact h2.elim
  · simp only [M.bind, e] at h2; exact h2.elim
theorem enum_ok {is : List Nat} {fv : M _root_.DL.R} (h : tI (.many is) mg W (fv.bind fun x => (asD x).bind fun u => (M.ofO (itemsOf u)).bind fun xs => M.pure (enumL 0 xs)) σ H R) : iEnumD mg.K (tCons (tE mg W fv) tNil) σ H R := by
  obtain ⟨A, G, μ, ρ, S, s, h⟩ := Tr.iff.mp h
  refine Tr.seq2 s PM.refl h fun a ρ1 S1 v H1 s1 _ pm _ ra h1 => ?_
  rcases asD_ok s1 ra.rr with ⟨d, ρ2, e, s2, pm2, rd⟩ | e
  · simp only [M.bind, e] at h1
    cases d with
    | lst xs =>
      obtain ⟨p, vs, rfl, e1, r, n⟩ := rd.lst_inv
      exact ⟨p, vs, rfl, .inl ⟨SqL.of e1, fun hz => h1 _ H1 s2 (pm.trans pm2) ⟨walk_enum e1 n r, by rw [enumL_len, ← r.length]; exact hz⟩⟩⟩
    | tup xs =>
      obtain ⟨p, vs, rfl, e1, r, n⟩ := rd.tup_inv
      exact ⟨p, vs, rfl, .inr ⟨e1.sq, fun hz => h1 _ H1 s2 (pm.trans pm2) ⟨walk_enumT e1 n r, by rw [enumL_len, ← r.length]; exact hz⟩⟩⟩
    | _ => simp only [itemsOf, M.ofO] at h1; exact h1.elim
  · simp only [M.bind, e] at h1; exact h1.elim
theorem zip_ok {is : List Nat} {fa fb : M _root_.DL.R} (h : tI (.many is) mg W (fa.bind fun x => (asD x).bind fun u => fb.bind fun y => (asD y).bind fun v => M.ofO (zipOf u v)) σ H R) : iZipD mg.K (tCons (tE mg W fa) (tCons (tE mg W fb) tNil)) σ H R := by
  obtain ⟨A, G, μ, ρ, S, s, h⟩ := Tr.iff.mp h
  refine Tr.seq2 s PM.refl h fun a ρ1 S1 v H1 s1 _ pm _ ra h1 => ?_
  rcases asD_ok s1 ra.rr with ⟨d, ρ2, e, s2, pm2, rd⟩ | e
  · simp only [M.bind, e] at h1
    refine Tr.seq2 s2 (pm.trans pm2) h1 fun b ρ3 S3 w H3 s3 s3' pm3 pm03 rb h3 => ?_
    have rd := rd.step s3' pm3
    rcases asD_ok s3 rb.rr with ⟨d', ρ4, e', s4, pm4, rd'⟩ | e'
    · simp only [M.bind, e'] at h3
      have rd4 : Rep mg H3 (Av A μ σ ρ4) v d := rd.keep (fun _ _ e _ => e) fun a o _ z => by
        rcases z with z | z | z
        · exact .inl z
        · exact .inr (.inl z)
        · exact .inr (.inr (pm4 a z))
      cases d with
      | lst xs =>
        cases d' with
        | lst ys =>
          obtain ⟨p, vs, rfl, e1, r, n⟩ := rd4.lst_inv
          obtain ⟨p', vs', rfl, e1', r', n'⟩ := rd'.lst_inv
          refine ⟨p, p', vs, vs', rfl, .inl ⟨SqL.of e1, SqL.of e1', fun h1 h2 => h3 _ H3 s4 (pm03.trans pm4) ⟨walk_zipL e1 n r e1' n' r', ?_⟩⟩⟩
          rw [zip2L_len, ← r.length, ← r'.length]; omega
        | _ => exact h3.elim
      | tup xs =>
        cases d' with
        | tup ys =>
          obtain ⟨p, vs, rfl, e1, r, n⟩ := rd4.tup_inv
          obtain ⟨p', vs', rfl, e1', r', n'⟩ := rd'.tup_inv
          refine ⟨p, p', vs, vs', rfl, .inr ⟨e1.sq, e1'.sq, fun h1 h2 => h3 _ H3 s4 (pm03.trans pm4) ⟨walk_zipT e1 n r e1' n' r', ?_⟩⟩⟩
          rw [zip2L_len, ← r.length, ← r'.length]; omega
        | _ => exact h3.elim
      | _ => exact h3.elim
    · simp only [M.bind, e'] at h3; exact h3.elim
  · simp only [M.bind, e] at h1; exact h1.elim
end

/-! ### tuple(range(n)) -/
def tTupRgZ (te : L2.St → Hp → (Int → Int → Hp → Prop) → Prop) : TE := fun σ H Q => te σ H fun a b H1 => RgOk a b ∧ ∀ (q : Addr) (ob : Obj), H1 q = none → ob.dict = none → Q (.ref q) (upd H1 q (.frz ob (.tup (rgV a b))))
theorem pe_tupRgZ {X : Cx} {e : Expr} {te : L2.St → Hp → (Int → Int → Hp → Prop) → Prop} {p pos : Pos} (hc : X.calm = true) (hg : Gl X "tuple") (hm : X.mg "tuple" = none) (he : PRg X e te) (na : starEach [e] X.env = (false, eval e X.env) :: starEach [] X.env) :
    PE X (.Call (.Name "tuple" p) [e] [] pos) (tTupRgZ te) := ⟨fun pins s σ H Q I h => by
  refine Call_ (ld_blt I hg hm boot_tuple (PyProof.Rows.callWith_type1 (args_cons (thn (he pins s σ H _ I h) fun x s1 ⟨r, a, b, t, u, v, H1, ex, hr, I1, ⟨b1, b2, b3, b4, b5⟩, q⟩ => args_nil ?_) na) na))
  subst ex
  refine call_tuple_range (n := (b - a).toNat) (I1.ok.hd hc) hr (small_one b1 b2 b3 b4) (rangeSize_nat a b) b5 fun h' tk acc hk hi => ?_
  have J : Inv X pins σ H1 { s1 with heap := h', toks := tk } := I1.kept hk
  have K := laidT (tk := tk) J (vals_rg hi) (by rw [rgV_length, sizeLine_eq]; omega)
  rw [Array.toArray_toList] at K
  exact ⟨.ref h'.objs.size, _, K, rfl, q _ _ (J.hok.fresh (Nat.le_refl _)) rfl⟩⟩
section
variable {mg : Gm} {W : WX} {σ : L2.St} {H : Hp} {Q : VK}
theorem rgV_rep {Av : Addr → Prop} (lo : Int) (n : Nat) : RepL mg H Av ((List.range n).map fun i => V.int (lo + (i : Nat))) (rngL lo n) := by
  unfold rngL
  generalize List.range n = l
  induction l with
  | nil => exact .nil
  | cons x l ih => exact .cons (.int _) ih
theorem tupr_ok {fv : M R} (h : tE mg W (fv.bind fun x => (peek x).bind fun u => (M.ofO (rngOf (.int 0) u)).bind fun xs => (walkM xs).bind fun xs => M.pure (R.d (.tup xs))) σ H Q) : tTupRgZ (tRg1 (tE mg W fv)) σ H Q := by
  obtain ⟨A, G, μ, ρ, S, s, h⟩ := Tr.iff.mp h
  refine Tr.seq2 s PM.refl h fun a ρ1 S1 v H1 s1 _ pm _ ra h1 => ?_
  rcases peek_ok s1 ra.rr with ⟨d, e, l⟩ | e
  · simp only [M.bind, e] at h1
    cases e2 : rngOf (.int 0) d with
    | none => simp only [M.ofO, e2] at h1; exact h1.elim
    | some xs =>
      simp only [M.ofO, e2] at h1
      obtain ⟨i, j, ei, rfl, b1, b2, rfl⟩ := rngOf_some e2
      cases ei
      obtain ⟨a1, a2⟩ := inR b1
      obtain ⟨c1, c2⟩ := inR b2
      unfold walkM at h1
      by_cases hz : szOk (rngL 0 (j - 0).toNat).length = true
      · rw [if_pos hz] at h1
        have hz : (rngL 0 (j - 0).toNat).length ≤ sizeLine := of_decide_eq_true hz
        rw [rngL_len, sizeLine_eq] at hz
        refine ⟨j, l.int_inv, ⟨a1, a2, c1, c2, by omega⟩, fun q ob hq ho => h1 _ _ (s1.same (same_up hq)) pm ?_⟩
        exact s1.newT hq ho (rgV_rep 0 _)
      · rw [if_neg hz] at h1; exact h1.elim
  · simp only [M.bind, e] at h1; exact h1.elim
end

/-! ### repr -/
mutual
theorem py_nod : ∀ (d : D) (p : PyData), d.py = some p → p.hasDict = false
  | .non, p, h => by cases h; rfl
  | .bl _, p, h => by cases h; rfl
  | .int _, p, h => by cases h; rfl
  | .str _, p, h => by cases h; rfl
  | .tup xs, p, h => by
    simp only [D.py, Option.map_eq_some_iff] at h
    obtain ⟨ps, e, rfl⟩ := h
    exact py_nodL xs ps e
  | .lst xs, p, h => by
    simp only [D.py, Option.map_eq_some_iff] at h
    obtain ⟨ps, e, rfl⟩ := h
    exact py_nodL xs ps e
  | .ins _ _, p, h => by cases h
  | .fn _, p, h => by cases h
theorem py_nodL : ∀ (d : List D) (p : List PyData), D.pyAll d = some p → PyData.hasDictAll p = false
  | [], p, h => by cases h; rfl
  | x :: xs, p, h => by
    simp only [D.pyAll] at h
    cases e1 : x.py with
    | none => rw [e1] at h; cases h
    | some y =>
      cases e2 : D.pyAll xs with
      | none => rw [e1, e2] at h; cases h
      | some ys =>
        rw [e1, e2] at h
        cases h
        show (PyData.hasDict y || PyData.hasDictAll ys) = false
        rw [py_nod x y e1, py_nodL xs ys e2]; rfl
end
def rReprD (K : PySem.W.Frag) : List V → Hp → VK → Prop := fun xs H Q => ∃ x d, xs = [x] ∧ Dp K H x d ∧ d.hasDict = false ∧ d.showable = true ∧ d.shown.length ≤ sizeLine ∧ d.depth ≤ 64 ∧ Q (.str d.shown) H
theorem cr_reprD {X : Cx} (hg : X.A.guards = some []) (hu : X.A.units + 65 < cLine) : CallR X (.builtin "repr") (rReprD X.K) := by
  intro pins s σ H xs us Q I r ⟨x, d, ex, hd, h1, h2, h3, h4, q⟩
  subst ex
  obtain ⟨u, rfl, ru⟩ := r.one
  obtain ⟨as, rr⟩ := Dp.reads I d x u hd ru
  have fin : ∀ (h' : Heap) (t tk : Nat), (∀ b o, s.heap.get? b = some o → h'.get? b = some o) → EP X pins σ Q (.str d.shown t) { s with heap := h', toks := tk } := fun h' t tk hk => ⟨.str d.shown, H, I.kept hk, ⟨t, rfl⟩, q⟩
  cases rr with
  | none => exact PySem.P.repr_of_none (fin s.heap _ _ fun _ _ e => e)
  | bool b => exact PySem.P.repr_of_bool (fin s.heap _ _ fun _ _ e => e)
  | int i t => exact PySem.P.repr_of_int (of_decide_eq_true h2) (fin s.heap _ _ fun _ _ e => e)
  | str z t => exact PySem.P.repr_of_str (fin s.heap _ _ fun _ _ e => e) h3
  | list a1 a2 a3 a4 => exact repr_of_reads' (.list a1 a2 a3 a4) h2 (PyData.noDict_hsm h1) hg (by omega) (fun _ _ e => e) (fun h' t tk hk => fin h' t tk hk) h3
  | tuple a1 a2 a3 a4 => exact repr_of_reads' (.tuple a1 a2 a3 a4) h2 (PyData.noDict_hsm h1) hg (by omega) (fun _ _ e => e) (fun h' t tk hk => fin h' t tk hk) h3
  | dict a1 a2 a3 a4 a5 => cases h1
theorem d_repr {mg : Gm} : Op1 mg (b1 .repr) (rC (rReprD mg.K)) := by
  intro H Av x u res Q hA hx hf q hv
  have hf : (reprD u).map R.d = some res := by cases u <;> exact hf
  unfold reprD at hf
  cases e : u.py with
  | none => rw [e] at hf; cases hf
  | some d =>
    rw [e] at hf
    by_cases hz : (d.showable && decide (d.shown.length ≤ sizeLine) && decide (d.depth ≤ 64)) = true
    · simp only [hz, if_true] at hf
      cases hf
      simp only [Bool.and_eq_true, decide_eq_true_eq] at hz
      exact ⟨x, d, rfl, hx.dp e, py_nod u d e, hz.1.1, hz.1.2, hz.2, q _ H (Same.refl H) (.str _)⟩
    · simp only [hz] at hf; cases hf

/-! ### calls of the module's functions -/
section
variable {X : Cx} {W : WX} {k : Nat} {f : Addr} {fd : FuncData} {ps : List Str} {g : FSem} {x : Str} {p pos : Pos} {e : Expr} {es : List Expr} {fl : M (List Arg)}
/-- as many arguments as n -/
def Len (n : Nat) (fl : M (List Arg)) : Prop := ∀ ρ S xs ρ' S', fl ρ S = .ok xs ρ' S' → xs.length = n
theorem pe_callG (F : FnG X.prog X.w X.K X.mg X.base k f fd ps g) (hr : Room k X.A) (hgd : X.A.guards = some []) (hb : Binds X.K fd ps []) (tk : Takes X W) (hg : Gl X x) (hm : X.mg x = some (.ref f)) (hk : PySem.W.keepIn X.K (.ref f) = true)
    (ha : PA X (e :: es) (tA (gx X) W fl)) (hl : Len ps.length fl) (hdb : (x == ("__debug__" : Str)) = false) (he : starEach (e :: es) X.env = (false, eval e X.env) :: starEach es X.env) (hpl : (backTo pos (starEach es X.env)).any (·.1) = false) :
    PE X (.Call (.Name x p) (e :: es) [] pos) (tE (gx X) W (fl.bind fun as => doCall g as)) := ⟨fun pins s σ H Q I h => by
  refine wpAny_Call_Name_kw (ld_glob I hg hm ?_ hdb)
  have h2 : tA (gx X) W fl σ H fun vs H1 => ∃ A G μ ρ ρ0 S as, SR (gx X) A G μ σ H1 ρ S ∧ PM σ ρ0 ρ ∧ ArgL (gx X) H1 (Av A μ σ ρ) μ vs as ∧ as.length = ps.length ∧ End (gx X) W (rE (gx X)) A G μ σ ρ0 Q (doCall g as ρ S) := by
    obtain ⟨A, G, μ, ρ, S, st, h⟩ := Tr.iff.mp h
    exact Tr.seqE st h fun as ρ1 S1 vs H1 e1 s1 pm ra h1 => ⟨A, G, μ, ρ1, ρ, S1, as, s1, pm, ra, hl _ _ _ _ _ e1, h1⟩
  refine PySem.W.callWith_K (h₀ := X.base) I.ok.mod.kin hk (thn (ha.run pos pins s σ H _ I h2) fun us s1 ⟨vs, H1, I1, r, A, G, μ, ρ, ρ0, S, as, st, pm, ra, hl, h⟩ => ⟨I1.kIn, ?_⟩) he hpl
  exact run_g F hr hgd hb tk I1 r st pm ra hl h⟩
end
/-! ### objects are made -/
/-- what __init__'s end is to bring -/
def FIok (mg : Gm) (A : Addr → Prop) (G : Hp) (μ : List Addr) (x : Addr) (c : Str) (Q : VK) (E : XK) : FI → Prop
  | .ok fs S => ∀ H C dx vfs, SR mg (withD A x) G μ [] H [] S → H x = some (.ins C dx vfs) → ClsAt mg c C → RepF mg H (Av (withD A x) μ [] []) vfs fs → Q .non H
  | .err c' fs S => ∀ cls d H, SR mg A G μ [] H [] S → ExcR mg H (Av A μ [] []) c' fs cls d → E cls d H
  | .stuck => False
structure InG (P : Program) (w : World) (K : PySem.W.Frag) (mg : Str → Option Value) (base : Heap) (k : Nat) (f : Addr) (fd : FuncData) (ps : List Str) (g : CSem) : Prop where
  run : ∀ (B : Around) (outer : List Env) (s : Shared) (H : Hp) (args : Args) (us : List Value) (vs : List V) (Q : VK) (E : XK) (as : List Arg) (A : Addr → Prop) (G : Hp) (μ : List Addr) (S : Store) (x C dx : Addr),
    Room k B → B.guards = some [] → Env0 P w K mg base B outer s H → BindsTo s fd args (ps.zip (.ref x :: us)) → Vals vs us → as.length + 1 = ps.length → SR ⟨mg, K⟩ (withD A x) G μ [] H [] S → ¬ A x → G x = none → H x = some (.ins C dx []) → ClsAt ⟨mg, K⟩ g.name C →
    ArgL ⟨mg, K⟩ H (Av (withD A x) μ [] []) μ vs as → FIok ⟨mg, K⟩ A G μ x g.name Q E (g.init as S) → codeAny (model P w) B (.call (.ref f) args) (CR (CX P w) outer P w H s Q E) s
section
variable {X : Cx} {W : WX} {k : Nat} {f C : Addr} {fd : FuncData} {ps : List Str} {g : CSem} {x : Str} {p pos : Pos} {e : Expr} {es : List Expr} {fl : M (List Arg)}
theorem make_guards {B : Around} {us : List Value} (h : B.guards = some []) : (B.under (.builtin "type.__call__" ⟨.ref C :: us, []⟩)).guards = some [] := by
  have e : (Code.builtin "type.__call__" ⟨.ref C :: us, []⟩).isGuard = false := rfl
  show pushGuards (if (Code.builtin "type.__call__" ⟨.ref C :: us, []⟩).isGuard = true then [Code.builtin "type.__call__" ⟨.ref C :: us, []⟩] else []) B.guards = some []
  rw [e, h]
  rfl
theorem pe_newG {n : Nat} (Mm : L2.Mk X.K C f) (F : InG X.prog X.w X.K X.mg X.base k f fd ps g) (hr : Room (k + 1) X.A) (hgd : X.A.guards = some []) (hb : Binds X.K fd ps []) (tk : Takes X W) (hg : Gl X x) (hm : X.mg x = some (.ref C)) (hC : ClsAt (gx X) g.name C)
    (ha : PA X (e :: es) (tA (gx X) W fl)) (hl : Len n fl) (hn : n + 1 = ps.length) (hdb : (x == ("__debug__" : Str)) = false) (he : starEach (e :: es) X.env = (false, eval e X.env) :: starEach es X.env) (hpl : (backTo pos (starEach es X.env)).any (·.1) = false) :
    PE X (.Call (.Name x p) (e :: es) [] pos) (tE (gx X) W (fl.bind fun as => doNew g as)) := ⟨fun pins s σ H Q I h => by
  refine wpAny_Call_Name_kw (ld_glob I hg hm ?_ hdb)
  have h2 : tA (gx X) W fl σ H fun vs H1 => ∃ A G μ ρ ρ0 S as, SR (gx X) A G μ σ H1 ρ S ∧ PM σ ρ0 ρ ∧ ArgL (gx X) H1 (Av A μ σ ρ) μ vs as ∧ as.length = n ∧ End (gx X) W (rE (gx X)) A G μ σ ρ0 Q (doNew g as ρ S) := by
    obtain ⟨A, G, μ, ρ, S, st, h⟩ := Tr.iff.mp h
    exact Tr.seqE st h fun as ρ1 S1 vs H1 e1 s1 pm ra h1 => ⟨A, G, μ, ρ1, ρ, S1, as, s1, pm, ra, hl _ _ _ _ _ e1, h1⟩
  refine PySem.W.callWith_K (h₀ := X.base) I.ok.mod.kin Mm.kp (thn (ha.run pos pins s σ H _ I h2) fun us s1 ⟨vs, H1, I1, r, A, G, μ, ρ, ρ0, S, as, st, pm, ra, hl, h⟩ => ⟨I1.kIn, ?_⟩) he hpl
  -- the object's place
  have n1 : H1 (s1.heap.objs.size + 1) = none := I1.hok.fresh (Nat.le_succ _)
  have n0 : H1 s1.heap.objs.size = none := I1.hok.fresh (Nat.le_refl _)
  generalize ex : s1.heap.objs.size + 1 = x1 at n1
  generalize ed : s1.heap.objs.size = d1 at n0 ex
  have I2 := Inv.made (C := C) I1
  rw [ed, ex] at I2
  have hne : d1 ≠ x1 := by omega
  generalize eH : upd (upd H1 d1 (.own x1)) x1 (.ins C d1 []) = H2 at I2
  have sm : Same H1 H2 := fun b o e => by
    rw [← eH, upd_ne (ne_of_none e n1), upd_ne (ne_of_none e n0)]; exact e
  have hx : H2 x1 = some (.ins C d1 []) := by rw [← eH]; exact upd_same
  have sc := st.call_in.aloneD sm n1 ⟨_, hx⟩
  have nav : ¬ Av A μ σ ρ x1 := st.fresh n1
  have hus : us.length = n := by rw [← r.length, ra.length, hl]
  have hbind := hb { s1 with heap := (s1.heap.push PySem.W.emptyDict).push (PySem.W.instObj C d1) } (.ref x1 :: us) I2.kIn (by simp only [List.length_cons, List.length_append, List.length_nil]; omega)
  rw [List.append_nil] at hbind
  refine wpAny_call (make_map (f := f) I1.kIn Mm.makes Mm.init (beq_iff_eq.mp Mm.fn) ?_)
  rw [ed, ex]
  have e0 := I2.env0.make C us []
  refine codeAny_mono (F.run _ X.stack _ H2 ⟨Value.ref x1 :: us, []⟩ us vs (fun v H' => v = .non ∧ Q (.ref x1) H') (fun cls d H' => W cls d σ H') as (fun a => A a ∨ Pv σ ρ a) (callG H1 μ) μ S x1 C d1 (hr.make C us []) (make_guards hgd) e0 hbind r (by omega) sc
    (fun z => nav (z.imp id .inr)) (by unfold callG; rw [if_neg fun z => nav (.inr (.inl z))]; exact n1) hx hC (ra.keep (fun a o e _ => sm a o e) fun a o e z => ?_) ?_) fun res s' q => ?_
  · rcases z with (z | z) | z | z
    · exact z.imp id .inr
    · rw [z, n1] at e; cases e
    · exact .inr (.inl z)
    · obtain ⟨i, t, h, _⟩ := z; simp at h
  · unfold doNew at h
    cases ei : g.init as S with
    | stuck => rw [ei] at h; exact h.elim
    | err c' fs S' =>
      rw [ei] at h
      intro cls d H' cc x
      refine h cls d H' (st.call_out cc) ?_
      obtain ⟨C', q1, q2, q3⟩ := x
      exact ⟨C', q1, q2, q3.imp id fun ⟨a, vfs, e1, e2, e3⟩ => ⟨a, vfs, e1, e2, e3.keep (fun _ _ e _ => e) fun a o _ z => av_call.mpr z⟩⟩
    | ok fs S' =>
      rw [ei] at h
      intro H' C' dx' vfs cc g1 g2 g3
      refine ⟨rfl, h _ H' (st.call_out (cc.less fun a z => .inl z)) pm (show Rep _ _ _ _ _ from .ins g1 nav g2 (g3.keep (fun _ _ e _ => e) fun a o _ z => ?_))⟩
      rcases z with z | z | z
      · exact .inl (.inl (.inl z))
      · exact .inr (.inl z)
      · exact .inl (.inl (.inr z))
  · cases res with
    | error e => exact tk e s' (XE.of_call I2 (fun cls d H' z => z) q)
    | ok fl =>
      cases fl with
      | ret u =>
        obtain ⟨v, H', I3, rv, ev, q3⟩ := I2.after q
        subst ev
        exact ⟨rv, ⟨V.ref x1, H', I3, rfl, q3⟩⟩
      | next => exact False.elim q
      | brk => exact False.elim q
      | cont => exact False.elim q⟩
end
end DL
end

section
/-! The data layer, part 14: does an expression of the program say what the short one says? -/
namespace DL
open PySem PySem.Spec PyProof.Rows L2

/-- what stands still within a def: its names, the module's functions, classes, numbers, texts, the built-in names that it uses -/
structure SC where
  N : List Str
  fns : List (Nat × Str × Nat)
  cls : List Str
  news : List (Nat × Str × Nat)
  cints : List (Str × Int)
  cstrs : List (Str × Str)
  bl : List Str
  /-- slot 0 is an object that is being made: nothing else is stored there -/
  self : Bool
/-- a block's scope; the names that may be stored as cells -/
structure BS where
  sc : Scope
  fb : Str → Bool
def BS.blk (b : BS) (scope : Scope) : BS := ⟨relS scope b.sc, fun x => scope.names.lookup x == some .cell⟩
def nameOk (x : Str) : Bool := x != "__debug__" && x != "__classdict__" && x != "__name__"
def visB (b : BS) (x : Str) : Bool := b.sc.names.lookup x == some .local || b.sc.names.lookup x == some .cell || b.sc.names.lookup x == some .free
def glB (b : BS) (x : Str) : Bool := b.sc.names.lookup x == some .globalImplicit && nameOk x
def blB (c : SC) (b : BS) (x : Str) : Bool := glB b x && c.bl.contains x
def locB (c : SC) (b : BS) (i : Nat) (x : Str) : Bool := (c.N[i]? == some x) && !(c.self && i == 0) && (b.sc.names.lookup x == some .local || (b.sc.names.lookup x == some .cell && b.fb x))
def plainE : Expr → Bool
  | .BoolOp .. => true
  | .BinOp .. => true
  | .UnaryOp .. => true
  | .IfExp .. => true
  | .ListComp .. => true
  | .Compare .. => true
  | .Call .. => true
  | .Constant .. => true
  | .Attribute .. => true
  | .Subscript .. => true
  | .Name .. => true
  | .List .. => true
  | .Tuple .. => true
  | _ => false
/-- no super() -/
def noSup : Expr → Bool
  | .Call _ [] _ _ => false
  | _ => true
structure Ck where
  e : BS → Expr → Bool
  i : BS → Tg → Expr → Expr → Bool
  o : BS → Option Expr → Bool
  l : BS → List Expr → Bool
  f : BS → List Expr → Bool
def ckN : Ck := ⟨fun _ _ => false, fun _ _ _ _ => false, fun _ _ => false, fun _ _ => false, fun _ _ => false⟩
def mkC (e : BS → Expr → Bool) : Ck where
  e := e
  i := fun b _ _ x => e b x
  o := fun b x => match x with
    | some x => e b x
    | none => false
  l := fun _ _ => false
  f := fun b xs => match xs with
    | [x] => e b x
    | _ => false
def noC : Ck where
  e := fun _ _ => false
  i := fun _ _ _ _ => false
  o := fun _ x => match x with
    | none => true
    | _ => false
  l := fun _ _ => false
  f := fun _ xs => match xs with
    | [] => true
    | _ => false
def opOf : Bop → Operator
  | .add => .Add
  | .sub => .Sub
  | .mul => .Mult
  | .fdiv => .FloorDiv
  | .mod => .Mod
  | .pow => .Pow
def cmpOf : Cop → CmpOp
  | .eq => .Eq
  | .ne => .NotEq
  | .lt => .Lt
  | .le => .LtE
  | .gt => .Gt
  | .ge => .GtE
  | .isin => .In
  | .notin => .NotIn
  | .isnone => .Is
  | .notnone => .IsNot
def nm1 : B1 → Str
  | .len => "len"
  | .int => "int"
  | .abs => "abs"
  | .tuple => "tuple"
  | .list => "list"
  | .sum => "sum"
  | .max => "max"
  | .min => "min"
  | .any => "any"
  | .all => "all"
  | .repr => "repr"
def nm2 : B2 → Str
  | .max => "max"
  | .min => "min"
def nmM : Mt → Str
  | .append => "append"
  | .extend => "extend"
  | .pop => "pop"
  | .pop0 => "pop"
  | .count => "count"
  | .index => "index"
def lenI : IE → Nat
  | .cons _ es => lenI es + 1
  | _ => 0
def tgC1 (c : SC) (b : BS) : List Nat → List Expr → Bool
  | [], [] => true
  | i :: is, .Name x _ :: es => locB c b i x && nameOk x && tgC1 c b is es
  | _, _ => false
/-- a target -/
def tgC (c : SC) (b : BS) : Tg → Expr → Bool
  | .one i, .Name x _ => locB c b i x && nameOk x
  | .many is, .Tuple es _ _ => tgC1 c b is es
  | _, _ => false
def isMany : Tg → Bool
  | .many _ => true
  | _ => false
def ownP (c : SC) (own : List Nat) : List (Str × Nat) := own.map fun i => ((c.N[i]?).getD Str.empty, i)
def typeNames : List String := ["int", "bool", "str", "tuple", "list", "dict", "set", "float"]
def tyC (c : SC) (b : BS) : Ty → Expr → Bool
  | .ty n, .Name x _ => typeNames.contains n && x == Str.ofString n && blB c b x
  | .cls y, .Name x _ => x == y && glB b x && c.cls.contains x
  | _, _ => false
def intC (i : Int) : Expr → Bool
  | .Constant (.int j) _ _ => i == j
  | _ => false
/-- range(y) -/
def rngC (c : SC) (b : BS) (f : Expr → Bool) : Expr → Bool
  | .Call (.Name x _) [y] [] _ => x == Str.ofString "range" && blB c b x && f y
  | _ => false
def chk (c : SC) : IE → Ck
  | .nil => { ckN with l := fun _ xs => match xs with
    | [] => true
    | _ => false }
  | .cons e es => { ckN with l := fun b xs => match xs with
    | x :: r => (chk c e).e b x && (chk c es).l b r
    | [] => false }
  | .no => noC
  | .var i => mkC fun b e => match e with
    | .Name x _ => (c.N[i]? == some x) && visB b x && nameOk x
    | _ => false
  | .cint i => mkC fun _ e => match e with
    | .Constant (.int j) _ _ => i == j
    | _ => false
  | .cbl v => mkC fun _ e => match e with
    | .Constant (.bool w) _ _ => v == w
    | _ => false
  | .cnon => mkC fun _ e => match e with
    | .Constant .none _ _ => true
    | _ => false
  | .cstr s => mkC fun _ e => match e with
    | .Constant (.str t) _ _ => s == t
    | _ => false
  | .gint y i => mkC fun b e => match e with
    | .Name x _ => x == y && glB b x && c.cints.contains (x, i)
    | _ => false
  | .gstr y s => mkC fun b e => match e with
    | .Name x _ => x == y && glB b x && c.cstrs.contains (x, s)
    | _ => false
  | .gfn _ => ckN
  | .bin o a a2 => mkC fun b e => match e with
    | .BinOp x op y _ => op == opOf o && (chk c a).e b x && (chk c a2).e b y
    | _ => false
  | .neg a => mkC fun b e => match e with
    | .UnaryOp .USub x _ => (chk c a).e b x
    | _ => false
  | .cmp o a a2 => mkC fun b e => match e with
    | .Compare x [op] [y] _ => op == cmpOf o && (chk c a).e b x && (chk c a2).e b y
    | _ => false
  | .cmp2 o o2 a a2 a3 => mkC fun b e => match e with
    | .Compare x [op, op2] [y, z] _ => op == cmpOf o && op2 == cmpOf o2 && (chk c a).e b x && (chk c a2).e b y && (chk c a3).e b z
    | _ => false
  | .and a a2 => mkC fun b e => match e with
    | .BoolOp .And (x :: y :: []) _ => (chk c a).e b x && (chk c a2).e b y
    | .BoolOp .And (x :: y :: z :: r) pos => (chk c a).e b x && (chk c a2).e b (.BoolOp .And (y :: z :: r) pos)
    | _ => false
  | .or a a2 => mkC fun b e => match e with
    | .BoolOp .Or (x :: y :: []) _ => (chk c a).e b x && (chk c a2).e b y
    | .BoolOp .Or (x :: y :: z :: r) pos => (chk c a).e b x && (chk c a2).e b (.BoolOp .Or (y :: z :: r) pos)
    | _ => false
  | .not a => mkC fun b e => match e with
    | .UnaryOp .Not x _ => (chk c a).e b x
    | _ => false
  | .ife t a a2 => mkC fun b e => match e with
    | .IfExp x y z _ => (chk c t).e b x && (chk c a).e b y && (chk c a2).e b z
    | _ => false
  | .tup es => mkC fun b e => match e with
    | .Tuple xs _ _ => (chk c es).l b xs && decide (lenI es ≤ 1000)
    | _ => false
  | .lst es => mkC fun b e => match e with
    | .List xs _ => (chk c es).l b xs && decide (lenI es ≤ 1000)
    | _ => false
  | .sub a i => mkC fun b e => match e with
    | .Subscript x y _ => (chk c a).e b x && (chk c i).e b y
    | _ => false
  | .slc a lo hi => mkC fun b e => match e with
    | .Subscript x (.Slice l h none _) _ => (chk c a).e b x && (chk c lo).o b l && (chk c hi).o b h
    | _ => false
  | .rev a => mkC fun b e => match e with
    | .Subscript x (.Slice none none (some (.UnaryOp .USub (.Constant (.int 1) _ _) _)) _) _ => (chk c a).e b x
    | _ => false
  | .attr a f => mkC fun b e => match e with
    | .Attribute x g _ => f == g && noSup x && (chk c a).e b x
    | _ => false
  | .call k es => mkC fun b e => match e with
    | .Call (.Name x _) (y :: r) [] _ => glB b x && (c.fns.lookup k == some (x, lenI es)) && (chk c es).l b (y :: r)
    | _ => false
  | .new k es => mkC fun b e => match e with
    | .Call (.Name x _) (y :: r) [] _ => glB b x && (c.news.lookup k == some (x, lenI es)) && (chk c es).l b (y :: r)
    | _ => false
  | .b1 t a => mkC fun b e => match e with
    | .Call (.Name x _) [y] [] _ => x == nm1 t && blB c b x && (chk c a).e b y
    | _ => false
  | .b2 t a a2 => mkC fun b e => match e with
    | .Call (.Name x _) [y, z] [] _ => x == nm2 t && blB c b x && (chk c a).e b y && (chk c a2).e b z
    | _ => false
  | .isi a t => mkC fun b e => match e with
    | .Call (.Name x _) [y, z] [] _ => x == Str.ofString "isinstance" && blB c b x && (chk c a).e b y && tyC c b t z
    | _ => false
  | .meth m o es => mkC fun b e => match e with
    | .Call (.Attribute x f p) [] [] pos => f == nmM m && noSup x && p.endLine == pos.line && (chk c o).e b x && (chk c es).l b []
    | .Call (.Attribute x f p) (y :: r) [] pos => f == nmM m && noSup x && p.endLine == pos.line && (chk c o).e b x && (chk c es).l b (y :: r) && decide (lenI es < 20)
    | _ => false
  | .lc own tg it ifs elt => mkC fun b e => match e with
    | .ListComp el [⟨te, ie, fs, a⟩] scope _ => a == 0 && (chk c it).i b tg te ie && blkC c.N b.sc scope (ownP c own) && (tgSl tg).all own.contains && tgC c (b.blk scope) tg te && (chk c ifs).f (b.blk scope) fs && (chk c elt).e (b.blk scope) el
    | _ => false
  | .lc2 own own1 tg it ifs tg1 it1 ifs1 elt => mkC fun b e => match e with
    | .ListComp el [⟨te, ie, fs, a⟩, ⟨te1, ie1, fs1, a1⟩] scope _ => a == 0 && a1 == 0 && (chk c it).i b tg te ie && blkC c.N b.sc scope (ownP c own) && (tgSl tg).all own.contains && (tgSl tg1).all own1.contains && own1.all own.contains && tgC c (b.blk scope) tg te && (chk c ifs).f (b.blk scope) fs &&
      (chk c it1).i (b.blk scope) tg1 te1 ie1 && tgC c (b.blk scope) tg1 te1 && (chk c ifs1).f (b.blk scope) fs1 && (chk c elt).e (b.blk scope) el
    | _ => false
  | .rng1 a => { ckN with i := fun b _ _ e => match e with
    | .Call (.Name x _) [y] [] _ => x == Str.ofString "range" && blB c b x && (chk c a).e b y
    | _ => false }
  | .rng2 a a2 => { ckN with i := fun b _ _ e => match e with
    | .Call (.Name x _) [y, z] [] _ => x == Str.ofString "range" && blB c b x && (chk c a).e b y && (chk c a2).e b z
    | _ => false }
  | .enum a => { ckN with i := fun b tg te e => match te, e with
    | .Tuple _ _ _, .Call (.Name x _) [y] [] _ => isMany tg && x == Str.ofString "enumerate" && blB c b x && (chk c a).e b y
    | _, _ => false }
  | .zip2 a a2 => { ckN with i := fun b tg te e => match te, e with
    | .Tuple _ _ _, .Call (.Name x _) [y, z] [] _ => isMany tg && x == Str.ofString "zip" && blB c b x && (chk c a).e b y && (chk c a2).e b z
    | _, _ => false }
  | .zip3 _ _ _ => ckN
  | .tupr a => mkC fun b e => match e with
    | .Call (.Name x _) [z] [] _ => x == Str.ofString "tuple" && blB c b x && rngC c b ((chk c a).e b) z
    | _ => false
  | .scut i hi => mkC fun b e => match e with
    | .Subscript (.Name x _) (.Slice none (some v) none _) _ => (c.N[i]? == some x) && visB b x && nameOk x && intC hi v && decide (0 ≤ hi)
    | _ => false

/-! ### what the checks give -/
theorem star_plain {x : Expr} {xs : List Expr} {env : Env} (h : plainE x = true) : starEach (x :: xs) env = (false, eval x env) :: starEach xs env := by
  cases x <;> first | rfl | cases h
theorem folded_plain {x : Expr} (h : plainE x = true) : ∀ env v, foldedSetIterable x env v = pure v := by
  intro env v
  cases x <;> first | rfl | cases h
theorem ix_plain {x : Expr} (h : plainE x = true) : PlainIx x := by
  intro o i
  cases x <;> first | rfl | cases h
theorem mark_plain {x : Expr} (op : CmpOp) (h : plainE x = true) : behindInMarks op x = false := by
  cases x <;> first | rfl | cases h
theorem base_plain {x : Expr} {f : Str} {env : Env} (h : plainE x = true) (hs : noSup x = true) : attributeBase x f env (eval x env) = eval x env := by
  unfold attributeBase
  cases x <;> first | rfl | cases h | skip
  rename_i fn args kws pos
  cases args with
  | nil => cases hs
  | cons a r => cases fn <;> rfl
theorem any_plain {pos : Pos} {env : Env} : ∀ {xs : List Expr}, xs.all plainE = true → (backTo pos (starEach xs env)).any (·.1) = false
  | [], _ => rfl
  | x :: xs, h => by
    rw [List.all_cons, Bool.and_eq_true] at h
    rw [star_plain h.1]
    exact any_plain h.2
theorem all_plain {pos : Pos} {env : Env} : ∀ {xs : List Expr}, xs.all plainE = true → (backTo pos (starEach xs env)).all (fun x => !x.1) = true
  | [], _ => rfl
  | x :: xs, h => by
    rw [List.all_cons, Bool.and_eq_true] at h
    rw [star_plain h.1]
    exact all_plain h.2
def testP : Expr → Bool
  | .BoolOp .. => false
  | .UnaryOp .Not _ _ => false
  | .IfExp .. => false
  | .Compare .. => false
  | _ => true
theorem test_plain {x : Expr} {env : Env} (h : testP x = true) : ∀ whole, isTrue x env whole = (do let v ← whole; standAt x.pos; holding [v] (truthy v)) := by
  intro whole
  cases x <;> first | rfl | cases h | skip
  rename_i op a b
  cases op <;> first | rfl | cases h

/-- all that a def's context must have -/
structure EX (L : Lk) (c : SC) (k : Nat) (b : BS) (X : Cx) (W : WX) : Prop where
  calm : X.calm = true
  hN : X.N = c.N
  nd : X.N.Nodup
  sc : X.env.scope = b.sc
  fb : X.fn = b.fb
  room : Room k X.A
  gd : X.A.guards = some []
  tk : Takes X W
  bl : ∀ x ∈ c.bl, X.mg x = none
  ci : ∀ p ∈ c.cints, ∃ t, X.mg p.1 = some (.int p.2 t)
  cs : ∀ p ∈ c.cstrs, ∃ t, X.mg p.1 = some (.str p.2 t)
  cl : ∀ x ∈ c.cls, ∃ C, ClsAt (gx X) x C
  fn : ∀ (i : Nat) (x : Str) (n : Nat), c.fns.lookup i = some (x, n) → ∃ f fd ps g, X.mg x = some (.ref f) ∧ PySem.W.keepIn X.K (.ref f) = true ∧ Binds X.K fd ps [] ∧ ps.length = n ∧ L.fns i = some g ∧ FnG X.prog X.w X.K X.mg X.base k f fd ps g
  nw : ∀ (i : Nat) (x : Str) (n : Nat), c.news.lookup i = some (x, n) → ∃ C f fd ps g j, X.mg x = some (.ref C) ∧ ClsAt (gx X) g.name C ∧ L2.Mk X.K C f ∧ Binds X.K fd ps [] ∧ n + 1 = ps.length ∧ L.cls i = some g ∧ j + 1 ≤ k ∧ InG X.prog X.w X.K X.mg X.base j f fd ps g
theorem EX.blk {L : Lk} {c : SC} {k : Nat} {b : BS} {X : Cx} {W : WX} (h : EX L c k b X W) (scope : Scope) (s : Shared) (H : Hp) (C : Addr) (cl : List (Str × Addr)) (fp : List Addr) :
    EX L c k (b.blk scope) (X.blk s H scope (compEnvC scope cl C X.env) fp) W0 :=
  ⟨h.calm, h.hN, h.nd, show relS scope X.env.scope = relS scope b.sc by rw [h.sc], rfl, h.room, h.gd, fun u s' ⟨a, B, sI, pins, σ, H, cls, d, e, I, nb, up, sky, na, os, ag, w⟩ => w, h.bl, h.ci, h.cs, h.cl, h.fn, h.nw⟩
section
variable {L : Lk} {c : SC} {k : Nat} {b : BS} {X : Cx} {W : WX}
theorem nameOk_of {x : Str} (h : nameOk x = true) : (x == ("__debug__" : Str)) = false ∧ (x == ("__classdict__" : Str)) = false ∧ x ≠ "__name__" := by
  unfold nameOk at h
  simp only [Bool.and_eq_true, bne_iff_ne, ne_eq] at h
  exact ⟨beq_eq_false_iff_ne.mpr h.1.1, beq_eq_false_iff_ne.mpr h.1.2, h.2⟩
theorem EX.vis (E : EX L c k b X W) {x : Str} (h : visB b x = true) : Vis X.env.scope x := by
  unfold visB at h
  simp only [Bool.or_eq_true, beq_iff_eq] at h
  rw [E.sc]
  rcases h with (h | h) | h
  · exact .inl h
  · exact .inr (.inl h)
  · exact .inr (.inr h)
theorem EX.gl (E : EX L c k b X W) {x : Str} (h : glB b x = true) : Gl X x ∧ nameOk x = true := by
  unfold glB at h
  simp only [Bool.and_eq_true, beq_iff_eq] at h
  exact ⟨show X.env.scope.names.lookup x = _ by rw [E.sc]; exact h.1, h.2⟩
theorem EX.blt (E : EX L c k b X W) {x : Str} (h : blB c b x = true) : Gl X x ∧ X.mg x = none ∧ nameOk x = true := by
  unfold blB at h
  rw [Bool.and_eq_true] at h
  obtain ⟨h1, h2⟩ := E.gl h.1
  exact ⟨h1, E.bl x (by simpa using h.2), h2⟩
theorem EX.loc (E : EX L c k b X W) {i : Nat} {x : Str} (h : locB c b i x = true) : X.N[i]? = some x ∧ Loc X.env.scope x ∧ (X.fn x = true ∨ X.env.scope.names.lookup x = some .local) := by
  unfold locB at h
  simp only [Bool.and_eq_true, Bool.or_eq_true, beq_iff_eq] at h
  rw [E.hN, E.sc, E.fb]
  refine ⟨h.1.1, ?_⟩
  rcases h.2 with z | ⟨z, z2⟩
  · exact ⟨.inl z, .inr z⟩
  · exact ⟨.inr z, .inl z2⟩
theorem loc_z {c : SC} {b : BS} {i : Nat} {x : Str} (h : locB c b i x = true) (hs : c.self = true) : i ≠ 0 := fun e => by
  unfold locB at h
  rw [Bool.and_eq_true, Bool.and_eq_true] at h
  have := h.1.2
  rw [hs, e] at this
  cases this
theorem tgs_z {c : SC} {b : BS} (hs : c.self = true) : ∀ {is : List Nat} {es : List Expr}, tgC1 c b is es = true → 0 ∉ is
  | [], _, _ => by simp
  | i :: is, .Name x p :: es, h => by
    simp only [tgC1, Bool.and_eq_true] at h
    intro q
    rcases List.mem_cons.mp q with q | q
    · exact loc_z h.1.1 hs q.symm
    · exact tgs_z hs h.2 q
  | _ :: _, [], h => by cases h
theorem tg_z {c : SC} {b : BS} {tg : Tg} {te : Expr} (hs : c.self = true) (h : tgC c b tg te = true) : 0 ∉ tgSl tg := by
  cases tg with
  | one i =>
    cases te <;> first | cases h | skip
    simp only [tgC, Bool.and_eq_true] at h
    intro q
    exact loc_z h.1 hs (List.mem_singleton.mp q).symm
  | many is =>
    cases te <;> first | cases h | skip
    exact tgs_z hs h
/-- targets -/
theorem tgs_pg (E : EX L c k b X W) : ∀ {is : List Nat} {es : List Expr}, tgC1 c b is es = true → PGs X es (gMany is) ∧ (assignEach es X.env).length = is.length ∧ (assignEach es X.env).findIdx? (·.1) = none
  | [], [], _ => ⟨pgs_nil, rfl, rfl⟩
  | i :: is, .Name x p :: es, h => by
    simp only [tgC1, Bool.and_eq_true] at h
    obtain ⟨h1, h2, h3⟩ := E.loc h.1.1
    obtain ⟨g1, g2, g3⟩ := tgs_pg E h.2
    refine ⟨pgs_cons (pg_name E.nd h1 h2 h3) g1, ?_, ?_⟩
    · show (assignEach es X.env).length + 1 = _
      rw [g2]; rfl
    · show List.findIdx? (·.1) ((false, assign (.Name x p) X.env) :: assignEach es X.env) = none
      rw [List.findIdx?_cons]
      simp only [Bool.false_eq_true, if_false, g3, Option.map_none]
  | [], _ :: _, h => by cases h
  | _ :: _, [], h => by cases h
theorem tg_pg (E : EX L c k b X W) {tg : Tg} {te : Expr} (h : tgC c b tg te = true) : PG X te (gTg X.K tg) := by
  cases tg with
  | one i =>
    cases te <;> first | cases h | skip
    simp only [tgC, Bool.and_eq_true] at h
    obtain ⟨h1, h2, h3⟩ := E.loc h.1
    exact pg_name E.nd h1 h2 h3
  | many is =>
    cases te <;> first | cases h | skip
    obtain ⟨g1, g2, g3⟩ := tgs_pg E h
    exact pg_tup E.calm g1 g2 g3
end
end DL
end

section
/-! The data layer, part 15: what the check says, holds. -/
namespace DL
open PySem PySem.Spec PyProof.Rows L2

structure Snd (L : Lk) (ie : IE) : Prop where
  e : ∀ {c : SC} {k : Nat} {b : BS} {X : Cx} {W : WX} {x : Expr}, EX L c k b X W → (chk c ie).e b x = true → plainE x = true ∧ PE X x (tE (gx X) W (ev L ie).v) ∧ PT X x (tT (gx X) W (ev L ie).t)
  i : ∀ {c : SC} {k : Nat} {b : BS} {X : Cx} {W : WX} {tg : Tg} {te x : Expr}, EX L c k b X W → (chk c ie).i b tg te x = true → PI X te x (tI tg (gx X) W (ev L ie).i) ∧ ∀ env v, foldedSetIterable x env v = pure v
  o : ∀ {c : SC} {k : Nat} {b : BS} {X : Cx} {W : WX} {x : Option Expr}, EX L c k b X W → (chk c ie).o b x = true → PO X x (tO (gx X) W (ev L ie).o)
  l : ∀ {c : SC} {k : Nat} {b : BS} {X : Cx} {W : WX} {xs : List Expr}, EX L c k b X W → (chk c ie).l b xs = true → xs.all plainE = true ∧ PA X xs (tL (gx X) W (ev L ie).l) ∧ PA X xs (tA (gx X) W (ev L ie).a)
  f : ∀ {c : SC} {k : Nat} {b : BS} {X : Cx} {W : WX} {xs : List Expr}, EX L c k b X W → (chk c ie).f b xs = true → PTs X xs (tT (gx X) W (ev L ie).t)
section
variable {L : Lk} {ie : IE}
theorem snd_v (hc : ∀ c, ∃ f, chk c ie = mkC f) (hi : (ev L ie).i = (ev L ie).v.bind fun x => (asD x).bind fun u => M.ofO (itemsOf u)) (ho : (ev L ie).o = (ev L ie).v.bind fun x => (peek x).bind fun u => M.ofO (optI u))
    (he : ∀ {c : SC} {k : Nat} {b : BS} {X : Cx} {W : WX} {x : Expr}, EX L c k b X W → (chk c ie).e b x = true → plainE x = true ∧ PE X x (tE (gx X) W (ev L ie).v) ∧ PT X x (tT (gx X) W (ev L ie).t)) : Snd L ie := by
  refine ⟨he, fun {c k b X W tg te x} E h => ?_, fun {c k b X W x} E h => ?_, fun {c k b X W xs} E h => ?_, fun {c k b X W xs} E h => ?_⟩
  · obtain ⟨f, hf⟩ := hc c
    have h2 : (chk c ie).e b x = true := by rw [hf] at h ⊢; exact h
    obtain ⟨h3, h4, _⟩ := he E h2
    rw [hi]
    exact ⟨pi_weak (pi_seqD h4) fun σ H Q q => seq_ok q, folded_plain h3⟩
  · obtain ⟨f, hf⟩ := hc c
    cases x with
    | none => rw [hf] at h; cases h
    | some x =>
      have h2 : (chk c ie).e b x = true := by rw [hf] at h ⊢; exact h
      obtain ⟨h3, h4, _⟩ := he E h2
      rw [ho]
      exact po_weak (po_some h4) fun σ H Q q => part_ok q
  · obtain ⟨f, hf⟩ := hc c
    rw [hf] at h; cases h
  · obtain ⟨f, hf⟩ := hc c
    rw [hf] at h
    cases xs with
    | nil => cases h
    | cons x r =>
      cases r with
      | cons _ _ => cases h
      | nil =>
        have h2 : (chk c ie).e b x = true := by rw [hf]; exact h
        exact pts_one (he E h2).2.2
theorem snd_t (hc : ∀ c, ∃ f, chk c ie = mkC f) (hv : ∃ v, ev L ie = mkV v)
    (he : ∀ {c : SC} {k : Nat} {b : BS} {X : Cx} {W : WX} {x : Expr}, EX L c k b X W → (chk c ie).e b x = true → plainE x = true ∧ testP x = true ∧ PE X x (tE (gx X) W (ev L ie).v)) : Snd L ie := by
  obtain ⟨v, hv⟩ := hv
  refine snd_v hc (by rw [hv]; rfl) (by rw [hv]; rfl) fun {c k b X W x} E h => ?_
  obtain ⟨h1, h2, h3⟩ := he E h
  refine ⟨h1, h3, ?_⟩
  rw [hv] at h3 ⊢
  exact pt_weak (pt_truth h3 (test_plain h2)) fun σ H Q q => truth_ok q
/-- nothing is checked as a value -/
theorem snd_n (he : ∀ c b x, (chk c ie).e b x = false) (ho : ∀ c b x, (chk c ie).o b x = false) (hl : ∀ c b x, (chk c ie).l b x = false) (hf : ∀ c b x, (chk c ie).f b x = false)
    (hi : ∀ {c : SC} {k : Nat} {b : BS} {X : Cx} {W : WX} {tg : Tg} {te x : Expr}, EX L c k b X W → (chk c ie).i b tg te x = true → PI X te x (tI tg (gx X) W (ev L ie).i) ∧ ∀ env v, foldedSetIterable x env v = pure v) : Snd L ie :=
  by
  refine ⟨fun {c k b X W x} E h => ?_, hi, fun {c k b X W x} E h => ?_, fun {c k b X W x} E h => ?_, fun {c k b X W x} E h => ?_⟩
  · rw [he] at h; cases h
  · rw [ho] at h; cases h
  · rw [hl] at h; cases h
  · rw [hf] at h; cases h
end
theorem evl_len (L : Lk) : ∀ (ie : IE) (ρ : List Sl) (S : Store) (xs : List D) (ρ' : List Sl) (S' : Store), (ev L ie).l ρ S = .ok xs ρ' S' → xs.length = lenI ie := by
  intro ie
  induction ie with
  | nil => intro ρ S xs ρ' S' h; cases h; rfl
  | cons e es _ ih =>
    intro ρ S xs ρ' S' h
    obtain ⟨a, ρ1, S1, h1, h⟩ := bind_ok h
    obtain ⟨d, ρ2, S2, h2, h⟩ := bind_ok h
    obtain ⟨ds, ρ3, S3, h3, h⟩ := bind_ok h
    cases h
    exact congrArg Nat.succ (ih _ _ _ _ _ h3)
  | _ => intro ρ S xs ρ' S' h; cases h
theorem eva_len (L : Lk) : ∀ (ie : IE) (ρ : List Sl) (S : Store) (xs : List Arg) (ρ' : List Sl) (S' : Store), (ev L ie).a ρ S = .ok xs ρ' S' → xs.length = lenI ie := by
  intro ie
  induction ie with
  | nil => intro ρ S xs ρ' S' h; cases h; rfl
  | cons e es _ ih =>
    intro ρ S xs ρ' S' h
    obtain ⟨a, ρ1, S1, h1, h⟩ := bind_ok h
    obtain ⟨d, ρ2, S2, h2, h⟩ := bind_ok h
    obtain ⟨ds, ρ3, S3, h3, h⟩ := bind_ok h
    cases h
    exact congrArg Nat.succ (ih _ _ _ _ _ h3)
  | _ => intro ρ S xs ρ' S' h; cases h
theorem chk_len {c : SC} : ∀ (ie : IE) {b : BS} {xs : List Expr}, (chk c ie).l b xs = true → xs.length = lenI ie := by
  intro ie
  induction ie with
  | nil =>
    intro b xs h
    cases xs with
    | nil => rfl
    | cons _ _ => cases h
  | cons e es _ ih =>
    intro b xs h
    cases xs with
    | nil => cases h
    | cons x r =>
      have h : ((chk c e).e b x && (chk c es).l b r) = true := h
      rw [Bool.and_eq_true] at h
      exact congrArg Nat.succ (ih h.2)
  | _ => intro b xs h; cases h
theorem chk_nil {c : SC} {ie : IE} {b : BS} (h : (chk c ie).l b [] = true) : ie = .nil := by
  cases ie <;> first | rfl | cases h
theorem intC_is {i : Int} {u : Expr} (h : intC i u = true) : ∃ j p, u = .Constant (.int i) j p := by
  unfold intC at h
  split at h
  · rename_i v j p
    exact ⟨j, p, by rw [eq_of_beq h]⟩
  · cases h
theorem most_of {L : Lk} {ie : IE} (h : lenI ie ≤ 1000) : Most (ev L ie).l := fun ρ S xs ρ' S' e => by
  rw [evl_len L ie _ _ _ _ _ e, sizeLine_eq]; omega

/-- a if t else b, as a test -/
theorem pt_ifE {X : Cx} {c a b : Expr} {pos : Pos} {tc ta tb : TT} (hc : PT X c tc) (ha : PT X a ta) (hb : PT X b tb) : PT X (.IfExp c a b pos) (fun σ H Q => tc σ H fun k H1 => if k = true then ta σ H1 Q else tb σ H1 Q) := ⟨fun pins s σ H Q I h => by
  refine wpAny_bind (thn (hc.run pins s σ H _ I h) fun k s1 ⟨H1, I1, q1⟩ => ?_)
  cases k with
  | true => exact ha.run pins s1 σ H1 Q I1 q1
  | false => exact hb.run pins s1 σ H1 Q I1 q1⟩
section
variable {L : Lk} {c : SC} {k : Nat} {b : BS} {X : Cx} {W : WX}
theorem EX.u65 (E : EX L c k b X W) : X.A.units + 65 < cLine := by have := E.room.un; omega
theorem pt_bl {x : Expr} {v : M R} {t : TE} (hp : PT X x (tTest t)) (hb : ∀ ρ S r ρ' S', v ρ S = .ok r ρ' S' → ∃ k, r = .d (.bl k)) (h : ∀ σ H Q, tE (gx X) W v σ H Q → t σ H Q) : PT X x (tT (gx X) W (v.bind truthR)) := by
  refine pt_weak hp fun σ H Q q => h σ H _ ?_
  obtain ⟨A, G, μ, ρ, S, s, q⟩ := Tr.iff.mp q
  refine Tr.seqE s q fun r ρ1 S1 z H1 e s1 pm rr q1 => ?_
  obtain ⟨kk, rfl⟩ := hb _ _ _ _ _ e
  have rr : Rep (gx X) H1 (Av A μ σ ρ1) z (.bl kk) := rr
  cases rr
  exact ⟨kk, rfl, q1 kk H1 s1 pm rfl⟩
theorem blR_bl {b : Option Bool} {r : R} (h : blR b = some r) : ∃ k, r = .d (.bl k) := by
  cases b with
  | none => cases h
  | some k => cases h; exact ⟨k, rfl⟩
theorem peek_same {r : R} {ρ : List Sl} {S : Store} {d : D} {ρ' : List Sl} {S' : Store} (h : peek r ρ S = .ok d ρ' S') : True := trivial
theorem op2_bl {fa fb : M R} {f : D → D → Option Bool} : ∀ ρ S r ρ' S', op2 fa fb (fun u v => blR (f u v)) ρ S = .ok r ρ' S' → ∃ k, r = .d (.bl k) := by
  intro ρ S r ρ' S' h
  obtain ⟨_, _, _, _, h⟩ := bind_ok h
  obtain ⟨_, _, _, _, h⟩ := bind_ok h
  obtain ⟨u, _, _, _, h⟩ := bind_ok h
  obtain ⟨v, _, _, _, h⟩ := bind_ok h
  unfold M.ofO at h
  split at h
  · rename_i e
    cases h
    exact blR_bl e
  · cases h
/-- a comparison by its sign -/
theorem cmp_rule (E : EX L c k b X W) (o : Cop) : ∃ r, OpR X (compareOp (cmpOf o)) r ∧ Op2 (gx X) (fC o) r := by
  cases o with
  | eq => exact ⟨_, op_eqD (Nat.lt_of_succ_lt E.u65), d_eq⟩
  | ne => exact ⟨_, op_neD (Nat.lt_of_succ_lt E.u65), d_ne⟩
  | lt => exact ⟨_, op_lt, d_lt⟩
  | le => exact ⟨_, op_le, d_le⟩
  | gt => exact ⟨_, op_gt, d_gt⟩
  | ge => exact ⟨_, op_ge, d_ge⟩
  | isin => exact ⟨_, or_inDD E.u65, d_in⟩
  | notin => exact ⟨_, or_notInDD E.u65, d_notin⟩
  | isnone => exact ⟨_, op_isN, d_isn⟩
  | notnone => exact ⟨_, op_notN, d_notn⟩
theorem bin_rule (X : Cx) (o : Bop) : ∃ r, OpR X (binaryOp (opOf o)) r ∧ Op2 (gx X) (bop o) r := by
  cases o with
  | add => exact ⟨_, or_addD, d_add⟩
  | sub => exact ⟨_, op_sub, d_sub⟩
  | mul => exact ⟨_, or_mulD, d_mul⟩
  | fdiv => exact ⟨_, op_fdivN, d_fdiv⟩
  | mod => exact ⟨_, op_modN, d_mod⟩
  | pow => exact ⟨_, op_pow, d_pow⟩
theorem isV_of {r : R} (h : isVal r) : (∃ d, r = .d d) ∨ (∃ xs, r = .fresh xs) := by
  cases r with
  | d d => exact .inl ⟨d, rfl⟩
  | fresh xs => exact .inr ⟨xs, rfl⟩
  | _ => exact h.elim
theorem bop_val {o : Bop} {u v : D} {z : R} (h : bop o u v = some z) : (∃ d, z = .d d) ∨ (∃ xs, z = .fresh xs) := by
  refine isV_of ?_
  unfold bop at h
  split at h
  all_goals first
    | (cases h; done)
    | (cases h; exact trivial)
    | (split at h
       · cases h; exact trivial
       · cases h)
theorem map_d {o : Option D} {z : R} (h : o.map R.d = some z) : (∃ d, z = .d d) ∨ (∃ xs, z = .fresh xs) := by
  cases o with
  | none => cases h
  | some d => cases h; exact .inl ⟨d, rfl⟩
theorem blR_val {o : Option Bool} {z : R} (h : blR o = some z) : (∃ d, z = .d d) ∨ (∃ xs, z = .fresh xs) := by
  obtain ⟨k, rfl⟩ := blR_bl h; exact .inl ⟨_, rfl⟩
theorem b1_val {t : B1} {u : D} {z : R} (h : b1 t u = some z) : (∃ d, z = .d d) ∨ (∃ xs, z = .fresh xs) := by
  refine isV_of ?_
  unfold b1 at h
  split at h
  all_goals first
    | (cases h; done)
    | (cases h; exact trivial)
    | (split at h
       · cases h; exact trivial
       · cases h)
    | (simp only [Option.map_eq_some_iff] at h
       obtain ⟨_, _, rfl⟩ := h
       exact trivial)
theorem b2_val {t : B2} {u v : D} {z : R} (h : b2 t u v = some z) : (∃ d, z = .d d) ∨ (∃ xs, z = .fresh xs) := by
  refine isV_of ?_
  unfold b2 at h
  split at h
  all_goals first
    | (cases h; done)
    | (cases h; exact trivial)
/-- a built-in function of one argument -/
theorem b1_rule (E : EX L c k b X W) (t : B1) : ∃ r, Op1 (gx X) (b1 t) (rC r) ∧ ((∃ id, bootBuiltins (nm1 t) = some (.builtin id) ∧ CallR X (.builtin id) r) ∨ ∃ T, bootBuiltins (nm1 t) = some (.type T) ∧ CallR X (.type T) r) := by
  cases t with
  | len => exact ⟨_, d_len, .inl ⟨"len", by decide +kernel, CallR.or call_len_seq call_len_str⟩⟩
  | int => exact ⟨_, d_int, .inr ⟨"int", by decide +kernel, call_int1⟩⟩
  | abs => exact ⟨_, d_abs, .inl ⟨"abs", by decide +kernel, call_abs⟩⟩
  | tuple => exact ⟨_, d_tuple, .inr ⟨"tuple", by decide +kernel, call_tupZ⟩⟩
  | list => exact ⟨_, d_list, .inr ⟨"list", by decide +kernel, call_list_of⟩⟩
  | sum => exact ⟨_, d_sum, .inl ⟨"sum", by decide +kernel, cr_sum E.calm⟩⟩
  | max => exact ⟨_, d_max, .inl ⟨"max", by decide +kernel, cr_max E.calm⟩⟩
  | min => exact ⟨_, d_min, .inl ⟨"min", by decide +kernel, cr_min E.calm⟩⟩
  | any => exact ⟨_, d_any, .inl ⟨"any", by decide +kernel, cr_any E.calm⟩⟩
  | all => exact ⟨_, d_all, .inl ⟨"all", by decide +kernel, cr_all E.calm⟩⟩
  | repr => exact ⟨_, d_repr, .inl ⟨"repr", by decide +kernel, cr_reprD E.gd E.u65⟩⟩
theorem b2_rule (E : EX L c k b X W) (t : B2) : ∃ r, Op2 (gx X) (b2 t) (fun x y H Q => r [x, y] H Q) ∧ ∃ id, bootBuiltins (nm2 t) = some (.builtin id) ∧ CallR X (.builtin id) r := by
  cases t with
  | max => exact ⟨_, d_max2, "max", by decide +kernel, call_max2 E.calm⟩
  | min => exact ⟨_, d_min2, "min", by decide +kernel, call_min2 E.calm⟩
theorem name_and {p q : Bool} (h : (p && q) = true) : p = true ∧ q = true := by rwa [Bool.and_eq_true] at h
theorem boot_ty : ∀ n ∈ typeNames, bootBuiltins (Str.ofString n) = some (.type n) ∧ n ∈ tyNames := by decide +kernel
theorem meth_rule (E : EX L c k b X W) (m : Mt) : (∃ id, Slot "list" (nmM m) id ∧ typeOf (.builtin id) = pure (.type "method_descriptor") ∧ MtR X id (rMt X.K m)) ∧
    (tupM m = true → ∃ id, Slot "tuple" (nmM m) id ∧ typeOf (.builtin id) = pure (.type "method_descriptor") ∧ MtR X id (rMtT X.K m)) := by
  cases m with
  | append => exact ⟨⟨_, PySem.F.slot_list_append, PySem.F.type_list_append, mt_append⟩, fun z => by cases z⟩
  | extend => exact ⟨⟨_, PySem.F.slot_list_extend, PySem.F.type_list_extend, mt_extend⟩, fun z => by cases z⟩
  | pop => exact ⟨⟨_, PySem.F.slot_list_pop, PySem.F.type_list_pop, mt_pop⟩, fun z => by cases z⟩
  | pop0 => exact ⟨⟨_, PySem.F.slot_list_pop, PySem.F.type_list_pop, mt_popAt⟩, fun z => by cases z⟩
  | count => exact ⟨⟨_, PySem.F.slot_list_count, PySem.F.type_list_count, mt_cntL E.u65⟩, fun _ => ⟨_, PySem.F.slot_tuple_count, PySem.F.type_tuple_count, mt_cntT E.u65⟩⟩
  | index => exact ⟨⟨_, PySem.F.slot_list_index, PySem.F.type_list_index, mt_idxL E.u65⟩, fun _ => ⟨_, PySem.F.slot_tuple_index, PySem.F.type_tuple_index, mt_idxT E.u65⟩⟩
end
set_option maxHeartbeats 1000000
theorem snd (L : Lk) (ie : IE) : Snd L ie := by
  induction ie with
  | nil =>
    refine ⟨fun E h => ?_, fun E h => ?_, fun E h => ?_, fun {c k b X W xs} E h => ?_, fun E h => ?_⟩
    · cases h
    · cases h
    · cases h
    · cases xs with
      | nil => exact ⟨rfl, pa_weak pa_nil fun σ H Q q => nilL_ok q, pa_weak pa_nil fun σ H Q q => nilA_ok q⟩
      | cons _ _ => cases h
    · cases h
  | cons e es ie ies =>
    refine ⟨fun E h => ?_, fun E h => ?_, fun E h => ?_, fun {c k b X W xs} E h => ?_, fun E h => ?_⟩
    · cases h
    · cases h
    · cases h
    · cases xs with
      | nil => cases h
      | cons x r =>
        obtain ⟨h1, h2⟩ := name_and h
        obtain ⟨p1, p2, _⟩ := ie.e E h1
        obtain ⟨q1, q2, q3⟩ := ies.l E h2
        exact ⟨by rw [List.all_cons, p1, q1]; rfl, pa_weak (pa_cons p2 q2 (star_plain p1)) fun σ H Q q => consL_ok q, pa_weak (pa_cons p2 q3 (star_plain p1)) fun σ H Q q => consA_ok q⟩
    · cases h
  | no =>
    refine ⟨fun E h => ?_, fun E h => ?_, fun {c k b X W x} E h => ?_, fun E h => ?_, fun {c k b X W xs} E h => ?_⟩
    · cases h
    · cases h
    · cases x with
      | none => exact po_weak po_none fun σ H Q q => nopart_ok q
      | some _ => cases h
    · cases h
    · cases xs with
      | nil => exact ⟨fun pins s σ H Q I q => pts_nil.run pins s σ H Q I (by
          obtain ⟨A, G, μ, ρ, S, st, q⟩ := Tr.iff.mp q
          exact q true H st PM.refl rfl)⟩
      | cons _ _ => cases h
  | var i =>
    refine snd_t (fun c => ⟨_, rfl⟩) ⟨_, rfl⟩ fun {c k b X W x} E h => ?_
    cases x <;> first | cases h | skip
    rename_i x p
    obtain ⟨h, h3⟩ := name_and h
    obtain ⟨h1, h2⟩ := name_and h
    obtain ⟨g1, g2, _⟩ := nameOk_of h3
    exact ⟨rfl, rfl, pe_weak (pe_var (by rw [E.hN]; exact eq_of_beq h1) (E.vis h2) g1 g2) fun σ H Q q => var_ok q⟩
  | cint i =>
    refine snd_t (fun c => ⟨_, rfl⟩) ⟨_, rfl⟩ fun {c k b X W x} E h => ?_
    cases x <;> first | cases h | skip
    rename_i v j p
    cases v <;> first | cases h | skip
    obtain rfl := eq_of_beq h
    exact ⟨rfl, rfl, pe_weak pe_int fun σ H Q q => const_ok (fun _ _ => .int _) q⟩
  | cbl i =>
    refine snd_t (fun c => ⟨_, rfl⟩) ⟨_, rfl⟩ fun {c k b X W x} E h => ?_
    cases x <;> first | cases h | skip
    rename_i v j p
    cases v <;> first | cases h | skip
    obtain rfl := eq_of_beq h
    exact ⟨rfl, rfl, pe_weak pe_bl fun σ H Q q => const_ok (fun _ _ => .bl _) q⟩
  | cnon =>
    refine snd_t (fun c => ⟨_, rfl⟩) ⟨_, rfl⟩ fun {c k b X W x} E h => ?_
    cases x <;> first | cases h | skip
    rename_i v j p
    cases v <;> first | cases h | skip
    exact ⟨rfl, rfl, pe_weak pe_non fun σ H Q q => const_ok (fun _ _ => .non) q⟩
  | cstr i =>
    refine snd_t (fun c => ⟨_, rfl⟩) ⟨_, rfl⟩ fun {c k b X W x} E h => ?_
    cases x <;> first | cases h | skip
    rename_i v j p
    cases v <;> first | cases h | skip
    obtain rfl := eq_of_beq h
    exact ⟨rfl, rfl, pe_weak pe_str fun σ H Q q => const_ok (fun _ _ => .str _) q⟩
  | gint y i =>
    refine snd_t (fun c => ⟨_, rfl⟩) ⟨_, rfl⟩ fun {c k b X W x} E h => ?_
    cases x <;> first | cases h | skip
    rename_i x p
    obtain ⟨h, h3⟩ := name_and h
    obtain ⟨h1, h2⟩ := name_and h
    obtain ⟨g1, g2⟩ := E.gl h2
    obtain ⟨t, ht⟩ := E.ci (x, i) (by simpa using h3)
    exact ⟨rfl, rfl, pe_weak (pe_glob (v := .int i) g1 ht ⟨t, rfl⟩ (nameOk_of g2).1) fun σ H Q q => const_ok (fun _ _ => .int _) q⟩
  | gstr y i =>
    refine snd_t (fun c => ⟨_, rfl⟩) ⟨_, rfl⟩ fun {c k b X W x} E h => ?_
    cases x <;> first | cases h | skip
    rename_i x p
    obtain ⟨h, h3⟩ := name_and h
    obtain ⟨h1, h2⟩ := name_and h
    obtain ⟨g1, g2⟩ := E.gl h2
    obtain ⟨t, ht⟩ := E.cs (x, i) (by simpa using h3)
    exact ⟨rfl, rfl, pe_weak (pe_glob (v := .str i) g1 ht ⟨t, rfl⟩ (nameOk_of g2).1) fun σ H Q q => const_ok (fun _ _ => .str _) q⟩
  | gfn y => exact snd_n (fun _ _ _ => rfl) (fun _ _ _ => rfl) (fun _ _ _ => rfl) (fun _ _ _ => rfl) fun E h => by cases h
  | bin o a a2 ia ia2 =>
    refine snd_t (fun c => ⟨_, rfl⟩) ⟨_, rfl⟩ fun {c k b X W x} E h => ?_
    cases x <;> first | cases h | skip
    rename_i x op y p
    obtain ⟨h, h3⟩ := name_and h
    obtain ⟨h1, h2⟩ := name_and h
    obtain rfl := eq_of_beq h1
    obtain ⟨r, r1, r2⟩ := bin_rule X o
    exact ⟨rfl, rfl, pe_weak (pe_op r1 (ia.e E h2).2.1 (ia2.e E h3).2.1) fun σ H Q q => op2_ok r2 (fun _ _ _ e => bop_val e) q⟩
  | neg a ia =>
    refine snd_t (fun c => ⟨_, rfl⟩) ⟨_, rfl⟩ fun {c k b X W x} E h => ?_
    cases x <;> first | cases h | skip
    rename_i op x p
    cases op <;> first | cases h | skip
    exact ⟨rfl, rfl, pe_weak (pe_un un_neg (ia.e E h).2.1) fun σ H Q q => op1_ok d_neg (fun u z e => by cases u <;> cases e; exact .inl ⟨_, rfl⟩) q⟩
  | cmp o a a2 ia ia2 =>
    refine snd_v (fun c => ⟨_, rfl⟩) rfl rfl fun {c k b X W x} E h => ?_
    cases x <;> first | cases h | skip
    rename_i x ops ys p
    rcases ops with _ | ⟨op, _ | ⟨_, _⟩⟩ <;> rcases ys with _ | ⟨y, _ | ⟨_, _⟩⟩ <;> first | cases h | skip
    obtain ⟨h, h3⟩ := name_and h
    obtain ⟨h1, h2⟩ := name_and h
    obtain rfl := eq_of_beq h1
    obtain ⟨r, r1, r2⟩ := cmp_rule E o
    have p1 := (ia.e E h2).2.1
    obtain ⟨p3, p2, _⟩ := ia2.e E h3
    refine ⟨rfl, pe_weak (pe_cmpR r1 p1 p2 (mark_plain _ p3)) fun σ H Q q => op2_ok r2 (fun _ _ _ e => blR_val e) q, ?_⟩
    exact pt_bl (pt_cmpR r1 p1 p2 (mark_plain _ p3)) op2_bl fun σ H Q q => op2_ok r2 (fun _ _ _ e => blR_val e) q
  | cmp2 o o2 a a2 a3 ia ia2 ia3 =>
    refine snd_v (fun c => ⟨_, rfl⟩) rfl rfl fun {c k b X W x} E h => ?_
    cases x <;> first | cases h | skip
    rename_i x ops ys p
    rcases ops with _ | ⟨op, _ | ⟨op2, _ | ⟨_, _⟩⟩⟩ <;> rcases ys with _ | ⟨y, _ | ⟨z, _ | ⟨_, _⟩⟩⟩ <;> first | cases h | skip
    obtain ⟨h, h5⟩ := name_and h
    obtain ⟨h, h4⟩ := name_and h
    obtain ⟨h, h3⟩ := name_and h
    obtain ⟨h1, h2⟩ := name_and h
    obtain rfl := eq_of_beq h1
    obtain rfl := eq_of_beq h2
    obtain ⟨r, r1, r2⟩ := cmp_rule E o
    obtain ⟨r', r1', r2'⟩ := cmp_rule E o2
    have p1 := (ia.e E h3).2.1
    have p2 := (ia2.e E h4).2.1
    obtain ⟨p4, p3, _⟩ := ia3.e E h5
    have hm : lastMarks [cmpOf o, cmpOf o2] [y, z] = false := mark_plain _ p4
    refine ⟨rfl, pe_weak (pe_chain r1 r1' p1 p2 p3 hm) fun σ H Q q => chain_ok r2 r2' q, ?_⟩
    refine pt_bl (pt_chain r1 r1' p1 p2 p3 hm) (fun ρ S r ρ' S' e => ?_) fun σ H Q q => chain_ok r2 r2' q
    obtain ⟨_, _, _, _, e⟩ := bind_ok e
    obtain ⟨_, _, _, _, e⟩ := bind_ok e
    obtain ⟨_, _, _, _, e⟩ := bind_ok e
    obtain ⟨_, _, _, _, e⟩ := bind_ok e
    obtain ⟨kk, _, _, _, e⟩ := bind_ok e
    cases kk with
    | false => cases e; exact ⟨false, rfl⟩
    | true =>
      obtain ⟨_, _, _, _, e⟩ := bind_ok e
      obtain ⟨_, _, _, _, e⟩ := bind_ok e
      obtain ⟨_, _, _, _, e⟩ := bind_ok e
      unfold M.ofO at e
      split at e
      · rename_i e2
        cases e
        exact blR_bl e2
      · cases e
  | and a a2 ia ia2 =>
    refine snd_v (fun c => ⟨_, rfl⟩) rfl rfl fun {c k b X W x} E h => ?_
    cases x <;> first | cases h | skip
    rename_i op xs p
    cases op <;> rcases xs with _ | ⟨x, _ | ⟨y, _ | ⟨z, r⟩⟩⟩ <;> first | cases h | skip
    · obtain ⟨h1, h2⟩ := name_and h
      obtain ⟨_, p1, p2⟩ := ia.e E h1
      obtain ⟨_, q1, q2⟩ := ia2.e E h2
      exact ⟨rfl, pe_weak (pe_andT p1 (pe_one q1)) fun σ H Q q => andT_ok q, pt_weak (pw_and p2 (pw_and1 q2)).pt fun σ H Q q => tests_ok.1 q⟩
    · obtain ⟨h1, h2⟩ := name_and h
      obtain ⟨_, p1, p2⟩ := ia.e E h1
      obtain ⟨_, q1, q2⟩ := ia2.e E h2
      exact ⟨rfl, pe_weak (pe_andT p1 q1) fun σ H Q q => andT_ok q, pt_weak (pw_and p2 ⟨fun wh => q2.run⟩).pt fun σ H Q q => tests_ok.1 q⟩
  | or a a2 ia ia2 =>
    refine snd_v (fun c => ⟨_, rfl⟩) rfl rfl fun {c k b X W x} E h => ?_
    cases x <;> first | cases h | skip
    rename_i op xs p
    cases op <;> rcases xs with _ | ⟨x, _ | ⟨y, _ | ⟨z, r⟩⟩⟩ <;> first | cases h | skip
    · obtain ⟨h1, h2⟩ := name_and h
      obtain ⟨_, p1, p2⟩ := ia.e E h1
      obtain ⟨_, q1, q2⟩ := ia2.e E h2
      exact ⟨rfl, pe_weak (pe_orT p1 (pe_one q1)) fun σ H Q q => orT_ok q, pt_weak (pw_or p2 (pw_or1 q2)).pt fun σ H Q q => tests_ok.2.1 q⟩
    · obtain ⟨h1, h2⟩ := name_and h
      obtain ⟨_, p1, p2⟩ := ia.e E h1
      obtain ⟨_, q1, q2⟩ := ia2.e E h2
      exact ⟨rfl, pe_weak (pe_orT p1 q1) fun σ H Q q => orT_ok q, pt_weak (pw_or p2 ⟨fun wh => q2.run⟩).pt fun σ H Q q => tests_ok.2.1 q⟩
  | not a ia =>
    refine snd_v (fun c => ⟨_, rfl⟩) rfl rfl fun {c k b X W x} E h => ?_
    cases x <;> first | cases h | skip
    rename_i op x p
    cases op <;> first | cases h | skip
    obtain ⟨_, p1, p2⟩ := ia.e E h
    exact ⟨rfl, pe_weak (pe_notT p1) fun σ H Q q => notT_ok q, pt_weak (pt_not p2) fun σ H Q q => (tests_ok (fb := (ev L a).t)).2.2 q⟩
  | ife t a a2 it ia ia2 =>
    refine snd_v (fun c => ⟨_, rfl⟩) rfl rfl fun {c k b X W x} E h => ?_
    cases x <;> first | cases h | skip
    obtain ⟨h, h3⟩ := name_and h
    obtain ⟨h1, h2⟩ := name_and h
    obtain ⟨_, p1, p2⟩ := it.e E h1
    obtain ⟨_, q1, q2⟩ := ia.e E h2
    obtain ⟨_, r1, r2⟩ := ia2.e E h3
    exact ⟨rfl, pe_weak (pe_ifExp p2 q1 r1) fun σ H Q q => iff_ok q, pt_weak (pt_ifE p2 q2 r2) fun σ H Q q => iff_ok q⟩
  | tup es ies =>
    refine snd_t (fun c => ⟨_, rfl⟩) ⟨_, rfl⟩ fun {c k b X W x} E h => ?_
    cases x <;> first | cases h | skip
    obtain ⟨h1, h2⟩ := name_and h
    exact ⟨rfl, rfl, pe_weak (pe_tupZ (ies.l E h1).2.1) fun σ H Q q => tup_ok (most_of (of_decide_eq_true h2)) q⟩
  | lst es ies =>
    refine snd_t (fun c => ⟨_, rfl⟩) ⟨_, rfl⟩ fun {c k b X W x} E h => ?_
    cases x <;> first | cases h | skip
    obtain ⟨h1, h2⟩ := name_and h
    exact ⟨rfl, rfl, pe_weak (pe_lst (ies.l E h1).2.1) fun σ H Q q => lst_ok (most_of (of_decide_eq_true h2)) q⟩
  | sub a i ia ii =>
    refine snd_t (fun c => ⟨_, rfl⟩) ⟨_, rfl⟩ fun {c k b X W x} E h => ?_
    cases x <;> first | cases h | skip
    obtain ⟨h1, h2⟩ := name_and h
    obtain ⟨q0, q1, _⟩ := ii.e E h2
    exact ⟨rfl, rfl, pe_weak (pe_ix (IxR.or ix_list ix_tup) (ia.e E h1).2.1 q1 (ix_plain q0)) fun σ H Q q => op2_ok d_ix (fun _ _ _ e => map_d e) q⟩
  | slc a lo hi ia ilo ihi =>
    refine snd_t (fun c => ⟨_, rfl⟩) ⟨_, rfl⟩ fun {c k b X W x} E h => ?_
    cases x <;> first | cases h | skip
    rename_i x y p
    cases y <;> first | cases h | skip
    rename_i l u st p2
    cases st <;> first | cases h | skip
    obtain ⟨h, h3⟩ := name_and h
    obtain ⟨h1, h2⟩ := name_and h
    exact ⟨rfl, rfl, pe_weak (pe_slice sl_D (ia.e E h1).2.1 (ilo.o E h2) (ihi.o E h3)) fun σ H Q q => slc_ok q⟩
  | rev a ia =>
    refine snd_t (fun c => ⟨_, rfl⟩) ⟨_, rfl⟩ fun {c k b X W x} E h => ?_
    cases x <;> first | cases h | skip
    rename_i x y p
    cases y <;> first | cases h | skip
    rename_i l u st p2
    cases l <;> cases u <;> cases st <;> first | cases h | skip
    rename_i st
    cases st <;> first | cases h | skip
    rename_i op z p3
    cases op <;> cases z <;> first | cases h | skip
    rename_i v j p4
    cases v <;> first | cases h | skip
    rename_i v
    by_cases hv : v = 1
    · subst hv
      exact ⟨rfl, rfl, pe_weak (pe_revL (ia.e E h).2.1) fun σ H Q q => op1_ok d_rev (fun u z e => by cases u <;> cases e; exact .inr ⟨_, rfl⟩) q⟩
    · exfalso
      revert h
      show ¬ _
      intro h
      have : ∀ (v : Int), v ≠ 1 → (chk c (.rev a)).e b (.Subscript x (.Slice none none (some (.UnaryOp .USub (.Constant (.int v) j p4) p3)) p2) p) = false := fun v hv => by
        show (match (Expr.Subscript x (.Slice none none (some (.UnaryOp .USub (.Constant (.int v) j p4) p3)) p2) p) with | .Subscript x (.Slice none none (some (.UnaryOp .USub (.Constant (.int 1) _ _) _)) _) _ => (chk c a).e b x | _ => false) = false
        split
        · rename_i e; cases e; exact absurd rfl hv
        · rfl
      rw [this v hv] at h
      cases h
  | attr a f ia =>
    refine snd_t (fun c => ⟨_, rfl⟩) ⟨_, rfl⟩ fun {c k b X W x} E h => ?_
    cases x <;> first | cases h | skip
    obtain ⟨h, h3⟩ := name_and h
    obtain ⟨h1, h2⟩ := name_and h
    obtain rfl := eq_of_beq h1
    obtain ⟨p0, p1, _⟩ := ia.e E h3
    exact ⟨rfl, rfl, pe_weak (pe_fld p1 (base_plain p0 h2)) fun σ H Q q => op1_ok d_attr (fun _ _ e => map_d e) q⟩
  | call kk es ies =>
    refine snd_t (fun c => ⟨_, rfl⟩) ⟨_, rfl⟩ fun {c k b X W x} E h => ?_
    cases x <;> first | cases h | skip
    rename_i fn xs kws p
    cases fn <;> cases xs <;> cases kws <;> first | cases h | skip
    rename_i x p2 y r
    obtain ⟨h, h3⟩ := name_and h
    obtain ⟨h1, h2⟩ := name_and h
    obtain ⟨g1, g2⟩ := E.gl h1
    obtain ⟨f, fd, ps, g, f1, f2, f3, f4, f5, F⟩ := E.fn kk x (lenI es) (eq_of_beq h2)
    obtain ⟨a1, _, a3⟩ := ies.l E h3
    have hv : (ev L (.call kk es)).v = (ev L es).a.bind fun as => doCall g as := by
      show ((ev L es).a.bind fun as => match L.fns kk with
        | some g => doCall g as
        | none => M.stuck) = _
      rw [f5]
    rw [hv]
    have a4 := a1
    rw [List.all_cons] at a4
    obtain ⟨a4, a5⟩ := name_and a4
    exact ⟨rfl, rfl, pe_callG F E.room E.gd f3 E.tk g1 f1 f2 a3 (fun ρ S xs ρ' S' e => by rw [eva_len L es _ _ _ _ _ e, f4]) (nameOk_of g2).1 (star_plain a4) (any_plain a5)⟩
  | new kk es ies =>
    refine snd_t (fun c => ⟨_, rfl⟩) ⟨_, rfl⟩ fun {c k b X W x} E h => ?_
    cases x <;> first | cases h | skip
    rename_i fn xs kws p
    cases fn <;> cases xs <;> cases kws <;> first | cases h | skip
    rename_i x p2 y r
    obtain ⟨h, h3⟩ := name_and h
    obtain ⟨h1, h2⟩ := name_and h
    obtain ⟨g1, g2⟩ := E.gl h1
    obtain ⟨C, f, fd, ps, g, j, f1, f2, f3, f4, f5, f6, f7, F⟩ := E.nw kk x (lenI es) (eq_of_beq h2)
    obtain ⟨a1, _, a3⟩ := ies.l E h3
    have hv : (ev L (.new kk es)).v = (ev L es).a.bind fun as => doNew g as := by
      show ((ev L es).a.bind fun as => match L.cls kk with
        | some g => doNew g as
        | none => M.stuck) = _
      rw [f6]
    rw [hv]
    have a4 := a1
    rw [List.all_cons] at a4
    obtain ⟨a4, a5⟩ := name_and a4
    exact ⟨rfl, rfl, pe_newG f3 F (E.room.mono f7) E.gd f4 E.tk g1 f1 f2 a3 (fun ρ S xs ρ' S' e => eva_len L es _ _ _ _ _ e) f5 (nameOk_of g2).1 (star_plain a4) (any_plain a5)⟩
  | b1 t a ia =>
    refine snd_t (fun c => ⟨_, rfl⟩) ⟨_, rfl⟩ fun {c k b X W x} E h => ?_
    cases x <;> first | cases h | skip
    rename_i fn xs kws p
    cases fn <;> rcases xs with _ | ⟨y, _ | ⟨_, _⟩⟩ <;> cases kws <;> first | cases h | skip
    rename_i x p2
    obtain ⟨h, h3⟩ := name_and h
    obtain ⟨h1, h2⟩ := name_and h
    obtain ⟨g1, g2, g3⟩ := E.blt h2
    obtain rfl := eq_of_beq h1
    obtain ⟨n1, _, n3⟩ := nameOk_of g3
    obtain ⟨p0, p1, _⟩ := ia.e E h3
    obtain ⟨r, r1, r2⟩ := b1_rule E t
    have ha := pa_cons p1 pa_nil (star_plain p0)
    rcases r2 with ⟨id, e1, e2⟩ | ⟨T, e1, e2⟩
    · exact ⟨rfl, rfl, pe_weak (pe_callB e2 g1 g2 e1 ha n3 n1 (star_plain p0) rfl) fun σ H Q q => op1_ok r1 (fun _ _ e => b1_val e) q⟩
    · exact ⟨rfl, rfl, pe_weak (pe_callTy e2 g1 g2 e1 ha n3 n1 (star_plain p0) rfl) fun σ H Q q => op1_ok r1 (fun _ _ e => b1_val e) q⟩
  | b2 t a a2 ia ia2 =>
    refine snd_t (fun c => ⟨_, rfl⟩) ⟨_, rfl⟩ fun {c k b X W x} E h => ?_
    cases x <;> first | cases h | skip
    rename_i fn xs kws p
    cases fn <;> rcases xs with _ | ⟨y, _ | ⟨z, _ | ⟨_, _⟩⟩⟩ <;> cases kws <;> first | cases h | skip
    rename_i x p2
    obtain ⟨h, h4⟩ := name_and h
    obtain ⟨h, h3⟩ := name_and h
    obtain ⟨h1, h2⟩ := name_and h
    obtain ⟨g1, g2, g3⟩ := E.blt h2
    obtain rfl := eq_of_beq h1
    obtain ⟨n1, _, n3⟩ := nameOk_of g3
    obtain ⟨p0, p1, _⟩ := ia.e E h3
    obtain ⟨q0, q1, _⟩ := ia2.e E h4
    obtain ⟨r, r1, id, e1, e2⟩ := b2_rule E t
    have ha := pa_cons p1 (pa_cons q1 pa_nil (star_plain q0)) (star_plain p0)
    exact ⟨rfl, rfl, pe_weak (pe_callB e2 g1 g2 e1 ha n3 n1 (star_plain p0) (any_plain (by rw [List.all_cons, q0]; rfl))) fun σ H Q q => op2_ok r1 (fun _ _ _ e => b2_val e) q⟩
  | isi a t ia =>
    refine snd_t (fun c => ⟨_, rfl⟩) ⟨_, rfl⟩ fun {c k b X W x} E h => ?_
    cases x <;> first | cases h | skip
    rename_i fn xs kws p
    cases fn <;> rcases xs with _ | ⟨y, _ | ⟨z, _ | ⟨_, _⟩⟩⟩ <;> cases kws <;> first | cases h | skip
    rename_i x p2
    obtain ⟨h, h4⟩ := name_and h
    obtain ⟨h, h3⟩ := name_and h
    obtain ⟨h1, h2⟩ := name_and h
    obtain ⟨g1, g2, g3⟩ := E.blt h2
    obtain rfl := eq_of_beq h1
    obtain ⟨n1, _, n3⟩ := nameOk_of g3
    obtain ⟨p0, p1, _⟩ := ia.e E h3
    have hb : bootBuiltins (Str.ofString "isinstance") = some (.builtin "isinstance") := by decide +kernel
    cases z <;> cases t <;> first | cases h4 | skip
    · rename_i w pw n
      obtain ⟨h4, h6⟩ := name_and h4
      obtain ⟨h4, h5⟩ := name_and h4
      obtain ⟨k1, k2, k3⟩ := E.blt h6
      obtain rfl := eq_of_beq h5
      obtain ⟨m1, _, m3⟩ := nameOk_of k3
      obtain ⟨b1, b2⟩ := boot_ty n (by simpa using h4)
      have q1 : PE X (.Name (Str.ofString n) pw) (tC (.ty n)) := pe_bltn k1 k2 b1 rfl m3 m1
      have ha := pa_cons p1 (pa_cons q1 pa_nil rfl) (star_plain p0)
      exact ⟨rfl, rfl, pe_weak (pe_callB call_isi g1 g2 hb ha n3 n1 (star_plain p0) rfl) fun σ H Q q => op1_ok (d_isiT b2) (fun _ _ e => blR_val e) q⟩
    · rename_i w pw n
      obtain ⟨h4, h6⟩ := name_and h4
      obtain ⟨h4, h5⟩ := name_and h4
      obtain ⟨k1, k2⟩ := E.gl h5
      obtain rfl := eq_of_beq h4
      obtain ⟨C, hC⟩ := E.cl w (by simpa using h6)
      have q1 : PE X (.Name w pw) (tC (.ref C)) := pe_glob k1 hC.1 rfl (nameOk_of k2).1
      have ha := pa_cons p1 (pa_cons q1 pa_nil rfl) (star_plain p0)
      exact ⟨rfl, rfl, pe_weak (pe_callB call_isi g1 g2 hb ha n3 n1 (star_plain p0) rfl) fun σ H Q q => op1_ok (d_isiC hC) (fun _ _ e => blR_val e) q⟩
  | meth m o es io ies =>
    refine snd_t (fun c => ⟨_, rfl⟩) ⟨_, rfl⟩ fun {c k b X W x} E h => ?_
    cases x <;> first | cases h | skip
    rename_i fn xs kws p
    cases fn <;> first | (cases xs <;> cases kws <;> cases h; done) | skip
    cases kws with
    | cons _ _ => cases xs <;> cases h
    | nil =>
    rename_i x f pa
    cases xs with
    | nil =>
      obtain ⟨h, h5⟩ := name_and h
      obtain ⟨h, h4⟩ := name_and h
      obtain ⟨h, h3⟩ := name_and h
      obtain ⟨h1, h2⟩ := name_and h
      obtain rfl := eq_of_beq h1
      obtain ⟨p0, p1, _⟩ := io.e E h4
      obtain rfl := chk_nil h5
      obtain ⟨⟨id, s1, s2, s3⟩, s4⟩ := meth_rule E m
      exact ⟨rfl, rfl, pe_weak (pe_bmD0 s1 s2 s3 s4 p1 (fun σ H Q q => nilL_ok q) (base_plain p0 h2) h3) fun σ H Q q => meth_ok q⟩
    | cons y r =>
      obtain ⟨h, h6⟩ := name_and h
      obtain ⟨h, h5⟩ := name_and h
      obtain ⟨h, h4⟩ := name_and h
      obtain ⟨h, h3⟩ := name_and h
      obtain ⟨h1, h2⟩ := name_and h
      obtain rfl := eq_of_beq h1
      obtain ⟨p0, p1, _⟩ := io.e E h4
      obtain ⟨a1, a2, _⟩ := ies.l E h5
      have a3 := a1
      rw [List.all_cons] at a3
      obtain ⟨a3, a4⟩ := name_and a3
      obtain ⟨⟨id, s1, s2, s3⟩, s4⟩ := meth_rule E m
      have hlen : (y :: r).length < 20 := by rw [chk_len es h5]; exact of_decide_eq_true h6
      refine ⟨rfl, rfl, pe_weak (pe_bmD s1 s2 s3 s4 p1 a2 (base_plain p0 h2) ?_ h3 (star_plain a3) (any_plain a4)) fun σ H Q q => meth_ok q⟩
      rw [all_plain a1]
      exact decide_eq_true (show (y :: r).length + 0 + 0 < 30 by omega)
  | lc own tg it ifs elt iit iifs ielt =>
    refine snd_t (fun c => ⟨_, rfl⟩) ⟨_, rfl⟩ fun {c k b X W x} E h => ?_
    cases x <;> first | cases h | skip
    rename_i el gens scope p
    rcases gens with _ | ⟨⟨te, ie, fs, a⟩, _ | ⟨_, _⟩⟩ <;> first | cases h | skip
    obtain ⟨h, h7⟩ := name_and h
    obtain ⟨h, h6⟩ := name_and h
    obtain ⟨h, h5⟩ := name_and h
    obtain ⟨h, h4⟩ := name_and h
    obtain ⟨h, h3⟩ := name_and h
    obtain ⟨h1, h2⟩ := name_and h
    obtain rfl := eq_of_beq h1
    obtain ⟨i1, i2⟩ := iit.i E h2
    have ok : BlkOk X.N X.env.scope scope (ownP c own) := blkOk_by (by rw [E.hN, E.sc]; exact h3)
    have hown : (ownP c own).map (·.2) = own := by
      unfold ownP
      rw [List.map_map]
      exact List.map_id own
    refine ⟨rfl, rfl, pe_weak (pe_lc (g := gTg X.K tg) (tt := tT (gx X) W0 (ev L ifs).t) (te := tE (gx X) W0 (ev L elt).v) E.calm E.nd i1 ok (fun s H C cl fp => tg_pg (E.blk scope s H C cl fp) h5) (fun s H C cl fp => iifs.f (E.blk scope s H C cl fp) h6)
      (fun s H C cl fp => (ielt.e (E.blk scope s H C cl fp) h7).2.1) (i2 _)) fun σ H Q q => ?_⟩
    rw [hown]
    exact lc_ok (by simpa using h4) q
  | lc2 own own1 tg it ifs tg1 it1 ifs1 elt iit iifs iit1 iifs1 ielt =>
    refine snd_t (fun c => ⟨_, rfl⟩) ⟨_, rfl⟩ fun {c k b X W x} E h => ?_
    cases x <;> first | cases h | skip
    rename_i el gens scope p
    rcases gens with _ | ⟨⟨te, ie, fs, a⟩, _ | ⟨⟨te1, ie1, fs1, a1⟩, _ | ⟨_, _⟩⟩⟩ <;> first | cases h | skip
    obtain ⟨h, h13⟩ := name_and h
    obtain ⟨h, h12⟩ := name_and h
    obtain ⟨h, h11⟩ := name_and h
    obtain ⟨h, h10⟩ := name_and h
    obtain ⟨h, h9⟩ := name_and h
    obtain ⟨h, h8⟩ := name_and h
    obtain ⟨h, h7⟩ := name_and h
    obtain ⟨h, h6⟩ := name_and h
    obtain ⟨h, h5⟩ := name_and h
    obtain ⟨h, h4⟩ := name_and h
    obtain ⟨h, h3⟩ := name_and h
    obtain ⟨h1, h2⟩ := name_and h
    obtain rfl := eq_of_beq h1
    obtain rfl := eq_of_beq h2
    obtain ⟨i1, i2⟩ := iit.i E h3
    have ok : BlkOk X.N X.env.scope scope (ownP c own) := blkOk_by (by rw [E.hN, E.sc]; exact h4)
    have hown : (ownP c own).map (·.2) = own := by
      unfold ownP
      rw [List.map_map]
      exact List.map_id own
    refine ⟨rfl, rfl, pe_weak (pe_lc2 (g := gTg X.K tg) (tt := tT (gx X) W0 (ev L ifs).t) (wi1 := tI tg1 (gx X) W0 (ev L it1).i) (g1 := gTg X.K tg1) (tt1 := tT (gx X) W0 (ev L ifs1).t) (te := tE (gx X) W0 (ev L elt).v) (vs1 := own1) E.calm E.nd i1 ok
      (by rw [hown]; simpa using h7) (fun s H C cl fp => tg_pg (E.blk scope s H C cl fp) h8) (fun s H C cl fp => iifs.f (E.blk scope s H C cl fp) h9) (fun s H C cl fp => (iit1.i (E.blk scope s H C cl fp) h10).1)
      (fun s H C cl fp => tg_pg (E.blk scope s H C cl fp) h11) (fun s H C cl fp => iifs1.f (E.blk scope s H C cl fp) h12) (fun s H C cl fp => (ielt.e (E.blk scope s H C cl fp) h13).2.1) (i2 _) (iit1.i (E.blk scope X.s_0 X.H_0 0 [] []) h10).2) fun σ H Q q => ?_⟩
    rw [hown]
    exact lc2_ok (by simpa using h5) (by simpa using h6) q
  | rng1 a ia =>
    refine snd_n (fun _ _ _ => rfl) (fun _ _ _ => rfl) (fun _ _ _ => rfl) (fun _ _ _ => rfl) fun {c k b X W tg te x} E h => ?_
    cases x <;> first | cases h | skip
    rename_i fn xs kws p
    cases fn <;> rcases xs with _ | ⟨y, _ | ⟨_, _⟩⟩ <;> cases kws <;> first | cases h | skip
    rename_i x p2
    obtain ⟨h, h3⟩ := name_and h
    obtain ⟨h1, h2⟩ := name_and h
    obtain ⟨g1, g2, g3⟩ := E.blt h2
    obtain rfl := eq_of_beq h1
    obtain ⟨p0, p1, _⟩ := ia.e E h3
    exact ⟨pi_weak (pi_range1 g1 g2 (pa_cons p1 pa_nil (star_plain p0)) (star_plain p0)) fun σ H Q q => rng1_ok q, folded_plain rfl⟩
  | rng2 a a2 ia ia2 =>
    refine snd_n (fun _ _ _ => rfl) (fun _ _ _ => rfl) (fun _ _ _ => rfl) (fun _ _ _ => rfl) fun {c k b X W tg te x} E h => ?_
    cases x <;> first | cases h | skip
    rename_i fn xs kws p
    cases fn <;> rcases xs with _ | ⟨y, _ | ⟨z, _ | ⟨_, _⟩⟩⟩ <;> cases kws <;> first | cases h | skip
    rename_i x p2
    obtain ⟨h, h4⟩ := name_and h
    obtain ⟨h, h3⟩ := name_and h
    obtain ⟨h1, h2⟩ := name_and h
    obtain ⟨g1, g2, g3⟩ := E.blt h2
    obtain rfl := eq_of_beq h1
    obtain ⟨p0, p1, _⟩ := ia.e E h3
    obtain ⟨q0, q1, _⟩ := ia2.e E h4
    refine ⟨pi_weak (pi_range2 g1 g2 (pa_cons p1 (pa_cons q1 pa_nil (star_plain q0)) (star_plain p0)) ?_ (star_plain q0)) fun σ H Q q => rng2_ok q, folded_plain rfl⟩
    rw [star_plain p0, star_plain q0]; rfl
  | enum a ia =>
    refine snd_n (fun _ _ _ => rfl) (fun _ _ _ => rfl) (fun _ _ _ => rfl) (fun _ _ _ => rfl) fun {c k b X W tg te x} E h => ?_
    cases te <;> cases x <;> first | cases h | skip
    rename_i fn xs kws p
    cases fn <;> rcases xs with _ | ⟨y, _ | ⟨_, _⟩⟩ <;> cases kws <;> first | cases h | skip
    rename_i x p2
    obtain ⟨h, h4⟩ := name_and h
    obtain ⟨h, h3⟩ := name_and h
    obtain ⟨h1, h2⟩ := name_and h
    obtain ⟨g1, g2, g3⟩ := E.blt h3
    obtain rfl := eq_of_beq h2
    obtain ⟨p0, p1, _⟩ := ia.e E h4
    cases tg with
    | one i => cases h1
    | many is => exact ⟨pi_weak (pi_enumD g1 g2 (pa_cons p1 pa_nil (star_plain p0)) (star_plain p0)) fun σ H Q q => enum_ok q, folded_plain rfl⟩
  | zip2 a a2 ia ia2 =>
    refine snd_n (fun _ _ _ => rfl) (fun _ _ _ => rfl) (fun _ _ _ => rfl) (fun _ _ _ => rfl) fun {c k b X W tg te x} E h => ?_
    cases te <;> cases x <;> first | cases h | skip
    rename_i fn xs kws p
    cases fn <;> rcases xs with _ | ⟨y, _ | ⟨z, _ | ⟨_, _⟩⟩⟩ <;> cases kws <;> first | cases h | skip
    rename_i x p2
    obtain ⟨h, h5⟩ := name_and h
    obtain ⟨h, h4⟩ := name_and h
    obtain ⟨h, h3⟩ := name_and h
    obtain ⟨h1, h2⟩ := name_and h
    obtain ⟨g1, g2, g3⟩ := E.blt h3
    obtain rfl := eq_of_beq h2
    obtain ⟨p0, p1, _⟩ := ia.e E h4
    obtain ⟨q0, q1, _⟩ := ia2.e E h5
    cases tg with
    | one i => cases h1
    | many is => exact ⟨pi_weak (pi_zipD g1 g2 (pa_cons p1 (pa_cons q1 pa_nil (star_plain q0)) (star_plain p0)) (star_plain p0) (any_plain (by rw [List.all_cons, q0]; rfl))) fun σ H Q q => zip_ok q, folded_plain rfl⟩
  | zip3 => exact snd_n (fun _ _ _ => rfl) (fun _ _ _ => rfl) (fun _ _ _ => rfl) (fun _ _ _ => rfl) fun E h => by cases h
  | tupr a ia =>
    refine snd_t (fun c => ⟨_, rfl⟩) ⟨_, rfl⟩ fun {c k b X W x} E h => ?_
    cases x <;> first | cases h | skip
    rename_i fn xs kws p
    cases fn <;> rcases xs with _ | ⟨y, _ | ⟨_, _⟩⟩ <;> cases kws <;> first | cases h | skip
    rename_i x p2
    obtain ⟨h, hr⟩ := name_and h
    obtain ⟨h1, h2⟩ := name_and h
    cases y <;> first | cases hr | skip
    rename_i fn xs kws p3
    cases fn <;> rcases xs with _ | ⟨y, _ | ⟨_, _⟩⟩ <;> cases kws <;> first | cases hr | skip
    rename_i x2 p4
    obtain ⟨hr, h5⟩ := name_and hr
    obtain ⟨h3, h4⟩ := name_and hr
    obtain ⟨g1, g2, g3⟩ := E.blt h2
    obtain ⟨k1, k2, k3⟩ := E.blt h4
    obtain rfl := eq_of_beq h1
    obtain rfl := eq_of_beq h3
    obtain ⟨p0, p1, _⟩ := ia.e E h5
    exact ⟨rfl, rfl, pe_weak (pe_tupRgZ E.calm g1 g2 (prg_1 k1 k2 p1 (star_plain p0)) rfl) fun σ H Q q => tupr_ok q⟩
  | scut i hi =>
    refine snd_t (fun c => ⟨_, rfl⟩) ⟨_, rfl⟩ fun {c k b X W x} E h => ?_
    cases x <;> first | cases h | skip
    rename_i x y p
    cases x <;> cases y <;> first | cases h | skip
    rename_i x px l u st p2
    cases l <;> cases u <;> cases st <;> first | cases h | skip
    rename_i u
    obtain ⟨ha, h5⟩ := name_and h
    obtain ⟨hb, h4⟩ := name_and ha
    obtain ⟨hc, h3⟩ := name_and hb
    obtain ⟨h1, h2⟩ := name_and hc
    obtain ⟨j, p3, rfl⟩ := intC_is h4
    obtain ⟨n1, n2, _⟩ := nameOk_of h3
    exact ⟨rfl, rfl, pe_weak (pe_slice sl_D (pe_var (by rw [E.hN]; exact eq_of_beq h1) (E.vis h2) n1 n2) po_none (po_some pe_int)) fun σ H Q q => scut_ok (of_decide_eq_true h5) q⟩
end DL
end

section
/-! The data layer, part 17: statements. -/
namespace DL
open PySem PySem.Spec PyProof.Rows L2

/-- slot 0 stays -/
def Zok (z : Option V) (σ : L2.St) : Prop := ∀ v, z = some v → σ[0]? = some (some v)
theorem Zok.set {z : Option V} {σ : L2.St} {i : Nat} {v : Option V} (h : Zok z σ) (hi : z ≠ none → i ≠ 0) : Zok z (σ.set i v) := fun w e => by
  rw [List.getElem?_set_ne (hi (by rw [e]; exact fun q => by cases q))]
  exact h w e
/-- how a statement's end stands -/
def EndS (mg : Gm) (W : WX) (z : Option V) (A : Addr → Prop) (G : Hp) (μ : List Addr) (D : Ends) : Out Fl → Prop
  | .ok fl ρ' S' => ∀ ν σ' H', Zok z σ' → SR mg A G (μ ++ ν) σ' H' ρ' S' → match fl with
    | .next => D.nx σ' H'
    | .brk => D.bk σ' H'
    | .cont => D.ct σ' H'
    | .ret x => ∀ v, rE mg A G H' ρ' S' (μ ++ ν) σ' v x → D.rt v H'
  | .err c fs ρ' S' => ∀ ν cls d σ' H', SR mg A G (μ ++ ν) σ' H' ρ' S' → ExcR mg H' (Av A (μ ++ ν) σ' ρ') c fs cls d → W cls d σ' H'
  | .stuck => False
def tS (mg : Gm) (W : WX) (z : Option V) (f : M Fl) : TS := fun D σ H => ∃ A G μ ρ S, Zok z σ ∧ SR mg A G μ σ H ρ S ∧ EndS mg W z A G μ D (f ρ S)
section
variable {α β : Type} {mg : Gm} {W : WX} {z : Option V} {rel : (Addr → Prop) → Hp → Hp → List Sl → Store → List Addr → L2.St → β → α → Prop} {A : Addr → Prop} {G : Hp} {μ : List Addr} {σ : L2.St} {H : Hp} {ρ : List Sl} {S : Store} {D : Ends}
/-- a first step, then the rest of a statement -/
theorem Tr.seqS {f : M α} {g : α → M Fl} {R : β → Hp → Prop} (s : SR mg A G μ σ H ρ S) (h : EndS mg W z A G μ D ((f.bind g) ρ S))
    (k : ∀ a ρ' S' b H', SR mg A G μ σ H' ρ' S' → rel A G H' ρ' S' μ σ b a → EndS mg W z A G μ D (g a ρ' S') → R b H') : Tr mg W rel f σ H R := by
  refine Tr.iff.mpr ⟨A, G, μ, ρ, S, s, ?_⟩
  unfold M.bind at h
  cases e : f ρ S with
  | ok a ρ' S' =>
    rw [e] at h
    exact fun b H' s' _ r => k a ρ' S' b H' s' r h
  | err c fs ρ' S' =>
    rw [e] at h
    intro cls d H' s' x
    have h := h [] cls d σ H'
    rw [List.append_nil] at h
    exact h s' x
  | stuck => rw [e] at h; exact h
/-- more lists of the store: what is wanted still -/
theorem EndS.more {ν : List Addr} {o : Out Fl} (h : EndS mg W z A G μ D o) : EndS mg W z A G (μ ++ ν) D o := by
  cases o with
  | ok fl ρ' S' =>
    intro ν' σ' H' hz s
    rw [List.append_assoc] at s
    have h := h (ν ++ ν') σ' H' hz s
    cases fl with
    | ret x =>
      intro v r
      rw [List.append_assoc] at r
      exact h v r
    | _ => exact h
  | err c fs ρ' S' =>
    intro ν' cls d σ' H' s
    rw [List.append_assoc] at s ⊢
    exact h (ν ++ ν') cls d σ' H' s
  | stuck => exact h
theorem EndS.nx {ρ' : List Sl} {S' : Store} (h : EndS mg W z A G μ D (.ok .next ρ' S')) {ν : List Addr} {σ' : L2.St} {H' : Hp} (hz : Zok z σ') (s : SR mg A G (μ ++ ν) σ' H' ρ' S') : D.nx σ' H' := h ν σ' H' hz s
theorem EndS.nx0 {ρ' : List Sl} {S' : Store} (h : EndS mg W z A G μ D (.ok .next ρ' S')) {σ' : L2.St} {H' : Hp} (hz : Zok z σ') (s : SR mg A G μ σ' H' ρ' S') : D.nx σ' H' := h [] σ' H' hz (by rw [List.append_nil]; exact s)
/-- a value goes into a slot -/
theorem setK_ok {i : Nat} {k : Vk} {r : R} {v : V} (s : SR mg A G μ σ H ρ S) (q : rE mg A G H ρ S μ σ v r) :
    (∃ ρ' S' ν, setK i k r ρ S = .ok () ρ' S' ∧ SR mg A G (μ ++ ν) (σ.set i (some v)) H ρ' S') ∨ setK i k r ρ S = .stuck := by
  have dcase : ∀ r, RR mg G H (Av A μ σ ρ) μ σ v r → ((∃ ρ' S' ν, ((asD r).bind fun d => setSl i (.d d)) ρ S = .ok () ρ' S' ∧ SR mg A G (μ ++ ν) (σ.set i (some v)) H ρ' S') ∨ ((asD r).bind fun d => setSl i (.d d)) ρ S = .stuck) := by
    intro r q
    rcases asD_ok s q with ⟨d, ρ1, e, s1, _, rd⟩ | e
    · rcases setSl_cases (ρ := ρ1) (S := S) i (.d d) with ⟨hi, e2⟩ | e2
      · refine .inl ⟨_, S, [], by simp only [M.bind, e]; exact e2, ?_⟩
        rw [List.append_nil]
        exact s1.put0 hi rfl ⟨v, rfl, rd⟩
      · exact .inr (by simp only [M.bind, e]; exact e2)
    · exact .inr (by simp only [M.bind, e])
  have locase : ∀ l, RR mg G H (Av A μ σ ρ) μ σ v (.loc l) → (∃ ρ' S' ν, setSl i (.loc l) ρ S = .ok () ρ' S' ∧ SR mg A G (μ ++ ν) (σ.set i (some v)) H ρ' S') ∨ setSl i (.loc l) ρ S = .stuck := by
    intro l q
    rcases setSl_cases (ρ := ρ) (S := S) i (.loc l) with ⟨hi, e2⟩ | e2
    · obtain ⟨a, rfl, h⟩ := q
      refine .inl ⟨_, S, [], e2, ?_⟩
      rw [List.append_nil]
      exact s.put0 hi rfl ⟨a, rfl, h⟩
    · exact .inr e2
  cases r with
  | lam g => obtain ⟨f, _, z⟩ := q; exact z.elim
  | loc l => cases k <;> exact locase l q
  | d x => cases k <;> exact dcase (.d x) (rE.rr q)
  | scr ns => cases k <;> exact dcase (.scr ns) (rE.rr q)
  | own j => cases k <;> exact dcase (.own j) (rE.rr q)
  | fresh xs =>
    cases k with
    | val => exact dcase _ q.1
    | own =>
      obtain ⟨⟨p, vs, rfl, e1, r1, n1, g1⟩, al⟩ := q
      rcases setSl_cases (ρ := ρ) (S := S) i (.own xs) with ⟨hi, e2⟩ | e2
      · refine .inl ⟨_, S, [], e2, ?_⟩
        rw [List.append_nil]
        refine (al p rfl).putOwn hi (fun z => n1 (.inl z)) g1 e1 (r1.keep (fun _ _ e _ => e) fun a o _ z => ?_)
        rcases z with (z | z) | z
        · exact .inl (.inl z)
        · exact .inr z
        · exact .inl (.inr z)
      · exact .inr e2
    | loc =>
      obtain ⟨⟨p, vs, rfl, e1, r1, n1, g1⟩, al⟩ := q
      by_cases hi : i < ρ.length
      · refine .inl ⟨ρ.set i (.loc S.length), S ++ [xs], [p], ?_, ?_⟩
        · show (if i < ρ.length then Out.ok () (ρ.set i (.loc S.length)) (S ++ [xs]) else .stuck) = _
          rw [if_pos hi]
        refine (al p rfl).putLoc hi (fun z => n1 (.inl z)) g1 e1 (r1.keep (fun _ _ e _ => e) fun a o _ z => ?_)
        rcases z with (z | z) | z
        · exact .inl (.inl z)
        · exact .inr z
        · exact .inl (.inr z)
      · refine .inr ?_
        show (if i < ρ.length then Out.ok () (ρ.set i (.loc S.length)) (S ++ [xs]) else .stuck) = _
        rw [if_neg hi]
end
section
variable {mg : Gm} {W : WX} {z : Option V} {σ : L2.St} {H : Hp} {D : Ends}
theorem s_set {i : Nat} {k : Vk} {fe : M R} (h0 : z ≠ none → i ≠ 0) (h : tS mg W z (fe.bind fun x => (setK i k x).bind fun _ => M.pure .next) D σ H) : tAsg (tE mg W fe) (gName i) D σ H := by
  obtain ⟨A, G, μ, ρ, S, hz, s, h⟩ := h
  refine Tr.seqS s h fun r ρ1 S1 v H1 s1 q h1 => ?_
  rcases setK_ok (i := i) (k := k) s1 q with ⟨ρ', S', ν, e, s2⟩ | e
  · simp only [M.bind, e] at h1
    exact h1.nx (hz.set h0) s2
  · simp only [M.bind, e] at h1; exact h1.elim
theorem Zok.tg {z : Option V} {σ σ' : L2.St} {is : List Nat} (h : Zok z σ) (h0 : z ≠ none → 0 ∉ is) (hw : ∀ us : List Nat, (∀ i ∈ is, i ∈ us) → wipe σ' us = wipe σ us) : Zok z σ' := fun v e => by
  have n : 0 ∉ is := h0 (by rw [e]; exact fun q => by cases q)
  have e1 := congrArg (fun l => l[0]?) (hw is fun _ z => z)
  simp only [wipe_get] at e1
  rw [if_neg fun q => n q.1, if_neg fun q => n q.1] at e1
  rw [e1]; exact h v e
theorem s_setT {is : List Nat} {fe : M R} (h0 : z ≠ none → 0 ∉ is) (h : tS mg W z (fe.bind fun x => (asD x).bind fun d => (bindTg (.many is) d).bind fun _ => M.pure .next) D σ H) : tAsg (tE mg W fe) (gTg mg.K (.many is)) D σ H := by
  obtain ⟨A, G, μ, ρ, S, hz, s, h⟩ := h
  refine Tr.seqS s h fun r ρ1 S1 v H1 s1 q h1 => ?_
  rcases asD_ok s1 q.rr with ⟨d, ρ2, e, s2, _, rd⟩ | e
  · simp only [M.bind, e] at h1
    rcases tg_ok (.many is) s2 (YR.of rd) with ⟨ρ3, e3, σ3, s3, _, hw, q3⟩ | e3
    · simp only [e3] at h1
      exact q3 _ (h1.nx0 (hz.tg h0 hw) s3)
    · simp only [e3] at h1; exact h1.elim
  · simp only [M.bind, e] at h1; exact h1.elim
theorem s_expr {fe : M R} (h : tS mg W z (fe.bind fun _ => M.pure .next) D σ H) : tDrop (tE mg W fe) D σ H := by
  obtain ⟨A, G, μ, ρ, S, hz, s, h⟩ := h
  exact Tr.seqS s h fun r ρ1 S1 v H1 s1 q h1 => h1.nx0 hz s1
theorem s_ret {fe : M R} (h : tS mg W z (fe.bind fun x => M.pure (.ret x)) D σ H) : tRet (tE mg W fe) D σ H := by
  obtain ⟨A, G, μ, ρ, S, hz, s, h⟩ := h
  refine Tr.seqS s h fun r ρ1 S1 v H1 s1 q h1 => ?_
  have h1 := h1 [] σ H1
  rw [List.append_nil] at h1
  exact h1 hz s1 v q
theorem s_retN (h : tS mg W z (M.pure (.ret (.d .non))) D σ H) : tRetN D σ H := by
  obtain ⟨A, G, μ, ρ, S, hz, s, h⟩ := h
  have h1 := h [] σ H
  rw [List.append_nil] at h1
  exact h1 hz s .non (show Rep mg H (Av A μ σ ρ) .non .non from .non)
theorem s_if {c : M Bool} {f g : M Fl} (h : tS mg W z (iff c f g) D σ H) : tIfS (tT mg W c) (tS mg W z f) (tS mg W z g) D σ H := by
  obtain ⟨A, G, μ, ρ, S, hz, s, h⟩ := h
  refine Tr.seqS s h fun r ρ1 S1 v H1 s1 q h1 => ?_
  obtain rfl : v = r := q
  cases v with
  | true => simp only [if_true] at h1 ⊢; exact ⟨A, G, μ, ρ1, S1, hz, s1, h1⟩
  | false => simp only [Bool.false_eq_true, if_false] at h1 ⊢; exact ⟨A, G, μ, ρ1, S1, hz, s1, h1⟩
theorem s_nil (h : tS mg W z (M.pure .next) D σ H) : tNext D σ H := by
  obtain ⟨A, G, μ, ρ, S, hz, s, h⟩ := h
  exact h.nx0 hz s
/-- a statement, then more -/
theorem s_cons {f g : M Fl} (h : tS mg W z (f.bind fun x => match x with
    | .next => g
    | x => M.pure x) D σ H) : tSeq (tS mg W z f) (tS mg W z g) D σ H := by
  obtain ⟨A, G, μ, ρ, S, hz, s, h⟩ := h
  refine ⟨A, G, μ, ρ, S, hz, s, ?_⟩
  unfold M.bind at h
  cases e : f ρ S with
  | ok fl ρ' S' =>
    rw [e] at h
    intro ν σ' H' hz' s'
    cases fl with
    | next => exact ⟨A, G, μ ++ ν, ρ', S', hz', s', EndS.more h⟩
    | brk => exact h ν σ' H' hz' s'
    | cont => exact h ν σ' H' hz' s'
    | ret x => exact h ν σ' H' hz' s'
  | err c fs ρ' S' => rw [e] at h; exact h
  | stuck => rw [e] at h; exact h
end
end DL
end

section
/-! The data layer, part 18: loops; a list's item, an object's field is written. -/
namespace DL
open PySem PySem.Spec PyProof.Rows L2
section
variable {mg : Gm} {W : WX} {z : Option V} {A : Addr → Prop} {G : Hp} {μ : List Addr} {σ : L2.St} {H : Hp} {ρ : List Sl} {S : Store} {D : Ends}
/-- what stood at a loop's start, still stands -/
theorem since {A0 : Addr → Prop} {μ1 : List Addr} {σ1 : L2.St} {H1 : Hp} {ρ1 : List Sl} {S1 : Store} (s : SR mg A (fullG H μ σ ρ) μ1 σ1 H1 ρ1 S1) :
    (∀ a o, H a = some o → ¬ Av A μ σ ρ a → H1 a = some o) ∧ ∀ a o, H a = some o → Av A μ1 σ1 ρ1 a → Av A μ σ ρ a := by
  refine ⟨fun a o e n => (s.gd a o (fullG_of e (fun z => n (.inr (.inl z))) fun z => n (.inr (.inr z)))).1, fun a o e z => ?_⟩
  by_cases h1 : a ∈ μ
  · exact .inr (.inl h1)
  · by_cases h2 : Pv σ ρ a
    · exact .inr (.inr h2)
    · obtain ⟨_, g2, g3⟩ := s.gd a o (fullG_of e h1 h2)
      rcases z with z | z | z
      · exact .inl z
      · exact absurd z g2
      · exact absurd z g3
theorem EndS.lessG {G' : Hp} {o : Out Fl} (hG : ∀ a o, G a = some o → G' a = some o) (h : EndS mg W z A G μ D o) : EndS mg W z A G' μ D o := by
  cases o with
  | ok fl ρ' S' =>
    intro ν σ' H' hz s
    have h := h ν σ' H' hz (s.weakG hG)
    cases fl with
    | ret x => intro v r; exact h v (RelM.less hG r)
    | _ => exact h
  | err c fs ρ' S' => exact fun ν cls d σ' H' s => h ν cls d σ' H' (s.weakG hG)
  | stuck => exact h
/-- a loop's body, within the loop -/
theorem body_ok {fb : M Fl} {rest : M Fl} {N : L2.St → Hp → Prop} (s : SR mg A G μ σ H ρ S) (h : EndS mg W z A G μ D ((fb.bind fun f => match f with
      | .next => rest
      | .cont => rest
      | .brk => M.pure .next
      | .ret x => M.pure (.ret x)) ρ S)) (hN : ∀ ν σ' H' ρ' S', Zok z σ' → SR mg A G (μ ++ ν) σ' H' ρ' S' → EndS mg W z A G μ D (rest ρ' S') → N σ' H') :
    EndS mg W z A G μ { D with nx := N, ct := N, bk := D.nx } (fb ρ S) := by
  unfold M.bind at h
  cases e : fb ρ S with
  | ok fl ρ' S' =>
    rw [e] at h
    intro ν σ' H' hz s'
    cases fl with
    | next => exact hN ν σ' H' ρ' S' hz s' h
    | cont => exact hN ν σ' H' ρ' S' hz s' h
    | brk => exact h ν σ' H' hz s'
    | ret x => exact h ν σ' H' hz s'
  | err c fs ρ' S' => rw [e] at h; exact h
  | stuck => rw [e] at h; exact h
end
section
variable {mg : Gm} {W : WX} {z : Option V} {σ : L2.St} {H : Hp} {D : Ends}
theorem s_for {tg : Tg} {fi : M (List _root_.DL.D)} {fb : M Fl} (h0 : z ≠ none → 0 ∉ tgSl tg) (h : tS mg W z (fi.bind fun xs => forL tg fb xs) D σ H) : tFor (tI tg mg W fi) (gTg mg.K tg) (tS mg W z fb) D σ H := by
  obtain ⟨A, G, μ, ρ, S, hz, s, h⟩ := h
  refine Tr.seqS s h fun xs ρ1 S1 J H1 s1 q h1 => ?_
  obtain ⟨wk, hl⟩ := q
  have hG : ∀ a o, G a = some o → fullG H1 μ σ ρ1 a = some o := fun a o e => let ⟨g1, g2, g3⟩ := s1.gd a o e; fullG_of g1 g2 g3
  refine ⟨fun i m σ' H' => m = xs.length - i ∧ i ≤ xs.length ∧ Zok z σ' ∧ ∃ ν ρ' S', SR mg A (fullG H1 μ σ ρ1) (μ ++ ν) σ' H' ρ' S' ∧ EndS mg W z A (fullG H1 μ σ ρ1) (μ ++ ν) D (forL tg fb (xs.drop i) ρ' S'), ⟨xs.length, rfl, Nat.zero_le _, hz, [], ρ1, S1, by rw [List.append_nil]; exact s1.full, by rw [List.drop_zero, List.append_nil]; exact h1.lessG hG⟩, ?_⟩
  rintro i m σ2 H2 ⟨rfl, hi, hz2, ν, ρ2, S2, s2, h2⟩
  obtain ⟨k, mm⟩ := since (A0 := A) s2
  obtain ⟨w1, w2⟩ := wk H2 (Av A (μ ++ ν) σ2 ρ2) k mm fun a z => s2.dom z
  by_cases hlt : i < xs.length
  · refine .inr ?_
    obtain ⟨go, yl⟩ := w1 i xs[i] (List.getElem?_eq_getElem hlt)
    refine ⟨go, fun σ' H' => Zok z σ' ∧ ∃ ν ρ' S', SR mg A (fullG H1 μ σ ρ1) (μ ++ ν) σ' H' ρ' S' ∧ EndS mg W z A (fullG H1 μ σ ρ1) (μ ++ ν) D (forL tg fb (xs.drop (i + 1)) ρ' S'), fun σ' H' n => ⟨xs.length - (i + 1), by omega, rfl, hlt, n⟩, fun x H3 hy => ?_⟩
    obtain ⟨sm, rx⟩ := yl x H3 hy
    rw [List.drop_eq_getElem_cons hlt] at h2
    have s3 := s2.same sm
    have h2 : EndS mg W z A (fullG H1 μ σ ρ1) (μ ++ ν) D (((bindTg tg xs[i]).bind fun _ => fb.bind fun f => match f with
      | .next => forL tg fb (xs.drop (i + 1))
      | .cont => forL tg fb (xs.drop (i + 1))
      | .brk => M.pure .next
      | .ret x => M.pure (.ret x)) ρ2 S2) := h2
    rcases tg_ok tg s3 rx with ⟨ρ4, e4, σ4, s4, _, hw4, q4⟩ | e4
    · rw [show ((bindTg tg xs[i]).bind _) ρ2 S2 = _ from by unfold M.bind; rw [e4]] at h2
      refine q4 _ ⟨A, fullG H1 μ σ ρ1, μ ++ ν, ρ4, S2, hz2.tg h0 hw4, s4, ?_⟩
      refine body_ok (rest := forL tg fb (xs.drop (i + 1))) s4 h2 fun ν' σ' H' ρ' S' hz' s' h' => ⟨hz', ν ++ ν', ρ', S', ?_, ?_⟩
      · rw [← List.append_assoc]; exact s'
      · rw [← List.append_assoc]; exact EndS.more h'
    · rw [show ((bindTg tg xs[i]).bind _) ρ2 S2 = _ from by unfold M.bind; rw [e4]] at h2
      exact h2.elim
  · refine .inl ?_
    have ei : i = xs.length := by omega
    subst ei
    refine ⟨w2, ?_⟩
    rw [List.drop_length] at h2
    exact EndS.nx0 (hz := hz2) (show EndS mg W z A (fullG H1 μ σ ρ1) (μ ++ ν) D (.ok .next ρ2 S2) from h2) s2
theorem s_whl {c : M Bool} {fb : M Fl} (n : Nat) (h : tS mg W z (whlN c fb n) D σ H) : tWhile (tT mg W c) (tS mg W z fb) D σ H := by
  obtain ⟨A, G, μ, ρ, S, hz, s, h⟩ := h
  refine ⟨fun m σ' H' => Zok z σ' ∧ ∃ ν ρ' S', SR mg A G (μ ++ ν) σ' H' ρ' S' ∧ EndS mg W z A G (μ ++ ν) D (whlN c fb m ρ' S'), ⟨n, hz, [], ρ, S, by rw [List.append_nil]; exact s, by rw [List.append_nil]; exact h⟩, ?_⟩
  rintro m σ1 H1 ⟨hz1, ν, ρ1, S1, s1, h1⟩
  cases m with
  | zero => exact h1.elim
  | succ m =>
    refine Tr.seqS s1 h1 fun kk ρ2 S2 b H2 s2 q h2 => ?_
    obtain rfl : b = kk := q
    cases b with
    | false => simp only [Bool.false_eq_true, if_false] at h2 ⊢; exact h2.nx0 hz1 s2
    | true =>
      simp only [if_true] at h2 ⊢
      refine ⟨fun σ' H' => ∃ m', m' < m + 1 ∧ Zok z σ' ∧ ∃ ν ρ' S', SR mg A G (μ ++ ν) σ' H' ρ' S' ∧ EndS mg W z A G (μ ++ ν) D (whlN c fb m' ρ' S'), fun σ' H' q => q, A, G, μ ++ ν, ρ2, S2, hz1, s2, ?_⟩
      refine body_ok s2 h2 fun ν' σ' H' ρ' S' hz' s' h' => ⟨m, Nat.lt_succ_self m, hz', ν ++ ν', ρ', S', ?_, ?_⟩
      · rw [← List.append_assoc]; exact s'
      · rw [← List.append_assoc]; exact EndS.more h'
end
/-! ### x[i] = e -/
section
variable {mg : Gm} {W : WX} {z : Option V} {σ : L2.St} {H : Hp} {D : Ends}
theorem s_subs {i : Nat} {fi fe : M R} (h : tS mg W z (fe.bind fun x => (asD x).bind fun d => (isLst i).bind fun _ => fi.bind fun y => (peek y).bind fun u => (putAt i u d).bind fun _ => M.pure .next) D σ H) :
    tAsg (tE mg W fe) (gSub (tVar i) (tE mg W fi) rSetL) D σ H := by
  obtain ⟨A, G, μ, ρ, S, hz, s, h⟩ := h
  refine Tr.seqS s h fun r ρ1 S1 v H1 s1 q h1 => ?_
  rcases asD_ok s1 q.rr with ⟨d, ρ2, e, s2, _, rd⟩ | e
  · simp only [M.bind, e] at h1
    have hσ : ∃ p, σ[i]? = some (some (.ref p)) ∧ isLst i ρ2 S1 = .ok () ρ2 S1 := by
      cases e2 : ρ2[i]? with
      | none => simp only [isLst, e2] at h1; exact h1.elim
      | some t =>
        have hi : i < σ.length := by rw [s2.len]; exact (List.getElem?_eq_some_iff.mp e2).1
        have e3 : σ[i]? = some σ[i] := List.getElem?_eq_getElem hi
        have q := s2.slot i t _ e2 e3
        cases t with
        | own xs => obtain ⟨p, vs, g, _⟩ := q; exact ⟨p, by rw [e3, g], by simp only [isLst, e2]⟩
        | loc l => obtain ⟨p, g, _⟩ := q; exact ⟨p, by rw [e3, g], by simp only [isLst, e2]⟩
        | _ => simp only [isLst, e2] at h1; exact h1.elim
    obtain ⟨p, hp, hl⟩ := hσ
    simp only [hl] at h1
    refine ⟨.ref p, hp, ?_⟩
    refine Tr.iff.mpr ⟨A, fullG H1 μ σ ρ2, μ, ρ2, S1, s2.full, ?_⟩
    cases e3 : fi ρ2 S1 with
    | stuck => simp only [e3] at h1; exact h1.elim
    | err c fs ρ' S' =>
      simp only [e3] at h1
      intro cls dd H' s' x
      have h1 := h1 [] cls dd σ H'
      rw [List.append_nil] at h1
      exact h1 (s'.back s2) x
    | ok y ρ3 S3 =>
      simp only [e3] at h1
      intro w H3 s3' pm3 rw'
      have s3 : SR mg A G μ σ H3 ρ3 S3 := s3'.back s2
      have rd3 := rd.step s3' pm3
      rcases peek_ok s3 rw'.rr with ⟨u, e4, lk⟩ | e4
      · simp only [e4] at h1
        have fin : ∀ {xs : List _root_.DL.D} {vs : List V} {k : Int} {j : Nat}, u = .int k → H3 p = some (.lst vs) → RepL mg H3 (Av A μ σ ρ3) vs xs → ixOf xs.length k = some j → (∀ vs', RepL mg H3 (Av A μ σ ρ3) vs' (xs.set j d) → D.nx σ (upd H3 p (.lst vs'))) → rSetL (.ref p) w v H3 fun H4 => D.nx σ H4 := by
          intro xs vs k j eu g1 g2 g3 g4
          subst eu
          refine ⟨p, vs, k, j, rfl, lk.int_inv, g1, by rw [g2.length]; exact g3, g4 _ (g2.set j rd3)⟩
        cases e5 : ρ3[i]? with
        | none => simp only [putAt, e5] at h1; exact h1.elim
        | some t =>
          have q := s3.slot i t _ e5 hp
          cases t with
          | own xs =>
            obtain ⟨p', vs, g0, g1, g2⟩ := q
            cases g0
            cases u with
            | int k =>
              simp only [putAt, e5] at h1
              cases e6 : ixOf xs.length k with
              | none => simp only [e6] at h1; exact h1.elim
              | some j =>
                simp only [e6] at h1
                refine fin rfl g1 g2 e6 fun vs' r' => ?_
                obtain ⟨s4, _, _⟩ := s3.mutOwn e5 hp r'
                exact h1.nx0 hz s4
            | _ => simp only [putAt, e5] at h1; exact h1.elim
          | loc l =>
            obtain ⟨p', g0, hl⟩ := q
            cases g0
            cases u with
            | int k =>
              simp only [putAt, e5] at h1
              cases e6 : S3[l]? with
              | none => simp only [e6] at h1; exact h1.elim
              | some xs =>
                simp only [e6] at h1
                obtain ⟨vs, g1, g2⟩ := s3.st l p xs hl e6
                cases e7 : ixOf xs.length k with
                | none => simp only [e7] at h1; exact h1.elim
                | some j =>
                  simp only [e7] at h1
                  refine fin rfl g1 g2 e7 fun vs' r' => ?_
                  obtain ⟨s4, _⟩ := s3.mutLoc hl r'
                  exact h1.nx0 hz s4
            | _ => simp only [putAt, e5] at h1; exact h1.elim
          | _ => simp only [putAt, e5] at h1; exact h1.elim
      · simp only [e4] at h1; exact h1.elim
  · simp only [M.bind, e] at h1; exact h1.elim
end
/-! ### self.f = e -/
section
variable {mg : Gm} {A : Addr → Prop} {G : Hp} {μ : List Addr} {σ : L2.St} {H : Hp} {ρ : List Sl} {S : Store}
theorem SR.mutObj {i : Nat} {c : Str} {fs fs' : List (Str × D)} {p C dx : Addr} {vfs : List (Str × V)} (s : SR mg A G μ σ H ρ S) (h : ρ[i]? = some (.obj c fs)) (e : σ[i]? = some (some (.ref p))) (hc : ClsAt mg c C) (r : RepF mg H (Av A μ σ ρ) vfs fs') :
    SR mg A G μ σ (upd H p (.ins C dx vfs)) (ρ.set i (.obj c fs')) S := by
  have pv : ∀ a, Pv σ (ρ.set i (.obj c fs')) a ↔ Pv σ ρ a := fun a => by
    constructor
    · rintro ⟨j, t, h1, h2, h3⟩
      by_cases hj : j = i
      · subst hj; exact ⟨j, _, h, rfl, h3⟩
      · rw [List.getElem?_set_ne (Ne.symm hj)] at h1; exact ⟨j, t, h1, h2, h3⟩
    · rintro ⟨j, t, h1, h2, h3⟩
      by_cases hj : j = i
      · subst hj; exact ⟨j, .obj c fs', get_set_self h, rfl, h3⟩
      · exact ⟨j, t, by rw [List.getElem?_set_ne (Ne.symm hj)]; exact h1, h2, h3⟩
  have hp : Pv σ ρ p := ⟨i, _, h, rfl, e⟩
  have hpp := s.priv p hp
  have kr : ∀ a o, H a = some o → ¬ Av A μ σ ρ a → upd H p (.ins C dx vfs) a = some o := fun a o e1 n => by
    rw [upd_ne fun z : a = p => n (.inr (.inr (z ▸ hp)))]; exact e1
  have mr : ∀ a o, H a = some o → Av A μ σ (ρ.set i (.obj c fs')) a → Av A μ σ ρ a := fun a o _ z => by
    rcases z with z | z | z
    · exact .inl z
    · exact .inr (.inl z)
    · exact .inr (.inr ((pv a).mp z))
  refine ⟨by rw [List.length_set]; exact s.len, fun j t e1 h1 h2 => ?_, fun j k t u a h1 h2 h3 h4 h5 h6 => ?_, fun a z => s.priv a ((pv a).mp z), s.sl, fun l a zs h1 h2 => ?_, s.nd, fun a z => ⟨(s.av a z).1, ?_⟩, fun a o e1 => ?_⟩
  · by_cases hj : j = i
    · subst hj
      rw [get_set_self h] at h1; cases h1
      rw [e] at h2; cases h2
      exact ⟨p, C, dx, vfs, rfl, upd_same, hc, r.keep kr mr⟩
    · rw [List.getElem?_set_ne (Ne.symm hj)] at h1
      have q := s.slot j t e1 h1 h2
      have ne : ∀ b, e1 = some (.ref b) → isPriv t = true → b ≠ p := fun b eb hb z => by
        subst z
        rw [eb] at h2
        exact hj (s.inj j i t (.obj c fs) b h1 h hb rfl h2 e)
      cases t with
      | none => trivial
      | d x => obtain ⟨v, e2, q⟩ := q; exact ⟨v, e2, q.keep kr mr⟩
      | own zs => obtain ⟨b, ws, e2, q, q2⟩ := q; exact ⟨b, ws, e2, by rw [upd_ne (ne b e2 rfl)]; exact q, q2.keep kr mr⟩
      | loc l => exact q
      | lam g => obtain ⟨f, _, z⟩ := q; exact z.elim
      | scr ns => obtain ⟨a, e2, q⟩ := q; exact ⟨a, e2, q.keep kr mr⟩
      | obj c fs => obtain ⟨b, C, dx, vfs, e2, q, q2, q3⟩ := q; exact ⟨b, C, dx, vfs, e2, by rw [upd_ne (ne b e2 rfl)]; exact q, q2, q3.keep kr mr⟩
  · have go : ∀ j t, (ρ.set i (.obj c fs'))[j]? = some t → isPriv t = true → ∃ t', ρ[j]? = some t' ∧ isPriv t' = true := fun j t h1 h2 => by
      by_cases hj : j = i
      · subst hj; exact ⟨_, h, rfl⟩
      · rw [List.getElem?_set_ne (Ne.symm hj)] at h1; exact ⟨t, h1, h2⟩
    obtain ⟨t', g1, g2⟩ := go j t h1 h3
    obtain ⟨u', g3, g4⟩ := go k u h2 h4
    exact s.inj j k t' u' a g1 g3 g2 g4 h5 h6
  · obtain ⟨ws, q1, q2⟩ := s.st l a zs h1 h2
    have hm : a ∈ μ := List.mem_of_getElem? h1
    exact ⟨ws, by rw [upd_ne fun z : a = p => hpp.2 (z ▸ hm)]; exact q1, q2.keep kr mr⟩
  · by_cases z2 : a = p
    · subst z2; exact ⟨_, upd_same⟩
    · rw [upd_ne z2]; exact (s.av a z).2
  · obtain ⟨g1, g2, g3⟩ := s.gd a o e1
    refine ⟨?_, g2, fun z => g3 ((pv a).mp z)⟩
    rw [upd_ne fun z : a = p => g3 (z ▸ hp)]; exact g1
end
section
variable {mg : Gm} {W : WX} {z : Option V} {σ : L2.St} {H : Hp} {D : Ends}
theorem s_fld {i : Nat} {f : Str} {fe : M R} (h : tS mg W z (fe.bind fun x => (asD x).bind fun d => (putFld i f d).bind fun _ => M.pure .next) D σ H) : sFld mg.K (tVar i) (tE mg W fe) f D σ H := by
  obtain ⟨A, G, μ, ρ, S, hz, s, h⟩ := h
  refine Tr.seqS s h fun r ρ1 S1 v H1 s1 q h1 => ?_
  rcases asD_ok s1 q.rr with ⟨d, ρ2, e, s2, _, rd⟩ | e
  · simp only [M.bind, e] at h1
    cases e2 : ρ2[i]? with
    | none => simp only [putFld, e2] at h1; exact h1.elim
    | some t =>
      have hi : i < σ.length := by rw [s2.len]; exact (List.getElem?_eq_some_iff.mp e2).1
      have e3 : σ[i]? = some σ[i] := List.getElem?_eq_getElem hi
      have q := s2.slot i t _ e2 e3
      cases t with
      | obj c fs =>
        simp only [putFld, e2] at h1
        obtain ⟨p, C, dx, vfs, g0, g1, g2, g3⟩ := q
        by_cases hzz : fs.length < 1000 ∧ f ∈ fldNames
        · rw [if_pos hzz] at h1
          have e4 : σ[i]? = some (some (.ref p)) := by rw [e3, g0]
          exact ⟨.ref p, e4, p, C, dx, vfs, rfl, g1, g2.2.cl, g2.2.na f hzz.2, by rw [g3.length]; exact hzz.1, h1.nx0 hz (s2.mutObj e2 e4 g2 (g3.put rd))⟩
        · rw [if_neg hzz] at h1; exact h1.elim
      | _ => simp only [putFld, e2] at h1; exact h1.elim
  · simp only [M.bind, e] at h1; exact h1.elim
end
end DL
end

section
/-! The data layer, part 19: several values at once. -/
namespace DL
open PySem PySem.Spec PyProof.Rows L2

/-- values one beside another; the new lists among them are B -/
inductive VL (mg : Gm) (H : Hp) (Avb : Addr → Prop) (μ : List Addr) : (Addr → Prop) → List V → List R → Prop
  | nil {B : Addr → Prop} : VL mg H Avb μ B [] []
  | d {B : Addr → Prop} {v : V} {x : D} {vs : List V} {rs : List R} : Rep mg H Avb v x → VL mg H Avb μ B vs rs → VL mg H Avb μ B (v :: vs) (.d x :: rs)
  | loc {B : Addr → Prop} {a : Addr} {l : Nat} {vs : List V} {rs : List R} : μ[l]? = some a → VL mg H Avb μ B vs rs → VL mg H Avb μ B (.ref a :: vs) (.loc l :: rs)
  | scr {B : Addr → Prop} {v : V} {ns : List Int} {vs : List V} {rs : List R} : VL mg H Avb μ B vs rs → VL mg H Avb μ B (v :: vs) (.scr ns :: rs)
  | fresh {B B' : Addr → Prop} {p : Addr} {ws : List V} {xs : List D} {vs : List V} {rs : List R} : B p → ¬ B' p → (∀ a, B a ↔ B' a ∨ a = p) → H p = some (.lst ws) → RepL mg H Avb ws xs → VL mg H Avb μ B' vs rs → VL mg H Avb μ B (.ref p :: vs) (.fresh xs :: rs)
theorem VL.keep {mg : Gm} {H H' : Hp} {Avb Avb' : Addr → Prop} {μ μ' : List Addr} (hμ : ∀ (l : Nat) (a : Addr), μ[l]? = some a → μ'[l]? = some a) (k : ∀ a o, H a = some o → ¬ Avb a → H' a = some o) (m : ∀ a o, H a = some o → Avb' a → Avb a) :
    ∀ {B : Addr → Prop} {vs : List V} {rs : List R}, (∀ p ws, B p → H p = some (.lst ws) → H' p = some (.lst ws)) → VL mg H Avb μ B vs rs → VL mg H' Avb' μ' B vs rs
  | _, _, _, _, .nil => .nil
  | _, _, _, kb, .d r t => .d (r.keep k m) (VL.keep hμ k m kb t)
  | _, _, _, kb, .loc h t => .loc (hμ _ _ h) (VL.keep hμ k m kb t)
  | _, _, _, kb, .scr t => .scr (VL.keep hμ k m kb t)
  | _, _, _, kb, .fresh h1 h2 h3 h4 h5 t => .fresh h1 h2 h3 (kb _ _ h1 h4) (h5.keep k m) (VL.keep hμ k m (fun p ws b => kb p ws ((h3 p).mpr (.inl b))) t)
theorem VL.length {mg : Gm} {H : Hp} {Avb : Addr → Prop} {μ : List Addr} : ∀ {B : Addr → Prop} {vs : List V} {rs : List R}, VL mg H Avb μ B vs rs → vs.length = rs.length
  | _, _, _, .nil => rfl
  | _, _, _, .d _ t => congrArg Nat.succ t.length
  | _, _, _, .loc _ t => congrArg Nat.succ t.length
  | _, _, _, .scr t => congrArg Nat.succ t.length
  | _, _, _, .fresh _ _ _ _ _ t => congrArg Nat.succ t.length
def withB (A B : Addr → Prop) : Addr → Prop := fun a => A a ∨ B a
def rVs (mg : Gm) : (Addr → Prop) → Hp → Hp → List Sl → Store → List Addr → L2.St → List V → List R → Prop := fun A G H ρ S μ σ vs rs =>
  ∃ B : Addr → Prop, SR mg (withB A B) G μ σ H ρ S ∧ (∀ p, B p → ¬ Av A μ σ ρ p ∧ G p = none) ∧ VL mg H (Av (withB A B) μ σ ρ) μ B vs rs
section
variable {mg : Gm} {W : WX} {σ : L2.St} {H : Hp}
theorem nilV_ok {Q : List V → Hp → Prop} (h : Tr mg W (rVs mg) (M.pure []) σ H Q) : tNil σ H Q := by
  obtain ⟨A, G, μ, ρ, S, s, h⟩ := Tr.iff.mp h
  exact h [] H s PM.refl ⟨fun _ => False, s.less fun a z => z.elim id False.elim, fun _ z => z.elim, .nil⟩
theorem consV_ok {fe : M R} {fl : M (List R)} {Q : List V → Hp → Prop} (h : Tr mg W (rVs mg) (fe.bind fun x => (asV x).bind fun x => fl.bind fun xs => M.pure (x :: xs)) σ H Q) : tCons (tE mg W fe) (Tr mg W (rVs mg) fl) σ H Q := by
  obtain ⟨A, G, μ, ρ, S, s, h⟩ := Tr.iff.mp h
  refine Tr.seq2 s PM.refl h fun r ρ1 S1 v H1 s1 _ pm _ ra h1 => ?_
  -- the rest, where the head is no new list
  have plain : ∀ {x : R} {ρ2 : List Sl}, SR mg A G μ σ H1 ρ2 S1 → PM σ ρ1 ρ2 → (∀ {H3 : Hp} {Avb : Addr → Prop} {B : Addr → Prop} {vs : List V} {rs : List R}, (∀ a o, H1 a = some o → ¬ Av A μ σ ρ2 a → H3 a = some o) → (∀ a o, H1 a = some o → Avb a → Av A μ σ ρ2 a) → VL mg H3 Avb μ B vs rs → VL mg H3 Avb μ B (v :: vs) (x :: rs)) →
      End mg W (rVs mg) A G μ σ ρ Q ((fl.bind fun xs => M.pure (x :: xs)) ρ2 S1) → Tr mg W (rVs mg) fl σ H1 fun xs H2 => Q (v :: xs) H2 := by
    intro x ρ2 s2 pm2 hd h2
    refine Tr.iff.mpr ⟨A, fullG H1 μ σ ρ2, μ, ρ2, S1, s2.full, ?_⟩
    unfold M.bind at h2
    cases e : fl ρ2 S1 with
    | stuck => rw [e] at h2; exact h2.elim
    | err c fs ρ' S' => rw [e] at h2; exact fun cls d H' s' x => h2 cls d H' (s'.back s2) x
    | ok xs ρ3 S3 =>
      rw [e] at h2
      intro vs H3 s3 pm3 ⟨B, sB, hB, vl⟩
      have hG : ∀ a o, G a = some o → fullG H1 μ σ ρ2 a = some o := fun a o e => let ⟨g1, g2, g3⟩ := s2.gd a o e; fullG_of g1 g2 g3
      refine h2 _ H3 (s3.back s2) (pm.trans (pm2.trans pm3)) ⟨B, sB.weakG hG, fun p z => ⟨(hB p z).1, ?_⟩, hd (fun a o e n => (s3.gd a o (fullG_of e (fun z => n (.inr (.inl z))) fun z => n (.inr (.inr z)))).1) (fun a o e z => ?_) vl⟩
      · cases z2 : G p with
        | none => rfl
        | some o => have := (hB p z).2; rw [hG p o z2] at this; cases this
      · rcases z with (z | z) | z | z
        · exact .inl z
        · by_cases h1 : a ∈ μ
          · exact .inr (.inl h1)
          · by_cases h2 : Pv σ ρ2 a
            · exact .inr (.inr h2)
            · have := (hB a z).2
              rw [fullG_of e h1 h2] at this
              cases this
        · exact .inr (.inl z)
        · exact .inr (.inr (pm3 a z))
  cases r with
  | d x =>
    have ra : Rep mg H1 (Av A μ σ ρ1) v x := ra
    exact plain s1 PM.refl (fun k m t => .d (ra.keep k m) t) h1
  | loc l =>
    obtain ⟨a, rfl, ra⟩ := ra
    exact plain s1 PM.refl (fun k m t => .loc ra t) h1
  | scr ns => exact plain s1 PM.refl (fun k m t => .scr t) h1
  | lam g => obtain ⟨f, _, z⟩ := ra; exact z.elim
  | own i =>
    have h1 : End mg W (rVs mg) A G μ σ ρ Q ((((asD (.own i)).bind fun d => M.pure (R.d d)).bind fun x => fl.bind fun xs => M.pure (x :: xs)) ρ1 S1) := h1
    rcases asD_ok s1 (rE.rr ra) with ⟨d, ρ2, e, s2, pm2, rd⟩ | e
    · simp only [M.bind, e] at h1
      exact plain (x := .d d) s2 pm2 (fun k m t => .d (rd.keep k m) t) h1
    · simp only [M.bind, e] at h1; exact h1.elim
  | fresh zs =>
    obtain ⟨⟨p, ws, rfl, e1, r1, n1, g1⟩, al⟩ := ra
    have sp := al p rfl
    refine Tr.iff.mpr ⟨withD A p, fullG H1 μ σ ρ1, μ, ρ1, S1, sp.full, ?_⟩
    have h1 : End mg W (rVs mg) A G μ σ ρ Q ((fl.bind fun xs => M.pure (.fresh zs :: xs)) ρ1 S1) := h1
    unfold M.bind at h1
    have dA : ∀ a, A a → withD A p a := fun a z => .inl z
    cases e : fl ρ1 S1 with
    | stuck => rw [e] at h1; exact h1.elim
    | err c fs ρ' S' =>
      rw [e] at h1
      intro cls d H' s' x
      refine h1 cls d H' ((s'.back sp).less dA) ?_
      obtain ⟨C, q1, q2, q3⟩ := x
      refine ⟨C, q1, q2, q3.imp id fun ⟨a, vfs, e1, e2, e3⟩ => ⟨a, vfs, e1, e2, e3.keep (fun _ _ e _ => e) fun a o _ z => z.imp (dA a) id⟩⟩
    | ok xs ρ3 S3 =>
      rw [e] at h1
      intro vs H3 s3 pm3 ⟨B, sB, hB, vl⟩
      have hG : ∀ a o, G a = some o → fullG H1 μ σ ρ1 a = some o := fun a o e => let ⟨g1, g2, g3⟩ := s1.gd a o e; fullG_of g1 g2 g3
      have hAB : withB (withD A p) B = withB A fun a => B a ∨ a = p := funext fun a => propext ⟨fun z => by
        rcases z with (z | z) | z
        · exact .inl z
        · exact .inr (.inr z)
        · exact .inr (.inl z), fun z => by
        rcases z with z | z | z
        · exact .inl (.inl z)
        · exact .inr z
        · exact .inl (.inr z)⟩
      rw [hAB] at sB vl
      have npv : ¬ Pv σ ρ3 p := fun z => (s3.priv p z).1 (.inr rfl)
      have keepM : ∀ a o, H1 a = some o → Av (withB A fun a => B a ∨ a = p) μ σ ρ3 a → Av A μ σ ρ1 a ∨ a = p := fun a o e z => by
        rcases z with (z | z | z) | z | z
        · exact .inl (.inl z)
        · by_cases h1 : a ∈ μ
          · exact .inl (.inr (.inl h1))
          · by_cases h2 : Pv σ ρ1 a
            · exact .inl (.inr (.inr h2))
            · have := (hB a z).2
              rw [fullG_of e h1 h2] at this
              cases this
        · exact .inr z
        · exact .inl (.inr (.inl z))
        · exact .inl (.inr (.inr (pm3 a z)))
      refine h1 _ H3 ((s3.back sp).less dA) (pm.trans pm3) ⟨fun a => B a ∨ a = p, sB.weakG hG, fun q z => ?_, .fresh (B' := B) (.inr rfl) (fun z => (hB p z).1 (.inl (.inr rfl))) (fun a => Iff.rfl) ?_ (r1.keep (fun a o e n => ?_) keepM) vl⟩
      · rcases z with z | z
        · refine ⟨fun w => (hB q z).1 (w.imp (dA q) id), ?_⟩
          cases z2 : G q with
          | none => rfl
          | some o => have := (hB q z).2; rw [hG q o z2] at this; cases this
        · rw [z]
          refine ⟨fun w => ?_, g1⟩
          rcases w with w | w | w
          · exact n1 (.inl w)
          · exact n1 (.inr (.inl w))
          · exact npv w
      · exact (s3.gd p _ (fullG_of e1 (fun z => n1 (.inr (.inl z))) fun z => n1 (.inr (.inr z)))).1
      · exact (s3.gd a o (fullG_of e (fun z => n (.inl (.inr (.inl z)))) fun z => n (.inl (.inr (.inr z))))).1
end
def setσ : List (Nat × Vk) → List V → L2.St → L2.St
  | (i, _) :: ks, v :: vs, σ => setσ ks vs (σ.set i (some v))
  | _, _, σ => σ
section
variable {mg : Gm} {A : Addr → Prop} {G H : Hp}
theorem setAll_ok : ∀ (ks : List (Nat × Vk)) (rs : List R) (vs : List V) (B : Addr → Prop) (μ : List Addr) (σ : L2.St) (ρ : List Sl) (S : Store), SR mg (withB A B) G μ σ H ρ S → (∀ p, B p → ¬ A p ∧ G p = none) → VL mg H (Av (withB A B) μ σ ρ) μ B vs rs →
    (∃ ρ' S' ν, setAll ks rs ρ S = .ok () ρ' S' ∧ ks.length = rs.length ∧ SR mg A G (μ ++ ν) (setσ ks vs σ) H ρ' S') ∨ setAll ks rs ρ S = .stuck
  | [], [], [], B, μ, σ, ρ, S, s, hB, .nil => .inl ⟨ρ, S, [], rfl, rfl, by rw [List.append_nil]; exact s.less fun a z => .inl z⟩
  | [], _ :: _, _, _, _, _, _, _, _, _, _ => .inr rfl
  | _ :: _, [], _, _, _, _, _, _, _, _, _ => .inr rfl
  | (i, k) :: ks, r :: rs, v :: vs, B, μ, σ, ρ, S, s, hB, t => by
    -- what the head's store leaves
    have go : ∀ {B' : Addr → Prop} {ρ1 : List Sl} {S1 : Store} {ν : List Addr}, setK i k r ρ S = .ok () ρ1 S1 → SR mg (withB A B') G (μ ++ ν) (σ.set i (some v)) H ρ1 S1 → (∀ p, B' p → ¬ A p ∧ G p = none) → VL mg H (Av (withB A B') (μ ++ ν) (σ.set i (some v)) ρ1) (μ ++ ν) B' vs rs →
        (∃ ρ' S' ν, setAll ((i, k) :: ks) (r :: rs) ρ S = .ok () ρ' S' ∧ (ks.length + 1 = rs.length + 1) ∧ SR mg A G (μ ++ ν) (setσ ((i, k) :: ks) (v :: vs) σ) H ρ' S') ∨ setAll ((i, k) :: ks) (r :: rs) ρ S = .stuck := by
      intro B' ρ1 S1 ν e s1 hB1 t1
      have e2 : setAll ((i, k) :: ks) (r :: rs) ρ S = setAll ks rs ρ1 S1 := by
        show ((setK i k r).bind fun _ => setAll ks rs) ρ S = _
        unfold M.bind
        rw [e]
      rcases setAll_ok ks rs vs B' (μ ++ ν) _ ρ1 S1 s1 hB1 t1 with ⟨ρ', S', ν', e3, hl, s3⟩ | e3
      · refine .inl ⟨ρ', S', ν ++ ν', e2.trans e3, by rw [hl], ?_⟩
        rw [← List.append_assoc]; exact s3
      · exact .inr (e2.trans e3)
    have stk : setK i k r ρ S = .stuck → setAll ((i, k) :: ks) (r :: rs) ρ S = .stuck := fun e => by
      show ((setK i k r).bind fun _ => setAll ks rs) ρ S = _
      unfold M.bind
      rw [e]
    have old : ∀ (l : Nat) (a : Addr), μ[l]? = some a → (μ ++ [])[l]? = some a := fun l a h => by rw [List.append_nil]; exact h
    -- a word that is nobody's alone
    have plain : ∀ {x : Sl}, (∀ ρ S, setK i k r ρ S = setSl i x ρ S) → isPriv x = false → SlR mg H (Av (withB A B) μ σ ρ) μ (some v) x → VL mg H (Av (withB A B) μ σ ρ) μ B vs rs →
        (∃ ρ' S' ν, setAll ((i, k) :: ks) (r :: rs) ρ S = .ok () ρ' S' ∧ (ks.length + 1 = rs.length + 1) ∧ SR mg A G (μ ++ ν) (setσ ((i, k) :: ks) (v :: vs) σ) H ρ' S') ∨ setAll ((i, k) :: ks) (r :: rs) ρ S = .stuck := by
      intro x e hx q t
      rcases setSl_cases (ρ := ρ) (S := S) i x with ⟨hi, e2⟩ | e2
      · have s1 := s.put0 hi hx q
        refine go (B' := B) (ν := []) ((e ρ S).trans e2) (by rw [List.append_nil]; exact s1) hB (t.keep old (fun _ _ e _ => e) (fun a o _ z => ?_) fun _ _ _ h => h)
        rw [List.append_nil] at z
        rcases z with z | z | z
        · exact .inl z
        · exact .inr (.inl z)
        · obtain ⟨j, u, h0, h1, h2, h3⟩ := pv_set' hx z
          exact .inr (.inr ⟨j, u, h1, h2, h3⟩)
      · exact .inr (stk ((e ρ S).trans e2))
    cases t with
    | d rx t => exact plain (x := .d _) (by intro ρ S; cases k <;> rfl) rfl ⟨v, rfl, rx⟩ t
    | loc h t => exact plain (x := .loc _) (by intro ρ S; cases k <;> rfl) rfl ⟨_, rfl, h⟩ t
    | scr t => exact .inr (stk (by cases k <;> rfl))
    | @fresh _ B' p ws xs _ _ h1 h2 h3 h4 h5 t =>
      have sp : SR mg (withD (withB A B') p) G μ σ H ρ S := s.less fun a z => by
        rcases z with (z | z) | z
        · exact .inl z
        · exact .inr ((h3 a).mpr (.inl z))
        · exact .inr ((h3 a).mpr (.inr z))
      have hB' : ∀ q, B' q → ¬ A q ∧ G q = none := fun q z => hB q ((h3 q).mpr (.inl z))
      have nA : ¬ withB A B' p := fun z => z.elim (hB p h1).1 h2
      have h5' : RepL mg H (Av (withD (withB A B') p) μ σ ρ) ws xs := h5.keep (fun _ _ e _ => e) fun a o _ z => z.imp (fun z => by
        rcases z with (z | z) | z
        · exact .inl z
        · exact .inr ((h3 a).mpr (.inl z))
        · exact .inr ((h3 a).mpr (.inr z))) id
      by_cases hi : i < ρ.length
      · cases k with
        | val =>
          have s0 : SR mg (withB A B') G μ σ H ρ S := sp.less fun a z => .inl z
          have npp : ¬ Av (withB A B') μ σ ρ p := fun z => by
            rcases z with z | z | z
            · exact nA z
            · exact (sp.av p (.inr rfl)).1 z
            · exact (sp.priv p z).1 (.inr rfl)
          have rp : Rep mg H (Av (withB A B') μ σ ρ) (.ref p) (.lst xs) := .lst h4 npp (h5'.keep (fun _ _ e _ => e) fun a o _ z => z.imp .inl id)
          have s1 := s0.put0 (t := .d (.lst xs)) hi rfl ⟨.ref p, rfl, rp⟩
          refine go (B' := B') (ν := []) (show setSl i (.d (.lst xs)) ρ S = _ from if_pos hi) (by rw [List.append_nil]; exact s1) hB' (t.keep old (fun _ _ e _ => e) (fun a o _ z => ?_) fun _ _ _ h => h)
          rw [List.append_nil] at z
          rcases z with (z | z) | z | z
          · exact .inl (.inl z)
          · exact .inl (.inr ((h3 a).mpr (.inl z)))
          · exact .inr (.inl z)
          · obtain ⟨j, u, h0, h1, h2, h3⟩ := pv_set' rfl z
            exact .inr (.inr ⟨j, u, h1, h2, h3⟩)
        | own =>
          have s1 := sp.putOwn hi nA (hB p h1).2 h4 h5'
          refine go (B' := B') (ν := []) (show setSl i (.own xs) ρ S = _ from if_pos hi) (by rw [List.append_nil]; exact s1) hB' (t.keep old (fun _ _ e _ => e) (fun a o _ z => ?_) fun _ _ _ h => h)
          rw [List.append_nil] at z
          rcases z with (z | z) | z | ⟨j, u, g1, g2, g3⟩
          · exact .inl (.inl z)
          · exact .inl (.inr ((h3 a).mpr (.inl z)))
          · exact .inr (.inl z)
          · by_cases hj : j = i
            · subst hj
              rw [List.getElem?_set_self (by rw [s.len]; exact hi)] at g3
              cases g3
              exact .inl (.inr h1)
            · rw [List.getElem?_set_ne (Ne.symm hj)] at g1 g3
              exact .inr (.inr ⟨j, u, g1, g2, g3⟩)
        | loc =>
          have s1 := sp.putLoc hi nA (hB p h1).2 h4 h5'
          refine go (B' := B') (ν := [p]) (show (if i < ρ.length then Out.ok () (ρ.set i (.loc S.length)) (S ++ [xs]) else .stuck) = _ from if_pos hi) s1 hB' (t.keep (fun l a h => by rw [List.getElem?_append_left (List.getElem?_eq_some_iff.mp h).1]; exact h) (fun _ _ e _ => e) (fun a o _ z => ?_) fun _ _ _ h => h)
          rcases z with (z | z) | z | z
          · exact .inl (.inl z)
          · exact .inl (.inr ((h3 a).mpr (.inl z)))
          · rcases List.mem_append.mp z with z | z
            · exact .inr (.inl z)
            · rw [List.mem_singleton.mp z]; exact .inl (.inr h1)
          · obtain ⟨j, u, h0, h1, h2, h3⟩ := pv_set' rfl z
            exact .inr (.inr ⟨j, u, h1, h2, h3⟩)
      · refine .inr (stk ?_)
        cases k with
        | val => exact if_neg hi
        | own => exact if_neg hi
        | loc => exact if_neg hi
end
section
variable {mg : Gm} {W : WX} {z : Option V} {σ : L2.St} {H : Hp} {D : Ends}
theorem Zok.all : ∀ {ks : List (Nat × Vk)} {vs : List V} {σ : L2.St}, Zok z σ → (z ≠ none → 0 ∉ ks.map (·.1)) → Zok z (setσ ks vs σ)
  | [], _, _, h, _ => h
  | _ :: _, [], _, h, _ => h
  | (i, k) :: ks, v :: vs, σ, h, h0 => Zok.all (ks := ks) (h.set fun n e => h0 n (by rw [e]; exact List.mem_cons_self)) fun n q => h0 n (List.mem_cons_of_mem _ q)
theorem s_par {ks : List (Nat × Vk)} {fl : M (List R)} {R' : List V → Hp → Prop} (h0 : z ≠ none → 0 ∉ ks.map (·.1)) (h : tS mg W z (fl.bind fun xs => (setAll ks xs).bind fun _ => M.pure .next) D σ H)
    (k : ∀ vs H1, vs.length = ks.length → (∀ H2, Same H1 H2 → D.nx (setσ ks vs σ) H2) → R' vs H1) : Tr mg W (rVs mg) fl σ H R' := by
  obtain ⟨A, G, μ, ρ, S, hz, s, h⟩ := h
  refine Tr.seqS s h fun rs ρ1 S1 vs H1 s1 q h1 => ?_
  obtain ⟨B, sB, hB, vl⟩ := q
  have hB2 : ∀ p, B p → ¬ A p ∧ G p = none := fun p z => ⟨fun w => (hB p z).1 (.inl w), (hB p z).2⟩
  rcases setAll_ok ks rs vs B μ σ ρ1 S1 sB hB2 vl with ⟨ρ', S', ν, e, hl, _⟩ | e
  · simp only [M.bind, e] at h1
    refine k vs H1 (by rw [vl.length, hl]) fun H2 sm => ?_
    have sB2 := sB.same sm
    have vl2 : VL mg H2 (Av (withB A B) μ σ ρ1) μ B vs rs := vl.keep (fun _ _ h => h) (fun a o e _ => sm a o e) (fun _ _ _ z => z) fun p ws _ h => sm _ _ h
    rcases setAll_ok ks rs vs B μ σ ρ1 S1 sB2 hB2 vl2 with ⟨ρ2, S2, ν2, e2, _, s2⟩ | e2
    · rw [e] at e2
      cases e2
      exact h1.nx (hz.all h0) s2
    · rw [e] at e2; cases e2
  · simp only [M.bind, e] at h1; exact h1.elim
theorem gMany_of {Q : L2.St → Hp → Prop} {H : Hp} : ∀ {ks : List (Nat × Vk)} {vs : List V} {σ : L2.St}, vs.length = ks.length → Q (setσ ks vs σ) H → gMany (ks.map (·.1)) vs σ H Q
  | [], [], σ, _, h => ⟨rfl, h⟩
  | (i, k) :: ks, v :: vs, σ, hl, h => ⟨v, vs, rfl, gMany_of (ks := ks) (by simpa using hl) h⟩
end
end DL
end

section
/-! The data layer, part 20: does a statement of the program say what the short one says? -/
namespace DL
open PySem PySem.Spec PyProof.Rows L2

def notComp : Expr → Bool
  | .ListComp .. => false
  | .SetComp .. => false
  | .DictComp .. => false
  | _ => true
def notTup : Expr → Bool
  | .Tuple .. => false
  | _ => true
structure Cs where
  s : BS → Stmt → Bool
  l : BS → List Stmt → Bool
def ckS (s : BS → Stmt → Bool) : Cs := ⟨s, fun _ _ => false⟩
/-- a list's making, its name stored at once -/
def swB (b : BS) (x : Str) (px pos : Pos) (scope : Scope) : Bool :=
  b.sc.names.lookup x == some .local && px.line == pos.line && !(scope.names.any fun (n, k) => n == x && (k == .local || k == .cell))
def lcPart : IE → Option (List Nat × Tg × IE × IE × IE)
  | .lc own tg it ifs elt => some (own, tg, it, ifs, elt)
  | _ => none
/-- names on a line -/
def nmsB (b : BS) (line : Nat) (ts : List Expr) : List Str := ts.filterMap fun
  | .Name id pos => if b.sc.names.lookup id == some .local && pos.line == line then some id else none
  | _ => none
def lineOf (ts : List Expr) : Nat := (ts.head?.map (·.pos.line)).getD 0
/-- stored in their order -/
def swNo (b : BS) (ts : List Expr) : Bool := !(ts.length == 2 || ts.length == 3) || (nmsB b (lineOf ts) ts).length != ts.length
def par2 (c : SC) (b : BS) : List (Nat × Vk) → List Expr → List Expr → Bool
  | [(i, _), (j, _)], [.Name x px, .Name y py], [a, a2] => !(c.self && (i == 0 || j == 0)) && (c.N[i]? == some x) && (c.N[j]? == some y) && i != j && x != y && b.sc.names.lookup x == some .local && b.sc.names.lookup y == some .local && py.line == px.line &&
      !([a, a2].all (foldedForSure 8)) && !([a, a2].all (constantsAlone 8))
  | _, _, _ => false
def par3 (c : SC) (b : BS) : List (Nat × Vk) → List Expr → List Expr → Bool
  | [(i, _), (j, _), (l, _)], [.Name x px, .Name y py, .Name z pz], [a, a2, a3] => !(c.self && (i == 0 || j == 0 || l == 0)) && (c.N[i]? == some x) && (c.N[j]? == some y) && (c.N[l]? == some z) && i != j && i != l && j != l && x != y && x != z && y != z && b.sc.names.lookup x == some .local && b.sc.names.lookup y == some .local && b.sc.names.lookup z == some .local &&
      py.line == px.line && pz.line == px.line && !([a, a2, a3].all (foldedForSure 8)) && !([a, a2, a3].all (constantsAlone 8))
  | _, _, _ => false
def lcC (c : SC) (b : BS) (e : IE) (el : Expr) (gens : List Comprehension) (scope : Scope) : Bool := match lcPart e, gens with
  | some (own, tg, it, ifs, elt), [⟨te, ie, fs, a⟩] => a == 0 && (chk c it).i b tg te ie && blkC c.N b.sc scope (ownP c own) && (tgSl tg).all own.contains && tgC c (b.blk scope) tg te && (chk c ifs).f (b.blk scope) fs && (chk c elt).e (b.blk scope) el
  | _, _ => false
def setV (c : SC) (b : BS) (e : IE) (x : Str) (px : Pos) (v : Expr) : Bool := match v with
  | .ListComp el gens scope p => if swB b x px p scope then lcC c b e el gens scope else (chk c e).e b v
  | _ => notComp v && (chk c e).e b v
def setC (c : SC) (b : BS) (i : Nat) (e : IE) : Stmt → Bool
  | .Assign [.Name x px] v _ => locB c b i x && nameOk x && setV c b e x px v
  | _ => false
def chkS (c : SC) : IS → Cs
  | .nil => ⟨fun _ _ => false, fun _ xs => match xs with
    | [] => true
    | _ => false⟩
  | .cons s ss => ⟨fun _ _ => false, fun b xs => match xs with
    | x :: r => (chkS c s).s b x && (chkS c ss).l b r
    | [] => false⟩
  | .set i _ e => ckS fun b st => setC c b i e st
  | .setT is e => ckS fun b st => match st with
    | .Assign [.Tuple ts _ _] v _ => tgC1 c b is ts && notComp v && notTup v && (chk c e).e b v
    | _ => false
  | .par ks es => ckS fun b st => match st with
    | .Assign [.Tuple ts _ _] (.Tuple vs _ _) _ => (chk c es).l b vs && decide (lenI es ≤ 1000) && ((swNo b ts && tgC1 c b (ks.map (·.1)) ts && decide (ks.length = lenI es)) || par2 c b ks ts vs || par3 c b ks ts vs)
    | _ => false
  | .subs i ix e => ckS fun b st => match st with
    | .Assign [.Subscript (.Name x _) ie _] v _ => (c.N[i]? == some x) && visB b x && nameOk x && notComp v && (chk c ix).e b ie && (chk c e).e b v
    | _ => false
  | .fld i f e => ckS fun b st => match st with
    | .Assign [.Attribute (.Name x _) g _] v _ => f == g && (c.N[i]? == some x) && visB b x && nameOk x && notComp v && (chk c e).e b v
    | _ => false
  | .expr e => ckS fun b st => match st with
    | .Expr v _ => notComp v && (chk c e).e b v
    | _ => false
  | .ret e => ckS fun b st => match st with
    | .Return (some v) _ => (chk c e).e b v
    | _ => false
  | .retN => ckS fun b st => match st with
    | .Return none _ => true
    | _ => false
  | .ife t s1 s2 => ckS fun b st => match st with
    | .If x xs ys _ => (chk c t).e b x && (chkS c s1).l b xs && (chkS c s2).l b ys
    | _ => false
  | .loop tg it s1 => ckS fun b st => match st with
    | .For te ie xs [] _ => (chk c it).i b tg te ie && tgC c b tg te && (chkS c s1).l b xs
    | _ => false
  | .whl t s1 => ckS fun b st => match st with
    | .While x xs [] _ => (chk c t).e b x && (chkS c s1).l b xs
    | _ => false
  | .never => ⟨fun _ _ => true, fun _ _ => true⟩

/-- a def's context -/
structure EXD (L : Lk) (c : SC) (k : Nat) (b : BS) (X : Cx) (W : WX) : Prop extends EX L c k b X W where
  po : PassesOwn (model X.prog X.w) X.A X.env X.xe
  fk : b.sc.kind = .function
section
variable {L : Lk} {c : SC} {k : Nat} {b : BS} {X : Cx} {W : WX} {zz : Option V}
theorem sw_plain {v : Expr} {t : Option Expr} {n : Nat} {env : Env} (h : notComp v = true) : swapsWith v t n env = pure false := by
  cases v <;> first | rfl | cases h
theorem sws_plain {v t : Expr} {n : Nat} {env : Env} (h : notComp v = true) : swapsWithSole [t] v n env = pure false := sw_plain h
theorem stores_plain {v : Expr} {t : Expr} {env : Env} (h : notTup v = true) : swappedStores [t] v env = pure none := by
  unfold swappedStores
  cases v <;> first | (cases t <;> rfl) | cases h
theorem EXD.bk (E : EXD L c k b X W) : X.env.blockKind = .function := by
  unfold Env.blockKind
  rw [E.sc, E.fk]
  rfl
theorem sw_lc (E : EXD L c k b X W) {el : Expr} {gens : List Comprehension} {scope : Scope} {p px : Pos} {x : Str} : swapsWith (.ListComp el gens scope p) (some (.Name x px)) n X.env = pure (swB b x px p scope) := by
  show (pure _ : Sem Bool) = _
  rw [E.bk]
  unfold swB Env.kindOf
  rw [E.sc]
  rfl
theorem nms_eq (E : EXD L c k b X W) (line : Nat) (ts : List Expr) : (ts.filterMap fun
    | .Name id pos => if X.env.kindOf id == some .local && pos.line == line then some id else none
    | _ => none) = nmsB b line ts := by
  unfold nmsB Env.kindOf
  rw [E.sc]
theorem stores_no (E : EXD L c k b X W) {ts vs : List Expr} {k1 k2 : Nat} {p1 p2 : Pos} (h : swNo b ts = true) : swappedStores [.Tuple ts k1 p1] (.Tuple vs k2 p2) X.env = pure none := by
  unfold swappedStores
  show (if (!(ts.length == 2 || ts.length == 3) || vs.length != ts.length || X.env.blockKind != .function) = true then (pure none : Sem (Option (List Str))) else _) = _
  by_cases h1 : (!(ts.length == 2 || ts.length == 3) || vs.length != ts.length || X.env.blockKind != .function) = true
  · rw [if_pos h1]
  · rw [if_neg h1]
    by_cases h2 : (vs.any fun | .Starred .. => true | _ => false) = true
    · exact if_pos h2
    · refine (if_neg h2).trans ?_
      have h3 : (nmsB b (lineOf ts) ts).length != ts.length := by
        unfold swNo at h
        rw [Bool.or_eq_true] at h
        rcases h with h | h
        · rw [h] at h1; exact absurd rfl h1
        · exact h
      have h4 := nms_eq E (lineOf ts) ts
      refine if_pos ?_
      rw [Bool.or_eq_true]
      exact .inl (by rw [← h4] at h3; exact h3)
theorem star_no {a : Expr} (h : plainE a = true) : (match a with | .Starred .. => true | _ => false) = false := by
  cases a <;> first | rfl | cases h
theorem stores_2 (E : EXD L c k b X W) {a a2 : Expr} {x y : Str} {px py p1 p2 : Pos} {k1 k2 : Nat} (hx : b.sc.names.lookup x = some .local) (hy : b.sc.names.lookup y = some .local) (hxy : x ≠ y) (hl : py.line = px.line) (ha : plainE a = true) (ha2 : plainE a2 = true)
    (h1 : [a, a2].all (foldedForSure 8) = false) (h2 : [a, a2].all (constantsAlone 8) = false) : swappedStores [.Tuple [.Name x px, .Name y py] k1 p1] (.Tuple [a, a2] k2 p2) X.env = pure (some [x, y]) := by
  unfold swappedStores
  show (if (X.env.blockKind != .function) = true then (pure none : Sem (Option (List Str))) else _) = _
  rw [if_neg (by rw [E.bk]; decide)]
  refine (if_neg (fun z => by
    rw [List.any_eq_true] at z
    obtain ⟨v, hv, hf⟩ := z
    have hp : plainE v = true := by
      simp only [List.mem_cons, List.not_mem_nil, or_false] at hv
      rcases hv with rfl | rfl <;> assumption
    cases v <;> first | (cases hf; done) | (cases hp; done))).trans ?_
  have kx : X.env.kindOf x = some .local := by unfold Env.kindOf; rw [E.sc]; exact hx
  have ky : X.env.kindOf y = some .local := by unfold Env.kindOf; rw [E.sc]; exact hy
  have nm : ([Expr.Name x px, Expr.Name y py].filterMap fun
    | .Name id pos => if X.env.kindOf id == some .local && pos.line == px.line then some id else none
    | _ => none) = [x, y] := by
    simp [kx, ky, hl]
  have ed : [x, y].eraseDups = [x, y] := by
    have : (y == x) = false := beq_eq_false_iff_ne.mpr (Ne.symm hxy)
    simp [List.eraseDups_cons, this]
  show (if ((([Expr.Name x px, Expr.Name y py].filterMap fun
    | .Name id pos => if X.env.kindOf id == some .local && pos.line == px.line then some id else none
    | _ => none).length != 2) || (([Expr.Name x px, Expr.Name y py].filterMap fun
    | .Name id pos => if X.env.kindOf id == some .local && pos.line == px.line then some id else none
    | _ => none).eraseDups.length != ([Expr.Name x px, Expr.Name y py].filterMap fun
    | .Name id pos => if X.env.kindOf id == some .local && pos.line == px.line then some id else none
    | _ => none).length)) = true then (pure none : Sem (Option (List Str))) else _) = _
  rw [nm, ed]
  refine (if_neg Bool.false_ne_true).trans ?_
  refine (if_neg (by rw [h1]; decide)).trans ?_
  refine (if_neg (by rw [h2]; decide)).trans ?_
  exact congrArg (fun l => (pure (some l) : Sem (Option (List Str)))) nm
theorem stores_3 (E : EXD L c k b X W) {a a2 a3 : Expr} {x y z : Str} {px py pz p1 p2 : Pos} {k1 k2 : Nat} (hx : b.sc.names.lookup x = some .local) (hy : b.sc.names.lookup y = some .local) (hz : b.sc.names.lookup z = some .local) (hxy : x ≠ y) (hxz : x ≠ z) (hyz : y ≠ z) (hl : py.line = px.line) (hl2 : pz.line = px.line)
    (ha : plainE a = true) (ha2 : plainE a2 = true) (ha3 : plainE a3 = true) (h1 : [a, a2, a3].all (foldedForSure 8) = false) (h2 : [a, a2, a3].all (constantsAlone 8) = false) : swappedStores [.Tuple [.Name x px, .Name y py, .Name z pz] k1 p1] (.Tuple [a, a2, a3] k2 p2) X.env = pure (some [x, y, z]) := by
  unfold swappedStores
  show (if (X.env.blockKind != .function) = true then (pure none : Sem (Option (List Str))) else _) = _
  rw [if_neg (by rw [E.bk]; decide)]
  refine (if_neg (fun z => by
    rw [List.any_eq_true] at z
    obtain ⟨v, hv, hf⟩ := z
    have hp : plainE v = true := by
      simp only [List.mem_cons, List.not_mem_nil, or_false] at hv
      rcases hv with rfl | rfl | rfl <;> assumption
    cases v <;> first | (cases hf; done) | (cases hp; done))).trans ?_
  have kx : X.env.kindOf x = some .local := by unfold Env.kindOf; rw [E.sc]; exact hx
  have ky : X.env.kindOf y = some .local := by unfold Env.kindOf; rw [E.sc]; exact hy
  have kz : X.env.kindOf z = some .local := by unfold Env.kindOf; rw [E.sc]; exact hz
  have nm : ([Expr.Name x px, Expr.Name y py, Expr.Name z pz].filterMap fun
    | .Name id pos => if X.env.kindOf id == some .local && pos.line == px.line then some id else none
    | _ => none) = [x, y, z] := by
    simp [kx, ky, kz, hl, hl2]
  have ed : [x, y, z].eraseDups = [x, y, z] := by
    have e1 : (y == x) = false := beq_eq_false_iff_ne.mpr (Ne.symm hxy)
    have e2 : (z == x) = false := beq_eq_false_iff_ne.mpr (Ne.symm hxz)
    have e3 : (z == y) = false := beq_eq_false_iff_ne.mpr (Ne.symm hyz)
    simp [List.eraseDups_cons, e1, e2, e3]
  show (if ((([Expr.Name x px, Expr.Name y py, Expr.Name z pz].filterMap fun
    | .Name id pos => if X.env.kindOf id == some .local && pos.line == px.line then some id else none
    | _ => none).length != 3) || (([Expr.Name x px, Expr.Name y py, Expr.Name z pz].filterMap fun
    | .Name id pos => if X.env.kindOf id == some .local && pos.line == px.line then some id else none
    | _ => none).eraseDups.length != ([Expr.Name x px, Expr.Name y py, Expr.Name z pz].filterMap fun
    | .Name id pos => if X.env.kindOf id == some .local && pos.line == px.line then some id else none
    | _ => none).length)) = true then (pure none : Sem (Option (List Str))) else _) = _
  rw [nm, ed]
  refine (if_neg Bool.false_ne_true).trans ?_
  refine (if_neg (by rw [h1]; decide)).trans ?_
  refine (if_neg (by rw [h2]; decide)).trans ?_
  exact congrArg (fun l => (pure (some l) : Sem (Option (List Str)))) nm
/-- the values of a display -/
theorem vals_pa (E : EX L c k b X W) : ∀ {es : IE} {xs : List Expr}, (chk c es).l b xs = true → PA X xs (Tr (gx X) W (rVs (gx X)) (vals L es)) := by
  intro es
  induction es with
  | nil =>
    intro xs h
    cases xs with
    | nil => exact pa_weak pa_nil fun σ H Q q => nilV_ok q
    | cons _ _ => cases h
  | cons e es _ ih =>
    intro xs h
    cases xs with
    | nil => cases h
    | cons x r =>
      obtain ⟨h1, h2⟩ := name_and h
      obtain ⟨p0, p1, _⟩ := (snd L e).e E h1
      exact pa_weak (pa_cons p1 (ih h2) (star_plain p0)) fun σ H Q q => consV_ok q
  | _ => intro xs h; cases h
theorem bnot {p : Bool} (h : (!p) = true) : p = false := by cases p <;> first | rfl | cases h
theorem bne {α : Type} [BEq α] [LawfulBEq α] {x y : α} (h : (x != y) = true) : x ≠ y := by simpa using h
theorem s_parT {ks : List (Nat × Vk)} {es : IE} {σ : L2.St} {H : Hp} {D : Ends} {xs : List Expr} (hl : xs.length ≤ 1000) (hk : ks.length = xs.length) (h0 : zz ≠ none → 0 ∉ ks.map (·.1)) (h : tS (gx X) W zz ((vals L es).bind fun xs => (setAll ks xs).bind fun _ => M.pure .next) D σ H) :
    tAsg (tTup (Tr (gx X) W (rVs (gx X)) (vals L es))) (gTup X.K ks.length (gMany (ks.map (·.1)))) D σ H := by
  refine s_par h0 h fun vs H1 e q => ⟨by rw [e, hk, sizeLine_eq]; omega, fun p hp => ⟨p, vs, rfl, SqT.of upd_same, e, gMany_of (Q := D.nx) e (q _ (same_up hp))⟩⟩
end
end DL
end

section
/-! The data layer, part 21: the check of statements holds. -/
namespace DL
open PySem PySem.Spec PyProof.Rows L2
structure SndS (L : Lk) (is : IS) : Prop where
  s : ∀ {c : SC} {k : Nat} {b : BS} {X : Cx} {W : WX} {zz : Option V} {st : Stmt}, (zz ≠ none → c.self = true) → EXD L c k b X W → (chkS c is).s b st = true → PS X st (tS (gx X) W zz (exS L is))
  l : ∀ {c : SC} {k : Nat} {b : BS} {X : Cx} {W : WX} {zz : Option V} {sts : List Stmt}, (zz ≠ none → c.self = true) → EXD L c k b X W → (chkS c is).l b sts = true → PSs X sts (tS (gx X) W zz (exS L is))
theorem sndS_s {L : Lk} {is : IS} (hl : ∀ c b xs, (chkS c is).l b xs = false) (hs : ∀ {c : SC} {k : Nat} {b : BS} {X : Cx} {W : WX} {zz : Option V} {st : Stmt}, (zz ≠ none → c.self = true) → EXD L c k b X W → (chkS c is).s b st = true → PS X st (tS (gx X) W zz (exS L is))) : SndS L is :=
  ⟨hs, fun {c k b X W zz sts} hz E h => by rw [hl] at h; cases h⟩
theorem set_okS {L : Lk} {i : Nat} {kd : Vk} {e : IE} {c : SC} {k : Nat} {b : BS} {X : Cx} {W : WX} {x : Str} {px p : Pos} {v : Expr} {zz : Option V} (hz : zz ≠ none → c.self = true) (E : EXD L c k b X W) (h1 : locB c b i x = true) (hv : setV c b e x px v = true) :
    PS X (.Assign [.Name x px] v p) (tS (gx X) W zz (exS L (.set i kd e))) := by
  obtain ⟨g1, g2, g3⟩ := E.toEX.loc h1
  have other : swapsWith v (some (.Name x px)) p.line X.env = pure false → (chk c e).e b v = true → PS X (.Assign [.Name x px] v p) (tS (gx X) W zz (exS L (.set i kd e))) := fun n hc =>
    ps_weak (ps_set E.nd g1 g2 ((snd L e).e E.toEX hc).2.1 n g3) fun D σ H q => s_set (fun n => loc_z h1 (hz n)) q
  unfold setV at hv
  split at hv
  · rename_i el gens scope pv
    cases hsw : swB b x px pv scope with
    | false =>
      rw [hsw, if_neg (by decide)] at hv
      exact other (by rw [sw_lc E, hsw]) hv
    | true =>
      rw [hsw, if_pos rfl] at hv
      unfold lcC at hv
      split at hv
      · rename_i own tg it ifs elt te ie fs a he
        have he2 : e = .lc own tg it ifs elt := by
          unfold lcPart at he
          split at he
          · cases he; rfl
          · cases he
        subst he2
        obtain ⟨hv, h7⟩ := name_and hv
        obtain ⟨hv, h6⟩ := name_and hv
        obtain ⟨hv, h5⟩ := name_and hv
        obtain ⟨hv, h4⟩ := name_and hv
        obtain ⟨hv, h3⟩ := name_and hv
        obtain ⟨h1', h2'⟩ := name_and hv
        obtain rfl := eq_of_beq h1'
        obtain ⟨i1, i2⟩ := (snd L it).i E.toEX h2'
        have ok : BlkOk X.N X.env.scope scope (ownP c own) := blkOk_by (by rw [E.hN, E.sc]; exact h3)
        have hown : (ownP c own).map (·.2) = own := by
          unfold ownP
          rw [List.map_map]
          exact List.map_id own
        have hloc : X.env.scope.names.lookup x = some .local := by
          unfold swB at hsw
          obtain ⟨hsw, _⟩ := name_and hsw
          obtain ⟨hsw, _⟩ := name_and hsw
          rw [E.sc]
          exact eq_of_beq hsw
        refine ps_weak (ps_setLc (g := gTg X.K tg) (tt := tT (gx X) W0 (ev L ifs).t) (te := tE (gx X) W0 (ev L elt).v) E.calm E.nd g1 hloc (by rw [sw_lc E, hsw]) i1 ok (fun s H C cl fp => tg_pg (E.toEX.blk scope s H C cl fp) h5) (fun s H C cl fp => (snd L ifs).f (E.toEX.blk scope s H C cl fp) h6)
          (fun s H C cl fp => ((snd L elt).e (E.toEX.blk scope s H C cl fp) h7).2.1) (i2 _)) fun D σ H q => ?_
        rw [hown]
        exact lc_ok (by simpa using h4) (s_set (fun n => loc_z h1 (hz n)) q)
      · cases hv
  · obtain ⟨n, hc⟩ := name_and hv
    exact other (sw_plain n) hc
theorem par_ok {L : Lk} {ks : List (Nat × Vk)} {es : IE} {c : SC} {k : Nat} {b : BS} {X : Cx} {W : WX} {ts vs : List Expr} {k1 k2 : Nat} {p1 p2 p : Pos} {zz : Option V} (hz : zz ≠ none → c.self = true) (E : EXD L c k b X W) (h1 : (chk c es).l b vs = true) (h2 : lenI es ≤ 1000) (h3 : ((swNo b ts && tgC1 c b (ks.map (·.1)) ts && decide (ks.length = lenI es)) || par2 c b ks ts vs || par3 c b ks ts vs) = true) :
    PS X (.Assign [.Tuple ts k1 p1] (.Tuple vs k2 p2) p) (tS (gx X) W zz (exS L (.par ks es))) := by
  have hlen := chk_len es h1
  have pv := vals_pa E.toEX h1
  have ap := ((snd L es).l E.toEX h1).1
  rw [Bool.or_eq_true, Bool.or_eq_true] at h3
  rcases h3 with (h3 | h3) | h3
  · obtain ⟨h3, h4⟩ := name_and h3
    obtain ⟨s1, s2⟩ := name_and h3
    obtain ⟨g1, g2, g3⟩ := tgs_pg E.toEX s2
    have hk : ks.length = lenI es := of_decide_eq_true h4
    refine ps_weak (ps_asg (pe_tup pv) (pg_tup E.calm g1 g2 g3) (sws_plain rfl) (stores_no E s1)) fun D σ H q => ?_
    have q := s_parT (es := es) (ks := ks) (xs := vs) (by omega) (by omega) (fun n => tgs_z (hz n) s2) q
    rw [List.length_map]
    exact q
  · unfold par2 at h3
    split at h3
    · rename_i i ki j kj x px y py a a2
      obtain ⟨h3, q9⟩ := name_and h3
      obtain ⟨h3, q8⟩ := name_and h3
      obtain ⟨h3, q7⟩ := name_and h3
      obtain ⟨h3, q6⟩ := name_and h3
      obtain ⟨h3, q5⟩ := name_and h3
      obtain ⟨h3, q4⟩ := name_and h3
      obtain ⟨h3, q3⟩ := name_and h3
      obtain ⟨h3, q2⟩ := name_and h3
      obtain ⟨q0, q1⟩ := name_and h3
      have n0 : zz ≠ none → i ≠ 0 ∧ j ≠ 0 := fun n => by
        rw [hz n] at q0
        simpa using q0
      have q5 := eq_of_beq q5
      have q6 := eq_of_beq q6
      simp only [List.all_cons, List.all_nil, Bool.and_true, Bool.and_eq_true] at ap
      refine ps_weak (ps_par E.calm E.nd (by rw [E.hN]; exact eq_of_beq q1) (by rw [E.hN]; exact eq_of_beq q2) (bne q3) (by rw [E.sc]; exact q5) (by rw [E.sc]; exact q6) pv (stores_2 E q5 q6 (bne q4) (eq_of_beq q7) ap.1 ap.2 (bnot q8) (bnot q9)) (sws_plain rfl)) fun D σ H q => ?_
      refine s_par (ks := [(i, ki), (j, kj)]) (fun n w => by
        obtain ⟨m1, m2⟩ := n0 n
        simp at w
        omega) q fun ws H1 e n => ?_
      rcases ws with _ | ⟨w1, _ | ⟨w2, _ | ⟨_, _⟩⟩⟩ <;> first | cases e | skip
      exact ⟨w1, w2, rfl, n H1 (Same.refl _)⟩
    · cases h3
  · unfold par3 at h3
    split at h3
    · rename_i i ki j kj l kl x px y py z pz a a2 a3
      obtain ⟨h3, q16⟩ := name_and h3
      obtain ⟨h3, q15⟩ := name_and h3
      obtain ⟨h3, q14⟩ := name_and h3
      obtain ⟨h3, q13⟩ := name_and h3
      obtain ⟨h3, q12⟩ := name_and h3
      obtain ⟨h3, q11⟩ := name_and h3
      obtain ⟨h3, q10⟩ := name_and h3
      obtain ⟨h3, q9⟩ := name_and h3
      obtain ⟨h3, q8⟩ := name_and h3
      obtain ⟨h3, q7⟩ := name_and h3
      obtain ⟨h3, q6⟩ := name_and h3
      obtain ⟨h3, q5⟩ := name_and h3
      obtain ⟨h3, q4⟩ := name_and h3
      obtain ⟨h3, q3⟩ := name_and h3
      obtain ⟨h3, q2⟩ := name_and h3
      obtain ⟨q0, q1⟩ := name_and h3
      have n0 : zz ≠ none → (i ≠ 0 ∧ j ≠ 0) ∧ l ≠ 0 := fun n => by
        rw [hz n] at q0
        simpa using q0
      have q10 := eq_of_beq q10
      have q11 := eq_of_beq q11
      have q12 := eq_of_beq q12
      simp only [List.all_cons, List.all_nil, Bool.and_true, Bool.and_eq_true] at ap
      refine ps_weak (ps_par3 E.calm E.nd (by rw [E.hN]; exact eq_of_beq q1) (by rw [E.hN]; exact eq_of_beq q2) (by rw [E.hN]; exact eq_of_beq q3) (bne q4) (bne q5) (bne q6) (by rw [E.sc]; exact q10) (by rw [E.sc]; exact q11) (by rw [E.sc]; exact q12) pv
        (stores_3 E q10 q11 q12 (bne q7) (bne q8) (bne q9) (eq_of_beq q13) (eq_of_beq q14) ap.1 ap.2.1 ap.2.2 (bnot q15) (bnot q16)) (sws_plain rfl)) fun D σ H q => ?_
      refine s_par (ks := [(i, ki), (j, kj), (l, kl)]) (fun n w => by
        obtain ⟨⟨m1, m2⟩, m3⟩ := n0 n
        simp at w
        omega) q fun ws H1 e n => ?_
      rcases ws with _ | ⟨w1, _ | ⟨w2, _ | ⟨w3, _ | ⟨_, _⟩⟩⟩⟩ <;> first | cases e | skip
      exact ⟨w1, w2, w3, rfl, n H1 (Same.refl _)⟩
    · cases h3
set_option maxHeartbeats 1000000
theorem sndS (L : Lk) (is : IS) : SndS L is := by
  induction is with
  | nil =>
    refine ⟨(fun {c k b X W zz st} hz E h => by cases h), fun {c k b X W zz sts} hz E h => ?_⟩
    cases sts with
    | nil => exact pss_weak pss_nil fun D σ H q => s_nil q
    | cons _ _ => cases h
  | cons s ss i1 i2 =>
    refine ⟨(fun {c k b X W zz st} hz E h => by cases h), fun {c k b X W zz sts} hz E h => ?_⟩
    cases sts with
    | nil => cases h
    | cons x r =>
      obtain ⟨h1, h2⟩ := name_and h
      exact pss_weak (pss_cons (i1.s hz E h1) (i2.l hz E h2)) fun D σ H q => s_cons q
  | set i kd e =>
    refine sndS_s (fun _ _ _ => rfl) fun {c k b X W zz st} hz E h => ?_
    have h : setC c b i e st = true := h
    unfold setC at h
    split at h
    · rename_i x px v p
      obtain ⟨h, hv⟩ := name_and h
      obtain ⟨h1, h2⟩ := name_and h
      exact set_okS hz E h1 hv
    · cases h
  | setT is e =>
    refine sndS_s (fun _ _ _ => rfl) fun {c k b X W zz st} hz E h => ?_
    cases st <;> first | cases h | skip
    rename_i ts v p
    cases ts with
    | nil => cases h
    | cons t r =>
    cases t <;> cases r <;> first | cases h | skip
    obtain ⟨h, h4⟩ := name_and h
    obtain ⟨h, h3⟩ := name_and h
    obtain ⟨h1, h2⟩ := name_and h
    exact ps_weak (ps_asg ((snd L e).e E.toEX h4).2.1 (tg_pg E.toEX (tg := .many is) h1) (sws_plain h2) (stores_plain h3)) fun D σ H q => s_setT (fun n => tgs_z (hz n) h1) q
  | par ks es =>
    refine sndS_s (fun _ _ _ => rfl) fun {c k b X W zz st} hz E h => ?_
    cases st <;> first | cases h | skip
    rename_i ts v p
    cases ts with
    | nil => cases h
    | cons t r =>
    cases t <;> first | (cases r <;> cases h; done) | skip
    rename_i ts k1 p1
    cases v <;> cases r <;> first | cases h | skip
    rename_i vs k2 p2
    obtain ⟨h, h3⟩ := name_and h
    obtain ⟨h1, h2⟩ := name_and h
    have h2 : lenI es ≤ 1000 := of_decide_eq_true h2
    exact par_ok hz E h1 h2 h3
  | subs i ix e =>
    refine sndS_s (fun _ _ _ => rfl) fun {c k b X W zz st} hz E h => ?_
    cases st <;> first | cases h | skip
    rename_i ts v p
    cases ts with
    | nil => cases h
    | cons t r =>
    cases t <;> first | (cases r <;> cases h; done) | skip
    rename_i x ie p2
    cases x <;> cases r <;> first | cases h | skip
    obtain ⟨h, h6⟩ := name_and h
    obtain ⟨h, h5⟩ := name_and h
    obtain ⟨h, h4⟩ := name_and h
    obtain ⟨h, h3⟩ := name_and h
    obtain ⟨h1, h2⟩ := name_and h
    obtain ⟨n1, n2, _⟩ := nameOk_of h3
    obtain ⟨q0, q1, _⟩ := (snd L ix).e E.toEX h5
    exact ps_weak (ps_asg ((snd L e).e E.toEX h6).2.1 (pg_sub (pe_var (by rw [E.hN]; exact eq_of_beq h1) (E.toEX.vis h2) n1 n2) q1 set_list (fun v => by cases ie <;> first | rfl | cases q0)) (sws_plain h4) (by unfold swappedStores; rfl)) fun D σ H q => s_subs q
  | fld i f e =>
    refine sndS_s (fun _ _ _ => rfl) fun {c k b X W zz st} hz E h => ?_
    cases st <;> first | cases h | skip
    rename_i ts v p
    cases ts with
    | nil => cases h
    | cons t r =>
    cases t <;> first | (cases r <;> cases h; done) | skip
    rename_i x g p2
    cases x <;> cases r <;> first | cases h | skip
    obtain ⟨h, h6⟩ := name_and h
    obtain ⟨h, h5⟩ := name_and h
    obtain ⟨h, h4⟩ := name_and h
    obtain ⟨h, h3⟩ := name_and h
    obtain ⟨h1, h2⟩ := name_and h
    obtain rfl := eq_of_beq h1
    obtain ⟨n1, n2, _⟩ := nameOk_of h4
    exact ps_weak (ps_fld (pe_var (by rw [E.hN]; exact eq_of_beq h2) (E.toEX.vis h3) n1 n2) ((snd L e).e E.toEX h6).2.1 (sw_plain h5)) fun D σ H q => s_fld q
  | expr e =>
    refine sndS_s (fun _ _ _ => rfl) fun {c k b X W zz st} hz E h => ?_
    cases st <;> first | cases h | skip
    obtain ⟨h1, h2⟩ := name_and h
    exact ps_weak (ps_expr ((snd L e).e E.toEX h2).2.1 (sw_plain h1)) fun D σ H q => s_expr q
  | ret e =>
    refine sndS_s (fun _ _ _ => rfl) fun {c k b X W zz st} hz E h => ?_
    cases st <;> first | cases h | skip
    rename_i v p
    cases v <;> first | cases h | skip
    exact ps_weak (ps_ret ((snd L e).e E.toEX h).2.1) fun D σ H q => s_ret q
  | retN =>
    refine sndS_s (fun _ _ _ => rfl) fun {c k b X W zz st} hz E h => ?_
    cases st <;> first | cases h | skip
    rename_i v p
    cases v <;> first | cases h | skip
    exact ps_weak ps_retN fun D σ H q => s_retN q
  | ife t s1 s2 i1 i2 =>
    refine sndS_s (fun _ _ _ => rfl) fun {c k b X W zz st} hz E h => ?_
    cases st <;> first | cases h | skip
    obtain ⟨h, h3⟩ := name_and h
    obtain ⟨h1, h2⟩ := name_and h
    exact ps_weak (ps_if ((snd L t).e E.toEX h1).2.2 (i1.l hz E h2) (i2.l hz E h3)) fun D σ H q => s_if q
  | loop tg it s1 i1 =>
    refine sndS_s (fun _ _ _ => rfl) fun {c k b X W zz st} hz E h => ?_
    cases st <;> first | cases h | skip
    rename_i te ie xs ys p
    cases ys <;> first | cases h | skip
    obtain ⟨h, h3⟩ := name_and h
    obtain ⟨h1, h2⟩ := name_and h
    obtain ⟨j1, j2⟩ := (snd L it).i E.toEX h1
    exact ps_weak (ps_for E.po E.calm j1 (tg_pg E.toEX h2) (i1.l hz E h3) (j2 _)) fun D σ H q => s_for (fun n => tg_z (hz n) h2) q
  | whl t s1 i1 =>
    refine sndS_s (fun _ _ _ => rfl) fun {c k b X W zz st} hz E h => ?_
    cases st <;> first | cases h | skip
    rename_i x xs ys p
    cases ys <;> first | cases h | skip
    obtain ⟨h1, h2⟩ := name_and h
    exact ps_weak (ps_while E.po ((snd L t).e E.toEX h1).2.2 (i1.l hz E h2)) fun D σ H q => s_whl _ q
  | never =>
    refine ⟨fun {c k b X W zz st} hz E h => ps_weak ps_never fun D σ H q => ?_, fun {c k b X W zz sts} hz E h => pss_weak pss_never fun D σ H q => ?_⟩
    · obtain ⟨A, G, μ, ρ, S, _, s, q⟩ := q; exact q
    · obtain ⟨A, G, μ, ρ, S, _, s, q⟩ := q; exact q
end DL
end

section
/-! The data layer, part 22: defs. -/
namespace DL
open PySem PySem.Spec PyProof.Rows L2
section
variable {mg : Gm} {A : Addr → Prop} {G : Hp} {μ ν : List Addr} {σ : L2.St} {H : Hp} {ρ : List Sl} {S : Store}
theorem no_pv {a : Addr} : ¬ Pv [] [] a := fun ⟨i, t, h, _⟩ => by simp at h
theorem av_less {a : Addr} (z : Av A μ [] [] a) : Av A (μ ++ ν) σ ρ a := by
  rcases z with z | z | z
  · exact .inl z
  · exact .inr (.inl (List.mem_append_left _ z))
  · exact absurd z no_pv
/-- a frame is left; B: what stays alone -/
theorem SR.leaveB {B : Addr → Prop} (hB : ∀ a, B a → Av A (μ ++ ν) σ ρ a ∧ a ∉ μ) (s : SR mg A G (μ ++ ν) σ H ρ S) {n : Nat} (hn : n = μ.length) : SR mg (withB A B) G μ [] H [] (S.take n) := by
  subst hn
  have m : ∀ a o, H a = some o → Av (withB A B) μ [] [] a → Av A (μ ++ ν) σ ρ a := fun a o _ z => by
    rcases z with (z | z) | z
    · exact .inl z
    · exact (hB a z).1
    · exact av_less (.inr z)
  refine ⟨rfl, fun i t e h => by simp at h, fun i j t u a h => by simp at h, fun a z => absurd z no_pv, ?_, fun l a xs h1 h2 => ?_, ?_, fun a z => ?_, fun a o e => ?_⟩
  · rw [List.length_take, s.sl, List.length_append]; omega
  · have hl : l < μ.length := (List.getElem?_eq_some_iff.mp h1).1
    obtain ⟨vs, e, r⟩ := s.st l a xs (by rw [List.getElem?_append_left hl]; exact h1) (by rw [List.getElem?_take_of_lt hl] at h2; exact h2)
    exact ⟨vs, e, r.keep (fun _ _ e _ => e) m⟩
  · exact (List.nodup_append.mp s.nd).1
  · rcases z with z | z
    · exact ⟨fun q => (s.av a z).1 (List.mem_append_left _ q), (s.av a z).2⟩
    · exact ⟨(hB a z).2, s.dom (hB a z).1⟩
  · obtain ⟨h1, h2, h3⟩ := s.gd a o e
    exact ⟨h1, fun q => h2 (List.mem_append_left _ q), no_pv⟩
theorem SR.leave (s : SR mg A G (μ ++ ν) σ H ρ S) {n : Nat} (hn : n = μ.length) : SR mg A G μ [] H [] (S.take n) :=
  (s.leaveB (B := fun _ => False) (fun _ z => z.elim) hn).less fun a z => .inl z
theorem rep_less {v : V} {d : D} (r : Rep mg H (Av A (μ ++ ν) σ ρ) v d) : Rep mg H (Av A μ [] []) v d := r.keep (fun _ _ e _ => e) fun a o _ z => av_less z
/-- what a call's end is to bring, brought by its frame's -/
theorem end_frame {Q : VK} {E : XK} {n : Nat} (hn : n = μ.length) : ∀ {o : Out Fl}, FRok mg A G μ Q E (endFR n o) → EndS mg (fun cls d _ H => E cls d H) none A G μ { nx := fun _ H' => Q .non H', rt := Q } o
  | .ok .next ρ' S', h => fun ν σ' H' _ s => h .non H' (s.leave hn) .non
  | .ok .brk ρ' S', h => h.elim
  | .ok .cont ρ' S', h => h.elim
  | .ok (.ret (.d x)) ρ' S', h => fun ν σ' H' _ s v r => h v H' (s.leave hn) (rep_less r)
  | .ok (.ret (.loc l)) ρ' S', h => h.elim
  | .ok (.ret (.lam l)) ρ' S', h => h.elim
  | .ok (.ret (.scr l)) ρ' S', h => h.elim
  | .ok (.ret (.fresh xs)) ρ' S', h => fun ν σ' H' _ s v r => by
    obtain ⟨⟨p, vs, rfl, e1, r1, n1, g1⟩, al⟩ := r
    refine h _ H' (s.leave hn) ⟨⟨p, vs, rfl, e1, r1.keep (fun _ _ e _ => e) fun a o _ z => z.imp av_less id, fun z => n1 (av_less z), g1⟩, fun q e => ?_⟩
    cases e
    exact (al p rfl).leave hn
  | .ok (.ret (.own i)) ρ' S', h => fun ν σ' H' _ s v r => by
    have r : σ'[i]? = some (some v) := r
    cases e : ρ'[i]? with
    | none => simp only [endFR, e] at h; exact h.elim
    | some t =>
      have q := s.slot i t _ e r
      cases t with
      | own xs =>
        simp only [endFR, e] at h
        obtain ⟨p, vs, e0, e1, r1⟩ := q
        cases e0
        have hp : Pv σ' ρ' p := ⟨i, _, e, rfl, r⟩
        have hpp := s.priv p hp
        have np : p ∉ μ := fun z => hpp.2 (List.mem_append_left _ z)
        refine h _ H' (s.leave hn) ⟨⟨p, vs, rfl, e1, r1.keep (fun _ _ e _ => e) fun a o _ z => ?_, fun z => ?_, ?_⟩, fun q e => ?_⟩
        · rcases z with z | z
          · exact av_less z
          · rw [z]; exact .inr (.inr hp)
        · rcases z with z | z | z
          · exact hpp.1 z
          · exact np z
          · exact no_pv z
        · cases z : G p with
          | none => rfl
          | some o => exact absurd hp (s.gd p o z).2.2
        · cases e
          exact s.leaveB (B := fun a => a = p) (fun a z => by rw [z]; exact ⟨.inr (.inr hp), np⟩) hn
      | d x =>
        simp only [endFR, e] at h
        obtain ⟨w, e0, r1⟩ := q
        cases e0
        exact h v H' (s.leave hn) (rep_less r1)
      | _ => simp only [endFR, e] at h; exact h.elim
  | .err c fs ρ' S', h => fun ν cls d σ' H' s x => by
    refine h cls d H' (s.leave hn) ?_
    obtain ⟨C, q1, q2, q3⟩ := x
    exact ⟨C, q1, q2, q3.imp id fun ⟨a, vfs, e1, e2, e3⟩ => ⟨a, vfs, e1, e2, e3.keep (fun _ _ e _ => e) fun a o _ z => av_less z⟩⟩
  | .stuck, h => h.elim
/-- a frame's start -/
theorem SR.enter {vs : List V} {as : List Arg} {N : List Str} (s : SR mg A G μ [] H [] S) (r : ArgL mg H (Av A μ [] []) μ vs as) (hl : as.length ≤ N.length) : SR mg A G μ (L2.start N vs) H (as.map slOf ++ List.replicate (N.length - as.length) .none) S := by
  have hv := r.length
  have np : ∀ a, ¬ Pv (L2.start N vs) (as.map slOf ++ List.replicate (N.length - as.length) .none) a := fun a ⟨i, t, h1, h2, _⟩ => by
    by_cases hi : i < as.length
    · rw [List.getElem?_append_left (by rw [List.length_map]; exact hi), List.getElem?_map] at h1
      cases e : as[i]? with
      | none => rw [e] at h1; cases h1
      | some x => rw [e] at h1; cases h1; cases x <;> cases h2
    · rw [List.getElem?_append_right (by rw [List.length_map]; omega), List.getElem?_replicate] at h1
      split at h1
      · cases h1; cases h2
      · cases h1
  have m : ∀ a, Av A μ (L2.start N vs) (as.map slOf ++ List.replicate (N.length - as.length) .none) a → Av A μ [] [] a := fun a z => by
    rcases z with z | z | z
    · exact .inl z
    · exact .inr (.inl z)
    · exact absurd z (np a)
  refine ⟨?_, fun i t e h1 h2 => ?_, fun i j t u a h1 h2 h3 => ?_, fun a z => absurd z (np a), s.sl, fun l a xs h1 h2 => ?_, s.nd, s.av, fun a o e => let ⟨g1, g2, _⟩ := s.gd a o e; ⟨g1, g2, np a⟩⟩
  · unfold L2.start
    rw [List.length_append, List.length_append, List.length_map, List.length_map, List.length_replicate, List.length_replicate, hv]
  · by_cases hi : i < as.length
    · rw [List.getElem?_append_left (by rw [List.length_map]; exact hi), List.getElem?_map] at h1
      unfold L2.start at h2
      rw [List.getElem?_append_left (by rw [List.length_map]; omega), List.getElem?_map] at h2
      have go : ∀ {vs : List V} {as : List Arg} {i : Nat} {v : V} {a : Arg}, ArgL mg H (Av A μ [] []) μ vs as → vs[i]? = some v → as[i]? = some a → ArgR mg H (Av A μ [] []) μ v a := by
        intro vs as i
        induction i generalizing vs as with
        | zero =>
          intro v a r e1 e2
          cases r with
          | nil => cases e1
          | cons r t => simp at e1 e2; subst e1 e2; exact r
        | succ i ih =>
          intro v a r e1 e2
          cases r with
          | nil => cases e1
          | cons r t => exact ih t (by simpa using e1) (by simpa using e2)
      cases e1 : as[i]? with
      | none => rw [e1] at h1; cases h1
      | some x =>
        cases e2 : vs[i]? with
        | none => rw [List.getElem?_eq_none_iff] at e2; omega
        | some v =>
          rw [e1] at h1; rw [e2] at h2
          cases h1; cases h2
          have q := go r e2 e1
          cases x with
          | d x => exact ⟨v, rfl, q.keep (fun _ _ e _ => e) fun a o _ z => m a z⟩
          | scr ns => obtain ⟨a, rfl, q⟩ := q; exact ⟨a, rfl, q.keep (fun _ _ e _ => e) fun a o _ z => m a z⟩
          | loc l => obtain ⟨a, rfl, q⟩ := q; exact ⟨a, rfl, q⟩
          | lam g => obtain ⟨f, _, z⟩ := q; exact z.elim
    · rw [List.getElem?_append_right (by rw [List.length_map]; omega), List.getElem?_replicate] at h1
      split at h1
      · cases h1; trivial
      · cases h1
  · have : t = t := rfl
    by_cases hi : i < as.length
    · rw [List.getElem?_append_left (by rw [List.length_map]; exact hi), List.getElem?_map] at h1
      cases e : as[i]? with
      | none => rw [e] at h1; cases h1
      | some x => rw [e] at h1; cases h1; cases x <;> cases h3
    · rw [List.getElem?_append_right (by rw [List.length_map]; omega), List.getElem?_replicate] at h1
      split at h1
      · cases h1; cases h3
      · cases h1
  · obtain ⟨ws, e, r⟩ := s.st l a xs h1 h2
    exact ⟨ws, e, r.keep (fun _ _ e _ => e) fun a o _ z => m a z⟩
end
/-- what a def may lean on -/
structure Link (P : Program) (w : World) (K : PySem.W.Frag) (mg : Str → Option Value) (base : Heap) (L : Lk) (c : SC) (k : Nat) : Prop where
  bl : ∀ x ∈ c.bl, mg x = none
  ci : ∀ p ∈ c.cints, ∃ t, mg p.1 = some (.int p.2 t)
  cs : ∀ p ∈ c.cstrs, ∃ t, mg p.1 = some (.str p.2 t)
  cl : ∀ x ∈ c.cls, ∃ C, ClsAt ⟨mg, K⟩ x C
  fn : ∀ (i : Nat) (x : Str) (n : Nat), c.fns.lookup i = some (x, n) → ∃ f fd ps g, mg x = some (.ref f) ∧ PySem.W.keepIn K (.ref f) = true ∧ Binds K fd ps [] ∧ ps.length = n ∧ L.fns i = some g ∧ FnG P w K mg base k f fd ps g
  nw : ∀ (i : Nat) (x : Str) (n : Nat), c.news.lookup i = some (x, n) → ∃ C f fd ps g j, mg x = some (.ref C) ∧ ClsAt ⟨mg, K⟩ g.name C ∧ L2.Mk K C f ∧ Binds K fd ps [] ∧ n + 1 = ps.length ∧ L.cls i = some g ∧ j + 1 ≤ k ∧ InG P w K mg base j f fd ps g
/-- a def: its body's check makes the promise -/
theorem fn_g {P : Program} {w : World} {K : PySem.W.Frag} {mg : Str → Option Value} {base : Heap} {k : Nat} {f : Addr} {name qual : Str} {params : Arguments} {body : List Stmt} {scope : Scope} {dV kV doc pm cdv ct oc : Value} {an od : Option Addr}
    {osl : Array (Option Value)} {ps : List Str} {L : Lk} {c : SC} {is : IS} (lk : K.lookup f = some ⟨oc, od, .func (PySem.W.fnOf name qual params body scope dV kV doc pm an cdv ct), osl⟩) (hcd : PySem.W.codeIn K cdv qual = true) (Sc : FnScope c.N ps scope)
    (ln : Link P w K mg base L c k) (hk : (chkS c is).l ⟨scope, fun _ => true⟩ body = true) :
    FnG P w K mg base (k + 1) f (PySem.W.fnOf name qual params body scope dV kV doc pm an cdv ct) ps (runF ps.length c.N.length is L) := by
  refine ⟨fun B outer s H args us vs Q E as A G μ St hr hgd e0 hb rv hla st ra fr => ?_⟩
  have inK : K.In s.heap := e0.mod.kin.keeps fun b o e => (e0.bs b o e).1
  have nolim : s.heap.NoLimit := e0.mod.nolimit.keeps fun b o e => (e0.bs b o e).1
  have hlv : vs.length = ps.length := by rw [ra.length, hla]
  have kinds : ∀ y ∈ ps.zip us, scope.names.lookup y.1 = some .local ∨ (scope.names.lookup y.1 = some .cell ∧ ((cellsFrom (s.heap.objs.size + 1) scope.names []).lookup y.1).isSome = true) := by
    rintro ⟨n, v⟩ hy
    exact (Sc.par n (List.of_mem_zip hy).1).imp id fun q => ⟨q, PySem.W.cellsFrom_some _ _ _ (.inl q)⟩
  refine codeAny_call_function hr.depth (inK _ _ lk) rfl Sc.co Sc.gen rfl (PySem.W.codeRec_of inK hcd) (hb _ _ _ _ ?_)
  refine wpAny_newFunctionEnv_cells Sc.kind kinds fun env eqv s1 ic => ?_
  subst eqv
  refine ⟨nolim.keeps ic.toInCall.keep, codeAny_func ?_⟩
  generalize eX : cxOf (CX P w) P w K mg base c.N qual scope f cdv B outer s H E = X
  have J : Inv X [] (L2.start c.N vs) H s1 := by rw [← eX]; exact inv_start Sc hr.hd e0 hlv rv ic
  have D : EXD L c k ⟨scope, fun _ => true⟩ X (fun cls d _ H => E cls d H) := by
    rw [← eX]
    exact { calm := rfl, hN := rfl, nd := Sc.nd, sc := rfl, fb := rfl, room := hr.deeper _, gd := hgd, tk := takes_of (E := E) rfl rfl rfl rfl, bl := ln.bl, ci := ln.ci, cs := ln.cs, cl := ln.cl, fn := ln.fn, nw := ln.nw, po := passes_of rfl, fk := Sc.kind }
  have hN : as.length ≤ c.N.length := by
    have := congrArg List.length Sc.pre
    rw [List.length_take] at this
    omega
  have T : tS ⟨mg, K⟩ (fun cls d _ H => E cls d H) none (exS L is) { nx := fun _ H' => Q .non H', rt := Q } (L2.start c.N vs) H := by
    refine ⟨A, G, μ, _, St, (fun v e => by cases e), st.enter ra hN, ?_⟩
    refine end_frame st.sl ?_
    have fr : FRok ⟨mg, K⟩ A G μ Q E (runF ps.length c.N.length is L as St) := fr
    unfold runF at fr
    rw [if_pos hla, ← hla] at fr
    exact fr
  have hmX : (gx X) = ⟨mg, K⟩ := by rw [← eX]; rfl
  have body_ok := (sndS L is).l (zz := none) (fun n => absurd rfl n) D hk
  rw [hmX] at body_ok
  have run := body_ok.run [] s1 (L2.start c.N vs) H _ J T
  rw [← eX] at run
  refine wpAny_mono run (fun fl s' q => ?_) fun e s' q => q
  have out : ∀ {σ' : L2.St} {H' : Hp} {v : V} {u : Value}, Inv (cxOf (CX P w) P w K mg base c.N qual scope f cdv B outer s H E) [] σ' H' s' → RelV v u → Q v H' → CE outer P w H s Q u s' :=
    fun {σ' H' v u} I r h => ⟨v, H', I.os, I.bare, I.base, I.hok, r, h⟩
  cases fl with
  | ret u => obtain ⟨v, σ', H', I, r, h⟩ := q; exact out I r h
  | next => obtain ⟨σ', H', I, h⟩ := q; exact out (v := V.non) (u := Value.none) I rfl h
  | brk => obtain ⟨_, _, _, h⟩ := q; exact h.elim
  | cont => obtain ⟨_, _, _, h⟩ := q; exact h.elim
end DL
end

section
/-! The data layer, part 23: the law's head. -/
namespace DL
open PySem PySem.Spec PyProof.Rows L2
/-- the law's def is called with the script, with nothing else in hand -/
theorem head_call {P : Program} {w : World} {K : PySem.W.Frag} {mg mb : Str → Option Value} {k : Nat} {fa a : Addr} {fd : FuncData} {x : Str} {g : FSem} {s₁ : Shared} {vs : List Value} {ns : List Int}
    (KX : K.In s₁.heap) (nsG : s₁.heap.Ns mainGlobals mg) (nsB : s₁.heap.Ns builtinsNs mb) (bb : ∀ x : Str, x ≠ "__name__" → mb x = bootBuiltins x) (nl : s₁.heap.NoLimit) (hg : s₁.gens = #[])
    (ha : s₁.heap.get? a = some { cls := .type "list", data := .seq vs.toArray }) (hi : IntsAre vs ns) (hl : ns.length ≤ sizeLine) (hr : Room k callerA)
    (F : ∀ base : Heap, K.In base → base.Ns mainGlobals mg → FnG P w K mg base k fa fd [x] g) (hb : ∀ (s : Shared) (u : Value), BindsTo s fd ⟨[u], []⟩ [(x, u)]) (sem : ∃ S, g [.scr ns] [] = .ok (.bl true) S) :
    codeAny (model P w) callerA (.call (.ref fa) ⟨[.ref a], []⟩) (fun r s' => r = .ok (.ret (.bool true)) ∧ OldK s₁.heap s'.heap ∧ s'.os = s₁.os ∧ AllBare s'.gens) s₁ := by
  have rv := vals_ints hi
  have lv := hi.length
  have go : ∀ H : Hp, (∀ b u, H b = some u → b = a ∧ ∃ o, u = .frz o (.lst (ns.map V.int))) → HOk P w H s₁.heap → (H a ≠ none → K.lookup a = none) → ScrR ⟨mg, K⟩ H (fun _ => False) a ns →
      codeAny (model P w) callerA (.call (.ref fa) ⟨[.ref a], []⟩) (fun r s' => r = .ok (.ret (.bool true)) ∧ OldK s₁.heap s'.heap ∧ s'.os = s₁.os ∧ AllBare s'.gens) s₁ := by
    intro H only hok hK hS
    have dictFree : ∀ {b : Addr} {o : Obj} {es : Array DictEntry} {n : Nat}, s₁.heap.get? b = some o → o.data = .dict es n → H b = none := fun {b o es n} e d => by
      cases z : H b with
      | none => rfl
      | some u =>
        obtain ⟨rfl, _⟩ := only b u z
        rw [ha] at e; cases e
        cases d
    have under : ∀ {b : Addr} {m : Str → Option Value}, s₁.heap.Ns b m → (hidT s₁.heap H).Ns b m := fun {b m} ⟨o, es, n, e, d, r⟩ => ⟨o, es, n, hidT_get e (dictFree e d), d, r⟩
    have KB : K.In (hidT s₁.heap H) := fun b o e => hidT_get (KX b o e) (by
      cases z : H b with
      | none => rfl
      | some u =>
        obtain ⟨rfl, _⟩ := only b u z
        rw [hK (by rw [z]; exact fun q => by cases q)] at e; cases e)
    have M : Mod K mg (hidT s₁.heap H) := ⟨KB, under nsG, ⟨mb, under nsB, bb⟩, let ⟨mc, h1, h2⟩ := nl; ⟨mc, under h1, h2⟩⟩
    have E0 : Env0 P w K mg (hidT s₁.heap H) callerA [] s₁ H := ⟨rfl, M, fun b o e => of_hidT e, Nat.le_of_eq (hidT_size _ _), trivial, fun b z => absurd (show b ∈ ([] : List Addr) from z) (by simp), hok, .of_eq hg⟩
    have st : SR ⟨mg, K⟩ (fun _ => False) (fun _ => none) [] [] H [] [] :=
      ⟨rfl, fun i t e h => by simp at h, fun i j t u a h => by simp at h, fun a z => absurd z no_pv, rfl, fun l a xs h => by simp at h, List.nodup_nil, fun a z => z.elim, fun a o e => by cases e⟩
    have noAv : ∀ b, ¬ Av (fun _ => False) [] [] [] b := fun b z => by
      rcases z with z | z | z
      · exact z
      · cases z
      · exact no_pv z
    obtain ⟨SE, sem⟩ := sem
    refine codeAny_mono ((F _ KB (under nsG)).run callerA [] s₁ H ⟨[.ref a], []⟩ [.ref a] [.ref a] (fun v _ => v = .bl true) (fun _ _ _ => False) [.scr ns] _ _ [] [] hr rfl E0 (hb s₁ (.ref a)) (.cons rfl .nil) rfl st
      (.cons ⟨a, rfl, hS.keep (fun _ _ e _ => e) fun b o _ z => noAv b z⟩ .nil) ?_) fun r s' q => ?_
    · rw [sem]
      intro v H' _ rr
      cases rr
      rfl
    · cases r with
      | error e => obtain ⟨_, _, _, _, _, _, _, _, _, _, _, _, z⟩ := q; exact z.elim
      | ok fl =>
        cases fl with
        | next => exact q.elim
        | brk => exact q.elim
        | cont => exact q.elim
        | ret u =>
          obtain ⟨v, H', os, bare, un, hok', ru, e⟩ := q
          have e : v = .bl true := e
          subst e
          obtain rfl : u = Value.bool true := ru
          refine ⟨rfl, OldK.of_keep fun b o e => ?_, os, bare⟩
          cases z : H b with
          | none => exact un.keep b o e z (fun y => absurd (show b ∈ ([] : List Addr) from y) (by simp)) (by simp)
          | some u =>
            obtain ⟨_, ob, rfl⟩ := only b u z
            obtain ⟨e1, _⟩ := hok b _ z
            obtain ⟨e2, _⟩ := hok' b _ (un.frzs b ob _ z)
            rw [e] at e1; cases e1
            exact e2
  cases hk : K.lookup a with
  | some o =>
    have e := KX a o hk
    rw [ha] at e
    cases e
    refine go (fun _ => none) (fun b u z => by cases z) (fun b u z => by cases z) (fun z => absurd rfl z) (.inr fun H' => .inr ⟨_, vs.toArray, _, hk, rfl, rfl, rfl, by rw [List.size_toArray, lv]; exact hl, by simpa using rv⟩)
  | none =>
    have at_a : ∀ {b : Addr} {u : HO}, (if b = a then some (HO.frz { cls := .type "list", data := .seq vs.toArray } (.lst (ns.map V.int))) else none) = some u → b = a ∧ u = .frz { cls := .type "list", data := .seq vs.toArray } (.lst (ns.map V.int)) := fun {b u} z => by
      by_cases q : b = a
      · rw [if_pos q] at z; cases z; exact ⟨q, rfl⟩
      · rw [if_neg q] at z; cases z
    refine go (fun b => if b = a then some (HO.frz { cls := .type "list", data := .seq vs.toArray } (.lst (ns.map V.int))) else none) (fun b u z => ⟨(at_a z).1, _, (at_a z).2⟩) (fun b u z => ?_) (fun _ => hk) (.inl ⟨_, if_pos rfl, id⟩)
    obtain ⟨rfl, rfl⟩ := at_a z
    exact ⟨ha, by rw [List.length_map]; exact hl, vs, _, rv, ha⟩
/-- the goal behind the head, from the law's def and what it computes -/
theorem head_walk {l : PySem.W.OpenLaw} {n k : Nat} {q : Program} {loose : List Str} {XP : (Str → Option Value) → Heap → Prop} {YP : World → Heap → Prop} {d : DefRec} {K : Params → PySem.W.Frag} {x : Str} {g : FSem}
    (hn : l.most = some n) (hn2 : n ≤ sizeLine) (hdf : d.params.defaults = []) (hr : Room k callerA) (hY : ∀ (w : World) (h : Heap), YP w h → (K w.params).In h)
    (F : ∀ (w : World) (mg : Str → Option Value) (fa : Addr) (h : Heap), (K w.params).In h → h.Ns mainGlobals mg → mg d.name = some (.ref fa) →
      ∃ fd : FuncData, (∀ (s : Shared) (u : Value), BindsTo s fd ⟨[u], []⟩ [(x, u)]) ∧ ∀ base : Heap, (K w.params).In base → base.Ns mainGlobals mg → FnG l.prog w (K w.params) mg base k fa fd [x] g)
    (sem : ∀ ns : List Int, ns.length ≤ n → ∃ S, g [.scr ns] [] = .ok (.bl true) S) : PySem.W.WalkO q loose XP YP l.row.toRowW d [] (fun f vs => PySem.call f vs) := by
  refine Att.attach_call hn hdf fun w s₀ s₁ mg mb fa o pm cd doc a vs ns G Y ho hd hcd hmg hobj hints hlen hg => ?_
  have KX := hY w _ Y
  obtain ⟨fd, hb, hF⟩ := F w mg fa _ KX G.T.g hmg
  exact head_call KX G.T.g G.T.b G.T.builtins G.T.nolimit hg hobj hints (Nat.le_trans hlen hn2) hr hF hb (sem ns hlen)
end DL
end

section
/-! The data layer, part 24: an object is made. -/
namespace DL
open PySem PySem.Spec PyProof.Rows L2
section
variable {mg : Gm} {A : Addr → Prop} {G : Hp} {μ : List Addr} {σ : L2.St} {H : Hp} {ρ : List Sl} {S : Store}
/-- a new object of one's own -/
theorem SR.putObj {i : Nat} {x C dx : Addr} {c : Str} (s : SR mg (withD A x) G μ σ H ρ S) (hi : i < ρ.length) (hA : ¬ A x) (hG : G x = none) (e1 : H x = some (.ins C dx [])) (hc : ClsAt mg c C) :
    SR mg A G μ (σ.set i (some (.ref x))) H (ρ.set i (.obj c [])) S := by
  have np : ¬ Pv σ ρ x := fun z => (s.priv x z).1 (.inr rfl)
  have pv : ∀ a, Pv (σ.set i (some (.ref x))) (ρ.set i (.obj c [])) a → a = x ∨ Pv σ ρ a := fun a ⟨j, u, h1, h2, h3⟩ => by
    by_cases hj : j = i
    · subst hj
      have hs : j < σ.length := by rw [s.len]; exact hi
      rw [List.getElem?_set_self hs] at h3; cases h3
      exact .inl rfl
    · rw [List.getElem?_set_ne (Ne.symm hj)] at h1 h3
      exact .inr ⟨j, u, h1, h2, h3⟩
  have m : ∀ a o, H a = some o → Av A μ (σ.set i (some (.ref x))) (ρ.set i (.obj c [])) a → Av (withD A x) μ σ ρ a := fun a o _ z => by
    rcases z with z | z | z
    · exact .inl (.inl z)
    · exact .inr (.inl z)
    · rcases pv a z with z | z
      · exact .inl (.inr z)
      · exact .inr (.inr z)
  have hs : i < σ.length := by rw [s.len]; exact hi
  refine ⟨by rw [List.length_set, List.length_set]; exact s.len, fun j u e h1 h2 => ?_, fun j k u w a h1 h2 h3 h4 h5 h6 => ?_, fun a z => ?_, s.sl, fun l a ys h1 h2 => ?_, s.nd, fun a z => s.av a (.inl z), fun a o e => let ⟨h1, h2, h3⟩ := s.gd a o e; ⟨h1, h2, fun z => ?_⟩⟩
  · by_cases hj : j = i
    · subst hj
      rw [List.getElem?_set_self hi] at h1; cases h1
      rw [List.getElem?_set_self hs] at h2; cases h2
      exact ⟨x, C, dx, [], rfl, e1, hc, .nil⟩
    · rw [List.getElem?_set_ne (Ne.symm hj)] at h1 h2
      exact (s.slot j u e h1 h2).mono m fun _ _ z => z
  · by_cases hj : j = i
    · by_cases hk : k = i
      · rw [hj, hk]
      · subst hj
        rw [List.getElem?_set_self hs] at h5; cases h5
        rw [List.getElem?_set_ne (Ne.symm hk)] at h2 h6
        exact absurd ⟨k, w, h2, h4, h6⟩ np
    · rw [List.getElem?_set_ne (Ne.symm hj)] at h1 h5
      by_cases hk : k = i
      · subst hk
        rw [List.getElem?_set_self hs] at h6; cases h6
        exact absurd ⟨j, u, h1, h3, h5⟩ np
      · rw [List.getElem?_set_ne (Ne.symm hk)] at h2 h6
        exact s.inj j k u w a h1 h2 h3 h4 h5 h6
  · rcases pv a z with z | z
    · rw [z]; exact ⟨hA, (s.av x (.inr rfl)).1⟩
    · exact ⟨fun q => (s.priv a z).1 (.inl q), (s.priv a z).2⟩
  · obtain ⟨ws, e, r⟩ := s.st l a ys h1 h2
    exact ⟨ws, e, r.keep (fun _ _ e _ => e) m⟩
  · rcases pv a z with z | z
    · rw [z, hG] at e; cases e
    · exact h3 z
end
/-- what the init's frame brings -/
theorem end_init {mg : Gm} {A : Addr → Prop} {G : Hp} {μ : List Addr} {x : Addr} {c : Str} {Q : VK} {E : XK} {n : Nat} (hn : n = μ.length) : ∀ {o : Out Fl}, FIok mg A G μ x c Q E (match o with
      | .ok .next r S' => match (r[0]? : Option Sl) with
        | some (.obj c' fs) => if c' = c then .ok fs (S'.take n) else .stuck
        | _ => .stuck
      | .err c fs _ S' => .err c fs (S'.take n)
      | _ => .stuck) → EndS mg (fun cls d _ H => E cls d H) (some (.ref x)) A G μ { nx := fun _ H' => Q .non H', rt := Q } o
  | .ok .next ρ' S', h => fun ν σ' H' hz s => by
    have e := hz _ rfl
    cases e1 : ρ'[0]? with
    | none => simp only [e1] at h; exact h.elim
    | some t =>
      have q := s.slot 0 t _ e1 e
      cases t with
      | obj c' fs =>
        simp only [e1] at h
        by_cases hc : c' = c
        · rw [if_pos hc] at h
          subst hc
          obtain ⟨p, C, dx, vfs, e0, g1, g2, g3⟩ := q
          cases e0
          have hp : Pv σ' ρ' x := ⟨0, _, e1, rfl, e⟩
          refine h H' C dx vfs (s.leaveB (B := fun a => a = x) (fun a z => by rw [z]; exact ⟨.inr (.inr hp), fun z => (s.priv x hp).2 (List.mem_append_left _ z)⟩) hn) g1 g2 (g3.keep (fun _ _ e _ => e) fun a o _ z => ?_)
          rcases z with (z | z) | z | z
          · exact .inl z
          · rw [z]; exact .inr (.inr hp)
          · exact .inr (.inl (List.mem_append_left _ z))
          · exact absurd z no_pv
        · rw [if_neg hc] at h; exact h.elim
      | _ => simp only [e1] at h; exact h.elim
  | .ok .brk ρ' S', h => h.elim
  | .ok .cont ρ' S', h => h.elim
  | .ok (.ret x) ρ' S', h => h.elim
  | .err c fs ρ' S', h => fun ν cls d σ' H' s x => by
    refine h cls d H' (s.leave hn) ?_
    obtain ⟨C, q1, q2, q3⟩ := x
    exact ⟨C, q1, q2, q3.imp id fun ⟨a, vfs, e1, e2, e3⟩ => ⟨a, vfs, e1, e2, e3.keep (fun _ _ e _ => e) fun a o _ z => av_less z⟩⟩
  | .stuck, h => h.elim
/-- __init__, from its body's check -/
theorem init_g {P : Program} {w : World} {K : PySem.W.Frag} {mg : Str → Option Value} {base : Heap} {k : Nat} {f : Addr} {name qual : Str} {params : Arguments} {body : List Stmt} {scope : Scope} {dV kV doc pm cdv ct oc : Value} {an od : Option Addr}
    {osl : Array (Option Value)} {ps : List Str} {L : Lk} {c : SC} {is : IS} {cn : Str} (lk : K.lookup f = some ⟨oc, od, .func (PySem.W.fnOf name qual params body scope dV kV doc pm an cdv ct), osl⟩) (hcd : PySem.W.codeIn K cdv qual = true) (Sc : FnScope c.N ps scope)
    (ln : Link P w K mg base L c k) (hse : c.self = true) (hk : (chkS c is).l ⟨scope, fun _ => true⟩ body = true) :
    InG P w K mg base (k + 1) f (PySem.W.fnOf name qual params body scope dV kV doc pm an cdv ct) ps (runI cn ps.length c.N.length is L) := by
  refine ⟨fun B outer s H args us vs Q E as A G μ St x C dx hr hgd e0 hb rv hla st nA nG hx hC ra fr => ?_⟩
  have inK : K.In s.heap := e0.mod.kin.keeps fun b o e => (e0.bs b o e).1
  have nolim : s.heap.NoLimit := e0.mod.nolimit.keeps fun b o e => (e0.bs b o e).1
  have hlv : (V.ref x :: vs).length = ps.length := by rw [List.length_cons, ra.length, hla]
  have kinds : ∀ y ∈ ps.zip (Value.ref x :: us), scope.names.lookup y.1 = some .local ∨ (scope.names.lookup y.1 = some .cell ∧ ((cellsFrom (s.heap.objs.size + 1) scope.names []).lookup y.1).isSome = true) := by
    rintro ⟨n, v⟩ hy
    exact (Sc.par n (List.of_mem_zip hy).1).imp id fun q => ⟨q, PySem.W.cellsFrom_some _ _ _ (.inl q)⟩
  refine codeAny_call_function hr.depth (inK _ _ lk) rfl Sc.co Sc.gen rfl (PySem.W.codeRec_of inK hcd) (hb _ _ _ _ ?_)
  refine wpAny_newFunctionEnv_cells Sc.kind kinds fun env eqv s1 ic => ?_
  subst eqv
  refine ⟨nolim.keeps ic.toInCall.keep, codeAny_func ?_⟩
  generalize eX : cxOf (CX P w) P w K mg base c.N qual scope f cdv B outer s H E = X
  have J : Inv X [] (L2.start c.N (V.ref x :: vs)) H s1 := by rw [← eX]; exact inv_start Sc hr.hd e0 hlv (.cons rfl rv) ic
  have D : EXD L c k ⟨scope, fun _ => true⟩ X (fun cls d _ H => E cls d H) := by
    rw [← eX]
    exact { calm := rfl, hN := rfl, nd := Sc.nd, sc := rfl, fb := rfl, room := hr.deeper _, gd := hgd, tk := takes_of (E := E) rfl rfl rfl rfl, bl := ln.bl, ci := ln.ci, cs := ln.cs, cl := ln.cl, fn := ln.fn, nw := ln.nw, po := passes_of rfl, fk := Sc.kind }
  have hN : as.length + 1 ≤ c.N.length := by
    have := congrArg List.length Sc.pre
    rw [List.length_take] at this
    omega
  have T : tS ⟨mg, K⟩ (fun cls d _ H => E cls d H) (some (.ref x)) (exS L is) { nx := fun _ H' => Q .non H', rt := Q } (L2.start c.N (V.ref x :: vs)) H := by
    have s0 := st.enter (N := c.N) (vs := V.non :: vs) (as := Arg.d .non :: as) (.cons (show Rep _ _ _ _ _ from .non) ra) hN
    have s2 := s0.putObj (i := 0) (by simp) nA nG hx hC
    refine ⟨A, G, μ, _, St, fun v e => by cases e; rfl, s2, ?_⟩
    refine end_init (c := cn) st.sl ?_
    have fr : FIok ⟨mg, K⟩ A G μ x cn Q E ((runI cn ps.length c.N.length is L).init as St) := fr
    unfold runI at fr
    simp only [] at fr
    rw [if_pos hla, ← hla] at fr
    exact fr
  have hmX : (gx X) = ⟨mg, K⟩ := by rw [← eX]; rfl
  have body_ok := (sndS L is).l (zz := some (.ref x)) (fun _ => hse) D hk
  rw [hmX] at body_ok
  have run := body_ok.run [] s1 _ H _ J T
  rw [← eX] at run
  refine wpAny_mono run (fun fl s' q => ?_) fun e s' q => q
  have out : ∀ {σ' : L2.St} {H' : Hp} {v : V} {u : Value}, Inv (cxOf (CX P w) P w K mg base c.N qual scope f cdv B outer s H E) [] σ' H' s' → RelV v u → Q v H' → CE outer P w H s Q u s' :=
    fun {σ' H' v u} I r h => ⟨v, H', I.os, I.bare, I.base, I.hok, r, h⟩
  cases fl with
  | ret u => obtain ⟨v, σ', H', I, r, h⟩ := q; exact out I r h
  | next => obtain ⟨σ', H', I, h⟩ := q; exact out (v := V.non) (u := Value.none) I rfl h
  | brk => obtain ⟨_, _, _, h⟩ := q; exact h.elim
  | cont => obtain ⟨_, _, _, h⟩ := q; exact h.elim
end DL
end

section
/-! The data layer, part 25: defs lean on defs. -/
namespace DL
open PySem PySem.Spec PyProof.Rows L2
section
variable {P : Program} {w : World} {K : PySem.W.Frag} {mg : Str → Option Value} {base : Heap}
/-- the module's def x of n parameters does g -/
def DefOk (P : Program) (w : World) (K : PySem.W.Frag) (mg : Str → Option Value) (base : Heap) (k : Nat) (x : Str) (n : Nat) (g : FSem) : Prop :=
  ∃ f fd ps, mg x = some (.ref f) ∧ PySem.W.keepIn K (.ref f) = true ∧ Binds K fd ps [] ∧ ps.length = n ∧ FnG P w K mg base k f fd ps g
theorem DefOk.mono {j k : Nat} {x : Str} {n : Nat} {g : FSem} (h : DefOk P w K mg base j x n g) (hk : j ≤ k) : DefOk P w K mg base k x n g := by
  obtain ⟨f, fd, ps, h1, h2, h3, h4, F⟩ := h
  exact ⟨f, fd, ps, h1, h2, h3, h4, F.mono hk⟩
/-- the module's class x, made of n things, does g -/
def ClsMk (P : Program) (w : World) (K : PySem.W.Frag) (mg : Str → Option Value) (base : Heap) (k : Nat) (x : Str) (n : Nat) (g : CSem) : Prop :=
  ∃ C f fd ps j, mg x = some (.ref C) ∧ ClsAt ⟨mg, K⟩ g.name C ∧ L2.Mk K C f ∧ Binds K fd ps [] ∧ n + 1 = ps.length ∧ j + 1 ≤ k ∧ InG P w K mg base j f fd ps g
theorem ClsMk.mono {j k : Nat} {x : Str} {n : Nat} {g : CSem} (h : ClsMk P w K mg base j x n g) (hk : j ≤ k) : ClsMk P w K mg base k x n g := by
  obtain ⟨C, f, fd, ps, i, h1, h2, h3, h4, h5, h6, F⟩ := h
  exact ⟨C, f, fd, ps, i, h1, h2, h3, h4, h5, Nat.le_trans h6 hk, F⟩
def FnsOk (P : Program) (w : World) (K : PySem.W.Frag) (mg : Str → Option Value) (base : Heap) (k : Nat) (L : Lk) (l : List (Nat × Str × Nat)) : Prop := ∀ (i : Nat) (x : Str) (n : Nat), l.lookup i = some (x, n) → ∃ g, L.fns i = some g ∧ DefOk P w K mg base k x n g
def NewsOk (P : Program) (w : World) (K : PySem.W.Frag) (mg : Str → Option Value) (base : Heap) (k : Nat) (L : Lk) (l : List (Nat × Str × Nat)) : Prop := ∀ (i : Nat) (x : Str) (n : Nat), l.lookup i = some (x, n) → ∃ g, L.cls i = some g ∧ ClsMk P w K mg base k x n g
variable {k : Nat} {L : Lk}
theorem FnsOk.nil : FnsOk P w K mg base k L [] := fun i x n e => by cases e
theorem FnsOk.cons {i0 n0 j : Nat} {x0 : Str} {g : FSem} {l : List (Nat × Str × Nat)} (h : DefOk P w K mg base j x0 n0 g) (hk : j ≤ k) (hL : L.fns i0 = some g) (t : FnsOk P w K mg base k L l) : FnsOk P w K mg base k L ((i0, x0, n0) :: l) := fun i x n e => by
  rw [List.lookup_cons] at e
  by_cases hi : (i == i0) = true
  · rw [hi] at e
    cases e
    obtain rfl := eq_of_beq hi
    exact ⟨g, hL, h.mono hk⟩
  · rw [Bool.eq_false_iff.mpr hi] at e
    exact t i x n e
theorem NewsOk.nil : NewsOk P w K mg base k L [] := fun i x n e => by cases e
theorem NewsOk.cons {i0 n0 j : Nat} {x0 : Str} {g : CSem} {l : List (Nat × Str × Nat)} (h : ClsMk P w K mg base j x0 n0 g) (hk : j ≤ k) (hL : L.cls i0 = some g) (t : NewsOk P w K mg base k L l) : NewsOk P w K mg base k L ((i0, x0, n0) :: l) := fun i x n e => by
  rw [List.lookup_cons] at e
  by_cases hi : (i == i0) = true
  · rw [hi] at e
    cases e
    obtain rfl := eq_of_beq hi
    exact ⟨g, hL, h.mono hk⟩
  · rw [Bool.eq_false_iff.mpr hi] at e
    exact t i x n e
/-- what all defs lean on: built-ins, constants, classes -/
structure Base0 (K : PySem.W.Frag) (mg : Str → Option Value) (bl : List Str) (ci : List (Str × Int)) (cs : List (Str × Str)) (cl : List Str) : Prop where
  bl : ∀ x ∈ bl, mg x = none
  ci : ∀ p ∈ ci, ∃ t, mg p.1 = some (.int p.2 t)
  cs : ∀ p ∈ cs, ∃ t, mg p.1 = some (.str p.2 t)
  cl : ∀ x ∈ cl, ∃ C, ClsAt ⟨mg, K⟩ x C
theorem link_of {c : SC} (b : Base0 K mg c.bl c.cints c.cstrs c.cls) (f : FnsOk P w K mg base k L c.fns) (n : NewsOk P w K mg base k L c.news) : Link P w K mg base L c k :=
  ⟨b.bl, b.ci, b.cs, b.cl, fun i x m e => by
    obtain ⟨g, h1, f, fd, ps, h2, h3, h4, h5, F⟩ := f i x m e
    exact ⟨f, fd, ps, g, h2, h3, h4, h5, h1, F⟩, fun i x m e => by
    obtain ⟨g, h1, C, f, fd, ps, j, h2, h3, h4, h5, h6, h7, F⟩ := n i x m e
    exact ⟨C, f, fd, ps, g, j, h2, h3, h4, h5, h6, h1, h7, F⟩⟩
/-- a def of the text -/
theorem def_ok {x qual : Str} {st : Stmt} {f : Addr} {fd : FuncData} {ps : List Str} {c : SC} {is : IS} (F : Fun K x qual st f fd) (hm : mg x = some (.ref f)) (hb : Binds K fd ps []) (Sc : FnScope c.N ps (defScope st)) (ln : Link P w K mg base L c k)
    (hk : (chkS c is).l ⟨defScope st, fun _ => true⟩ (defBody st) = true) : DefOk P w K mg base (k + 1) x ps.length (runF ps.length c.N.length is L) := by
  obtain ⟨oc, od, kV, doc, pm, an, cdv, ct, osl, rfl, lk, hcd⟩ := F.ex
  exact ⟨f, _, ps, hm, F.kp, hb, rfl, fn_g lk hcd Sc ln hk⟩
/-- a class of the text, by its __init__ -/
theorem cls_ok {x cn qual : Str} {st : Stmt} {C f : Addr} {fd : FuncData} {ps : List Str} {c : SC} {is : IS} {n : Nat} (F : Fun K x qual st f fd) (hm : mg cn = some (.ref C)) (ck : ClsOk K C) (Mm : L2.Mk K C f) (hb : Binds K fd ps []) (hn : n + 1 = ps.length) (Sc : FnScope c.N ps (defScope st)) (ln : Link P w K mg base L c k) (hse : c.self = true)
    (hk : (chkS c is).l ⟨defScope st, fun _ => true⟩ (defBody st) = true) : ClsMk P w K mg base (k + 2) cn n (runI cn ps.length c.N.length is L) := by
  obtain ⟨oc, od, kV, doc, pm, an, cdv, ct, osl, rfl, lk, hcd⟩ := F.ex
  exact ⟨C, f, _, ps, k + 1, hm, ⟨hm, ck⟩, Mm, hb, hn, Nat.le_refl _, init_g lk hcd Sc ln hse hk⟩
end
theorem kit_ct {K : PySem.W.Frag} {C : Addr} {n : String} (h : PySem.W.subIn K (.ref C) (.type n) = some false) (hn : PySem.W.kitMeta n = true) : PySem.W.kitOne K (.ref C) (.type n) = some false := by
  unfold PySem.W.kitOne
  rw [if_neg (by simp)]
  show (if PySem.W.kitMeta n = true then _ else _) = _
  rw [if_pos hn]; exact h
theorem kit_tc {K : PySem.W.Frag} {C : Addr} {n : String} (c1 : PySem.W.isClsIn K C = true) (c2 : PySem.W.typeIn K (.ref C) = some (.type "type")) (h : PySem.W.subIn K (.type n) (.ref C) = some false) : PySem.W.kitOne K (.type n) (.ref C) = some false := by
  unfold PySem.W.kitOne
  rw [if_neg (by simp)]
  show (if ((PySem.W.clsIn K C).isSome && PySem.W.typeIn K (.ref C) == some (.type "type")) = true then _ else _) = _
  rw [if_pos (by rw [c2, show (PySem.W.clsIn K C).isSome = true from c1]; rfl)]; exact h
/-- a class's facts, one by one -/
theorem clsOk_mk {K : PySem.W.Frag} {C : Addr} (pg : PySem.W.plainGet K C Str.empty = true) (hd : PySem.W.hasDictIn K C = true) (po : PySem.W.plainOver K C = true) (sa : PySem.W.findIn K (.ref C) "__setattr__" = some (some (.builtin "object.__setattr__")))
    (ha : PySem.W.findIn K (.ref C) "__class__" = some (some (.builtin "object.__class__"))) (hn : PySem.W.specialIn K (.builtin "object.__class__") "__get__" = some (some (.builtin "getset_descriptor.__get__"))) (ht : PySem.W.takesIn K (.builtin "object.__class__") = some true) (hm : PySem.W.mroIn K C (.type "object") = some true) (c1 : PySem.W.isClsIn K C = true) (c2 : PySem.W.typeIn K (.ref C) = some (.type "type"))
    (i0 : PySem.W.subIn K (.ref C) (.type "int") = some false) (i1 : PySem.W.subIn K (.ref C) (.type "bool") = some false) (i2 : PySem.W.subIn K (.ref C) (.type "str") = some false) (i3 : PySem.W.subIn K (.ref C) (.type "tuple") = some false) (i4 : PySem.W.subIn K (.ref C) (.type "list") = some false) (i5 : PySem.W.subIn K (.ref C) (.type "NoneType") = some false) (i6 : PySem.W.subIn K (.ref C) (.type "dict") = some false) (i7 : PySem.W.subIn K (.ref C) (.type "set") = some false) (i8 : PySem.W.subIn K (.ref C) (.type "float") = some false) (t0 : PySem.W.subIn K (.type "int") (.ref C) = some false) (t1 : PySem.W.subIn K (.type "bool") (.ref C) = some false) (t2 : PySem.W.subIn K (.type "str") (.ref C) = some false) (t3 : PySem.W.subIn K (.type "tuple") (.ref C) = some false) (t4 : PySem.W.subIn K (.type "list") (.ref C) = some false) (t5 : PySem.W.subIn K (.type "NoneType") (.ref C) = some false) (t6 : PySem.W.subIn K (.type "dict") (.ref C) = some false) (t7 : PySem.W.subIn K (.type "set") (.ref C) = some false) (t8 : PySem.W.subIn K (.type "float") (.ref C) = some false) (n0 : PySem.W.findIn K (.ref C) "teams" = some none) (n1 : PySem.W.findIn K (.ref C) "games" = some none) (n2 : PySem.W.findIn K (.ref C) "league" = some none) (n3 : PySem.W.findIn K (.ref C) "stood" = some none) (n4 : PySem.W.findIn K (.ref C) "deeds" = some none) (n5 : PySem.W.findIn K (.ref C) "season" = some none) (n6 : PySem.W.findIn K (.ref C) "noted" = some none) : ClsOk K C := by
  refine ⟨⟨pg, hd, po, sa⟩, ha, hn, ht, hm, fun n h => ?_, fun n h => ?_, fun f h => ?_⟩
  · simp only [tyNames, List.mem_cons, List.not_mem_nil, or_false] at h
    rcases h with rfl | rfl | rfl | rfl | rfl | rfl | rfl | rfl | rfl <;> exact kit_ct (by assumption) (by decide +kernel)
  · simp only [tyNames, List.mem_cons, List.not_mem_nil, or_false] at h
    rcases h with rfl | rfl | rfl | rfl | rfl | rfl | rfl | rfl | rfl <;> exact kit_tc c1 c2 (by assumption)
  · simp only [fldNames, List.mem_cons, List.not_mem_nil, or_false] at h
    rcases h with rfl | rfl | rfl | rfl | rfl | rfl | rfl <;> assumption
end DL
end

section
/-! The data layer, part 26: the semantics by equations at a frame and a store, for simp. -/
namespace DL
open PySem

/-- no rule of reduction for simp -/
theorem nr {α : Type} {a b : α} (h : a = b) : a = b := h
/-- one behind another -/
def bnd {α β : Type} (o : Out α) (g : α → M β) : Out β := match o with
  | .ok a r S => g a r S
  | .err c fs r S => .err c fs r S
  | .stuck => .stuck
@[simp] theorem bnd_ok {α β : Type} (a : α) (r : List Sl) (S : Store) (g : α → M β) : bnd (.ok a r S) g = g a r S := nr rfl
@[simp] theorem bnd_err {α β : Type} (c : Str) (fs : List (Str × D)) (r : List Sl) (S : Store) (g : α → M β) : bnd (.err c fs r S) g = .err c fs r S := nr rfl
theorem bnd_congr {α β : Type} {o o' : Out α} (g : α → M β) (h : o = o') : bnd o g = bnd o' g := by rw [h]
@[simp] theorem bnd_ite {α β : Type} (c : Prop) [Decidable c] (x y : Out α) (g : α → M β) : bnd (if c then x else y) g = if c then bnd x g else bnd y g := by
  split <;> rfl
@[simp] theorem ok_ite {α : Type} (c : Prop) [Decidable c] (a b : α) (r : List Sl) (S : Store) : (if c then Out.ok a r S else Out.ok b r S) = Out.ok (if c then a else b) r S := by
  split <;> rfl
@[simp] theorem ofO_some {α : Type} (a : α) (r : List Sl) (S : Store) : M.ofO (some a) r S = .ok a r S := nr rfl
@[simp] theorem peek_d (x : D) (r : List Sl) (S : Store) : peek (.d x) r S = .ok x r S := nr rfl
@[simp] theorem peek_fresh (x : List D) (r : List Sl) (S : Store) : peek (.fresh x) r S = .ok (.lst x) r S := nr rfl
@[simp] theorem peek_loc (l : Nat) (r : List Sl) (S : Store) : peek (.loc l) r S = match S[l]? with
    | some xs => .ok (.lst xs) r S
    | none => .stuck := nr rfl
@[simp] theorem peek_own (i : Nat) (r : List Sl) (S : Store) : peek (.own i) r S = match r[i]? with
    | some (.own xs) => .ok (.lst xs) r S
    | some (.d x) => .ok x r S
    | _ => .stuck := nr rfl
@[simp] theorem asD_d (x : D) (r : List Sl) (S : Store) : asD (.d x) r S = .ok x r S := nr rfl
@[simp] theorem asD_fresh (x : List D) (r : List Sl) (S : Store) : asD (.fresh x) r S = .ok (.lst x) r S := nr rfl
@[simp] theorem asD_own (i : Nat) (r : List Sl) (S : Store) : asD (.own i) r S = match r[i]? with
    | some (.own xs) => .ok (.lst xs) (r.set i (.d (.lst xs))) S
    | some (.d x) => .ok x r S
    | _ => .stuck := nr rfl
@[simp] theorem asArg_d (x : D) (r : List Sl) (S : Store) : asArg (.d x) r S = .ok (.d x) r S := nr rfl
@[simp] theorem asArg_fresh (x : List D) (r : List Sl) (S : Store) : asArg (.fresh x) r S = .ok (.d (.lst x)) r S := nr rfl
@[simp] theorem asArg_loc (l : Nat) (r : List Sl) (S : Store) : asArg (.loc l) r S = .ok (.loc l) r S := nr rfl
@[simp] theorem asArg_scr (l : List Int) (r : List Sl) (S : Store) : asArg (.scr l) r S = .ok (.scr l) r S := nr rfl
@[simp] theorem asArg_own (i : Nat) (r : List Sl) (S : Store) : asArg (.own i) r S = bnd (asD (.own i) r S) fun d r S => .ok (.d d) r S := nr rfl
@[simp] theorem asV_d (x : D) (r : List Sl) (S : Store) : asV (.d x) r S = .ok (.d x) r S := nr rfl
@[simp] theorem asV_fresh (x : List D) (r : List Sl) (S : Store) : asV (.fresh x) r S = .ok (.fresh x) r S := nr rfl
@[simp] theorem truthR_eq (x : R) (r : List Sl) (S : Store) : truthR x r S = bnd (peek x r S) fun d r S => M.ofO (truth d) r S := nr rfl
@[simp] theorem ofFR_ok (d : D) (S : Store) (r : List Sl) : ofFR (.ok d S) r = .ok (.d d) r S := nr rfl
@[simp] theorem ofFR_fresh (d : List D) (S : Store) (r : List Sl) : ofFR (.fresh d S) r = .ok (.fresh d) r S := nr rfl
@[simp] theorem ofFR_ite (c : Prop) [Decidable c] (x y : FR) (r : List Sl) : ofFR (if c then x else y) r = if c then ofFR x r else ofFR y r := by
  split <;> rfl
@[simp] theorem kindR_eq (m : Mt) (x : R) (r : List Sl) (S : Store) : kindR m x r S = bnd (peek x r S) fun d r S => M.ofO (kindOf m d) r S := nr rfl

def callK (o : Option FSem) (as : List Arg) (r : List Sl) (S : Store) : Out R := match o with
  | some g => ofFR (g as S) r
  | none => .stuck
@[simp] theorem callK_some (g : FSem) (as : List Arg) (r : List Sl) (S : Store) : callK (some g) as r S = ofFR (g as S) r := nr rfl
def newK (o : Option CSem) (as : List Arg) (r : List Sl) (S : Store) : Out R := match o with
  | some g => doNew g as r S
  | none => .stuck
def ofFI (c : Str) (x : FI) (r : List Sl) : Out R := match x with
  | .ok fs S' => .ok (.d (.ins c fs)) r S'
  | .err c fs S' => .err c fs r S'
  | .stuck => .stuck
@[simp] theorem newK_some (g : CSem) (as : List Arg) (r : List Sl) (S : Store) : newK (some g) as r S = ofFI g.name (g.init as S) r := nr rfl
@[simp] theorem ofFI_ok (c : Str) (fs : List (Str × D)) (S : Store) (r : List Sl) : ofFI c (.ok fs S) r = .ok (.d (.ins c fs)) r S := nr rfl

section ev
variable (L : Lk) (r : List Sl) (S : Store)
@[simp] theorem v_var (i : Nat) : (ev L (.var i)).v r S = rd i r S := nr rfl
@[simp] theorem v_cint (i : Int) : (ev L (.cint i)).v r S = .ok (.d (.int i)) r S := nr rfl
@[simp] theorem v_cbl (i : Bool) : (ev L (.cbl i)).v r S = .ok (.d (.bl i)) r S := nr rfl
@[simp] theorem v_cnon : (ev L .cnon).v r S = .ok (.d .non) r S := nr rfl
@[simp] theorem v_cstr (i : Str) : (ev L (.cstr i)).v r S = .ok (.d (.str i)) r S := nr rfl
@[simp] theorem v_gint (x : Str) (i : Int) : (ev L (.gint x i)).v r S = .ok (.d (.int i)) r S := nr rfl
@[simp] theorem v_gstr (x i : Str) : (ev L (.gstr x i)).v r S = .ok (.d (.str i)) r S := nr rfl
@[simp] theorem v_bin (o : Bop) (a b : IE) : (ev L (.bin o a b)).v r S = bnd ((ev L a).v r S) fun x r S => bnd ((ev L b).v r S) fun y r S =>
  bnd (peek x r S) fun u r S => bnd (peek y r S) fun v r S => M.ofO (bop o u v) r S := nr rfl
@[simp] theorem v_neg (a : IE) : (ev L (.neg a)).v r S = bnd ((ev L a).v r S) fun x r S => bnd (peek x r S) fun u r S => M.ofO (negR u) r S := nr rfl
@[simp] theorem v_cmp (o : Cop) (a b : IE) : (ev L (.cmp o a b)).v r S = bnd ((ev L a).v r S) fun x r S => bnd ((ev L b).v r S) fun y r S =>
  bnd (peek x r S) fun u r S => bnd (peek y r S) fun v r S => M.ofO (blR (cop o u v)) r S := nr rfl
@[simp] theorem v_cmp2 (o o' : Cop) (a b c : IE) : (ev L (.cmp2 o o' a b c)).v r S = bnd ((ev L a).v r S) fun x r S => bnd ((ev L b).v r S) fun y r S =>
  bnd (peek x r S) fun u r S => bnd (peek y r S) fun v r S => bnd (M.ofO (cop o u v) r S) fun k r S =>
  if k then bnd ((ev L c).v r S) fun z r S => bnd (peek y r S) fun v r S => bnd (peek z r S) fun w r S => M.ofO (blR (cop o' v w)) r S else .ok (.d (.bl false)) r S := by
  show bnd _ _ = _
  congr 1; funext x r S
  show bnd _ _ = _
  congr 1; funext y r S
  show bnd _ _ = _
  congr 1; funext u r S
  show bnd _ _ = _
  congr 1; funext v r S
  show bnd _ _ = _
  congr 1; funext k r S
  cases k <;> rfl
@[simp] theorem v_and (a b : IE) : (ev L (.and a b)).v r S = bnd ((ev L a).v r S) fun x r S => bnd (truthR x r S) fun k r S => if k then (ev L b).v r S else .ok x r S := by
  show bnd _ _ = _
  congr 1; funext x r S
  show bnd _ _ = _
  congr 1; funext k r S
  cases k <;> rfl
@[simp] theorem v_or (a b : IE) : (ev L (.or a b)).v r S = bnd ((ev L a).v r S) fun x r S => bnd (truthR x r S) fun k r S => if k then .ok x r S else (ev L b).v r S := by
  show bnd _ _ = _
  congr 1; funext x r S
  show bnd _ _ = _
  congr 1; funext k r S
  cases k <;> rfl
@[simp] theorem v_not (a : IE) : (ev L (.not a)).v r S = bnd ((ev L a).v r S) fun x r S => bnd (truthR x r S) fun k r S => .ok (.d (.bl (!k))) r S := nr rfl
@[simp] theorem v_ife (c a b : IE) : (ev L (.ife c a b)).v r S = bnd ((ev L c).t r S) fun k r S => if k then (ev L a).v r S else (ev L b).v r S := by
  show bnd _ _ = _
  congr 1; funext k r S
  cases k <;> rfl
@[simp] theorem v_tup (es : IE) : (ev L (.tup es)).v r S = bnd ((ev L es).l r S) fun xs r S => .ok (.d (.tup xs)) r S := nr rfl
@[simp] theorem v_lst (es : IE) : (ev L (.lst es)).v r S = bnd ((ev L es).l r S) fun xs r S => .ok (.fresh xs) r S := nr rfl
@[simp] theorem v_sub (a i : IE) : (ev L (.sub a i)).v r S = bnd ((ev L a).v r S) fun x r S => bnd ((ev L i).v r S) fun y r S =>
  bnd (peek x r S) fun u r S => bnd (peek y r S) fun v r S => M.ofO ((subD u v).map .d) r S := nr rfl
@[simp] theorem v_slc (a lo hi : IE) : (ev L (.slc a lo hi)).v r S = bnd ((ev L a).v r S) fun x r S => bnd ((ev L lo).o r S) fun l r S =>
  bnd ((ev L hi).o r S) fun h r S => bnd (peek x r S) fun u r S => M.ofO (slcD u l h) r S := nr rfl
@[simp] theorem v_rev (a : IE) : (ev L (.rev a)).v r S = bnd ((ev L a).v r S) fun x r S => bnd (peek x r S) fun u r S => M.ofO (revD u) r S := nr rfl
@[simp] theorem v_attr (a : IE) (f : Str) : (ev L (.attr a f)).v r S = bnd ((ev L a).v r S) fun x r S => bnd (peek x r S) fun u r S => M.ofO ((attrD u f).map .d) r S := nr rfl
@[simp] theorem v_call (k : Nat) (es : IE) : (ev L (.call k es)).v r S = bnd ((ev L es).a r S) fun as r S => callK (L.fns k) as r S := by
  show bnd _ _ = _
  congr 1; funext as r S
  show (match L.fns k with | some g => doCall g as | none => M.stuck) r S = _
  cases L.fns k <;> rfl
@[simp] theorem v_new (k : Nat) (es : IE) : (ev L (.new k es)).v r S = bnd ((ev L es).a r S) fun as r S => newK (L.cls k) as r S := by
  show bnd _ _ = _
  congr 1; funext as r S
  show (match L.cls k with | some g => doNew g as | none => M.stuck) r S = _
  cases L.cls k <;> rfl
@[simp] theorem v_b1 (b : B1) (a : IE) : (ev L (.b1 b a)).v r S = bnd ((ev L a).v r S) fun x r S => bnd (peek x r S) fun u r S => M.ofO (b1 b u) r S := nr rfl
@[simp] theorem v_b2 (b : B2) (a c : IE) : (ev L (.b2 b a c)).v r S = bnd ((ev L a).v r S) fun x r S => bnd ((ev L c).v r S) fun y r S =>
  bnd (peek x r S) fun u r S => bnd (peek y r S) fun v r S => M.ofO (b2 b u v) r S := nr rfl
@[simp] theorem v_isi (a : IE) (t : Ty) : (ev L (.isi a t)).v r S = bnd ((ev L a).v r S) fun x r S => bnd (peek x r S) fun u r S => M.ofO (blR (isi u t)) r S := nr rfl
@[simp] theorem v_meth (m : Mt) (o es : IE) : (ev L (.meth m o es)).v r S = bnd ((ev L o).v r S) fun x r S => bnd (kindR m x r S) fun k r S =>
  bnd ((ev L es).l r S) fun ys r S => doMeth m x k ys r S := nr rfl
@[simp] theorem v_scut (i : Nat) (hi : Int) : (ev L (.scut i hi)).v r S = scutM i hi r S := nr rfl
@[simp] theorem v_tupr (a : IE) : (ev L (.tupr a)).v r S = bnd ((ev L a).v r S) fun x r S => bnd (peek x r S) fun u r S => bnd (M.ofO (rngOf (.int 0) u) r S) fun xs r S =>
  bnd (walkM xs r S) fun xs r S => .ok (.d (.tup xs)) r S := nr rfl
@[simp] theorem l_nil : (ev L .nil).l r S = .ok [] r S := nr rfl
@[simp] theorem a_nil : (ev L .nil).a r S = .ok [] r S := nr rfl
@[simp] theorem l_cons (e es : IE) : (ev L (.cons e es)).l r S = bnd ((ev L e).v r S) fun x r S => bnd (asD x r S) fun d r S => bnd ((ev L es).l r S) fun ds r S => .ok (d :: ds) r S := nr rfl
@[simp] theorem a_cons (e es : IE) : (ev L (.cons e es)).a r S = bnd ((ev L e).v r S) fun x r S => bnd (asArg x r S) fun d r S => bnd ((ev L es).a r S) fun ds r S => .ok (d :: ds) r S := nr rfl
@[simp] theorem o_no : (ev L .no).o r S = .ok none r S := nr rfl
@[simp] theorem t_no : (ev L .no).t r S = .ok true r S := nr rfl

/-- a test that is a value's -/
@[simp] theorem t_var (i : Nat) : (ev L (.var i)).t r S = bnd ((ev L (.var i)).v r S) truthR := nr rfl
@[simp] theorem t_cbl (b : Bool) : (ev L (.cbl b)).t r S = .ok b r S := nr rfl
@[simp] theorem t_cmp (o : Cop) (a b : IE) : (ev L (.cmp o a b)).t r S = bnd ((ev L (.cmp o a b)).v r S) truthR := nr rfl
@[simp] theorem t_cmp2 (o o' : Cop) (a b c : IE) : (ev L (.cmp2 o o' a b c)).t r S = bnd ((ev L (.cmp2 o o' a b c)).v r S) truthR := nr rfl
@[simp] theorem t_call (k : Nat) (es : IE) : (ev L (.call k es)).t r S = bnd ((ev L (.call k es)).v r S) truthR := nr rfl
@[simp] theorem t_b1 (b : B1) (a : IE) : (ev L (.b1 b a)).t r S = bnd ((ev L (.b1 b a)).v r S) truthR := nr rfl
@[simp] theorem t_isi (a : IE) (t : Ty) : (ev L (.isi a t)).t r S = bnd ((ev L (.isi a t)).v r S) truthR := nr rfl
@[simp] theorem t_sub (a i : IE) : (ev L (.sub a i)).t r S = bnd ((ev L (.sub a i)).v r S) truthR := nr rfl
@[simp] theorem t_and (a b : IE) : (ev L (.and a b)).t r S = bnd ((ev L a).t r S) fun k r S => if k then (ev L b).t r S else .ok false r S := by
  show bnd _ _ = _
  congr 1; funext k r S
  cases k <;> rfl
@[simp] theorem t_or (a b : IE) : (ev L (.or a b)).t r S = bnd ((ev L a).t r S) fun k r S => if k then .ok true r S else (ev L b).t r S := by
  show bnd _ _ = _
  congr 1; funext k r S
  cases k <;> rfl
@[simp] theorem t_not (a : IE) : (ev L (.not a)).t r S = bnd ((ev L a).t r S) fun k r S => .ok (!k) r S := nr rfl
@[simp] theorem t_ife (c a b : IE) : (ev L (.ife c a b)).t r S = bnd ((ev L c).t r S) fun k r S => if k then (ev L a).t r S else (ev L b).t r S := by
  show bnd _ _ = _
  congr 1; funext k r S
  cases k <;> rfl

/-- what is walked -/
def itM (x : R) : M (List D) := fun r S => bnd (asD x r S) fun u r S => M.ofO (itemsOf u) r S
@[simp] theorem itM_eq (x : R) : itM x r S = bnd (asD x r S) fun u r S => M.ofO (itemsOf u) r S := nr rfl
@[simp] theorem i_var (i : Nat) : (ev L (.var i)).i r S = bnd ((ev L (.var i)).v r S) itM := nr rfl
@[simp] theorem i_call (k : Nat) (es : IE) : (ev L (.call k es)).i r S = bnd ((ev L (.call k es)).v r S) itM := nr rfl
@[simp] theorem i_sub (a i : IE) : (ev L (.sub a i)).i r S = bnd ((ev L (.sub a i)).v r S) itM := nr rfl
@[simp] theorem i_attr (a : IE) (f : Str) : (ev L (.attr a f)).i r S = bnd ((ev L (.attr a f)).v r S) itM := nr rfl
@[simp] theorem i_lst (es : IE) : (ev L (.lst es)).i r S = bnd ((ev L (.lst es)).v r S) itM := nr rfl
@[simp] theorem i_tup (es : IE) : (ev L (.tup es)).i r S = bnd ((ev L (.tup es)).v r S) itM := nr rfl
@[simp] theorem i_bin (o : Bop) (a b : IE) : (ev L (.bin o a b)).i r S = bnd ((ev L (.bin o a b)).v r S) itM := nr rfl
@[simp] theorem i_lc (own : List Nat) (tg : Tg) (it ifs elt : IE) : (ev L (.lc own tg it ifs elt)).i r S = bnd ((ev L (.lc own tg it ifs elt)).v r S) itM := nr rfl
@[simp] theorem i_lc2 (own own1 : List Nat) (tg tg1 : Tg) (it ifs it1 ifs1 elt : IE) : (ev L (.lc2 own own1 tg it ifs tg1 it1 ifs1 elt)).i r S = bnd ((ev L (.lc2 own own1 tg it ifs tg1 it1 ifs1 elt)).v r S) itM := nr rfl
@[simp] theorem i_rng1 (a : IE) : (ev L (.rng1 a)).i r S = bnd ((ev L a).v r S) fun x r S => bnd (peek x r S) fun u r S => bnd (M.ofO (rngOf (.int 0) u) r S) fun xs r S => walkM xs r S := nr rfl
@[simp] theorem i_rng2 (a b : IE) : (ev L (.rng2 a b)).i r S = bnd ((ev L a).v r S) fun x r S => bnd ((ev L b).v r S) fun y r S => bnd (peek x r S) fun u r S => bnd (peek y r S) fun v r S =>
  bnd (M.ofO (rngOf u v) r S) fun xs r S => walkM xs r S := nr rfl
@[simp] theorem i_enum (a : IE) : (ev L (.enum a)).i r S = bnd ((ev L a).v r S) fun x r S => bnd (asD x r S) fun u r S => bnd (M.ofO (itemsOf u) r S) fun xs r S => .ok (enumL 0 xs) r S := nr rfl
@[simp] theorem i_zip2 (a b : IE) : (ev L (.zip2 a b)).i r S = bnd ((ev L a).v r S) fun x r S => bnd (asD x r S) fun u r S => bnd ((ev L b).v r S) fun y r S => bnd (asD y r S) fun v r S =>
  M.ofO (zipOf u v) r S := nr rfl
/-- a slice's end -/
def oM (x : R) : M (Option Int) := fun r S => bnd (peek x r S) fun u r S => M.ofO (optI u) r S
@[simp] theorem oM_eq (x : R) : oM x r S = bnd (peek x r S) fun u r S => M.ofO (optI u) r S := nr rfl
@[simp] theorem o_var (i : Nat) : (ev L (.var i)).o r S = bnd ((ev L (.var i)).v r S) oM := nr rfl
@[simp] theorem o_cint (i : Int) : (ev L (.cint i)).o r S = .ok (some i) r S := nr rfl
@[simp] theorem o_bin (o : Bop) (a b : IE) : (ev L (.bin o a b)).o r S = bnd ((ev L (.bin o a b)).v r S) oM := nr rfl

/-! statements -/
def nx (f : Fl) (k : M Fl) : M Fl := match f with
  | .next => k
  | f => M.pure f
@[simp] theorem nx_next (k : M Fl) : nx .next k r S = k r S := nr rfl
@[simp] theorem nx_ret (x : R) (k : M Fl) : nx (.ret x) k r S = .ok (.ret x) r S := nr rfl
@[simp] theorem x_nil : exS L .nil r S = .ok .next r S := nr rfl
@[simp] theorem x_cons (s ss : IS) : exS L (.cons s ss) r S = bnd (exS L s r S) fun f r S => nx f (exS L ss) r S := by
  show bnd _ _ = bnd _ _
  have : ∀ f : Fl, (match f with | .next => exS L ss | f => M.pure f) = nx f (exS L ss) := fun f => by cases f <;> rfl
  congr 1
@[simp] theorem x_set (i : Nat) (k : Vk) (e : IE) : exS L (.set i k e) r S = bnd ((ev L e).v r S) fun x r S => bnd (setK i k x r S) fun _ r S => .ok .next r S := nr rfl
@[simp] theorem x_setT (is : List Nat) (e : IE) : exS L (.setT is e) r S = bnd ((ev L e).v r S) fun x r S => bnd (asD x r S) fun d r S => bnd (bindTg (.many is) d r S) fun _ r S => .ok .next r S := nr rfl
@[simp] theorem x_par (ks : List (Nat × Vk)) (es : IE) : exS L (.par ks es) r S = bnd (vals L es r S) fun xs r S => bnd (setAll ks xs r S) fun _ r S => .ok .next r S := nr rfl
@[simp] theorem x_subs (i : Nat) (ix e : IE) : exS L (.subs i ix e) r S = bnd ((ev L e).v r S) fun x r S => bnd (asD x r S) fun d r S => bnd (isLst i r S) fun _ r S =>
  bnd ((ev L ix).v r S) fun y r S => bnd (peek y r S) fun u r S => bnd (putAt i u d r S) fun _ r S => .ok .next r S := nr rfl
@[simp] theorem x_fld (i : Nat) (f : Str) (e : IE) : exS L (.fld i f e) r S = bnd ((ev L e).v r S) fun x r S => bnd (asD x r S) fun d r S => bnd (putFld i f d r S) fun _ r S => .ok .next r S := nr rfl
@[simp] theorem x_expr (e : IE) : exS L (.expr e) r S = bnd ((ev L e).v r S) fun _ r S => .ok .next r S := nr rfl
@[simp] theorem x_ret (e : IE) : exS L (.ret e) r S = bnd ((ev L e).v r S) fun x r S => .ok (.ret x) r S := nr rfl
@[simp] theorem x_retN : exS L .retN r S = .ok (.ret (.d .non)) r S := nr rfl
@[simp] theorem x_ife (c : IE) (a b : IS) : exS L (.ife c a b) r S = bnd ((ev L c).t r S) fun k r S => if k then exS L a r S else exS L b r S := by
  show bnd _ _ = _
  congr 1; funext k r S
  cases k <;> rfl
@[simp] theorem x_loop (tg : Tg) (it : IE) (body : IS) : exS L (.loop tg it body) r S = bnd ((ev L it).i r S) fun xs r S => forL tg (exS L body) xs r S := nr rfl
@[simp] theorem vals_nil : vals L .nil r S = .ok [] r S := nr rfl
@[simp] theorem vals_cons (e es : IE) : vals L (.cons e es) r S = bnd ((ev L e).v r S) fun x r S => bnd (asV x r S) fun x r S => bnd (vals L es r S) fun xs r S => .ok (x :: xs) r S := nr rfl
@[simp] theorem setAll_nil : setAll [] [] r S = .ok () r S := nr rfl
@[simp] theorem setAll_cons (i : Nat) (k : Vk) (is : List (Nat × Vk)) (x : R) (xs : List R) : setAll ((i, k) :: is) (x :: xs) r S = bnd (setK i k x r S) fun _ r S => setAll is xs r S := nr rfl
@[simp] theorem setK_own (i : Nat) (xs : List D) : setK i .own (.fresh xs) r S = setSl i (.own xs) r S := nr rfl
@[simp] theorem setK_loc (i : Nat) (xs : List D) : setK i .loc (.fresh xs) r S = if i < r.length then .ok () (r.set i (.loc S.length)) (S ++ [xs]) else .stuck := nr rfl
@[simp] theorem setK_locloc (i : Nat) (k : Vk) (l : Nat) : setK i k (.loc l) r S = setSl i (.loc l) r S := by cases k <;> rfl
@[simp] theorem setK_d (i : Nat) (k : Vk) (x : D) : setK i k (.d x) r S = setSl i (.d x) r S := by cases k <;> rfl
@[simp] theorem setK_valf (i : Nat) (xs : List D) : setK i .val (.fresh xs) r S = setSl i (.d (.lst xs)) r S := nr rfl
@[simp] theorem setSl_eq (i : Nat) (s : Sl) : setSl i s r S = if i < r.length then .ok () (r.set i s) S else .stuck := nr rfl
@[simp] theorem bindTg_one (i : Nat) (x : D) : bindTg (.one i) x r S = setSl i (.d x) r S := nr rfl
@[simp] theorem bindTg_many (is : List Nat) (xs : List D) : bindTg (.many is) (.tup xs) r S = setMany is xs r S := nr rfl
@[simp] theorem setMany_nil : setMany [] [] r S = .ok () r S := nr rfl
@[simp] theorem setMany_cons (i : Nat) (is : List Nat) (x : D) (xs : List D) : setMany (i :: is) (x :: xs) r S = bnd (setSl i (.d x) r S) fun _ r S => setMany is xs r S := nr rfl
end ev

/-! comprehensions -/
theorem bsLen (r0 : List Sl) : ∀ (own : List Nat) (r : List Sl), (backS r0 r own).length = r.length
  | [], r => rfl
  | v :: vs, r => by
    unfold backS
    split
    · rw [List.length_set]; exact bsLen r0 vs r
    · exact bsLen r0 vs r
theorem wsLen : ∀ (own : List Nat) (r : List Sl), (wipeS r own).length = r.length
  | [], r => rfl
  | v :: vs, r => by
    unfold wipeS
    rw [List.length_set]; exact wsLen vs r
theorem wsGet (r : List Sl) (j : Nat) : ∀ (own : List Nat), j ∉ own → (wipeS r own)[j]? = r[j]?
  | [], _ => rfl
  | v :: vs, h => by
    unfold wipeS
    have h1 : v ≠ j := fun e => h (e ▸ List.mem_cons_self ..)
    rw [List.getElem?_set_ne h1]
    exact wsGet r j vs fun m => h (List.mem_cons_of_mem _ m)
theorem bsIn (r0 r : List Sl) (hl : r.length = r0.length) (j : Nat) : ∀ (own : List Nat), j ∈ own → (backS r0 r own)[j]? = r0[j]?
  | v :: vs, h => by
    unfold backS
    by_cases e : v = j
    · subst e
      cases e0 : r0[v]? with
      | none =>
        have : r0.length ≤ v := List.getElem?_eq_none_iff.1 e0
        rw [List.getElem?_eq_none_iff, bsLen]; omega
      | some s =>
        have : v < r0.length := (List.getElem?_eq_some_iff.1 e0).1
        rw [List.getElem?_set_self (by rw [bsLen]; omega)]
    · have hj : j ∈ vs := by
        cases h with
        | head => exact absurd rfl e
        | tail _ h => exact h
      have := bsIn r0 r hl j vs hj
      split
      · rw [List.getElem?_set_ne e]; exact this
      · exact this
theorem bsOut (r0 r : List Sl) (j : Nat) : ∀ (own : List Nat), j ∉ own → (backS r0 r own)[j]? = r[j]?
  | [], _ => rfl
  | v :: vs, h => by
    unfold backS
    have h1 : v ≠ j := fun e => h (e ▸ List.mem_cons_self ..)
    have := bsOut r0 r j vs fun m => h (List.mem_cons_of_mem _ m)
    split
    · rw [List.getElem?_set_ne h1]; exact this
    · exact this
theorem backS_wipe (r : List Sl) (own : List Nat) : backS r (wipeS r own) own = r := by
  apply List.ext_getElem?
  intro j
  by_cases h : j ∈ own
  · exact bsIn r _ (wsLen own r) j own h
  · rw [bsOut r _ j own h, wsGet r j own h]

/-- one turn -/
def turn {α : Type} (own : List Nat) (tg : Tg) (c : M Bool) (e : M α) (x : D) : M (Option α) := fun r S => bnd (bindTg tg x r S) fun _ r S => bnd (c r S) fun b r S =>
  if b then bnd (e r S) fun y r S => .ok (some y) (wipeS r own) S else .ok none (wipeS r own) S
@[simp] theorem turn_eq {α : Type} (own : List Nat) (tg : Tg) (c : M Bool) (e : M α) (x : D) (r : List Sl) (S : Store) : turn own tg c e x r S = bnd (bindTg tg x r S) fun _ r S => bnd (c r S) fun b r S =>
  if b then bnd (e r S) fun y r S => .ok (some y) (wipeS r own) S else .ok none (wipeS r own) S := nr rfl
def vD (e : M R) : M D := fun r S => bnd (e r S) fun x r S => asD x r S
@[simp] theorem vD_eq (e : M R) (r : List Sl) (S : Store) : vD e r S = bnd (e r S) fun x r S => asD x r S := nr rfl
def tl {α : Type} (o : Option α) (k : M (List α)) : M (List α) := match o with
  | some y => fun r S => bnd (k r S) fun ys r S => .ok (y :: ys) r S
  | none => k
def tl2 {α : Type} (o : Option (List α)) (k : M (List α)) : M (List α) := match o with
  | some y => fun r S => bnd (k r S) fun ys r S => .ok (y ++ ys) r S
  | none => k
theorem compL_turn (own : List Nat) (tg : Tg) (c : M Bool) (e : M D) (x : D) (xs : List D) (r : List Sl) (S : Store) : compL own tg c e (x :: xs) r S =
    bnd (turn own tg c e x r S) fun o r S => tl o (compL own tg c e xs) r S := by
  show bnd _ _ = bnd (bnd _ _) _
  cases bindTg tg x r S with
  | stuck => rfl
  | err => rfl
  | ok _ r S =>
    show bnd (c r S) _ = bnd (bnd (c r S) _) _
    cases c r S with
    | stuck => rfl
    | err => rfl
    | ok b r S =>
      cases b
      · rfl
      · show bnd (e r S) _ = bnd (bnd (e r S) _) _
        cases e r S <;> rfl
theorem comp2L_turn (own : List Nat) (tg : Tg) (c : M Bool) (e : M (List D)) (x : D) (xs : List D) (r : List Sl) (S : Store) : comp2L own tg c e (x :: xs) r S =
    bnd (turn own tg c e x r S) fun o r S => tl2 o (comp2L own tg c e xs) r S := by
  show bnd _ _ = bnd (bnd _ _) _
  cases bindTg tg x r S with
  | stuck => rfl
  | err => rfl
  | ok _ r S =>
    show bnd (c r S) _ = bnd (bnd (c r S) _) _
    cases c r S with
    | stuck => rfl
    | err => rfl
    | ok b r S =>
      cases b
      · rfl
      · show bnd (e r S) _ = bnd (bnd (e r S) _) _
        cases e r S <;> rfl
theorem compL_pure {α : Type} {own : List Nat} {tg : Tg} {c : M Bool} {e : M D} {r : List Sl} {S : Store} {enc : α → D} (F : α → Option D) :
    ∀ (zs : List α), (∀ z ∈ zs, turn own tg c e (enc z) r S = .ok (F z) r S) → compL own tg c e (zs.map enc) r S = .ok (zs.filterMap F) r S
  | [], _ => rfl
  | z :: zs, h => by
    rw [List.map_cons, compL_turn, h z (List.mem_cons_self ..)]
    have ih := compL_pure F zs fun y hy => h y (List.mem_cons_of_mem _ hy)
    show tl (F z) _ r S = _
    cases e : F z with
    | none => rw [List.filterMap_cons_none e]; exact ih
    | some y =>
      rw [List.filterMap_cons_some e]
      show bnd _ _ = _
      rw [ih]; rfl
theorem comp2L_pure {α : Type} {own : List Nat} {tg : Tg} {c : M Bool} {e : M (List D)} {r : List Sl} {S : Store} {enc : α → D} (F : α → Option (List D)) :
    ∀ (zs : List α), (∀ z ∈ zs, turn own tg c e (enc z) r S = .ok (F z) r S) → comp2L own tg c e (zs.map enc) r S = .ok (zs.filterMap F).flatten r S
  | [], _ => rfl
  | z :: zs, h => by
    rw [List.map_cons, comp2L_turn, h z (List.mem_cons_self ..)]
    have ih := comp2L_pure F zs fun y hy => h y (List.mem_cons_of_mem _ hy)
    show tl2 (F z) _ r S = _
    cases e : F z with
    | none => rw [List.filterMap_cons_none e]; exact ih
    | some y =>
      rw [List.filterMap_cons_some e]
      show bnd _ _ = _
      rw [ih]; rfl
/-- a comprehension's value -/
theorem lc_eq (L : Lk) (own : List Nat) (tg : Tg) (it ifs elt : IE) (r : List Sl) (S : Store) : (ev L (.lc own tg it ifs elt)).v r S =
    bnd ((ev L it).i r S) fun xs r S => bnd (inBlk own (compL own tg (ev L ifs).t (vD (ev L elt).v) xs) r S) fun a r S => .ok (.fresh a) r S := rfl
theorem inBlkOk {α : Type} {own : List Nat} {f : M α} {r r' : List Sl} {S S' : Store} {a : α} (hp : own.all (plainAt r) = true) (h : f (wipeS r own) S = .ok a r' S') :
    inBlk own f r S = .ok a (backS r r' own) S' := by
  unfold inBlk
  rw [if_pos hp, h]
theorem lc_pure {α : Type} (enc : α → D) (F : α → Option D) (zs : List α) {L : Lk} {own : List Nat} {tg : Tg} {it ifs elt : IE} {r r1 : List Sl} {S S1 : Store}
    (hi : (ev L it).i r S = .ok (zs.map enc) r1 S1) (hp : own.all (plainAt r1) = true)
    (ht : ∀ z ∈ zs, turn own tg (ev L ifs).t (vD (ev L elt).v) (enc z) (wipeS r1 own) S1 = .ok (F z) (wipeS r1 own) S1) :
    (ev L (.lc own tg it ifs elt)).v r S = .ok (.fresh (zs.filterMap F)) r1 S1 := by
  rw [lc_eq, hi, bnd_ok, inBlkOk hp (compL_pure F zs ht), bnd_ok, backS_wipe]
theorem lc2_pure {α : Type} (enc : α → D) (F : α → Option (List D)) (zs : List α) {L : Lk} {own own1 : List Nat} {tg tg1 : Tg} {it ifs it1 ifs1 elt : IE} {r r1 : List Sl} {S S1 : Store}
    (hi : (ev L it).i r S = .ok (zs.map enc) r1 S1) (hp : own.all (plainAt r1) = true) (hs : szOk (zs.filterMap F).flatten.length = true)
    (ht : ∀ z ∈ zs, turn own tg (ev L ifs).t (fun r S => bnd ((ev L it1).i r S) fun ys r S => inBlk own1 (compL own1 tg1 (ev L ifs1).t (vD (ev L elt).v) ys) r S) (enc z) (wipeS r1 own) S1 = .ok (F z) (wipeS r1 own) S1) :
    (ev L (.lc2 own own1 tg it ifs tg1 it1 ifs1 elt)).v r S = .ok (.fresh (zs.filterMap F).flatten) r1 S1 := by
  show bnd ((ev L it).i r S) (fun xs r S => bnd (inBlk own _ r S) _) = _
  rw [hi, bnd_ok]
  have h2 := inBlkOk hp (comp2L_pure (own := own) (tg := tg) (c := (ev L ifs).t) (e := fun r S => bnd ((ev L it1).i r S) fun ys r S => inBlk own1 (compL own1 tg1 (ev L ifs1).t (vD (ev L elt).v) ys) r S) F zs ht)
  have h3 : inBlk own (comp2L own tg (ev L ifs).t ((ev L it1).i.bind fun ys => inBlk own1 (compL own1 tg1 (ev L ifs1).t ((ev L elt).v.bind asD) ys)) (zs.map enc)) r1 S1 = Out.ok (zs.filterMap F).flatten (backS r1 (wipeS r1 own) own) S1 := h2
  rw [h3, bnd_ok, if_pos hs, backS_wipe]
theorem inBlk_pure {α : Type} (enc : α → D) (F : α → Option D) (zs : List α) {own : List Nat} {tg : Tg} {c : M Bool} {e : M D} {r : List Sl} {S : Store} (hp : own.all (plainAt r) = true)
    (ht : ∀ z ∈ zs, turn own tg c e (enc z) (wipeS r own) S = .ok (F z) (wipeS r own) S) : inBlk own (compL own tg c e (zs.map enc)) r S = .ok (zs.filterMap F) r S := by
  rw [inBlkOk hp (compL_pure F zs ht), backS_wipe]

/-- turns that change the store, keeping J; each gives an item that is P -/
theorem compL_inv {α : Type} {own : List Nat} {tg : Tg} {c : M Bool} {e : M D} {r : List Sl} {enc : α → D} (J : Store → Prop) (P : D → Prop) :
    ∀ (zs : List α) (S : Store), J S → (∀ z ∈ zs, ∀ S, J S → ∃ o S', turn own tg c e (enc z) r S = .ok o r S' ∧ J S' ∧ ∀ y, o = some y → P y) →
      ∃ ys S', compL own tg c e (zs.map enc) r S = .ok ys r S' ∧ J S' ∧ ∀ y ∈ ys, P y
  | [], S, hJ, _ => ⟨[], S, rfl, hJ, fun _ h => absurd h (List.not_mem_nil)⟩
  | z :: zs, S, hJ, h => by
    obtain ⟨o, S', h1, h2, h3⟩ := h z (List.mem_cons_self ..) S hJ
    obtain ⟨ys, S'', i1, i2, i3⟩ := compL_inv J P zs S' h2 fun y hy => h y (List.mem_cons_of_mem _ hy)
    rw [List.map_cons, compL_turn, h1, bnd_ok]
    cases o with
    | none => exact ⟨ys, S'', i1, i2, i3⟩
    | some y =>
      refine ⟨y :: ys, S'', ?_, i2, ?_⟩
      · show bnd _ _ = _
        rw [i1]; rfl
      · intro a ha
        cases ha with
        | head => exact h3 y rfl
        | tail _ ha => exact i3 a ha
theorem lc_inv {α : Type} (enc : α → D) (J : Store → Prop) (P : D → Prop) (zs : List α) {L : Lk} {own : List Nat} {tg : Tg} {it ifs elt : IE} {r r1 : List Sl} {S S1 : Store}
    (hi : (ev L it).i r S = .ok (zs.map enc) r1 S1) (hp : own.all (plainAt r1) = true) (hJ : J S1)
    (ht : ∀ z ∈ zs, ∀ S, J S → ∃ o S', turn own tg (ev L ifs).t (vD (ev L elt).v) (enc z) (wipeS r1 own) S = .ok o (wipeS r1 own) S' ∧ J S' ∧ ∀ y, o = some y → P y) :
    ∃ ys S', (ev L (.lc own tg it ifs elt)).v r S = .ok (.fresh ys) r1 S' ∧ J S' ∧ ∀ y ∈ ys, P y := by
  obtain ⟨ys, S', h1, h2, h3⟩ := compL_inv J P zs S1 hJ ht
  refine ⟨ys, S', ?_, h2, h3⟩
  rw [lc_eq, hi, bnd_ok, inBlkOk hp h1, bnd_ok, backS_wipe]

/-! loops -/
def after (f : Fl) (k : M Fl) : M Fl := match f with
  | .next => k
  | .cont => k
  | .brk => M.pure .next
  | .ret x => M.pure (.ret x)
@[simp] theorem after_next (k : M Fl) (r : List Sl) (S : Store) : after .next k r S = k r S := nr rfl
theorem forL_cons (tg : Tg) (b : M Fl) (x : D) (xs : List D) (r : List Sl) (S : Store) : forL tg b (x :: xs) r S =
    bnd (bindTg tg x r S) fun _ r S => bnd (b r S) fun f r S => after f (forL tg b xs) r S := rfl
/-- a loop whose turns keep I (of what is still to come, the frame, the store) and go on -/
theorem forL_inv {α : Type} {tg : Tg} {b : M Fl} {enc : α → D} (I : List α → List Sl → Store → Prop)
    (h : ∀ z zs r S, I (z :: zs) r S → ∃ r' S', (bnd (bindTg tg (enc z) r S) fun _ r S => b r S) = .ok .next r' S' ∧ I zs r' S') :
    ∀ (zs : List α) (r : List Sl) (S : Store), I zs r S → ∃ r' S', forL tg b (zs.map enc) r S = .ok .next r' S' ∧ I [] r' S'
  | [], r, S, hI => ⟨r, S, rfl, hI⟩
  | z :: zs, r, S, hI => by
    obtain ⟨r', S', h1, h2⟩ := h z zs r S hI
    obtain ⟨r'', S'', i1, i2⟩ := forL_inv I h zs r' S' h2
    refine ⟨r'', S'', ?_, i2⟩
    rw [List.map_cons, forL_cons]
    cases e : bindTg tg (enc z) r S with
    | stuck => rw [e] at h1; cases h1
    | err => rw [e] at h1; cases h1
    | ok u r1 S1 =>
      rw [e] at h1
      have h1' : b r1 S1 = .ok .next r' S' := h1
      rw [bnd_ok, h1', bnd_ok, after_next, i1]
/-! defs -/
@[simp] theorem slOf_d (x : D) : slOf (.d x) = .d x := nr rfl
@[simp] theorem slOf_loc (l : Nat) : slOf (.loc l) = .loc l := nr rfl
@[simp] theorem slOf_scr (ns : List Int) : slOf (.scr ns) = .scr ns := nr rfl
theorem runF_eq (np n : Nat) (body : IS) (L : Lk) (as : List Arg) (S : Store) (h : as.length = np) :
    runF np n body L as S = endFR S.length (exS L body (as.map slOf ++ List.replicate (n - np) .none) S) := by
  unfold runF; rw [if_pos h]
@[simp] theorem endFR_next (n : Nat) (r : List Sl) (S : Store) : endFR n (.ok .next r S) = .ok .non (S.take n) := nr rfl
@[simp] theorem endFR_d (n : Nat) (x : D) (r : List Sl) (S : Store) : endFR n (.ok (.ret (.d x)) r S) = .ok x (S.take n) := nr rfl
@[simp] theorem endFR_fresh (n : Nat) (x : List D) (r : List Sl) (S : Store) : endFR n (.ok (.ret (.fresh x)) r S) = .fresh x (S.take n) := nr rfl
@[simp] theorem endFR_own (n i : Nat) (r : List Sl) (S : Store) : endFR n (.ok (.ret (.own i)) r S) = match r[i]? with
    | some (.own xs) => .fresh xs (S.take n)
    | some (.d x) => .ok x (S.take n)
    | _ => .stuck := nr rfl
@[simp] theorem endFR_ite (n : Nat) (c : Prop) [Decidable c] (x y : Out Fl) : endFR n (if c then x else y) = if c then endFR n x else endFR n y := by
  split <;> rfl
@[simp] theorem FRok_ite (c : Prop) [Decidable c] (a b : D) (S : Store) : (if c then FR.ok a S else FR.ok b S) = FR.ok (if c then a else b) S := by
  split <;> rfl
@[simp] theorem bl_ite (c : Prop) [Decidable c] (a b : Bool) : (if c then D.bl a else D.bl b) = D.bl (if c then a else b) := by
  split <;> rfl
end DL
end

section
/-! The data layer, part 27: rules for simp; leagues, results, rows of numbers as data. -/
namespace DL
open PySem
@[simp] theorem isi_int_int (i : Int) : isi (.int i) (.ty "int") = some true := by
  simp [isi, tyNames, isTy, tyOf, subTy]
@[simp] theorem isi_int_bool (i : Int) : isi (.int i) (.ty "bool") = some false := by
  simp [isi, tyNames, isTy, tyOf, subTy]
@[simp] theorem isi_tup_tuple (i : List D) : isi (.tup i) (.ty "tuple") = some true := by
  simp [isi, tyNames, isTy, tyOf, subTy]
@[simp] theorem isi_ins (c : Str) (fs : List (Str × D)) : isi (.ins c fs) (.cls c) = some true := by
  simp [isi]
@[simp] theorem blR_some (b : Bool) : blR (some b) = some (.d (.bl b)) := nr rfl
@[simp] theorem truth_bl (b : Bool) : truth (.bl b) = some b := nr rfl
@[simp] theorem rd_0 (x : D) (r : List Sl) (S : Store) : rd 0 (.d x :: r) S = .ok (.d x) (.d x :: r) S := nr rfl
@[simp] theorem rd_1 (a : Sl) (x : D) (r : List Sl) (S : Store) : rd 1 (a :: .d x :: r) S = .ok (.d x) (a :: .d x :: r) S := nr rfl
@[simp] theorem rd_2 (a b : Sl) (x : D) (r : List Sl) (S : Store) : rd 2 (a :: b :: .d x :: r) S = .ok (.d x) (a :: b :: .d x :: r) S := nr rfl
@[simp] theorem rd_3 (a b c : Sl) (x : D) (r : List Sl) (S : Store) : rd 3 (a :: b :: c :: .d x :: r) S = .ok (.d x) (a :: b :: c :: .d x :: r) S := nr rfl
@[simp] theorem rd_4 (a b c d : Sl) (x : D) (r : List Sl) (S : Store) : rd 4 (a :: b :: c :: d :: .d x :: r) S = .ok (.d x) (a :: b :: c :: d :: .d x :: r) S := nr rfl
@[simp] theorem rd_5 (a b c d e : Sl) (x : D) (r : List Sl) (S : Store) : rd 5 (a :: b :: c :: d :: e :: .d x :: r) S = .ok (.d x) (a :: b :: c :: d :: e :: .d x :: r) S := nr rfl
@[simp] theorem rd_6 (a b c d e f : Sl) (x : D) (r : List Sl) (S : Store) : rd 6 (a :: b :: c :: d :: e :: f :: .d x :: r) S = .ok (.d x) (a :: b :: c :: d :: e :: f :: .d x :: r) S := nr rfl
@[simp] theorem rd_7 (a b c d e f g : Sl) (x : D) (r : List Sl) (S : Store) : rd 7 (a :: b :: c :: d :: e :: f :: g :: .d x :: r) S = .ok (.d x) (a :: b :: c :: d :: e :: f :: g :: .d x :: r) S := nr rfl
@[simp] theorem rd_8 (a b c d e f g h : Sl) (x : D) (r : List Sl) (S : Store) : rd 8 (a :: b :: c :: d :: e :: f :: g :: h :: .d x :: r) S = .ok (.d x) (a :: b :: c :: d :: e :: f :: g :: h :: .d x :: r) S := nr rfl
@[simp] theorem rd_9 (a b c d e f g h i : Sl) (x : D) (r : List Sl) (S : Store) : rd 9 (a :: b :: c :: d :: e :: f :: g :: h :: i :: .d x :: r) S = .ok (.d x) (a :: b :: c :: d :: e :: f :: g :: h :: i :: .d x :: r) S := nr rfl
@[simp] theorem rd_10 (a b c d e f g h i j : Sl) (x : D) (r : List Sl) (S : Store) : rd 10 (a :: b :: c :: d :: e :: f :: g :: h :: i :: j :: .d x :: r) S = .ok (.d x) (a :: b :: c :: d :: e :: f :: g :: h :: i :: j :: .d x :: r) S := nr rfl
@[simp] theorem rl_0 (x : Nat) (r : List Sl) (S : Store) : rd 0 (.loc x :: r) S = .ok (.loc x) (.loc x :: r) S := nr rfl
@[simp] theorem rl_1 (a : Sl) (x : Nat) (r : List Sl) (S : Store) : rd 1 (a :: .loc x :: r) S = .ok (.loc x) (a :: .loc x :: r) S := nr rfl
@[simp] theorem ro_1 (a : Sl) (x : List D) (r : List Sl) (S : Store) : rd 1 (a :: .own x :: r) S = .ok (.own 1) (a :: .own x :: r) S := nr rfl
@[simp] theorem ro_2 (a b : Sl) (x : List D) (r : List Sl) (S : Store) : rd 2 (a :: b :: .own x :: r) S = .ok (.own 2) (a :: b :: .own x :: r) S := nr rfl
@[simp] theorem ro_3 (a b c : Sl) (x : List D) (r : List Sl) (S : Store) : rd 3 (a :: b :: c :: .own x :: r) S = .ok (.own 3) (a :: b :: c :: .own x :: r) S := nr rfl
@[simp] theorem ro_4 (a b c d : Sl) (x : List D) (r : List Sl) (S : Store) : rd 4 (a :: b :: c :: d :: .own x :: r) S = .ok (.own 4) (a :: b :: c :: d :: .own x :: r) S := nr rfl
@[simp] theorem cop_lt (i j : Int) : cop .lt (.int i) (.int j) = some (decide (i < j)) := nr rfl
@[simp] theorem cop_le (i j : Int) : cop .le (.int i) (.int j) = some (decide (i ≤ j)) := nr rfl
@[simp] theorem cop_gt (i j : Int) : cop .gt (.int i) (.int j) = some (decide (j < i)) := nr rfl
@[simp] theorem cop_ge (i j : Int) : cop .ge (.int i) (.int j) = some (decide (j ≤ i)) := nr rfl
@[simp] theorem cop_isnone (a : D) : cop .isnone a .non = some (isNone a) := nr rfl
@[simp] theorem cop_notnone (a : D) : cop .notnone a .non = some (!isNone a) := nr rfl
@[simp] theorem cop_eq (a b : D) : cop .eq a b = eqD a b := nr rfl
@[simp] theorem cop_ne (a b : D) : cop .ne a b = (eqD a b).map not := nr rfl
@[simp] theorem cop_isin (a b : D) : cop .isin a b = inD a b := nr rfl
@[simp] theorem cop_notin (a b : D) : cop .notin a b = (inD a b).map not := nr rfl
@[simp] theorem eqD_int (i j : Int) : eqD (.int i) (.int j) = some (decide (i = j)) := by
  simp [eqD, D.py, SeqAt.shaped, PyData.canLay0, PyData.depth, PyData.eqv]
  by_cases h : i = j <;> simp [h]
@[simp] theorem eqD_bl (i j : Bool) : eqD (.bl i) (.bl j) = some (i == j) := by
  simp [eqD, D.py, SeqAt.shaped, PyData.canLay0, PyData.depth, PyData.eqv]
@[simp] theorem eqD_non_int (j : Int) : eqD .non (.int j) = some false := by
  simp [eqD, D.py, SeqAt.shaped, PyData.canLay0, PyData.depth, PyData.eqv]
@[simp] theorem isNone_non : isNone .non = true := nr rfl
@[simp] theorem isNone_int (i : Int) : isNone (.int i) = false := nr rfl
@[simp] theorem bop_add (i j : Int) : bop .add (.int i) (.int j) = some (.d (.int (i + j))) := nr rfl
@[simp] theorem bop_addb (i : Int) (b : Bool) : bop .add (.int i) (.bl b) = some (.d (.int (i + if b then 1 else 0))) := nr rfl
@[simp] theorem bop_sub (i j : Int) : bop .sub (.int i) (.int j) = some (.d (.int (i - j))) := nr rfl
@[simp] theorem b1_len_tup (xs : List D) : b1 .len (.tup xs) = some (.d (.int xs.length)) := nr rfl
@[simp] theorem b1_len_lst (xs : List D) : b1 .len (.lst xs) = some (.d (.int xs.length)) := nr rfl
@[simp] theorem b1_int_int (i : Int) : b1 .int (.int i) = some (.d (.int i)) := nr rfl
@[simp] theorem b1_int_bl (b : Bool) : b1 .int (.bl b) = some (.d (.int (if b then 1 else 0))) := nr rfl
@[simp] theorem b1_abs (i : Int) : b1 .abs (.int i) = some (.d (.int (if i < 0 then -i else i))) := nr rfl
@[simp] theorem b1_tuple (xs : List D) : b1 .tuple (.lst xs) = some (.d (.tup xs)) := nr rfl
@[simp] theorem b2_max (i j : Int) : b2 .max (.int i) (.int j) = some (.d (.int (max i j))) := by
  show some (R.d (.int _)) = _
  congr 3; omega
@[simp] theorem itemsOf_tup (xs : List D) : itemsOf (.tup xs) = some xs := nr rfl
@[simp] theorem itemsOf_lst (xs : List D) : itemsOf (.lst xs) = some xs := nr rfl
@[simp] theorem kindOf_lst (m : Mt) (xs : List D) : kindOf m (.lst xs) = some true := by cases m <;> rfl
@[simp] theorem doMeth_t (m : Mt) (o : R) (ys : List D) : doMeth m o true ys = doMethL m o ys := nr rfl
@[simp] theorem doMethL_d (m : Mt) (x : D) (ys : List D) (r : List Sl) (S : Store) : doMethL m (.d x) ys r S = M.ofO ((lstOf x).bind fun xs => (mtD m xs ys).map R.d) r S := nr rfl
@[simp] theorem lstOf_lst (xs : List D) : lstOf (.lst xs) = some xs := nr rfl
@[simp] theorem Rd_ite (c : Prop) [Decidable c] (a b : D) : (if c then R.d a else R.d b) = R.d (if c then a else b) := by split <;> rfl
@[simp] theorem Rf_ite (c : Prop) [Decidable c] (a b : List D) : (if c then R.fresh a else R.fresh b) = R.fresh (if c then a else b) := by split <;> rfl
@[simp] theorem Fr_ite (c : Prop) [Decidable c] (a b : R) : (if c then Fl.ret a else Fl.ret b) = Fl.ret (if c then a else b) := by split <;> rfl
@[simp] theorem toFalse (c : Prop) [Decidable c] (b : Bool) : (if c then b else false) = (decide c && b) := by by_cases h : c <;> simp [h]
@[simp] theorem toTrue (c : Prop) [Decidable c] (b : Bool) : (if c then true else b) = (decide c || b) := by by_cases h : c <;> simp [h]
@[simp] theorem walkMOk (xs : List D) (r : List Sl) (S : Store) (h : szOk xs.length = true) : walkM xs r S = .ok xs r S := by
  unfold walkM; rw [if_pos h]
theorem bools_map {α : Type} (p : α → Bool) : ∀ zs : List α, bools (zs.map fun x => D.bl (p x)) = some (zs.map p)
  | [] => rfl
  | z :: zs => by
    have := bools_map p zs
    simp only [List.map_cons, bools, this]; rfl
@[simp] theorem b1_all_map {α : Type} (p : α → Bool) (zs : List α) : b1 .all (.lst (zs.map fun x => D.bl (p x))) = some (.d (.bl (zs.all p))) := by
  show (bools _).map _ = _
  rw [bools_map]; simp [List.all_map]
@[simp] theorem b1_any_map {α : Type} (p : α → Bool) (zs : List α) : b1 .any (.lst (zs.map fun x => D.bl (p x))) = some (.d (.bl (zs.any p))) := by
  show (bools _).map _ = _
  rw [bools_map]; simp [List.any_map]
theorem szOk_of {n : Nat} (h : n ≤ 10000) : szOk n = true := decide_eq_true (by unfold sizeLine; omega)

/-! ## leagues -/
def dg (g : Nat × Nat) : D := .tup [.int g.1, .int g.2]
def ds : Option Bool → D
  | none => .non
  | some false => .int 0
  | some true => .int 1
def dN (n : Nat) : D := .int n
def dNs (ns : List Nat) : List D := ns.map dN
def dR (rs : List (Option Bool)) : D := .tup (rs.map ds)
def dL (T : Nat) (gs : List (Nat × Nat)) : D := .ins "League" [("teams", .int T), ("games", .tup (gs.map dg))]
@[simp] theorem attr_teams (T : Nat) (gs : List (Nat × Nat)) : attrD (dL T gs) "teams" = some (.int T) := nr rfl
@[simp] theorem attr_games (T : Nat) (gs : List (Nat × Nat)) : attrD (dL T gs) "games" = some (.tup (gs.map dg)) := nr rfl
@[simp] theorem isi_league (T : Nat) (gs : List (Nat × Nat)) : isi (dL T gs) (.cls "League") = some true := by
  simp [isi, dL]
@[simp] theorem isNone_ds (x : Option Bool) : isNone (ds x) = x.isNone := by
  cases x with
  | none => rfl
  | some b => cases b <;> rfl
theorem rngL_dN (T : Nat) : rngL 0 T = dNs (List.range T) := by
  unfold rngL dNs dN
  simp
theorem rngOf_dN (T : Nat) (h : T ≤ 10000) : rngOf (.int 0) (.int T) = some (dNs (List.range T)) := by
  unfold rngOf
  have : (inR62 0 && inR62 T) = true := by unfold inR62; simp; omega
  simp only [this, if_true]
  rw [← rngL_dN]; simp
/-- numbered -/
def enumN {α : Type} : Nat → List α → List (Nat × α)
  | _, [] => []
  | k, x :: xs => (k, x) :: enumN (k + 1) xs
theorem enumL_map {α : Type} (f : α → D) : ∀ (k : Nat) (xs : List α), enumL k (xs.map f) = (enumN k xs).map fun p => .tup [.int p.1, f p.2]
  | _, [] => rfl
  | k, x :: xs => by
    have := enumL_map f (k + 1) xs
    simp only [List.map_cons, enumL, enumN, ← this]
    rfl
theorem enumL_map0 {α : Type} (f : α → D) (xs : List α) : enumL 0 (xs.map f) = (enumN 0 xs).map fun p => .tup [.int p.1, f p.2] := enumL_map f 0 xs
theorem zip2L_map {α β : Type} (f : α → D) (g : β → D) : ∀ (xs : List α) (ys : List β), zip2L (xs.map f) (ys.map g) = (xs.zip ys).map fun p => .tup [f p.1, g p.2]
  | [], _ => by simp [zip2L]
  | _ :: _, [] => rfl
  | x :: xs, y :: ys => by
    have := zip2L_map f g xs ys
    simp only [List.map_cons, zip2L, List.zip_cons_cons, this]
theorem ixOf_nat (n i : Nat) (h : i < n) : ixOf n (i : Int) = some i := by
  unfold ixOf
  rw [if_pos (by omega), if_pos (by omega)]; simp
theorem subD_tup {xs : List D} {i : Nat} {x : D} (h : xs[i]? = some x) : subD (.tup xs) (.int i) = some x := by
  have hi : i < xs.length := (List.getElem?_eq_some_iff.1 h).1
  show (ixOf xs.length i).bind _ = _
  rw [ixOf_nat _ _ hi]; exact h
theorem subD_lst {xs : List D} {i : Nat} {x : D} (h : xs[i]? = some x) : subD (.lst xs) (.int i) = some x := by
  have hi : i < xs.length := (List.getElem?_eq_some_iff.1 h).1
  show (ixOf xs.length i).bind _ = _
  rw [ixOf_nat _ _ hi]; exact h
theorem pyAll_dNs : ∀ ns : List Nat, D.pyAll (dNs ns) = some (ns.map fun n : Nat => PyData.int n)
  | [] => by unfold dNs; simp [D.pyAll]
  | n :: ns => by
    have := pyAll_dNs ns
    unfold dNs at this ⊢
    simp only [List.map_cons, D.pyAll, this, dN, D.py]
theorem canLay_dNs : ∀ ns : List Nat, PyData.canLayAll0 (ns.map fun n : Nat => PyData.int n) = true
  | [] => by simp [PyData.canLayAll0]
  | n :: ns => by simp [PyData.canLayAll0, PyData.canLay0, canLay_dNs ns]
theorem depthAll_dNs : ∀ ns : List Nat, PyData.depthAll (ns.map fun n : Nat => PyData.int n) ≤ 1
  | [] => by simp [PyData.depthAll]
  | n :: ns => by
    have := depthAll_dNs ns
    simp [PyData.depthAll, PyData.depth]; omega
theorem cntD_dNs (n : Nat) (ns : List Nat) : cntD (dN n) (dNs ns) = some (ns.count n) := by
  unfold cntD shD pysS
  simp only [pyAll_dNs, canLay_dNs, dN, D.py]
  simp [SeqAt.shaped, PyData.canLay0, PyData.depth]
  rw [List.count]
  apply List.countP_congr
  intro x _
  simp [PyData.eqv]; omega
end DL
end

section
namespace DK
open PySem PySem.Spec PyProof.Rows L2 DL
def top (i : Nat) : Stmt := PySem.Challenge.pw_lastgames_k53_whole_magic_numbers.main.body.getD i (.Pass ⟨0, 0, 0, 0⟩)
def scOf (N : List Str) (fns news : List (Nat × Str × Nat)) (self : Bool) : SC := ⟨N, fns, ["League"], news, [(("MOST_TEAMS" : Str), (8 : Int)), (("MOST_GAMES" : Str), (24 : Int))], [], ["abs", "all", "bool", "enumerate", "int", "isinstance", "len", "max", "range", "repr", "tuple", "zip"], self⟩
/-! is_integer, level 1 -/
abbrev t_is_integer : Stmt := top 1
def n_is_integer : List Str := ["thing"]
def i_is_integer : IS := (.cons (.ret (.and (.isi (.var 0) (.ty "int")) (.not (.isi (.var 0) (.ty "bool")))))
  .nil)
def c_is_integer : SC := scOf n_is_integer [] [] false
def L_is_integer : Lk := ⟨fun k => none, fun k => none⟩
def g_is_integer : FSem := runF 1 1 i_is_integer L_is_integer
theorem k_is_integer : (chkS c_is_integer i_is_integer).l ⟨defScope t_is_integer, fun _ => true⟩ (defBody t_is_integer) = true := by decide +kernel
theorem s_is_integer : FnScope n_is_integer ["thing"] (defScope t_is_integer) := ⟨rfl, rfl, rfl, by decide +kernel, rfl, by decide +kernel, by decide +kernel⟩
/-! is_within, level 2 -/
abbrev t_is_within : Stmt := top 2
def n_is_within : List Str := ["thing", "low", "high"]
def i_is_within : IS := (.cons (.ret (.and (.call 1 (.cons (.var 0) .nil)) (.cmp2 .le .le (.var 1) (.var 0) (.var 2))))
  .nil)
def c_is_within : SC := scOf n_is_within [(1, ("is_integer" : Str), 1)] [] false
def L_is_within : Lk := ⟨fun k => if k = 1 then some g_is_integer else none, fun k => none⟩
def g_is_within : FSem := runF 3 3 i_is_within L_is_within
theorem k_is_within : (chkS c_is_within i_is_within).l ⟨defScope t_is_within, fun _ => true⟩ (defBody t_is_within) = true := by decide +kernel
theorem s_is_within : FnScope n_is_within ["thing", "low", "high"] (defScope t_is_within) := ⟨rfl, rfl, rfl, by decide +kernel, rfl, by decide +kernel, by decide +kernel⟩
/-! is_pair_of, level 3 -/
abbrev t_is_pair_of : Stmt := top 12
def n_is_pair_of : List Str := ["thing", "teams", "team"]
def i_is_pair_of : IS := (.cons (.ife (.or (.not (.isi (.var 0) (.ty "tuple"))) (.cmp .ne (.b1 .len (.var 0)) (.cint 2))) (.cons (.ret (.cbl false))
  .nil) .nil)
  (.cons (.ret (.and (.b1 .all (.lc [2] (.one 2) (.var 0) .no (.call 3 (.cons (.var 2) (.cons (.cint 0) (.cons (.bin .sub (.var 1) (.cint 1)) .nil)))))) (.cmp .lt (.sub (.var 0) (.cint 0)) (.sub (.var 0) (.cint 1)))))
  .nil))
def c_is_pair_of : SC := scOf n_is_pair_of [(3, ("is_within" : Str), 3)] [] false
def L_is_pair_of : Lk := ⟨fun k => if k = 3 then some g_is_within else none, fun k => none⟩
def g_is_pair_of : FSem := runF 2 3 i_is_pair_of L_is_pair_of
theorem k_is_pair_of : (chkS c_is_pair_of i_is_pair_of).l ⟨defScope t_is_pair_of, fun _ => true⟩ (defBody t_is_pair_of) = true := by decide +kernel
theorem s_is_pair_of : FnScope n_is_pair_of ["thing", "teams"] (defScope t_is_pair_of) := ⟨rfl, rfl, rfl, by decide +kernel, rfl, by decide +kernel, by decide +kernel⟩
/-! check_league, level 1 -/
abbrev t_check_league : Stmt := top 14
def n_check_league : List Str := ["league"]
def i_check_league : IS := (.cons (.ife (.not (.isi (.var 0) (.cls "League"))) (.cons .never
  .nil) .nil)
  .nil)
def c_check_league : SC := scOf n_check_league [] [] false
def L_check_league : Lk := ⟨fun k => none, fun k => none⟩
def g_check_league : FSem := runF 1 1 i_check_league L_check_league
theorem k_check_league : (chkS c_check_league i_check_league).l ⟨defScope t_check_league, fun _ => true⟩ (defBody t_check_league) = true := by decide +kernel
theorem s_check_league : FnScope n_check_league ["league"] (defScope t_check_league) := ⟨rfl, rfl, rfl, by decide +kernel, rfl, by decide +kernel, by decide +kernel⟩
/-! is_team, level 3 -/
abbrev t_is_team : Stmt := top 15
def n_is_team : List Str := ["league", "thing"]
def i_is_team : IS := (.cons (.ret (.call 3 (.cons (.var 1) (.cons (.cint 0) (.cons (.bin .sub (.attr (.var 0) "teams") (.cint 1)) .nil)))))
  .nil)
def c_is_team : SC := scOf n_is_team [(3, ("is_within" : Str), 3)] [] false
def L_is_team : Lk := ⟨fun k => if k = 3 then some g_is_within else none, fun k => none⟩
def g_is_team : FSem := runF 2 2 i_is_team L_is_team
theorem k_is_team : (chkS c_is_team i_is_team).l ⟨defScope t_is_team, fun _ => true⟩ (defBody t_is_team) = true := by decide +kernel
theorem s_is_team : FnScope n_is_team ["league", "thing"] (defScope t_is_team) := ⟨rfl, rfl, rfl, by decide +kernel, rfl, by decide +kernel, by decide +kernel⟩
/-! check_team, level 4 -/
abbrev t_check_team : Stmt := top 16
def n_check_team : List Str := ["league", "team"]
def i_check_team : IS := (.cons (.ife (.not (.call 23 (.cons (.var 0) (.cons (.var 1) .nil)))) (.cons .never
  .nil) .nil)
  .nil)
def c_check_team : SC := scOf n_check_team [(23, ("is_team" : Str), 2)] [] false
def L_check_team : Lk := ⟨fun k => if k = 23 then some g_is_team else none, fun k => none⟩
def g_check_team : FSem := runF 2 2 i_check_team L_check_team
theorem k_check_team : (chkS c_check_team i_check_team).l ⟨defScope t_check_team, fun _ => true⟩ (defBody t_check_team) = true := by decide +kernel
theorem s_check_team : FnScope n_check_team ["league", "team"] (defScope t_check_team) := ⟨rfl, rfl, rfl, by decide +kernel, rfl, by decide +kernel, by decide +kernel⟩
/-! everybody, level 1 -/
abbrev t_everybody : Stmt := top 17
def n_everybody : List Str := ["league"]
def i_everybody : IS := (.cons (.ret (.tupr (.attr (.var 0) "teams")))
  .nil)
def c_everybody : SC := scOf n_everybody [] [] false
def L_everybody : Lk := ⟨fun k => none, fun k => none⟩
def g_everybody : FSem := runF 1 1 i_everybody L_everybody
theorem k_everybody : (chkS c_everybody i_everybody).l ⟨defScope t_everybody, fun _ => true⟩ (defBody t_everybody) = true := by decide +kernel
theorem s_everybody : FnScope n_everybody ["league"] (defScope t_everybody) := ⟨rfl, rfl, rfl, by decide +kernel, rfl, by decide +kernel, by decide +kernel⟩
/-! is_side, level 3 -/
abbrev t_is_side : Stmt := top 18
def n_is_side : List Str := ["thing"]
def i_is_side : IS := (.cons (.ret (.call 3 (.cons (.var 0) (.cons (.cint 0) (.cons (.cint 1) .nil)))))
  .nil)
def c_is_side : SC := scOf n_is_side [(3, ("is_within" : Str), 3)] [] false
def L_is_side : Lk := ⟨fun k => if k = 3 then some g_is_within else none, fun k => none⟩
def g_is_side : FSem := runF 1 1 i_is_side L_is_side
theorem k_is_side : (chkS c_is_side i_is_side).l ⟨defScope t_is_side, fun _ => true⟩ (defBody t_is_side) = true := by decide +kernel
theorem s_is_side : FnScope n_is_side ["thing"] (defScope t_is_side) := ⟨rfl, rfl, rfl, by decide +kernel, rfl, by decide +kernel, by decide +kernel⟩
/-! are_results, level 4 -/
abbrev t_are_results : Stmt := top 19
def n_are_results : List Str := ["league", "thing", "side"]
def i_are_results : IS := (.cons (.ife (.or (.not (.isi (.var 1) (.ty "tuple"))) (.cmp .ne (.b1 .len (.var 1)) (.b1 .len (.attr (.var 0) "games")))) (.cons (.ret (.cbl false))
  .nil) .nil)
  (.cons (.ret (.b1 .all (.lc [2] (.one 2) (.var 1) .no (.or (.cmp .isnone (.var 2) .cnon) (.call 4 (.cons (.var 2) .nil))))))
  .nil))
def c_are_results : SC := scOf n_are_results [(4, ("is_side" : Str), 1)] [] false
def L_are_results : Lk := ⟨fun k => if k = 4 then some g_is_side else none, fun k => none⟩
def g_are_results : FSem := runF 2 3 i_are_results L_are_results
theorem k_are_results : (chkS c_are_results i_are_results).l ⟨defScope t_are_results, fun _ => true⟩ (defBody t_are_results) = true := by decide +kernel
theorem s_are_results : FnScope n_are_results ["league", "thing"] (defScope t_are_results) := ⟨rfl, rfl, rfl, by decide +kernel, rfl, by decide +kernel, by decide +kernel⟩
/-! check_results, level 5 -/
abbrev t_check_results : Stmt := top 20
def n_check_results : List Str := ["league", "results"]
def i_check_results : IS := (.cons (.expr (.call 0 (.cons (.var 0) .nil)))
  (.cons (.ife (.not (.call 6 (.cons (.var 0) (.cons (.var 1) .nil)))) (.cons .never
  .nil) .nil)
  .nil))
def c_check_results : SC := scOf n_check_results [(6, ("are_results" : Str), 2), (0, ("check_league" : Str), 1)] [] false
def L_check_results : Lk := ⟨fun k => if k = 6 then some g_are_results else if k = 0 then some g_check_league else none, fun k => none⟩
def g_check_results : FSem := runF 2 2 i_check_results L_check_results
theorem k_check_results : (chkS c_check_results i_check_results).l ⟨defScope t_check_results, fun _ => true⟩ (defBody t_check_results) = true := by decide +kernel
theorem s_check_results : FnScope n_check_results ["league", "results"] (defScope t_check_results) := ⟨rfl, rfl, rfl, by decide +kernel, rfl, by decide +kernel, by decide +kernel⟩
/-! open_of, level 1 -/
abbrev t_open_of : Stmt := top 21
def n_open_of : List Str := ["results", "game", "side"]
def i_open_of : IS := (.cons (.ret (.lc [1, 2] (.many [1, 2]) (.enum (.var 0)) (.cmp .isnone (.var 2) .cnon) (.var 1)))
  .nil)
def c_open_of : SC := scOf n_open_of [] [] false
def L_open_of : Lk := ⟨fun k => none, fun k => none⟩
def g_open_of : FSem := runF 1 3 i_open_of L_open_of
theorem k_open_of : (chkS c_open_of i_open_of).l ⟨defScope t_open_of, fun _ => true⟩ (defBody t_open_of) = true := by decide +kernel
theorem s_open_of : FnScope n_open_of ["results"] (defScope t_open_of) := ⟨rfl, rfl, rfl, by decide +kernel, rfl, by decide +kernel, by decide +kernel⟩
/-! winner_of, level 1 -/
abbrev t_winner_of : Stmt := top 22
def n_winner_of : List Str := ["league", "results", "game"]
def i_winner_of : IS := (.cons (.ret (.sub (.sub (.attr (.var 0) "games") (.var 2)) (.sub (.var 1) (.var 2))))
  .nil)
def c_winner_of : SC := scOf n_winner_of [] [] false
def L_winner_of : Lk := ⟨fun k => none, fun k => none⟩
def g_winner_of : FSem := runF 3 3 i_winner_of L_winner_of
theorem k_winner_of : (chkS c_winner_of i_winner_of).l ⟨defScope t_winner_of, fun _ => true⟩ (defBody t_winner_of) = true := by decide +kernel
theorem s_winner_of : FnScope n_winner_of ["league", "results", "game"] (defScope t_winner_of) := ⟨rfl, rfl, rfl, by decide +kernel, rfl, by decide +kernel, by decide +kernel⟩
/-! decided_of, level 1 -/
abbrev t_decided_of : Stmt := top 23
def n_decided_of : List Str := ["results", "game", "side"]
def i_decided_of : IS := (.cons (.ret (.lc [1, 2] (.many [1, 2]) (.enum (.var 0)) (.cmp .notnone (.var 2) .cnon) (.var 1)))
  .nil)
def c_decided_of : SC := scOf n_decided_of [] [] false
def L_decided_of : Lk := ⟨fun k => none, fun k => none⟩
def g_decided_of : FSem := runF 1 3 i_decided_of L_decided_of
theorem k_decided_of : (chkS c_decided_of i_decided_of).l ⟨defScope t_decided_of, fun _ => true⟩ (defBody t_decided_of) = true := by decide +kernel
theorem s_decided_of : FnScope n_decided_of ["results"] (defScope t_decided_of) := ⟨rfl, rfl, rfl, by decide +kernel, rfl, by decide +kernel, by decide +kernel⟩
/-! counted, level 2 -/
abbrev t_counted : Stmt := top 24
def n_counted : List Str := ["league", "some", "team"]
def i_counted : IS := (.cons (.ret (.b1 .tuple (.lc [2] (.one 2) (.call 5 (.cons (.var 0) .nil)) .no (.meth .count (.var 1) (.cons (.var 2) .nil)))))
  .nil)
def c_counted : SC := scOf n_counted [(5, ("everybody" : Str), 1)] [] false
def L_counted : Lk := ⟨fun k => if k = 5 then some g_everybody else none, fun k => none⟩
def g_counted : FSem := runF 2 3 i_counted L_counted
theorem k_counted : (chkS c_counted i_counted).l ⟨defScope t_counted, fun _ => true⟩ (defBody t_counted) = true := by decide +kernel
theorem s_counted : FnScope n_counted ["league", "some"] (defScope t_counted) := ⟨rfl, rfl, rfl, by decide +kernel, rfl, by decide +kernel, by decide +kernel⟩
/-! wins_of, level 3 -/
abbrev t_wins_of : Stmt := top 25
def n_wins_of : List Str := ["league", "results", "game"]
def i_wins_of : IS := (.cons (.ret (.call 10 (.cons (.var 0) (.cons (.lc [2] (.one 2) (.call 8 (.cons (.var 1) .nil)) .no (.call 9 (.cons (.var 0) (.cons (.var 1) (.cons (.var 2) .nil))))) .nil))))
  .nil)
def c_wins_of : SC := scOf n_wins_of [(10, ("counted" : Str), 2), (8, ("decided_of" : Str), 1), (9, ("winner_of" : Str), 3)] [] false
def L_wins_of : Lk := ⟨fun k => if k = 10 then some g_counted else if k = 8 then some g_decided_of else if k = 9 then some g_winner_of else none, fun k => none⟩
def g_wins_of : FSem := runF 2 3 i_wins_of L_wins_of
theorem k_wins_of : (chkS c_wins_of i_wins_of).l ⟨defScope t_wins_of, fun _ => true⟩ (defBody t_wins_of) = true := by decide +kernel
theorem s_wins_of : FnScope n_wins_of ["league", "results"] (defScope t_wins_of) := ⟨rfl, rfl, rfl, by decide +kernel, rfl, by decide +kernel, by decide +kernel⟩
/-! left_of, level 3 -/
abbrev t_left_of : Stmt := top 26
def n_left_of : List Str := ["league", "results", "game", "team"]
def i_left_of : IS := (.cons (.ret (.call 10 (.cons (.var 0) (.cons (.lc2 [2, 3] [3] (.one 2) (.call 11 (.cons (.var 1) .nil)) .no (.one 3) (.sub (.attr (.var 0) "games") (.var 2)) .no (.var 3)) .nil))))
  .nil)
def c_left_of : SC := scOf n_left_of [(10, ("counted" : Str), 2), (11, ("open_of" : Str), 1)] [] false
def L_left_of : Lk := ⟨fun k => if k = 10 then some g_counted else if k = 11 then some g_open_of else none, fun k => none⟩
def g_left_of : FSem := runF 2 4 i_left_of L_left_of
theorem k_left_of : (chkS c_left_of i_left_of).l ⟨defScope t_left_of, fun _ => true⟩ (defBody t_left_of) = true := by decide +kernel
theorem s_left_of : FnScope n_left_of ["league", "results"] (defScope t_left_of) := ⟨rfl, rfl, rfl, by decide +kernel, rfl, by decide +kernel, by decide +kernel⟩
/-! left, level 6 -/
abbrev t_left : Stmt := top 27
def n_left : List Str := ["league", "results"]
def i_left : IS := (.cons (.expr (.call 7 (.cons (.var 0) (.cons (.var 1) .nil))))
  (.cons (.ret (.call 24 (.cons (.var 0) (.cons (.var 1) .nil))))
  .nil))
def c_left : SC := scOf n_left [(24, ("left_of" : Str), 2), (7, ("check_results" : Str), 2)] [] false
def L_left : Lk := ⟨fun k => if k = 24 then some g_left_of else if k = 7 then some g_check_results else none, fun k => none⟩
def g_left : FSem := runF 2 2 i_left L_left
theorem k_left : (chkS c_left i_left).l ⟨defScope t_left, fun _ => true⟩ (defBody t_left) = true := by decide +kernel
theorem s_left : FnScope n_left ["league", "results"] (defScope t_left) := ⟨rfl, rfl, rfl, by decide +kernel, rfl, by decide +kernel, by decide +kernel⟩
/-! best_wins, level 4 -/
abbrev t_best_wins : Stmt := top 29
def n_best_wins : List Str := ["league", "results", "team"]
def i_best_wins : IS := (.cons (.ret (.bin .add (.sub (.call 12 (.cons (.var 0) (.cons (.var 1) .nil))) (.var 2)) (.sub (.call 24 (.cons (.var 0) (.cons (.var 1) .nil))) (.var 2))))
  .nil)
def c_best_wins : SC := scOf n_best_wins [(12, ("wins_of" : Str), 2), (24, ("left_of" : Str), 2)] [] false
def L_best_wins : Lk := ⟨fun k => if k = 12 then some g_wins_of else if k = 24 then some g_left_of else none, fun k => none⟩
def g_best_wins : FSem := runF 3 3 i_best_wins L_best_wins
theorem k_best_wins : (chkS c_best_wins i_best_wins).l ⟨defScope t_best_wins, fun _ => true⟩ (defBody t_best_wins) = true := by decide +kernel
theorem s_best_wins : FnScope n_best_wins ["league", "results", "team"] (defScope t_best_wins) := ⟨rfl, rfl, rfl, by decide +kernel, rfl, by decide +kernel, by decide +kernel⟩
/-! meetings, level 2 -/
abbrev t_meetings : Stmt := top 30
def n_meetings : List Str := ["league", "results", "one", "other", "game"]
def i_meetings : IS := (.cons (.ret (.b1 .len (.lc [4] (.one 4) (.call 11 (.cons (.var 1) .nil)) (.and (.cmp .isin (.var 2) (.sub (.attr (.var 0) "games") (.var 4))) (.cmp .isin (.var 3) (.sub (.attr (.var 0) "games") (.var 4)))) (.var 4))))
  .nil)
def c_meetings : SC := scOf n_meetings [(11, ("open_of" : Str), 1)] [] false
def L_meetings : Lk := ⟨fun k => if k = 11 then some g_open_of else none, fun k => none⟩
def g_meetings : FSem := runF 4 5 i_meetings L_meetings
theorem k_meetings : (chkS c_meetings i_meetings).l ⟨defScope t_meetings, fun _ => true⟩ (defBody t_meetings) = true := by decide +kernel
theorem s_meetings : FnScope n_meetings ["league", "results", "one", "other"] (defScope t_meetings) := ⟨rfl, rfl, rfl, by decide +kernel, rfl, by decide +kernel, by decide +kernel⟩
/-! rival_most, level 5 -/
abbrev t_rival_most : Stmt := top 31
def n_rival_most : List Str := ["league", "results", "team", "other", "many", "met", "forced"]
def i_rival_most : IS := (.cons (.set 5 .val (.call 68 (.cons (.var 0) (.cons (.var 1) (.cons (.var 2) (.cons (.var 3) .nil))))))
  (.cons (.set 6 .val (.b2 .max (.cint 0) (.bin .sub (.var 4) (.bin .sub (.sub (.call 24 (.cons (.var 0) (.cons (.var 1) .nil))) (.var 2)) (.var 5)))))
  (.cons (.ret (.bin .sub (.call 38 (.cons (.var 0) (.cons (.var 1) (.cons (.var 3) .nil)))) (.var 6)))
  .nil)))
def c_rival_most : SC := scOf n_rival_most [(38, ("best_wins" : Str), 3), (24, ("left_of" : Str), 2), (68, ("meetings" : Str), 4)] [] false
def L_rival_most : Lk := ⟨fun k => if k = 38 then some g_best_wins else if k = 24 then some g_left_of else if k = 68 then some g_meetings else none, fun k => none⟩
def g_rival_most : FSem := runF 5 7 i_rival_most L_rival_most
theorem k_rival_most : (chkS c_rival_most i_rival_most).l ⟨defScope t_rival_most, fun _ => true⟩ (defBody t_rival_most) = true := by decide +kernel
theorem s_rival_most : FnScope n_rival_most ["league", "results", "team", "other", "many"] (defScope t_rival_most) := ⟨rfl, rfl, rfl, by decide +kernel, rfl, by decide +kernel, by decide +kernel⟩
/-! is_safe, level 6 -/
abbrev t_is_safe : Stmt := top 32
def n_is_safe : List Str := ["league", "results", "team", "many", "own", "others", "other"]
def i_is_safe : IS := (.cons (.set 4 .val (.bin .add (.sub (.call 12 (.cons (.var 0) (.cons (.var 1) .nil))) (.var 2)) (.var 3)))
  (.cons (.set 5 .val (.lc [6] (.one 6) (.call 5 (.cons (.var 0) .nil)) (.cmp .ne (.var 6) (.var 2)) (.var 6)))
  (.cons (.ret (.b1 .all (.lc [6] (.one 6) (.var 5) .no (.cmp .le (.call 69 (.cons (.var 0) (.cons (.var 1) (.cons (.var 2) (.cons (.var 6) (.cons (.var 3) .nil)))))) (.var 4)))))
  .nil)))
def c_is_safe : SC := scOf n_is_safe [(69, ("rival_most" : Str), 5), (5, ("everybody" : Str), 1), (12, ("wins_of" : Str), 2)] [] false
def L_is_safe : Lk := ⟨fun k => if k = 69 then some g_rival_most else if k = 5 then some g_everybody else if k = 12 then some g_wins_of else none, fun k => none⟩
def g_is_safe : FSem := runF 4 7 i_is_safe L_is_safe
theorem k_is_safe : (chkS c_is_safe i_is_safe).l ⟨defScope t_is_safe, fun _ => true⟩ (defBody t_is_safe) = true := by decide +kernel
theorem s_is_safe : FnScope n_is_safe ["league", "results", "team", "many"] (defScope t_is_safe) := ⟨rfl, rfl, rfl, by decide +kernel, rfl, by decide +kernel, by decide +kernel⟩
/-! magic_of, level 7 -/
abbrev t_magic_of : Stmt := top 33
def n_magic_of : List Str := ["league", "results", "team", "numbers", "many"]
def i_magic_of : IS := (.cons (.set 3 .val (.lc [4] (.one 4) (.rng1 (.bin .add (.sub (.call 24 (.cons (.var 0) (.cons (.var 1) .nil))) (.var 2)) (.cint 1))) (.call 67 (.cons (.var 0) (.cons (.var 1) (.cons (.var 2) (.cons (.var 4) .nil))))) (.var 4)))
  (.cons (.ret (.ife (.cmp .ne (.var 3) (.lst .nil)) (.sub (.var 3) (.cint 0)) .cnon))
  .nil))
def c_magic_of : SC := scOf n_magic_of [(24, ("left_of" : Str), 2), (67, ("is_safe" : Str), 4)] [] false
def L_magic_of : Lk := ⟨fun k => if k = 24 then some g_left_of else if k = 67 then some g_is_safe else none, fun k => none⟩
def g_magic_of : FSem := runF 3 5 i_magic_of L_magic_of
theorem k_magic_of : (chkS c_magic_of i_magic_of).l ⟨defScope t_magic_of, fun _ => true⟩ (defBody t_magic_of) = true := by decide +kernel
theorem s_magic_of : FnScope n_magic_of ["league", "results", "team"] (defScope t_magic_of) := ⟨rfl, rfl, rfl, by decide +kernel, rfl, by decide +kernel, by decide +kernel⟩
/-! magic, level 8 -/
abbrev t_magic : Stmt := top 34
def n_magic : List Str := ["league", "results", "team"]
def i_magic : IS := (.cons (.expr (.call 7 (.cons (.var 0) (.cons (.var 1) .nil))))
  (.cons (.expr (.call 22 (.cons (.var 0) (.cons (.var 2) .nil))))
  (.cons (.ret (.call 108 (.cons (.var 0) (.cons (.var 1) (.cons (.var 2) .nil)))))
  .nil)))
def c_magic : SC := scOf n_magic [(108, ("magic_of" : Str), 3), (22, ("check_team" : Str), 2), (7, ("check_results" : Str), 2)] [] false
def L_magic : Lk := ⟨fun k => if k = 108 then some g_magic_of else if k = 22 then some g_check_team else if k = 7 then some g_check_results else none, fun k => none⟩
def g_magic : FSem := runF 3 3 i_magic L_magic
theorem k_magic : (chkS c_magic i_magic).l ⟨defScope t_magic, fun _ => true⟩ (defBody t_magic) = true := by decide +kernel
theorem s_magic : FnScope n_magic ["league", "results", "team"] (defScope t_magic) := ⟨rfl, rfl, rfl, by decide +kernel, rfl, by decide +kernel, by decide +kernel⟩
/-! surely_first, level 7 -/
abbrev t_surely_first : Stmt := top 35
def n_surely_first : List Str := ["league", "results", "team"]
def i_surely_first : IS := (.cons (.expr (.call 7 (.cons (.var 0) (.cons (.var 1) .nil))))
  (.cons (.ret (.b1 .tuple (.lc [2] (.one 2) (.call 5 (.cons (.var 0) .nil)) (.call 67 (.cons (.var 0) (.cons (.var 1) (.cons (.var 2) (.cons (.cint 0) .nil))))) (.var 2))))
  .nil))
def c_surely_first : SC := scOf n_surely_first [(5, ("everybody" : Str), 1), (67, ("is_safe" : Str), 4), (7, ("check_results" : Str), 2)] [] false
def L_surely_first : Lk := ⟨fun k => if k = 5 then some g_everybody else if k = 67 then some g_is_safe else if k = 7 then some g_check_results else none, fun k => none⟩
def g_surely_first : FSem := runF 2 3 i_surely_first L_surely_first
theorem k_surely_first : (chkS c_surely_first i_surely_first).l ⟨defScope t_surely_first, fun _ => true⟩ (defBody t_surely_first) = true := by decide +kernel
theorem s_surely_first : FnScope n_surely_first ["league", "results"] (defScope t_surely_first) := ⟨rfl, rfl, rfl, by decide +kernel, rfl, by decide +kernel, by decide +kernel⟩
/-! _law_hand, level 1 -/
abbrev t__law_hand : Stmt := top 37
def n__law_hand : List Str := ["script", "cells", "cell"]
def i__law_hand : IS := (.cons (.set 1 .val (.lc [2] (.one 2) (.scut 0 63) .no (.bin .mod (.b1 .int (.b1 .abs (.b1 .int (.var 2)))) (.bin .pow (.cint 10) (.cint 36)))))
  (.cons (.ret (.lst (.cons (.var 1) (.cons (.cint 0) (.cons (.cint 0) (.cons (.bin .add (.cint 53) (.bin .mul (.cint 5) (.b1 .len (.var 1)))) (.cons (.cint 0) .nil)))))))
  .nil))
def c__law_hand : SC := scOf n__law_hand [] [] false
def L__law_hand : Lk := ⟨fun k => none, fun k => none⟩
def g__law_hand : FSem := runF 1 3 i__law_hand L__law_hand
theorem k__law_hand : (chkS c__law_hand i__law_hand).l ⟨defScope t__law_hand, fun _ => true⟩ (defBody t__law_hand) = true := by decide +kernel
theorem s__law_hand : FnScope n__law_hand ["script"] (defScope t__law_hand) := ⟨rfl, rfl, rfl, by decide +kernel, rfl, by decide +kernel, by decide +kernel⟩
/-! _law_draw, level 1 -/
abbrev t__law_draw : Stmt := top 38
def n__law_draw : List Str := ["hand", "below", "number", "cell", "digit"]
def i__law_draw : IS := (.cons (.ife (.and (.cmp .eq (.sub (.var 0) (.cint 2)) (.cint 0)) (.cmp .lt (.sub (.var 0) (.cint 1)) (.b1 .len (.sub (.var 0) (.cint 0))))) (.cons (.set 3 .val (.sub (.sub (.var 0) (.cint 0)) (.sub (.var 0) (.cint 1))))
  (.cons (.subs 0 (.cint 1) (.bin .add (.sub (.var 0) (.cint 1)) (.cint 1)))
  (.cons (.subs 0 (.cint 3) (.bin .mod (.b1 .int (.bin .add (.bin .add (.bin .mul (.sub (.var 0) (.cint 3)) (.cint 69621)) (.bin .mul (.var 3) (.cint 40692))) (.cint 37))) (.cint 2147483629)))
  (.cons (.ife (.cmp .ge (.var 3) (.bin .pow (.cint 10) (.cint 18))) (.cons (.subs 0 (.cint 2) (.var 3))
  .nil) .nil)
  .nil)))) .nil)
  (.cons (.ife (.cmp .gt (.sub (.var 0) (.cint 2)) (.cint 0)) (.cons (.set 4 .val (.bin .mod (.b1 .int (.sub (.var 0) (.cint 2))) (.var 1)))
  (.cons (.subs 0 (.cint 2) (.bin .fdiv (.sub (.var 0) (.cint 2)) (.var 1)))
  (.cons (.ret (.var 4))
  .nil))) .nil)
  (.cons (.subs 0 (.cint 4) (.bin .add (.sub (.var 0) (.cint 4)) (.cint 1)))
  (.cons (.set 2 .val (.bin .mod (.b1 .int (.bin .mul (.b1 .int (.bin .add (.sub (.var 0) (.cint 3)) (.bin .mul (.cint 7919) (.sub (.var 0) (.cint 4))))) (.cint 48271))) (.cint 2147483647)))
  (.cons (.set 2 .val (.bin .mod (.b1 .int (.bin .mul (.var 2) (.bin .add (.bin .fdiv (.var 2) (.cint 1009)) (.cint 69621)))) (.cint 2147483647)))
  (.cons (.set 2 .val (.bin .mod (.b1 .int (.bin .mul (.var 2) (.bin .add (.bin .fdiv (.var 2) (.cint 2003)) (.cint 40014)))) (.cint 2147483563)))
  (.cons (.ret (.bin .mod (.b1 .int (.bin .fdiv (.var 2) (.cint 16))) (.var 1)))
  .nil)))))))
def c__law_draw : SC := scOf n__law_draw [] [] false
def L__law_draw : Lk := ⟨fun k => none, fun k => none⟩
def g__law_draw : FSem := runF 2 5 i__law_draw L__law_draw
theorem k__law_draw : (chkS c__law_draw i__law_draw).l ⟨defScope t__law_draw, fun _ => true⟩ (defBody t__law_draw) = true := by decide +kernel
theorem s__law_draw : FnScope n__law_draw ["hand", "below"] (defScope t__law_draw) := ⟨rfl, rfl, rfl, by decide +kernel, rfl, by decide +kernel, by decide +kernel⟩
/-! _law_any, level 2 -/
abbrev t__law_any : Stmt := top 39
def n__law_any : List Str := ["hand", "some"]
def i__law_any : IS := (.cons (.ret (.sub (.var 1) (.call 41 (.cons (.var 0) (.cons (.b1 .len (.var 1)) .nil)))))
  .nil)
def c__law_any : SC := scOf n__law_any [(41, ("_law_draw" : Str), 2)] [] false
def L__law_any : Lk := ⟨fun k => if k = 41 then some g__law_draw else none, fun k => none⟩
def g__law_any : FSem := runF 2 2 i__law_any L__law_any
theorem k__law_any : (chkS c__law_any i__law_any).l ⟨defScope t__law_any, fun _ => true⟩ (defBody t__law_any) = true := by decide +kernel
theorem s__law_any : FnScope n__law_any ["hand", "some"] (defScope t__law_any) := ⟨rfl, rfl, rfl, by decide +kernel, rfl, by decide +kernel, by decide +kernel⟩
/-! _law_spec, level 3 -/
abbrev t__law_spec : Stmt := top 40
def n__law_spec : List Str := ["hand", "most", "teams", "games", "told", "few", "game", "one", "result"]
def i__law_spec : IS := (.cons (.par [(2, .val), (3, .own), (4, .own), (5, .val)] (.cons (.bin .add (.cint 1) (.call 41 (.cons (.var 0) (.cons (.cint 5) .nil)))) (.cons (.lst .nil) (.cons (.lst .nil) (.cons (.cint 0) .nil)))))
  (.cons (.ife (.cmp .gt (.var 2) (.cint 1)) (.cons (.loop (.one 6) (.rng1 (.call 41 (.cons (.var 0) (.cons (.cint 11) .nil)))) (.cons (.set 7 .val (.call 41 (.cons (.var 0) (.cons (.bin .sub (.var 2) (.cint 1)) .nil))))
  (.cons (.expr (.meth .append (.var 3) (.cons (.tup (.cons (.var 7) (.cons (.bin .add (.bin .add (.var 7) (.cint 1)) (.call 41 (.cons (.var 0) (.cons (.bin .sub (.bin .sub (.var 2) (.cint 1)) (.var 7)) .nil)))) .nil))) .nil)))
  (.cons (.set 8 .val (.ife (.cmp .lt (.var 5) (.var 1)) (.call 13 (.cons (.var 0) (.cons (.lst (.cons .cnon (.cons .cnon (.cons (.cint 0) (.cons (.cint 1) .nil))))) .nil))) (.call 41 (.cons (.var 0) (.cons (.cint 2) .nil)))))
  (.cons (.set 5 .val (.bin .add (.var 5) (.b1 .int (.cmp .isnone (.var 8) .cnon))))
  (.cons (.expr (.meth .append (.var 4) (.cons (.var 8) .nil)))
  .nil))))))
  .nil) .nil)
  (.cons (.ret (.tup (.cons (.var 2) (.cons (.b1 .tuple (.var 3)) (.cons (.b1 .tuple (.var 4)) .nil)))))
  .nil)))
def c__law_spec : SC := scOf n__law_spec [(41, ("_law_draw" : Str), 2), (13, ("_law_any" : Str), 2)] [] false
def L__law_spec : Lk := ⟨fun k => if k = 41 then some g__law_draw else if k = 13 then some g__law_any else none, fun k => none⟩
def g__law_spec : FSem := runF 2 9 i__law_spec L__law_spec
theorem k__law_spec : (chkS c__law_spec i__law_spec).l ⟨defScope t__law_spec, fun _ => true⟩ (defBody t__law_spec) = true := by decide +kernel
theorem s__law_spec : FnScope n__law_spec ["hand", "most"] (defScope t__law_spec) := ⟨rfl, rfl, rfl, by decide +kernel, rfl, by decide +kernel, by decide +kernel⟩
/-! _law_outcomes, level 1 -/
abbrev t__law_outcomes : Stmt := top 41
def n__law_outcomes : List Str := ["told", "found", "result", "row"]
def i__law_outcomes : IS := (.cons (.set 1 .val (.lst (.cons (.tup .nil) .nil)))
  (.cons (.loop (.one 2) (.var 0) (.cons (.ife (.cmp .isnone (.var 2) .cnon) (.cons (.set 1 .val (.bin .add (.lc [3] (.one 3) (.var 1) .no (.bin .add (.var 3) (.tup (.cons (.cint 0) .nil)))) (.lc [3] (.one 3) (.var 1) .no (.bin .add (.var 3) (.tup (.cons (.cint 1) .nil))))))
  .nil) (.cons (.set 1 .val (.lc [3] (.one 3) (.var 1) .no (.bin .add (.var 3) (.tup (.cons (.var 2) .nil)))))
  .nil))
  .nil))
  (.cons (.ret (.var 1))
  .nil)))
def c__law_outcomes : SC := scOf n__law_outcomes [] [] false
def L__law_outcomes : Lk := ⟨fun k => none, fun k => none⟩
def g__law_outcomes : FSem := runF 1 4 i__law_outcomes L__law_outcomes
theorem k__law_outcomes : (chkS c__law_outcomes i__law_outcomes).l ⟨defScope t__law_outcomes, fun _ => true⟩ (defBody t__law_outcomes) = true := by decide +kernel
theorem s__law_outcomes : FnScope n__law_outcomes ["told"] (defScope t__law_outcomes) := ⟨rfl, rfl, rfl, by decide +kernel, rfl, by decide +kernel, by decide +kernel⟩
/-! _law_wins, level 1 -/
abbrev t__law_wins : Stmt := top 42
def n__law_wins : List Str := ["spec", "outcome", "found", "game", "result"]
def i__law_wins : IS := (.cons (.set 2 .own (.bin .mul (.lst (.cons (.cint 0) .nil)) (.sub (.var 0) (.cint 0))))
  (.cons (.loop (.many [3, 4]) (.zip2 (.sub (.var 0) (.cint 1)) (.var 1)) (.cons (.ife (.cmp .notnone (.var 4) .cnon) (.cons (.subs 2 (.sub (.var 3) (.var 4)) (.bin .add (.sub (.var 2) (.sub (.var 3) (.var 4))) (.cint 1)))
  .nil) .nil)
  .nil))
  (.cons (.ret (.var 2))
  .nil)))
def c__law_wins : SC := scOf n__law_wins [] [] false
def L__law_wins : Lk := ⟨fun k => none, fun k => none⟩
def g__law_wins : FSem := runF 2 5 i__law_wins L__law_wins
theorem k__law_wins : (chkS c__law_wins i__law_wins).l ⟨defScope t__law_wins, fun _ => true⟩ (defBody t__law_wins) = true := by decide +kernel
theorem s__law_wins : FnScope n__law_wins ["spec", "outcome"] (defScope t__law_wins) := ⟨rfl, rfl, rfl, by decide +kernel, rfl, by decide +kernel, by decide +kernel⟩
/-! _law_magic, level 2 -/
abbrev t__law_magic : Stmt := top 43
def n__law_magic : List Str := ["spec", "team", "here", "rest", "bad", "outcome", "numbers", "game", "result"]
def i__law_magic : IS := (.cons (.set 2 .val (.sub (.call 232 (.cons (.var 0) (.cons (.sub (.var 0) (.cint 2)) .nil))) (.var 1)))
  (.cons (.set 3 .val (.b1 .len (.lc [7, 8] (.many [7, 8]) (.zip2 (.sub (.var 0) (.cint 1)) (.sub (.var 0) (.cint 2))) (.and (.cmp .isnone (.var 8) .cnon) (.cmp .isin (.var 1) (.var 7))) (.var 7))))
  (.cons (.set 4 .own (.lst (.cons (.neg (.cint 1)) .nil)))
  (.cons (.loop (.one 5) (.call 71 (.cons (.sub (.var 0) (.cint 2)) .nil)) (.cons (.set 6 .val (.call 232 (.cons (.var 0) (.cons (.var 5) .nil))))
  (.cons (.ife (.cmp .lt (.sub (.var 6) (.var 1)) (.b1 .max (.var 6))) (.cons (.expr (.meth .append (.var 4) (.cons (.bin .sub (.sub (.var 6) (.var 1)) (.var 2)) .nil)))
  .nil) .nil)
  .nil)))
  (.cons (.ret (.ife (.cmp .lt (.b1 .max (.var 4)) (.var 3)) (.bin .add (.b1 .max (.var 4)) (.cint 1)) .cnon))
  .nil)))))
def c__law_magic : SC := scOf n__law_magic [(71, ("_law_outcomes" : Str), 1), (232, ("_law_wins" : Str), 2)] [] false
def L__law_magic : Lk := ⟨fun k => if k = 71 then some g__law_outcomes else if k = 232 then some g__law_wins else none, fun k => none⟩
def g__law_magic : FSem := runF 2 9 i__law_magic L__law_magic
theorem k__law_magic : (chkS c__law_magic i__law_magic).l ⟨defScope t__law_magic, fun _ => true⟩ (defBody t__law_magic) = true := by decide +kernel
theorem s__law_magic : FnScope n__law_magic ["spec", "team"] (defScope t__law_magic) := ⟨rfl, rfl, rfl, by decide +kernel, rfl, by decide +kernel, by decide +kernel⟩
/-! _law_won, level 1 -/
abbrev t__law_won : Stmt := top 44
def n__law_won : List Str := ["spec", "team", "game", "is_won", "place"]
def i__law_won : IS := (.cons (.set 4 .val (.meth .index (.sub (.sub (.var 0) (.cint 1)) (.var 2)) (.cons (.var 1) .nil)))
  (.cons (.ret (.bin .add (.bin .add (.slc (.sub (.var 0) (.cint 2)) .no (.var 2)) (.tup (.cons (.ife (.var 3) (.var 4) (.bin .sub (.cint 1) (.var 4))) .nil))) (.slc (.sub (.var 0) (.cint 2)) (.bin .add (.var 2) (.cint 1)) .no)))
  .nil))
def c__law_won : SC := scOf n__law_won [] [] false
def L__law_won : Lk := ⟨fun k => none, fun k => none⟩
def g__law_won : FSem := runF 4 5 i__law_won L__law_won
theorem k__law_won : (chkS c__law_won i__law_won).l ⟨defScope t__law_won, fun _ => true⟩ (defBody t__law_won) = true := by decide +kernel
theorem s__law_won : FnScope n__law_won ["spec", "team", "game", "is_won"] (defScope t__law_won) := ⟨rfl, rfl, rfl, by decide +kernel, rfl, by decide +kernel, by decide +kernel⟩
/-! League_init, level 4 -/
abbrev t_League_init : Stmt := inClass (top 13) 0
def n_League_init : List Str := ["self", "teams", "games", "at", "pair"]
def i_League_init : IS := (.cons (.ife (.not (.call 3 (.cons (.var 1) (.cons (.cint 1) (.cons (.gint "MOST_TEAMS" (8)) .nil))))) (.cons .never
  .nil) .nil)
  (.cons (.ife (.not (.isi (.var 2) (.ty "tuple"))) (.cons .never
  .nil) .nil)
  (.cons (.loop (.many [3, 4]) (.enum (.var 2)) (.cons (.ife (.or (.cmp .ge (.var 3) (.gint "MOST_GAMES" (24))) (.not (.call 2 (.cons (.var 4) (.cons (.var 1) .nil))))) (.cons .never
  .nil) .nil)
  .nil))
  (.cons (.fld 0 "teams" (.var 1))
  (.cons (.fld 0 "games" (.var 2))
  .nil)))))
def c_League_init : SC := scOf n_League_init [(2, ("is_pair_of" : Str), 2), (3, ("is_within" : Str), 3)] [] true
def L_League_init : Lk := ⟨fun k => if k = 2 then some g_is_pair_of else if k = 3 then some g_is_within else none, fun k => none⟩
def g_League_init : CSem := runI "League" 3 5 i_League_init L_League_init
theorem k_League_init : (chkS c_League_init i_League_init).l ⟨defScope t_League_init, fun _ => true⟩ (defBody t_League_init) = true := by decide +kernel
theorem s_League_init : FnScope n_League_init ["self", "teams", "games"] (defScope t_League_init) := ⟨rfl, rfl, rfl, by decide +kernel, rfl, by decide +kernel, by decide +kernel⟩
/-! _law_team_right, level 9 -/
abbrev t__law_team_right : Stmt := top 45
def n__law_team_right : List Str := ["hand", "spec", "team", "told", "games", "game", "more", "fewer", "league", "due", "pair"]
def i__law_team_right : IS := (.cons (.par [(8, .val), (9, .val)] (.cons (.new 0 (.cons (.sub (.var 1) (.cint 0)) (.cons (.sub (.var 1) (.cint 1)) .nil))) (.cons (.call 1050 (.cons (.var 1) (.cons (.var 2) .nil))) .nil)))
  (.cons (.set 3 .val (.call 148 (.cons (.var 8) (.cons (.sub (.var 1) (.cint 2)) (.cons (.var 2) .nil)))))
  (.cons (.ife (.or (.cmp .ne (.b1 .repr (.var 3)) (.b1 .repr (.var 9))) (.cmp .ne (.cmp .eq (.var 9) (.cint 0)) (.cmp .isin (.var 2) (.call 89 (.cons (.var 8) (.cons (.sub (.var 1) (.cint 2)) .nil)))))) (.cons (.ret (.cbl false))
  .nil) .nil)
  (.cons (.ife (.and (.cmp .notnone (.var 9) .cnon) (.cmp .gt (.var 9) (.sub (.call 122 (.cons (.var 8) (.cons (.sub (.var 1) (.cint 2)) .nil))) (.var 2)))) (.cons (.ret (.cbl false))
  .nil) .nil)
  (.cons (.set 4 .val (.lc [5, 10] (.many [5, 10]) (.enum (.sub (.var 1) (.cint 1))) (.and (.cmp .isin (.var 2) (.var 10)) (.cmp .isnone (.sub (.sub (.var 1) (.cint 2)) (.var 5)) .cnon)) (.var 5)))
  (.cons (.ife (.cmp .eq (.b1 .len (.var 4)) (.cint 0)) (.cons (.ret (.cmp .isin (.var 9) (.tup (.cons (.cint 0) (.cons .cnon .nil)))))
  .nil) .nil)
  (.cons (.set 5 .val (.call 13 (.cons (.var 0) (.cons (.var 4) .nil))))
  (.cons (.set 6 .val (.call 148 (.cons (.var 8) (.cons (.call 1270 (.cons (.var 1) (.cons (.var 2) (.cons (.var 5) (.cons (.cbl true) .nil))))) (.cons (.var 2) .nil)))))
  (.cons (.ife (.and (.cmp .notnone (.var 9) .cnon) (.or (.cmp .isnone (.var 6) .cnon) (.cmp .gt (.var 6) (.b2 .max (.cint 0) (.bin .sub (.var 9) (.cint 1)))))) (.cons (.ret (.cbl false))
  .nil) .nil)
  (.cons (.set 7 .val (.call 148 (.cons (.var 8) (.cons (.call 1270 (.cons (.var 1) (.cons (.var 2) (.cons (.var 5) (.cons (.cbl false) .nil))))) (.cons (.var 2) .nil)))))
  (.cons (.ret (.or (.and (.cmp .isnone (.var 9) .cnon) (.cmp .isnone (.var 7) .cnon)) (.and (.cmp .notnone (.var 9) .cnon) (.or (.cmp .isnone (.var 7) .cnon) (.cmp .le (.var 7) (.var 9))))))
  .nil)))))))))))
def c__law_team_right : SC := scOf n__law_team_right [(148, ("magic" : Str), 3), (1270, ("_law_won" : Str), 4), (13, ("_law_any" : Str), 2), (122, ("left" : Str), 2), (89, ("surely_first" : Str), 2), (1050, ("_law_magic" : Str), 2)] [(0, ("League" : Str), 2)] false
def L__law_team_right : Lk := ⟨fun k => if k = 148 then some g_magic else if k = 1270 then some g__law_won else if k = 13 then some g__law_any else if k = 122 then some g_left else if k = 89 then some g_surely_first else if k = 1050 then some g__law_magic else none, fun k => if k = 0 then some g_League_init else none⟩
def g__law_team_right : FSem := runF 3 11 i__law_team_right L__law_team_right
theorem k__law_team_right : (chkS c__law_team_right i__law_team_right).l ⟨defScope t__law_team_right, fun _ => true⟩ (defBody t__law_team_right) = true := by decide +kernel
theorem s__law_team_right : FnScope n__law_team_right ["hand", "spec", "team"] (defScope t__law_team_right) := ⟨rfl, rfl, rfl, by decide +kernel, rfl, by decide +kernel, by decide +kernel⟩
/-! law, level 10 -/
abbrev t_law : Stmt := top 46
def n_law : List Str := ["script", "hand", "three", "told", "turn", "spec", "team"]
def i_law : IS := (.cons (.set 1 .loc (.call 799 (.cons (.var 0) .nil)))
  (.cons (.set 2 .val (.new 0 (.cons (.cint 3) (.cons (.tup (.cons (.tup (.cons (.cint 0) (.cons (.cint 1) .nil))) (.cons (.tup (.cons (.cint 0) (.cons (.cint 2) .nil))) (.cons (.tup (.cons (.cint 1) (.cons (.cint 2) .nil))) .nil)))) .nil))))
  (.cons (.set 3 .val (.lst (.cons (.call 148 (.cons (.var 2) (.cons (.tup (.cons .cnon (.cons .cnon (.cons .cnon .nil)))) (.cons (.cint 0) .nil)))) (.cons (.call 148 (.cons (.var 2) (.cons (.tup (.cons (.cint 0) (.cons .cnon (.cons (.cint 1) .nil)))) (.cons (.cint 0) .nil)))) (.cons (.call 148 (.cons (.var 2) (.cons (.tup (.cons (.cint 0) (.cons (.cint 0) (.cons .cnon .nil)))) (.cons (.cint 1) .nil)))) .nil)))))
  (.cons (.ife (.or (.cmp .ne (.b1 .repr (.var 3)) (.b1 .repr (.lst (.cons (.cint 2) (.cons (.cint 1) (.cons .cnon .nil)))))) (.cmp .ne (.call 148 (.cons (.new 0 (.cons (.cint 1) (.cons (.tup .nil) .nil))) (.cons (.tup .nil) (.cons (.cint 0) .nil)))) (.cint 0))) (.cons (.ret (.cbl false))
  .nil) .nil)
  (.cons (.loop (.one 4) (.rng1 (.cint 3)) (.cons (.set 5 .val (.call 94 (.cons (.var 1) (.cons (.cint 7) .nil))))
  (.cons (.ife (.not (.b1 .all (.lc [6] (.one 6) (.rng1 (.sub (.var 5) (.cint 0))) .no (.call 1228 (.cons (.var 1) (.cons (.var 5) (.cons (.var 6) .nil))))))) (.cons (.ret (.cbl false))
  .nil) .nil)
  .nil)))
  (.cons (.ret (.cbl true))
  .nil))))))
def c_law : SC := scOf n_law [(1228, ("_law_team_right" : Str), 3), (94, ("_law_spec" : Str), 2), (148, ("magic" : Str), 3), (799, ("_law_hand" : Str), 1)] [(0, ("League" : Str), 2)] false
def L_law : Lk := ⟨fun k => if k = 1228 then some g__law_team_right else if k = 94 then some g__law_spec else if k = 148 then some g_magic else if k = 799 then some g__law_hand else none, fun k => if k = 0 then some g_League_init else none⟩
def g_law : FSem := runF 1 7 i_law L_law
theorem k_law : (chkS c_law i_law).l ⟨defScope t_law, fun _ => true⟩ (defBody t_law) = true := by decide +kernel
theorem s_law : FnScope n_law ["script"] (defScope t_law) := ⟨rfl, rfl, rfl, by decide +kernel, rfl, by decide +kernel, by decide +kernel⟩
set_option maxHeartbeats 4000000 in
theorem all_g {P : Program} {w : World} {K : PySem.W.Frag} {h : Heap} {mg : Str → Option Value} {fa : Addr} (X : K.In h) (G : h.Ns mainGlobals mg) (hfa : mg "law" = some (.ref fa))
    {f_is_integer f_is_within f_is_pair_of f_check_league f_is_team f_check_team f_everybody f_is_side f_are_results f_check_results f_open_of f_winner_of f_decided_of f_counted f_wins_of f_left_of f_left f_best_wins f_meetings f_rival_most f_is_safe f_magic_of f_magic f_surely_first f__law_hand f__law_draw f__law_any f__law_spec f__law_outcomes f__law_wins f__law_magic f__law_won f_League_init C_League f__law_team_right f_law : Addr} {oc_is_integer kV_is_integer dc_is_integer pm_is_integer cd_is_integer ct_is_integer oc_is_within kV_is_within dc_is_within pm_is_within cd_is_within ct_is_within oc_is_pair_of kV_is_pair_of dc_is_pair_of pm_is_pair_of cd_is_pair_of ct_is_pair_of oc_check_league kV_check_league dc_check_league pm_check_league cd_check_league ct_check_league oc_is_team kV_is_team dc_is_team pm_is_team cd_is_team ct_is_team oc_check_team kV_check_team dc_check_team pm_check_team cd_check_team ct_check_team oc_everybody kV_everybody dc_everybody pm_everybody cd_everybody ct_everybody oc_is_side kV_is_side dc_is_side pm_is_side cd_is_side ct_is_side oc_are_results kV_are_results dc_are_results pm_are_results cd_are_results ct_are_results oc_check_results kV_check_results dc_check_results pm_check_results cd_check_results ct_check_results oc_open_of kV_open_of dc_open_of pm_open_of cd_open_of ct_open_of oc_winner_of kV_winner_of dc_winner_of pm_winner_of cd_winner_of ct_winner_of oc_decided_of kV_decided_of dc_decided_of pm_decided_of cd_decided_of ct_decided_of oc_counted kV_counted dc_counted pm_counted cd_counted ct_counted oc_wins_of kV_wins_of dc_wins_of pm_wins_of cd_wins_of ct_wins_of oc_left_of kV_left_of dc_left_of pm_left_of cd_left_of ct_left_of oc_left kV_left dc_left pm_left cd_left ct_left oc_best_wins kV_best_wins dc_best_wins pm_best_wins cd_best_wins ct_best_wins oc_meetings kV_meetings dc_meetings pm_meetings cd_meetings ct_meetings oc_rival_most kV_rival_most dc_rival_most pm_rival_most cd_rival_most ct_rival_most oc_is_safe kV_is_safe dc_is_safe pm_is_safe cd_is_safe ct_is_safe oc_magic_of kV_magic_of dc_magic_of pm_magic_of cd_magic_of ct_magic_of oc_magic kV_magic dc_magic pm_magic cd_magic ct_magic oc_surely_first kV_surely_first dc_surely_first pm_surely_first cd_surely_first ct_surely_first oc__law_hand kV__law_hand dc__law_hand pm__law_hand cd__law_hand ct__law_hand oc__law_draw kV__law_draw dc__law_draw pm__law_draw cd__law_draw ct__law_draw oc__law_any kV__law_any dc__law_any pm__law_any cd__law_any ct__law_any oc__law_spec kV__law_spec dc__law_spec pm__law_spec cd__law_spec ct__law_spec oc__law_outcomes kV__law_outcomes dc__law_outcomes pm__law_outcomes cd__law_outcomes ct__law_outcomes oc__law_wins kV__law_wins dc__law_wins pm__law_wins cd__law_wins ct__law_wins oc__law_magic kV__law_magic dc__law_magic pm__law_magic cd__law_magic ct__law_magic oc__law_won kV__law_won dc__law_won pm__law_won cd__law_won ct__law_won oc_League_init kV_League_init dc_League_init pm_League_init cd_League_init ct_League_init oc__law_team_right kV__law_team_right dc__law_team_right pm__law_team_right cd__law_team_right ct__law_team_right oc_law kV_law dc_law pm_law cd_law ct_law : Value} {od_is_integer an_is_integer od_is_within an_is_within od_is_pair_of an_is_pair_of od_check_league an_check_league od_is_team an_is_team od_check_team an_check_team od_everybody an_everybody od_is_side an_is_side od_are_results an_are_results od_check_results an_check_results od_open_of an_open_of od_winner_of an_winner_of od_decided_of an_decided_of od_counted an_counted od_wins_of an_wins_of od_left_of an_left_of od_left an_left od_best_wins an_best_wins od_meetings an_meetings od_rival_most an_rival_most od_is_safe an_is_safe od_magic_of an_magic_of od_magic an_magic od_surely_first an_surely_first od__law_hand an__law_hand od__law_draw an__law_draw od__law_any an__law_any od__law_spec an__law_spec od__law_outcomes an__law_outcomes od__law_wins an__law_wins od__law_magic an__law_magic od__law_won an__law_won od_League_init an_League_init od__law_team_right an__law_team_right od_law an_law : Option Addr} {sl_is_integer sl_is_within sl_is_pair_of sl_check_league sl_is_team sl_check_team sl_everybody sl_is_side sl_are_results sl_check_results sl_open_of sl_winner_of sl_decided_of sl_counted sl_wins_of sl_left_of sl_left sl_best_wins sl_meetings sl_rival_most sl_is_safe sl_magic_of sl_magic sl_surely_first sl__law_hand sl__law_draw sl__law_any sl__law_spec sl__law_outcomes sl__law_wins sl__law_magic sl__law_won sl_League_init sl__law_team_right sl_law : Array (Option Value)} {tk0 tk1 : Tok}
    (a_is_integer : PySem.W.nsIn K mainGlobals "is_integer" = some (some (.ref f_is_integer)))
    (l_is_integer : K.lookup f_is_integer = some ⟨oc_is_integer, od_is_integer, .func (PySem.W.fnOf "is_integer" "is_integer" (defArgs t_is_integer) (defBody t_is_integer) (defScope t_is_integer) .none kV_is_integer dc_is_integer pm_is_integer an_is_integer cd_is_integer ct_is_integer), sl_is_integer⟩)
    (cc_is_integer : PySem.W.codeIn K cd_is_integer "is_integer" = true)
    (kk_is_integer : PySem.W.keepIn K (.ref f_is_integer) = true)
    (a_is_within : PySem.W.nsIn K mainGlobals "is_within" = some (some (.ref f_is_within)))
    (l_is_within : K.lookup f_is_within = some ⟨oc_is_within, od_is_within, .func (PySem.W.fnOf "is_within" "is_within" (defArgs t_is_within) (defBody t_is_within) (defScope t_is_within) .none kV_is_within dc_is_within pm_is_within an_is_within cd_is_within ct_is_within), sl_is_within⟩)
    (cc_is_within : PySem.W.codeIn K cd_is_within "is_within" = true)
    (kk_is_within : PySem.W.keepIn K (.ref f_is_within) = true)
    (a_is_pair_of : PySem.W.nsIn K mainGlobals "is_pair_of" = some (some (.ref f_is_pair_of)))
    (l_is_pair_of : K.lookup f_is_pair_of = some ⟨oc_is_pair_of, od_is_pair_of, .func (PySem.W.fnOf "is_pair_of" "is_pair_of" (defArgs t_is_pair_of) (defBody t_is_pair_of) (defScope t_is_pair_of) .none kV_is_pair_of dc_is_pair_of pm_is_pair_of an_is_pair_of cd_is_pair_of ct_is_pair_of), sl_is_pair_of⟩)
    (cc_is_pair_of : PySem.W.codeIn K cd_is_pair_of "is_pair_of" = true)
    (kk_is_pair_of : PySem.W.keepIn K (.ref f_is_pair_of) = true)
    (a_check_league : PySem.W.nsIn K mainGlobals "check_league" = some (some (.ref f_check_league)))
    (l_check_league : K.lookup f_check_league = some ⟨oc_check_league, od_check_league, .func (PySem.W.fnOf "check_league" "check_league" (defArgs t_check_league) (defBody t_check_league) (defScope t_check_league) .none kV_check_league dc_check_league pm_check_league an_check_league cd_check_league ct_check_league), sl_check_league⟩)
    (cc_check_league : PySem.W.codeIn K cd_check_league "check_league" = true)
    (kk_check_league : PySem.W.keepIn K (.ref f_check_league) = true)
    (a_is_team : PySem.W.nsIn K mainGlobals "is_team" = some (some (.ref f_is_team)))
    (l_is_team : K.lookup f_is_team = some ⟨oc_is_team, od_is_team, .func (PySem.W.fnOf "is_team" "is_team" (defArgs t_is_team) (defBody t_is_team) (defScope t_is_team) .none kV_is_team dc_is_team pm_is_team an_is_team cd_is_team ct_is_team), sl_is_team⟩)
    (cc_is_team : PySem.W.codeIn K cd_is_team "is_team" = true)
    (kk_is_team : PySem.W.keepIn K (.ref f_is_team) = true)
    (a_check_team : PySem.W.nsIn K mainGlobals "check_team" = some (some (.ref f_check_team)))
    (l_check_team : K.lookup f_check_team = some ⟨oc_check_team, od_check_team, .func (PySem.W.fnOf "check_team" "check_team" (defArgs t_check_team) (defBody t_check_team) (defScope t_check_team) .none kV_check_team dc_check_team pm_check_team an_check_team cd_check_team ct_check_team), sl_check_team⟩)
    (cc_check_team : PySem.W.codeIn K cd_check_team "check_team" = true)
    (kk_check_team : PySem.W.keepIn K (.ref f_check_team) = true)
    (a_everybody : PySem.W.nsIn K mainGlobals "everybody" = some (some (.ref f_everybody)))
    (l_everybody : K.lookup f_everybody = some ⟨oc_everybody, od_everybody, .func (PySem.W.fnOf "everybody" "everybody" (defArgs t_everybody) (defBody t_everybody) (defScope t_everybody) .none kV_everybody dc_everybody pm_everybody an_everybody cd_everybody ct_everybody), sl_everybody⟩)
    (cc_everybody : PySem.W.codeIn K cd_everybody "everybody" = true)
    (kk_everybody : PySem.W.keepIn K (.ref f_everybody) = true)
    (a_is_side : PySem.W.nsIn K mainGlobals "is_side" = some (some (.ref f_is_side)))
    (l_is_side : K.lookup f_is_side = some ⟨oc_is_side, od_is_side, .func (PySem.W.fnOf "is_side" "is_side" (defArgs t_is_side) (defBody t_is_side) (defScope t_is_side) .none kV_is_side dc_is_side pm_is_side an_is_side cd_is_side ct_is_side), sl_is_side⟩)
    (cc_is_side : PySem.W.codeIn K cd_is_side "is_side" = true)
    (kk_is_side : PySem.W.keepIn K (.ref f_is_side) = true)
    (a_are_results : PySem.W.nsIn K mainGlobals "are_results" = some (some (.ref f_are_results)))
    (l_are_results : K.lookup f_are_results = some ⟨oc_are_results, od_are_results, .func (PySem.W.fnOf "are_results" "are_results" (defArgs t_are_results) (defBody t_are_results) (defScope t_are_results) .none kV_are_results dc_are_results pm_are_results an_are_results cd_are_results ct_are_results), sl_are_results⟩)
    (cc_are_results : PySem.W.codeIn K cd_are_results "are_results" = true)
    (kk_are_results : PySem.W.keepIn K (.ref f_are_results) = true)
    (a_check_results : PySem.W.nsIn K mainGlobals "check_results" = some (some (.ref f_check_results)))
    (l_check_results : K.lookup f_check_results = some ⟨oc_check_results, od_check_results, .func (PySem.W.fnOf "check_results" "check_results" (defArgs t_check_results) (defBody t_check_results) (defScope t_check_results) .none kV_check_results dc_check_results pm_check_results an_check_results cd_check_results ct_check_results), sl_check_results⟩)
    (cc_check_results : PySem.W.codeIn K cd_check_results "check_results" = true)
    (kk_check_results : PySem.W.keepIn K (.ref f_check_results) = true)
    (a_open_of : PySem.W.nsIn K mainGlobals "open_of" = some (some (.ref f_open_of)))
    (l_open_of : K.lookup f_open_of = some ⟨oc_open_of, od_open_of, .func (PySem.W.fnOf "open_of" "open_of" (defArgs t_open_of) (defBody t_open_of) (defScope t_open_of) .none kV_open_of dc_open_of pm_open_of an_open_of cd_open_of ct_open_of), sl_open_of⟩)
    (cc_open_of : PySem.W.codeIn K cd_open_of "open_of" = true)
    (kk_open_of : PySem.W.keepIn K (.ref f_open_of) = true)
    (a_winner_of : PySem.W.nsIn K mainGlobals "winner_of" = some (some (.ref f_winner_of)))
    (l_winner_of : K.lookup f_winner_of = some ⟨oc_winner_of, od_winner_of, .func (PySem.W.fnOf "winner_of" "winner_of" (defArgs t_winner_of) (defBody t_winner_of) (defScope t_winner_of) .none kV_winner_of dc_winner_of pm_winner_of an_winner_of cd_winner_of ct_winner_of), sl_winner_of⟩)
    (cc_winner_of : PySem.W.codeIn K cd_winner_of "winner_of" = true)
    (kk_winner_of : PySem.W.keepIn K (.ref f_winner_of) = true)
    (a_decided_of : PySem.W.nsIn K mainGlobals "decided_of" = some (some (.ref f_decided_of)))
    (l_decided_of : K.lookup f_decided_of = some ⟨oc_decided_of, od_decided_of, .func (PySem.W.fnOf "decided_of" "decided_of" (defArgs t_decided_of) (defBody t_decided_of) (defScope t_decided_of) .none kV_decided_of dc_decided_of pm_decided_of an_decided_of cd_decided_of ct_decided_of), sl_decided_of⟩)
    (cc_decided_of : PySem.W.codeIn K cd_decided_of "decided_of" = true)
    (kk_decided_of : PySem.W.keepIn K (.ref f_decided_of) = true)
    (a_counted : PySem.W.nsIn K mainGlobals "counted" = some (some (.ref f_counted)))
    (l_counted : K.lookup f_counted = some ⟨oc_counted, od_counted, .func (PySem.W.fnOf "counted" "counted" (defArgs t_counted) (defBody t_counted) (defScope t_counted) .none kV_counted dc_counted pm_counted an_counted cd_counted ct_counted), sl_counted⟩)
    (cc_counted : PySem.W.codeIn K cd_counted "counted" = true)
    (kk_counted : PySem.W.keepIn K (.ref f_counted) = true)
    (a_wins_of : PySem.W.nsIn K mainGlobals "wins_of" = some (some (.ref f_wins_of)))
    (l_wins_of : K.lookup f_wins_of = some ⟨oc_wins_of, od_wins_of, .func (PySem.W.fnOf "wins_of" "wins_of" (defArgs t_wins_of) (defBody t_wins_of) (defScope t_wins_of) .none kV_wins_of dc_wins_of pm_wins_of an_wins_of cd_wins_of ct_wins_of), sl_wins_of⟩)
    (cc_wins_of : PySem.W.codeIn K cd_wins_of "wins_of" = true)
    (kk_wins_of : PySem.W.keepIn K (.ref f_wins_of) = true)
    (a_left_of : PySem.W.nsIn K mainGlobals "left_of" = some (some (.ref f_left_of)))
    (l_left_of : K.lookup f_left_of = some ⟨oc_left_of, od_left_of, .func (PySem.W.fnOf "left_of" "left_of" (defArgs t_left_of) (defBody t_left_of) (defScope t_left_of) .none kV_left_of dc_left_of pm_left_of an_left_of cd_left_of ct_left_of), sl_left_of⟩)
    (cc_left_of : PySem.W.codeIn K cd_left_of "left_of" = true)
    (kk_left_of : PySem.W.keepIn K (.ref f_left_of) = true)
    (a_left : PySem.W.nsIn K mainGlobals "left" = some (some (.ref f_left)))
    (l_left : K.lookup f_left = some ⟨oc_left, od_left, .func (PySem.W.fnOf "left" "left" (defArgs t_left) (defBody t_left) (defScope t_left) .none kV_left dc_left pm_left an_left cd_left ct_left), sl_left⟩)
    (cc_left : PySem.W.codeIn K cd_left "left" = true)
    (kk_left : PySem.W.keepIn K (.ref f_left) = true)
    (a_best_wins : PySem.W.nsIn K mainGlobals "best_wins" = some (some (.ref f_best_wins)))
    (l_best_wins : K.lookup f_best_wins = some ⟨oc_best_wins, od_best_wins, .func (PySem.W.fnOf "best_wins" "best_wins" (defArgs t_best_wins) (defBody t_best_wins) (defScope t_best_wins) .none kV_best_wins dc_best_wins pm_best_wins an_best_wins cd_best_wins ct_best_wins), sl_best_wins⟩)
    (cc_best_wins : PySem.W.codeIn K cd_best_wins "best_wins" = true)
    (kk_best_wins : PySem.W.keepIn K (.ref f_best_wins) = true)
    (a_meetings : PySem.W.nsIn K mainGlobals "meetings" = some (some (.ref f_meetings)))
    (l_meetings : K.lookup f_meetings = some ⟨oc_meetings, od_meetings, .func (PySem.W.fnOf "meetings" "meetings" (defArgs t_meetings) (defBody t_meetings) (defScope t_meetings) .none kV_meetings dc_meetings pm_meetings an_meetings cd_meetings ct_meetings), sl_meetings⟩)
    (cc_meetings : PySem.W.codeIn K cd_meetings "meetings" = true)
    (kk_meetings : PySem.W.keepIn K (.ref f_meetings) = true)
    (a_rival_most : PySem.W.nsIn K mainGlobals "rival_most" = some (some (.ref f_rival_most)))
    (l_rival_most : K.lookup f_rival_most = some ⟨oc_rival_most, od_rival_most, .func (PySem.W.fnOf "rival_most" "rival_most" (defArgs t_rival_most) (defBody t_rival_most) (defScope t_rival_most) .none kV_rival_most dc_rival_most pm_rival_most an_rival_most cd_rival_most ct_rival_most), sl_rival_most⟩)
    (cc_rival_most : PySem.W.codeIn K cd_rival_most "rival_most" = true)
    (kk_rival_most : PySem.W.keepIn K (.ref f_rival_most) = true)
    (a_is_safe : PySem.W.nsIn K mainGlobals "is_safe" = some (some (.ref f_is_safe)))
    (l_is_safe : K.lookup f_is_safe = some ⟨oc_is_safe, od_is_safe, .func (PySem.W.fnOf "is_safe" "is_safe" (defArgs t_is_safe) (defBody t_is_safe) (defScope t_is_safe) .none kV_is_safe dc_is_safe pm_is_safe an_is_safe cd_is_safe ct_is_safe), sl_is_safe⟩)
    (cc_is_safe : PySem.W.codeIn K cd_is_safe "is_safe" = true)
    (kk_is_safe : PySem.W.keepIn K (.ref f_is_safe) = true)
    (a_magic_of : PySem.W.nsIn K mainGlobals "magic_of" = some (some (.ref f_magic_of)))
    (l_magic_of : K.lookup f_magic_of = some ⟨oc_magic_of, od_magic_of, .func (PySem.W.fnOf "magic_of" "magic_of" (defArgs t_magic_of) (defBody t_magic_of) (defScope t_magic_of) .none kV_magic_of dc_magic_of pm_magic_of an_magic_of cd_magic_of ct_magic_of), sl_magic_of⟩)
    (cc_magic_of : PySem.W.codeIn K cd_magic_of "magic_of" = true)
    (kk_magic_of : PySem.W.keepIn K (.ref f_magic_of) = true)
    (a_magic : PySem.W.nsIn K mainGlobals "magic" = some (some (.ref f_magic)))
    (l_magic : K.lookup f_magic = some ⟨oc_magic, od_magic, .func (PySem.W.fnOf "magic" "magic" (defArgs t_magic) (defBody t_magic) (defScope t_magic) .none kV_magic dc_magic pm_magic an_magic cd_magic ct_magic), sl_magic⟩)
    (cc_magic : PySem.W.codeIn K cd_magic "magic" = true)
    (kk_magic : PySem.W.keepIn K (.ref f_magic) = true)
    (a_surely_first : PySem.W.nsIn K mainGlobals "surely_first" = some (some (.ref f_surely_first)))
    (l_surely_first : K.lookup f_surely_first = some ⟨oc_surely_first, od_surely_first, .func (PySem.W.fnOf "surely_first" "surely_first" (defArgs t_surely_first) (defBody t_surely_first) (defScope t_surely_first) .none kV_surely_first dc_surely_first pm_surely_first an_surely_first cd_surely_first ct_surely_first), sl_surely_first⟩)
    (cc_surely_first : PySem.W.codeIn K cd_surely_first "surely_first" = true)
    (kk_surely_first : PySem.W.keepIn K (.ref f_surely_first) = true)
    (a__law_hand : PySem.W.nsIn K mainGlobals "_law_hand" = some (some (.ref f__law_hand)))
    (l__law_hand : K.lookup f__law_hand = some ⟨oc__law_hand, od__law_hand, .func (PySem.W.fnOf "_law_hand" "_law_hand" (defArgs t__law_hand) (defBody t__law_hand) (defScope t__law_hand) .none kV__law_hand dc__law_hand pm__law_hand an__law_hand cd__law_hand ct__law_hand), sl__law_hand⟩)
    (cc__law_hand : PySem.W.codeIn K cd__law_hand "_law_hand" = true)
    (kk__law_hand : PySem.W.keepIn K (.ref f__law_hand) = true)
    (a__law_draw : PySem.W.nsIn K mainGlobals "_law_draw" = some (some (.ref f__law_draw)))
    (l__law_draw : K.lookup f__law_draw = some ⟨oc__law_draw, od__law_draw, .func (PySem.W.fnOf "_law_draw" "_law_draw" (defArgs t__law_draw) (defBody t__law_draw) (defScope t__law_draw) .none kV__law_draw dc__law_draw pm__law_draw an__law_draw cd__law_draw ct__law_draw), sl__law_draw⟩)
    (cc__law_draw : PySem.W.codeIn K cd__law_draw "_law_draw" = true)
    (kk__law_draw : PySem.W.keepIn K (.ref f__law_draw) = true)
    (a__law_any : PySem.W.nsIn K mainGlobals "_law_any" = some (some (.ref f__law_any)))
    (l__law_any : K.lookup f__law_any = some ⟨oc__law_any, od__law_any, .func (PySem.W.fnOf "_law_any" "_law_any" (defArgs t__law_any) (defBody t__law_any) (defScope t__law_any) .none kV__law_any dc__law_any pm__law_any an__law_any cd__law_any ct__law_any), sl__law_any⟩)
    (cc__law_any : PySem.W.codeIn K cd__law_any "_law_any" = true)
    (kk__law_any : PySem.W.keepIn K (.ref f__law_any) = true)
    (a__law_spec : PySem.W.nsIn K mainGlobals "_law_spec" = some (some (.ref f__law_spec)))
    (l__law_spec : K.lookup f__law_spec = some ⟨oc__law_spec, od__law_spec, .func (PySem.W.fnOf "_law_spec" "_law_spec" (defArgs t__law_spec) (defBody t__law_spec) (defScope t__law_spec) .none kV__law_spec dc__law_spec pm__law_spec an__law_spec cd__law_spec ct__law_spec), sl__law_spec⟩)
    (cc__law_spec : PySem.W.codeIn K cd__law_spec "_law_spec" = true)
    (kk__law_spec : PySem.W.keepIn K (.ref f__law_spec) = true)
    (a__law_outcomes : PySem.W.nsIn K mainGlobals "_law_outcomes" = some (some (.ref f__law_outcomes)))
    (l__law_outcomes : K.lookup f__law_outcomes = some ⟨oc__law_outcomes, od__law_outcomes, .func (PySem.W.fnOf "_law_outcomes" "_law_outcomes" (defArgs t__law_outcomes) (defBody t__law_outcomes) (defScope t__law_outcomes) .none kV__law_outcomes dc__law_outcomes pm__law_outcomes an__law_outcomes cd__law_outcomes ct__law_outcomes), sl__law_outcomes⟩)
    (cc__law_outcomes : PySem.W.codeIn K cd__law_outcomes "_law_outcomes" = true)
    (kk__law_outcomes : PySem.W.keepIn K (.ref f__law_outcomes) = true)
    (a__law_wins : PySem.W.nsIn K mainGlobals "_law_wins" = some (some (.ref f__law_wins)))
    (l__law_wins : K.lookup f__law_wins = some ⟨oc__law_wins, od__law_wins, .func (PySem.W.fnOf "_law_wins" "_law_wins" (defArgs t__law_wins) (defBody t__law_wins) (defScope t__law_wins) .none kV__law_wins dc__law_wins pm__law_wins an__law_wins cd__law_wins ct__law_wins), sl__law_wins⟩)
    (cc__law_wins : PySem.W.codeIn K cd__law_wins "_law_wins" = true)
    (kk__law_wins : PySem.W.keepIn K (.ref f__law_wins) = true)
    (a__law_magic : PySem.W.nsIn K mainGlobals "_law_magic" = some (some (.ref f__law_magic)))
    (l__law_magic : K.lookup f__law_magic = some ⟨oc__law_magic, od__law_magic, .func (PySem.W.fnOf "_law_magic" "_law_magic" (defArgs t__law_magic) (defBody t__law_magic) (defScope t__law_magic) .none kV__law_magic dc__law_magic pm__law_magic an__law_magic cd__law_magic ct__law_magic), sl__law_magic⟩)
    (cc__law_magic : PySem.W.codeIn K cd__law_magic "_law_magic" = true)
    (kk__law_magic : PySem.W.keepIn K (.ref f__law_magic) = true)
    (a__law_won : PySem.W.nsIn K mainGlobals "_law_won" = some (some (.ref f__law_won)))
    (l__law_won : K.lookup f__law_won = some ⟨oc__law_won, od__law_won, .func (PySem.W.fnOf "_law_won" "_law_won" (defArgs t__law_won) (defBody t__law_won) (defScope t__law_won) .none kV__law_won dc__law_won pm__law_won an__law_won cd__law_won ct__law_won), sl__law_won⟩)
    (cc__law_won : PySem.W.codeIn K cd__law_won "_law_won" = true)
    (kk__law_won : PySem.W.keepIn K (.ref f__law_won) = true)
    (aC_League : PySem.W.nsIn K mainGlobals "League" = some (some (.ref C_League)))
    (a_League_init : PySem.W.findIn K (.ref C_League) "__init__" = some (some (.ref f_League_init)))
    (if_League_init : PySem.W.isFn K (.ref f_League_init) = true)
    (mk_League : PySem.W.makesIn K C_League = true)
    (kC_League : PySem.W.keepIn K (.ref C_League) = true)
    (pg_League : PySem.W.plainGet K C_League Str.empty = true)
    (hd_League : PySem.W.hasDictIn K C_League = true)
    (po_League : PySem.W.plainOver K C_League = true)
    (sa_League : PySem.W.findIn K (.ref C_League) "__setattr__" = some (some (.builtin "object.__setattr__")))
    (ha_League : PySem.W.findIn K (.ref C_League) "__class__" = some (some (.builtin "object.__class__")))
    (hn_League : PySem.W.specialIn K (.builtin "object.__class__") "__get__" = some (some (.builtin "getset_descriptor.__get__")))
    (ht_League : PySem.W.takesIn K (.builtin "object.__class__") = some true)
    (hm_League : PySem.W.mroIn K C_League (.type "object") = some true)
    (c1_League : PySem.W.isClsIn K C_League = true)
    (c2_League : PySem.W.typeIn K (.ref C_League) = some (.type "type"))
    (i0_League : PySem.W.subIn K (.ref C_League) (.type "int") = some false)
    (i1_League : PySem.W.subIn K (.ref C_League) (.type "bool") = some false)
    (i2_League : PySem.W.subIn K (.ref C_League) (.type "str") = some false)
    (i3_League : PySem.W.subIn K (.ref C_League) (.type "tuple") = some false)
    (i4_League : PySem.W.subIn K (.ref C_League) (.type "list") = some false)
    (i5_League : PySem.W.subIn K (.ref C_League) (.type "NoneType") = some false)
    (i6_League : PySem.W.subIn K (.ref C_League) (.type "dict") = some false)
    (i7_League : PySem.W.subIn K (.ref C_League) (.type "set") = some false)
    (i8_League : PySem.W.subIn K (.ref C_League) (.type "float") = some false)
    (t0_League : PySem.W.subIn K (.type "int") (.ref C_League) = some false)
    (t1_League : PySem.W.subIn K (.type "bool") (.ref C_League) = some false)
    (t2_League : PySem.W.subIn K (.type "str") (.ref C_League) = some false)
    (t3_League : PySem.W.subIn K (.type "tuple") (.ref C_League) = some false)
    (t4_League : PySem.W.subIn K (.type "list") (.ref C_League) = some false)
    (t5_League : PySem.W.subIn K (.type "NoneType") (.ref C_League) = some false)
    (t6_League : PySem.W.subIn K (.type "dict") (.ref C_League) = some false)
    (t7_League : PySem.W.subIn K (.type "set") (.ref C_League) = some false)
    (t8_League : PySem.W.subIn K (.type "float") (.ref C_League) = some false)
    (n0_League : PySem.W.findIn K (.ref C_League) "teams" = some none)
    (n1_League : PySem.W.findIn K (.ref C_League) "games" = some none)
    (n2_League : PySem.W.findIn K (.ref C_League) "league" = some none)
    (n3_League : PySem.W.findIn K (.ref C_League) "stood" = some none)
    (n4_League : PySem.W.findIn K (.ref C_League) "deeds" = some none)
    (n5_League : PySem.W.findIn K (.ref C_League) "season" = some none)
    (n6_League : PySem.W.findIn K (.ref C_League) "noted" = some none)
    (l_League_init : K.lookup f_League_init = some ⟨oc_League_init, od_League_init, .func (PySem.W.fnOf "__init__" "League.__init__" (defArgs t_League_init) (defBody t_League_init) (defScope t_League_init) .none kV_League_init dc_League_init pm_League_init an_League_init cd_League_init ct_League_init), sl_League_init⟩)
    (cc_League_init : PySem.W.codeIn K cd_League_init "League.__init__" = true)
    (kk_League_init : PySem.W.keepIn K (.ref f_League_init) = true)
    (a__law_team_right : PySem.W.nsIn K mainGlobals "_law_team_right" = some (some (.ref f__law_team_right)))
    (l__law_team_right : K.lookup f__law_team_right = some ⟨oc__law_team_right, od__law_team_right, .func (PySem.W.fnOf "_law_team_right" "_law_team_right" (defArgs t__law_team_right) (defBody t__law_team_right) (defScope t__law_team_right) .none kV__law_team_right dc__law_team_right pm__law_team_right an__law_team_right cd__law_team_right ct__law_team_right), sl__law_team_right⟩)
    (cc__law_team_right : PySem.W.codeIn K cd__law_team_right "_law_team_right" = true)
    (kk__law_team_right : PySem.W.keepIn K (.ref f__law_team_right) = true)
    (a_law : PySem.W.nsIn K mainGlobals "law" = some (some (.ref f_law)))
    (l_law : K.lookup f_law = some ⟨oc_law, od_law, .func (PySem.W.fnOf "law" "law" (defArgs t_law) (defBody t_law) (defScope t_law) .none kV_law dc_law pm_law an_law cd_law ct_law), sl_law⟩)
    (cc_law : PySem.W.codeIn K cd_law "law" = true)
    (kk_law : PySem.W.keepIn K (.ref f_law) = true)
    (z0 : PySem.W.nsIn K mainGlobals "abs" = some none)
    (z1 : PySem.W.nsIn K mainGlobals "all" = some none)
    (z2 : PySem.W.nsIn K mainGlobals "bool" = some none)
    (z3 : PySem.W.nsIn K mainGlobals "enumerate" = some none)
    (z4 : PySem.W.nsIn K mainGlobals "int" = some none)
    (z5 : PySem.W.nsIn K mainGlobals "isinstance" = some none)
    (z6 : PySem.W.nsIn K mainGlobals "len" = some none)
    (z7 : PySem.W.nsIn K mainGlobals "max" = some none)
    (z8 : PySem.W.nsIn K mainGlobals "range" = some none)
    (z9 : PySem.W.nsIn K mainGlobals "repr" = some none)
    (z10 : PySem.W.nsIn K mainGlobals "tuple" = some none)
    (z11 : PySem.W.nsIn K mainGlobals "zip" = some none)
    (u0 : PySem.W.nsIn K mainGlobals "MOST_TEAMS" = some (some (.int 8 tk0)))
    (u1 : PySem.W.nsIn K mainGlobals "MOST_GAMES" = some (some (.int 24 tk1)))
    : ∃ fd : FuncData, (∀ (s : Shared) (u : Value), BindsTo s fd ⟨[u], []⟩ [("script", u)]) ∧ ∀ base : Heap, K.In base → base.Ns mainGlobals mg → FnG P w K mg base 10 fa fd ["script"] g_law := by
  have e := hfa.symm.trans (PySem.W.mg_of X G a_law)
  cases e
  have F_is_integer := fun_mk (st := t_is_integer) l_is_integer cc_is_integer kk_is_integer
  have b_is_integer := F_is_integer.binds (ps := ["thing"]) fun _ _ _ _ _ _ us hl => match us, hl with | [_], _ => rfl
  have F_is_within := fun_mk (st := t_is_within) l_is_within cc_is_within kk_is_within
  have b_is_within := F_is_within.binds (ps := ["thing", "low", "high"]) fun _ _ _ _ _ _ us hl => match us, hl with | [_, _, _], _ => rfl
  have F_is_pair_of := fun_mk (st := t_is_pair_of) l_is_pair_of cc_is_pair_of kk_is_pair_of
  have b_is_pair_of := F_is_pair_of.binds (ps := ["thing", "teams"]) fun _ _ _ _ _ _ us hl => match us, hl with | [_, _], _ => rfl
  have F_check_league := fun_mk (st := t_check_league) l_check_league cc_check_league kk_check_league
  have b_check_league := F_check_league.binds (ps := ["league"]) fun _ _ _ _ _ _ us hl => match us, hl with | [_], _ => rfl
  have F_is_team := fun_mk (st := t_is_team) l_is_team cc_is_team kk_is_team
  have b_is_team := F_is_team.binds (ps := ["league", "thing"]) fun _ _ _ _ _ _ us hl => match us, hl with | [_, _], _ => rfl
  have F_check_team := fun_mk (st := t_check_team) l_check_team cc_check_team kk_check_team
  have b_check_team := F_check_team.binds (ps := ["league", "team"]) fun _ _ _ _ _ _ us hl => match us, hl with | [_, _], _ => rfl
  have F_everybody := fun_mk (st := t_everybody) l_everybody cc_everybody kk_everybody
  have b_everybody := F_everybody.binds (ps := ["league"]) fun _ _ _ _ _ _ us hl => match us, hl with | [_], _ => rfl
  have F_is_side := fun_mk (st := t_is_side) l_is_side cc_is_side kk_is_side
  have b_is_side := F_is_side.binds (ps := ["thing"]) fun _ _ _ _ _ _ us hl => match us, hl with | [_], _ => rfl
  have F_are_results := fun_mk (st := t_are_results) l_are_results cc_are_results kk_are_results
  have b_are_results := F_are_results.binds (ps := ["league", "thing"]) fun _ _ _ _ _ _ us hl => match us, hl with | [_, _], _ => rfl
  have F_check_results := fun_mk (st := t_check_results) l_check_results cc_check_results kk_check_results
  have b_check_results := F_check_results.binds (ps := ["league", "results"]) fun _ _ _ _ _ _ us hl => match us, hl with | [_, _], _ => rfl
  have F_open_of := fun_mk (st := t_open_of) l_open_of cc_open_of kk_open_of
  have b_open_of := F_open_of.binds (ps := ["results"]) fun _ _ _ _ _ _ us hl => match us, hl with | [_], _ => rfl
  have F_winner_of := fun_mk (st := t_winner_of) l_winner_of cc_winner_of kk_winner_of
  have b_winner_of := F_winner_of.binds (ps := ["league", "results", "game"]) fun _ _ _ _ _ _ us hl => match us, hl with | [_, _, _], _ => rfl
  have F_decided_of := fun_mk (st := t_decided_of) l_decided_of cc_decided_of kk_decided_of
  have b_decided_of := F_decided_of.binds (ps := ["results"]) fun _ _ _ _ _ _ us hl => match us, hl with | [_], _ => rfl
  have F_counted := fun_mk (st := t_counted) l_counted cc_counted kk_counted
  have b_counted := F_counted.binds (ps := ["league", "some"]) fun _ _ _ _ _ _ us hl => match us, hl with | [_, _], _ => rfl
  have F_wins_of := fun_mk (st := t_wins_of) l_wins_of cc_wins_of kk_wins_of
  have b_wins_of := F_wins_of.binds (ps := ["league", "results"]) fun _ _ _ _ _ _ us hl => match us, hl with | [_, _], _ => rfl
  have F_left_of := fun_mk (st := t_left_of) l_left_of cc_left_of kk_left_of
  have b_left_of := F_left_of.binds (ps := ["league", "results"]) fun _ _ _ _ _ _ us hl => match us, hl with | [_, _], _ => rfl
  have F_left := fun_mk (st := t_left) l_left cc_left kk_left
  have b_left := F_left.binds (ps := ["league", "results"]) fun _ _ _ _ _ _ us hl => match us, hl with | [_, _], _ => rfl
  have F_best_wins := fun_mk (st := t_best_wins) l_best_wins cc_best_wins kk_best_wins
  have b_best_wins := F_best_wins.binds (ps := ["league", "results", "team"]) fun _ _ _ _ _ _ us hl => match us, hl with | [_, _, _], _ => rfl
  have F_meetings := fun_mk (st := t_meetings) l_meetings cc_meetings kk_meetings
  have b_meetings := F_meetings.binds (ps := ["league", "results", "one", "other"]) fun _ _ _ _ _ _ us hl => match us, hl with | [_, _, _, _], _ => rfl
  have F_rival_most := fun_mk (st := t_rival_most) l_rival_most cc_rival_most kk_rival_most
  have b_rival_most := F_rival_most.binds (ps := ["league", "results", "team", "other", "many"]) fun _ _ _ _ _ _ us hl => match us, hl with | [_, _, _, _, _], _ => rfl
  have F_is_safe := fun_mk (st := t_is_safe) l_is_safe cc_is_safe kk_is_safe
  have b_is_safe := F_is_safe.binds (ps := ["league", "results", "team", "many"]) fun _ _ _ _ _ _ us hl => match us, hl with | [_, _, _, _], _ => rfl
  have F_magic_of := fun_mk (st := t_magic_of) l_magic_of cc_magic_of kk_magic_of
  have b_magic_of := F_magic_of.binds (ps := ["league", "results", "team"]) fun _ _ _ _ _ _ us hl => match us, hl with | [_, _, _], _ => rfl
  have F_magic := fun_mk (st := t_magic) l_magic cc_magic kk_magic
  have b_magic := F_magic.binds (ps := ["league", "results", "team"]) fun _ _ _ _ _ _ us hl => match us, hl with | [_, _, _], _ => rfl
  have F_surely_first := fun_mk (st := t_surely_first) l_surely_first cc_surely_first kk_surely_first
  have b_surely_first := F_surely_first.binds (ps := ["league", "results"]) fun _ _ _ _ _ _ us hl => match us, hl with | [_, _], _ => rfl
  have F__law_hand := fun_mk (st := t__law_hand) l__law_hand cc__law_hand kk__law_hand
  have b__law_hand := F__law_hand.binds (ps := ["script"]) fun _ _ _ _ _ _ us hl => match us, hl with | [_], _ => rfl
  have F__law_draw := fun_mk (st := t__law_draw) l__law_draw cc__law_draw kk__law_draw
  have b__law_draw := F__law_draw.binds (ps := ["hand", "below"]) fun _ _ _ _ _ _ us hl => match us, hl with | [_, _], _ => rfl
  have F__law_any := fun_mk (st := t__law_any) l__law_any cc__law_any kk__law_any
  have b__law_any := F__law_any.binds (ps := ["hand", "some"]) fun _ _ _ _ _ _ us hl => match us, hl with | [_, _], _ => rfl
  have F__law_spec := fun_mk (st := t__law_spec) l__law_spec cc__law_spec kk__law_spec
  have b__law_spec := F__law_spec.binds (ps := ["hand", "most"]) fun _ _ _ _ _ _ us hl => match us, hl with | [_, _], _ => rfl
  have F__law_outcomes := fun_mk (st := t__law_outcomes) l__law_outcomes cc__law_outcomes kk__law_outcomes
  have b__law_outcomes := F__law_outcomes.binds (ps := ["told"]) fun _ _ _ _ _ _ us hl => match us, hl with | [_], _ => rfl
  have F__law_wins := fun_mk (st := t__law_wins) l__law_wins cc__law_wins kk__law_wins
  have b__law_wins := F__law_wins.binds (ps := ["spec", "outcome"]) fun _ _ _ _ _ _ us hl => match us, hl with | [_, _], _ => rfl
  have F__law_magic := fun_mk (st := t__law_magic) l__law_magic cc__law_magic kk__law_magic
  have b__law_magic := F__law_magic.binds (ps := ["spec", "team"]) fun _ _ _ _ _ _ us hl => match us, hl with | [_, _], _ => rfl
  have F__law_won := fun_mk (st := t__law_won) l__law_won cc__law_won kk__law_won
  have b__law_won := F__law_won.binds (ps := ["spec", "team", "game", "is_won"]) fun _ _ _ _ _ _ us hl => match us, hl with | [_, _, _, _], _ => rfl
  have F_League_init := fun_mk (st := t_League_init) l_League_init cc_League_init kk_League_init
  have b_League_init := F_League_init.binds (ps := ["self", "teams", "games"]) fun _ _ _ _ _ _ us hl => match us, hl with | [_, _, _], _ => rfl
  have F__law_team_right := fun_mk (st := t__law_team_right) l__law_team_right cc__law_team_right kk__law_team_right
  have b__law_team_right := F__law_team_right.binds (ps := ["hand", "spec", "team"]) fun _ _ _ _ _ _ us hl => match us, hl with | [_, _, _], _ => rfl
  have F_law := fun_mk (st := t_law) l_law cc_law kk_law
  have b_law := F_law.binds (ps := ["script"]) fun _ _ _ _ _ _ us hl => match us, hl with | [_], _ => rfl
  have ok_League : ClsOk K C_League := clsOk_mk pg_League hd_League po_League sa_League ha_League hn_League ht_League hm_League c1_League c2_League i0_League i1_League i2_League i3_League i4_League i5_League i6_League i7_League i8_League t0_League t1_League t2_League t3_League t4_League t5_League t6_League t7_League t8_League n0_League n1_League n2_League n3_League n4_League n5_League n6_League
  have B0 : Base0 K mg ["abs", "all", "bool", "enumerate", "int", "isinstance", "len", "max", "range", "repr", "tuple", "zip"] [(("MOST_TEAMS" : Str), (8 : Int)), (("MOST_GAMES" : Str), (24 : Int))] [] ["League"] := by
    refine ⟨?_, ?_, ?_, ?_⟩
    · intro x h
      simp only [List.mem_cons, List.not_mem_nil, or_false] at h
      rcases h with rfl | rfl | rfl | rfl | rfl | rfl | rfl | rfl | rfl | rfl | rfl | rfl
      · exact PySem.W.mg_none_of X G z0
      · exact PySem.W.mg_none_of X G z1
      · exact PySem.W.mg_none_of X G z2
      · exact PySem.W.mg_none_of X G z3
      · exact PySem.W.mg_none_of X G z4
      · exact PySem.W.mg_none_of X G z5
      · exact PySem.W.mg_none_of X G z6
      · exact PySem.W.mg_none_of X G z7
      · exact PySem.W.mg_none_of X G z8
      · exact PySem.W.mg_none_of X G z9
      · exact PySem.W.mg_none_of X G z10
      · exact PySem.W.mg_none_of X G z11
    · intro p h
      simp only [List.mem_cons, List.not_mem_nil, or_false] at h
      rcases h with rfl | rfl
      · exact ⟨_, PySem.W.mg_of X G u0⟩
      · exact ⟨_, PySem.W.mg_of X G u1⟩
    · intro p h; cases h
    · intro x h
      simp only [List.mem_cons, List.not_mem_nil, or_false] at h
      rcases h with rfl
      · exact ⟨_, PySem.W.mg_of X G aC_League, ok_League⟩
  refine ⟨PySem.W.fnOf "law" "law" (defArgs t_law) (defBody t_law) (defScope t_law) .none kV_law dc_law pm_law an_law cd_law ct_law, fun s v => .of_eq rfl, fun base _ _ => ?_⟩
  have D_is_integer : DefOk P w K mg base 1 "is_integer" 1 g_is_integer := def_ok F_is_integer (PySem.W.mg_of X G a_is_integer) b_is_integer s_is_integer (link_of (k := 0) (L := L_is_integer) (c := c_is_integer) B0 .nil .nil) k_is_integer
  have D_is_within : DefOk P w K mg base 2 "is_within" 3 g_is_within := def_ok F_is_within (PySem.W.mg_of X G a_is_within) b_is_within s_is_within (link_of (k := 1) (L := L_is_within) (c := c_is_within) B0 (.cons D_is_integer (by decide) rfl .nil) .nil) k_is_within
  have D_is_pair_of : DefOk P w K mg base 3 "is_pair_of" 2 g_is_pair_of := def_ok F_is_pair_of (PySem.W.mg_of X G a_is_pair_of) b_is_pair_of s_is_pair_of (link_of (k := 2) (L := L_is_pair_of) (c := c_is_pair_of) B0 (.cons D_is_within (by decide) rfl .nil) .nil) k_is_pair_of
  have D_check_league : DefOk P w K mg base 1 "check_league" 1 g_check_league := def_ok F_check_league (PySem.W.mg_of X G a_check_league) b_check_league s_check_league (link_of (k := 0) (L := L_check_league) (c := c_check_league) B0 .nil .nil) k_check_league
  have D_is_team : DefOk P w K mg base 3 "is_team" 2 g_is_team := def_ok F_is_team (PySem.W.mg_of X G a_is_team) b_is_team s_is_team (link_of (k := 2) (L := L_is_team) (c := c_is_team) B0 (.cons D_is_within (by decide) rfl .nil) .nil) k_is_team
  have D_check_team : DefOk P w K mg base 4 "check_team" 2 g_check_team := def_ok F_check_team (PySem.W.mg_of X G a_check_team) b_check_team s_check_team (link_of (k := 3) (L := L_check_team) (c := c_check_team) B0 (.cons D_is_team (by decide) rfl .nil) .nil) k_check_team
  have D_everybody : DefOk P w K mg base 1 "everybody" 1 g_everybody := def_ok F_everybody (PySem.W.mg_of X G a_everybody) b_everybody s_everybody (link_of (k := 0) (L := L_everybody) (c := c_everybody) B0 .nil .nil) k_everybody
  have D_is_side : DefOk P w K mg base 3 "is_side" 1 g_is_side := def_ok F_is_side (PySem.W.mg_of X G a_is_side) b_is_side s_is_side (link_of (k := 2) (L := L_is_side) (c := c_is_side) B0 (.cons D_is_within (by decide) rfl .nil) .nil) k_is_side
  have D_are_results : DefOk P w K mg base 4 "are_results" 2 g_are_results := def_ok F_are_results (PySem.W.mg_of X G a_are_results) b_are_results s_are_results (link_of (k := 3) (L := L_are_results) (c := c_are_results) B0 (.cons D_is_side (by decide) rfl .nil) .nil) k_are_results
  have D_check_results : DefOk P w K mg base 5 "check_results" 2 g_check_results := def_ok F_check_results (PySem.W.mg_of X G a_check_results) b_check_results s_check_results (link_of (k := 4) (L := L_check_results) (c := c_check_results) B0 (.cons D_are_results (by decide) rfl (.cons D_check_league (by decide) rfl .nil)) .nil) k_check_results
  have D_open_of : DefOk P w K mg base 1 "open_of" 1 g_open_of := def_ok F_open_of (PySem.W.mg_of X G a_open_of) b_open_of s_open_of (link_of (k := 0) (L := L_open_of) (c := c_open_of) B0 .nil .nil) k_open_of
  have D_winner_of : DefOk P w K mg base 1 "winner_of" 3 g_winner_of := def_ok F_winner_of (PySem.W.mg_of X G a_winner_of) b_winner_of s_winner_of (link_of (k := 0) (L := L_winner_of) (c := c_winner_of) B0 .nil .nil) k_winner_of
  have D_decided_of : DefOk P w K mg base 1 "decided_of" 1 g_decided_of := def_ok F_decided_of (PySem.W.mg_of X G a_decided_of) b_decided_of s_decided_of (link_of (k := 0) (L := L_decided_of) (c := c_decided_of) B0 .nil .nil) k_decided_of
  have D_counted : DefOk P w K mg base 2 "counted" 2 g_counted := def_ok F_counted (PySem.W.mg_of X G a_counted) b_counted s_counted (link_of (k := 1) (L := L_counted) (c := c_counted) B0 (.cons D_everybody (by decide) rfl .nil) .nil) k_counted
  have D_wins_of : DefOk P w K mg base 3 "wins_of" 2 g_wins_of := def_ok F_wins_of (PySem.W.mg_of X G a_wins_of) b_wins_of s_wins_of (link_of (k := 2) (L := L_wins_of) (c := c_wins_of) B0 (.cons D_counted (by decide) rfl (.cons D_decided_of (by decide) rfl (.cons D_winner_of (by decide) rfl .nil))) .nil) k_wins_of
  have D_left_of : DefOk P w K mg base 3 "left_of" 2 g_left_of := def_ok F_left_of (PySem.W.mg_of X G a_left_of) b_left_of s_left_of (link_of (k := 2) (L := L_left_of) (c := c_left_of) B0 (.cons D_counted (by decide) rfl (.cons D_open_of (by decide) rfl .nil)) .nil) k_left_of
  have D_left : DefOk P w K mg base 6 "left" 2 g_left := def_ok F_left (PySem.W.mg_of X G a_left) b_left s_left (link_of (k := 5) (L := L_left) (c := c_left) B0 (.cons D_left_of (by decide) rfl (.cons D_check_results (by decide) rfl .nil)) .nil) k_left
  have D_best_wins : DefOk P w K mg base 4 "best_wins" 3 g_best_wins := def_ok F_best_wins (PySem.W.mg_of X G a_best_wins) b_best_wins s_best_wins (link_of (k := 3) (L := L_best_wins) (c := c_best_wins) B0 (.cons D_wins_of (by decide) rfl (.cons D_left_of (by decide) rfl .nil)) .nil) k_best_wins
  have D_meetings : DefOk P w K mg base 2 "meetings" 4 g_meetings := def_ok F_meetings (PySem.W.mg_of X G a_meetings) b_meetings s_meetings (link_of (k := 1) (L := L_meetings) (c := c_meetings) B0 (.cons D_open_of (by decide) rfl .nil) .nil) k_meetings
  have D_rival_most : DefOk P w K mg base 5 "rival_most" 5 g_rival_most := def_ok F_rival_most (PySem.W.mg_of X G a_rival_most) b_rival_most s_rival_most (link_of (k := 4) (L := L_rival_most) (c := c_rival_most) B0 (.cons D_best_wins (by decide) rfl (.cons D_left_of (by decide) rfl (.cons D_meetings (by decide) rfl .nil))) .nil) k_rival_most
  have D_is_safe : DefOk P w K mg base 6 "is_safe" 4 g_is_safe := def_ok F_is_safe (PySem.W.mg_of X G a_is_safe) b_is_safe s_is_safe (link_of (k := 5) (L := L_is_safe) (c := c_is_safe) B0 (.cons D_rival_most (by decide) rfl (.cons D_everybody (by decide) rfl (.cons D_wins_of (by decide) rfl .nil))) .nil) k_is_safe
  have D_magic_of : DefOk P w K mg base 7 "magic_of" 3 g_magic_of := def_ok F_magic_of (PySem.W.mg_of X G a_magic_of) b_magic_of s_magic_of (link_of (k := 6) (L := L_magic_of) (c := c_magic_of) B0 (.cons D_left_of (by decide) rfl (.cons D_is_safe (by decide) rfl .nil)) .nil) k_magic_of
  have D_magic : DefOk P w K mg base 8 "magic" 3 g_magic := def_ok F_magic (PySem.W.mg_of X G a_magic) b_magic s_magic (link_of (k := 7) (L := L_magic) (c := c_magic) B0 (.cons D_magic_of (by decide) rfl (.cons D_check_team (by decide) rfl (.cons D_check_results (by decide) rfl .nil))) .nil) k_magic
  have D_surely_first : DefOk P w K mg base 7 "surely_first" 2 g_surely_first := def_ok F_surely_first (PySem.W.mg_of X G a_surely_first) b_surely_first s_surely_first (link_of (k := 6) (L := L_surely_first) (c := c_surely_first) B0 (.cons D_everybody (by decide) rfl (.cons D_is_safe (by decide) rfl (.cons D_check_results (by decide) rfl .nil))) .nil) k_surely_first
  have D__law_hand : DefOk P w K mg base 1 "_law_hand" 1 g__law_hand := def_ok F__law_hand (PySem.W.mg_of X G a__law_hand) b__law_hand s__law_hand (link_of (k := 0) (L := L__law_hand) (c := c__law_hand) B0 .nil .nil) k__law_hand
  have D__law_draw : DefOk P w K mg base 1 "_law_draw" 2 g__law_draw := def_ok F__law_draw (PySem.W.mg_of X G a__law_draw) b__law_draw s__law_draw (link_of (k := 0) (L := L__law_draw) (c := c__law_draw) B0 .nil .nil) k__law_draw
  have D__law_any : DefOk P w K mg base 2 "_law_any" 2 g__law_any := def_ok F__law_any (PySem.W.mg_of X G a__law_any) b__law_any s__law_any (link_of (k := 1) (L := L__law_any) (c := c__law_any) B0 (.cons D__law_draw (by decide) rfl .nil) .nil) k__law_any
  have D__law_spec : DefOk P w K mg base 3 "_law_spec" 2 g__law_spec := def_ok F__law_spec (PySem.W.mg_of X G a__law_spec) b__law_spec s__law_spec (link_of (k := 2) (L := L__law_spec) (c := c__law_spec) B0 (.cons D__law_draw (by decide) rfl (.cons D__law_any (by decide) rfl .nil)) .nil) k__law_spec
  have D__law_outcomes : DefOk P w K mg base 1 "_law_outcomes" 1 g__law_outcomes := def_ok F__law_outcomes (PySem.W.mg_of X G a__law_outcomes) b__law_outcomes s__law_outcomes (link_of (k := 0) (L := L__law_outcomes) (c := c__law_outcomes) B0 .nil .nil) k__law_outcomes
  have D__law_wins : DefOk P w K mg base 1 "_law_wins" 2 g__law_wins := def_ok F__law_wins (PySem.W.mg_of X G a__law_wins) b__law_wins s__law_wins (link_of (k := 0) (L := L__law_wins) (c := c__law_wins) B0 .nil .nil) k__law_wins
  have D__law_magic : DefOk P w K mg base 2 "_law_magic" 2 g__law_magic := def_ok F__law_magic (PySem.W.mg_of X G a__law_magic) b__law_magic s__law_magic (link_of (k := 1) (L := L__law_magic) (c := c__law_magic) B0 (.cons D__law_outcomes (by decide) rfl (.cons D__law_wins (by decide) rfl .nil)) .nil) k__law_magic
  have D__law_won : DefOk P w K mg base 1 "_law_won" 4 g__law_won := def_ok F__law_won (PySem.W.mg_of X G a__law_won) b__law_won s__law_won (link_of (k := 0) (L := L__law_won) (c := c__law_won) B0 .nil .nil) k__law_won
  have D_League_init : ClsMk P w K mg base 5 "League" 2 g_League_init := cls_ok F_League_init (PySem.W.mg_of X G aC_League) ok_League ⟨mk_League, a_League_init, if_League_init, kC_League⟩ b_League_init rfl s_League_init (link_of (k := 3) (L := L_League_init) (c := c_League_init) B0 (.cons D_is_pair_of (by decide) rfl (.cons D_is_within (by decide) rfl .nil)) .nil) rfl k_League_init
  have D__law_team_right : DefOk P w K mg base 9 "_law_team_right" 3 g__law_team_right := def_ok F__law_team_right (PySem.W.mg_of X G a__law_team_right) b__law_team_right s__law_team_right (link_of (k := 8) (L := L__law_team_right) (c := c__law_team_right) B0 (.cons D_magic (by decide) rfl (.cons D__law_won (by decide) rfl (.cons D__law_any (by decide) rfl (.cons D_left (by decide) rfl (.cons D_surely_first (by decide) rfl (.cons D__law_magic (by decide) rfl .nil)))))) (.cons D_League_init (by decide) rfl .nil)) k__law_team_right
  have L_law : Link P w K mg base L_law c_law 9 := (link_of (k := 9) (L := L_law) (c := c_law) B0 (.cons D__law_team_right (by decide) rfl (.cons D__law_spec (by decide) rfl (.cons D_magic (by decide) rfl (.cons D__law_hand (by decide) rfl .nil)))) (.cons D_League_init (by decide) rfl .nil))
  exact fn_g l_law cc_law s_law L_law k_law

end DK
end

section
namespace DK
open PySem DL
@[simp] theorem q_is_within_1 : L_is_within.fns 1 = some g_is_integer := nr rfl
@[simp] theorem q_is_pair_of_3 : L_is_pair_of.fns 3 = some g_is_within := nr rfl
@[simp] theorem q_is_team_3 : L_is_team.fns 3 = some g_is_within := nr rfl
@[simp] theorem q_check_team_23 : L_check_team.fns 23 = some g_is_team := nr rfl
@[simp] theorem q_is_side_3 : L_is_side.fns 3 = some g_is_within := nr rfl
@[simp] theorem q_are_results_4 : L_are_results.fns 4 = some g_is_side := nr rfl
@[simp] theorem q_check_results_6 : L_check_results.fns 6 = some g_are_results := nr rfl
@[simp] theorem q_check_results_0 : L_check_results.fns 0 = some g_check_league := nr rfl
@[simp] theorem q_counted_5 : L_counted.fns 5 = some g_everybody := nr rfl
@[simp] theorem q_wins_of_10 : L_wins_of.fns 10 = some g_counted := nr rfl
@[simp] theorem q_wins_of_8 : L_wins_of.fns 8 = some g_decided_of := nr rfl
@[simp] theorem q_wins_of_9 : L_wins_of.fns 9 = some g_winner_of := nr rfl
@[simp] theorem q_left_of_10 : L_left_of.fns 10 = some g_counted := nr rfl
@[simp] theorem q_left_of_11 : L_left_of.fns 11 = some g_open_of := nr rfl
@[simp] theorem q_left_24 : L_left.fns 24 = some g_left_of := nr rfl
@[simp] theorem q_left_7 : L_left.fns 7 = some g_check_results := nr rfl
@[simp] theorem q_best_wins_12 : L_best_wins.fns 12 = some g_wins_of := nr rfl
@[simp] theorem q_best_wins_24 : L_best_wins.fns 24 = some g_left_of := nr rfl
@[simp] theorem q_meetings_11 : L_meetings.fns 11 = some g_open_of := nr rfl
@[simp] theorem q_rival_most_38 : L_rival_most.fns 38 = some g_best_wins := nr rfl
@[simp] theorem q_rival_most_24 : L_rival_most.fns 24 = some g_left_of := nr rfl
@[simp] theorem q_rival_most_68 : L_rival_most.fns 68 = some g_meetings := nr rfl
@[simp] theorem q_is_safe_69 : L_is_safe.fns 69 = some g_rival_most := nr rfl
@[simp] theorem q_is_safe_5 : L_is_safe.fns 5 = some g_everybody := nr rfl
@[simp] theorem q_is_safe_12 : L_is_safe.fns 12 = some g_wins_of := nr rfl
@[simp] theorem q_magic_of_24 : L_magic_of.fns 24 = some g_left_of := nr rfl
@[simp] theorem q_magic_of_67 : L_magic_of.fns 67 = some g_is_safe := nr rfl
@[simp] theorem q_magic_108 : L_magic.fns 108 = some g_magic_of := nr rfl
@[simp] theorem q_magic_22 : L_magic.fns 22 = some g_check_team := nr rfl
@[simp] theorem q_magic_7 : L_magic.fns 7 = some g_check_results := nr rfl
@[simp] theorem q_surely_first_5 : L_surely_first.fns 5 = some g_everybody := nr rfl
@[simp] theorem q_surely_first_67 : L_surely_first.fns 67 = some g_is_safe := nr rfl
@[simp] theorem q_surely_first_7 : L_surely_first.fns 7 = some g_check_results := nr rfl
@[simp] theorem q__law_any_41 : L__law_any.fns 41 = some g__law_draw := nr rfl
@[simp] theorem q__law_spec_41 : L__law_spec.fns 41 = some g__law_draw := nr rfl
@[simp] theorem q__law_spec_13 : L__law_spec.fns 13 = some g__law_any := nr rfl
@[simp] theorem q__law_magic_71 : L__law_magic.fns 71 = some g__law_outcomes := nr rfl
@[simp] theorem q__law_magic_232 : L__law_magic.fns 232 = some g__law_wins := nr rfl
@[simp] theorem q_League_init_2 : L_League_init.fns 2 = some g_is_pair_of := nr rfl
@[simp] theorem q_League_init_3 : L_League_init.fns 3 = some g_is_within := nr rfl
@[simp] theorem q__law_team_right_148 : L__law_team_right.fns 148 = some g_magic := nr rfl
@[simp] theorem q__law_team_right_1270 : L__law_team_right.fns 1270 = some g__law_won := nr rfl
@[simp] theorem q__law_team_right_13 : L__law_team_right.fns 13 = some g__law_any := nr rfl
@[simp] theorem q__law_team_right_122 : L__law_team_right.fns 122 = some g_left := nr rfl
@[simp] theorem q__law_team_right_89 : L__law_team_right.fns 89 = some g_surely_first := nr rfl
@[simp] theorem q__law_team_right_1050 : L__law_team_right.fns 1050 = some g__law_magic := nr rfl
@[simp] theorem qc__law_team_right_0 : L__law_team_right.cls 0 = some g_League_init := nr rfl
@[simp] theorem q_law_1228 : L_law.fns 1228 = some g__law_team_right := nr rfl
@[simp] theorem q_law_94 : L_law.fns 94 = some g__law_spec := nr rfl
@[simp] theorem q_law_148 : L_law.fns 148 = some g_magic := nr rfl
@[simp] theorem q_law_799 : L_law.fns 799 = some g__law_hand := nr rfl
@[simp] theorem qc_law_0 : L_law.cls 0 = some g_League_init := nr rfl
end DK
end

section
/-! Leagues: what is counted. -/
namespace DL
open PySem
abbrev Rows := List ((Nat × Nat) × Option Bool)
def pick (g : Nat × Nat) (b : Bool) : Nat := if b then g.2 else g.1
def one (c : Prop) [Decidable c] : Nat := if c then 1 else 0
/-- wins of a team -/
def W : Rows → Nat → Nat
  | [], _ => 0
  | (g, none) :: z, t => W z t
  | (g, some c) :: z, t => W z t + one (pick g c = t)
/-- open games of a team -/
def Lf : Rows → Nat → Nat
  | [], _ => 0
  | (g, none) :: z, t => Lf z t + one (g.1 = t) + one (g.2 = t)
  | (g, some c) :: z, t => Lf z t
/-- open games of two teams -/
def Me : Rows → Nat → Nat → Nat
  | [], _, _ => 0
  | (g, none) :: z, s, t => Me z s t + one ((g.1 = s ∨ g.2 = s) ∧ (g.1 = t ∨ g.2 = t))
  | (g, some c) :: z, s, t => Me z s t
def opens (rs : List (Option Bool)) : List Nat := (enumN 0 rs).filterMap fun p => if p.2.isNone then some p.1 else none
def decs (rs : List (Option Bool)) : List Nat := (enumN 0 rs).filterMap fun p => if p.2.isNone then none else some p.1
theorem filterMap_dN {α : Type} (F : α → Option Nat) (zs : List α) : zs.filterMap (fun z => (F z).map dN) = dNs (zs.filterMap F) := by
  unfold dNs; rw [List.map_filterMap]
theorem enumN_get {α : Type} : ∀ (R : List α) (k : Nat) (p : Nat × α), p ∈ enumN k R → k ≤ p.1 ∧ R[p.1 - k]? = some p.2
  | x :: xs, k, p, h => by
    cases h with
    | head => exact ⟨Nat.le_refl _, by simp⟩
    | tail _ h =>
      obtain ⟨h1, h2⟩ := enumN_get xs (k + 1) p h
      refine ⟨by omega, ?_⟩
      have : p.1 - k = (p.1 - (k + 1)) + 1 := by omega
      rw [this, List.getElem?_cons_succ]; exact h2
theorem enumN_get0 {α : Type} {R : List α} {p : Nat × α} (h : p ∈ enumN 0 R) : R[p.1]? = some p.2 := by
  have := (enumN_get R 0 p h).2; simpa using this
theorem enum_zip {α β γ : Type} (Gf : List α) (H : α → β → Option γ) : ∀ (R : List β) (G : List α) (k : Nat), Gf.drop k = G → R.length = G.length →
    (enumN k R).filterMap (fun p => (Gf[p.1]?).bind fun g => H g p.2) = (G.zip R).filterMap fun q => H q.1 q.2
  | [], [], _, _, _ => rfl
  | [], _ :: _, _, _, h => by simp at h
  | _ :: _, [], _, _, h => by simp at h
  | y :: R, x :: G, k, hd, hl => by
    have hk : Gf[k]? = some x := by
      have : (Gf.drop k)[0]? = some x := by rw [hd]; rfl
      simpa using this
    have hd' : Gf.drop (k + 1) = G := by
      have : (Gf.drop k).drop 1 = G := by rw [hd]; rfl
      rw [List.drop_drop] at this; exact this
    have ih := enum_zip Gf H R G (k + 1) hd' (by simpa using hl)
    simp only [enumN, List.zip_cons_cons, List.filterMap_cons, hk, Option.bind_some, ih]
theorem filterMap_congr' {α β : Type} {f g : α → Option β} : ∀ {l : List α}, (∀ x ∈ l, f x = g x) → l.filterMap f = l.filterMap g
  | [], _ => rfl
  | x :: l, h => by
    have := filterMap_congr' (f := f) (g := g) (l := l) fun y hy => h y (List.mem_cons_of_mem _ hy)
    simp only [List.filterMap_cons, h x (List.mem_cons_self ..), this]
theorem enum_opens {γ : Type} (gs : List (Nat × Nat)) (rs : List (Option Bool)) (hl : rs.length = gs.length) (H : Nat → Nat × Nat → Option γ) (hH : ∀ i j g, H i g = H j g) :
    (opens rs).filterMap (fun i => (gs[i]?).bind (H i)) = (gs.zip rs).filterMap fun q => if q.2.isNone then H 0 q.1 else none := by
  unfold opens
  rw [List.filterMap_filterMap, ← enum_zip gs (fun g r => if r.isNone then H 0 g else none) rs gs 0 rfl hl]
  apply filterMap_congr'
  intro p hp
  cases p.2.isNone with
  | false => simp
  | true =>
    have : H p.1 = H 0 := by funext g; exact hH _ _ g
    simp [this]
/-- the winner -/
def winAt (gs : List (Nat × Nat)) (rs : List (Option Bool)) (i : Nat) : Option Nat := (gs[i]?).bind fun g => (rs[i]?).bind fun r => r.map (pick g)
theorem enum_decs (gs : List (Nat × Nat)) (rs : List (Option Bool)) (hl : rs.length = gs.length) :
    (decs rs).filterMap (winAt gs rs) = (gs.zip rs).filterMap fun q => q.2.map (pick q.1) := by
  unfold decs
  rw [List.filterMap_filterMap, ← enum_zip gs (fun g r => r.map (pick g)) rs gs 0 rfl hl]
  apply filterMap_congr'
  intro p hp
  have h1 := enumN_get0 hp
  unfold winAt
  cases h : p.2 with
  | none => simp
  | some b =>
    rw [h] at h1
    simp [h1]
theorem W_count : ∀ (z : Rows) (t : Nat), (z.filterMap fun q => q.2.map (pick q.1)).count t = W z t
  | [], _ => rfl
  | (g, none) :: z, t => by
    have := W_count z t
    simpa [W] using this
  | (g, some c) :: z, t => by
    have := W_count z t
    simp only [List.filterMap_cons, Option.map_some, List.count_cons, this, W, one]
    simp
theorem Lf_count : ∀ (z : Rows) (t : Nat), ((z.filterMap fun q => if q.2.isNone then some [q.1.1, q.1.2] else none).flatten).count t = Lf z t
  | [], _ => rfl
  | (g, none) :: z, t => by
    have := Lf_count z t
    simp [List.filterMap_cons, List.count_cons, Lf, one, this, -Option.isNone_iff_eq_none]; omega
  | (g, some c) :: z, t => by
    have := Lf_count z t
    simpa [Lf] using this
theorem Me_len {γ : Type} (x : Nat × Nat → γ) : ∀ (z : Rows) (s t : Nat), (z.filterMap fun q => if q.2.isNone then (if (q.1.1 = s ∨ q.1.2 = s) ∧ (q.1.1 = t ∨ q.1.2 = t) then some (x q.1) else none) else none).length = Me z s t
  | [], _, _ => rfl
  | (g, none) :: z, s, t => by
    have := Me_len x z s t
    by_cases h : (g.1 = s ∨ g.2 = s) ∧ (g.1 = t ∨ g.2 = t)
    · simp [List.filterMap_cons, Me, one, h, this, -Option.isNone_iff_eq_none]
    · simp [List.filterMap_cons, Me, one, h, this, -Option.isNone_iff_eq_none]
  | (g, some c) :: z, s, t => by
    have := Me_len x z s t
    simpa [Me] using this
@[simp] theorem length_dNs (ns : List Nat) : (dNs ns).length = ns.length := by simp [dNs]
theorem get_dNs (ns : List Nat) (i : Nat) : (dNs ns)[i]? = (ns[i]?).map dN := by simp [dNs]
/-- the row of all teams' numbers -/
def dT (T : Nat) (f : Nat → Nat) : D := .tup (dNs ((List.range T).map f))
theorem sub_dT {T t : Nat} (f : Nat → Nat) (h : t < T) : subD (dT T f) (.int t) = some (.int (f t)) := by
  apply subD_tup
  rw [get_dNs, List.getElem?_map, List.getElem?_range h]; rfl
theorem inD_dg (t : Nat) (g : Nat × Nat) : inD (.int t) (dg g) = some (decide (g.1 = t ∨ g.2 = t)) := by
  simp [inD, dg, D.py, D.pyAll, SeqAt.shaped, PyData.canLay0, PyData.canLayAll0, PyData.depth, PyData.depthAll, PyData.eqv]
  by_cases h1 : g.1 = t <;> by_cases h2 : g.2 = t <;> simp [h1, h2] <;> omega
theorem winAt_some {gs : List (Nat × Nat)} {rs : List (Option Bool)} (hl : rs.length = gs.length) {i : Nat} (h : i ∈ decs rs) : ∃ w, winAt gs rs i = some w := by
  unfold decs at h
  obtain ⟨p, hp, h⟩ := List.mem_filterMap.1 h
  have h1 := enumN_get0 hp
  cases e : p.2 with
  | none => simp [e] at h
  | some b =>
    simp [e] at h
    subst h
    have h2 : p.1 < gs.length := by rw [← hl]; exact (List.getElem?_eq_some_iff.1 h1).1
    refine ⟨pick gs[p.1] b, ?_⟩
    unfold winAt
    simp [h1, e, h2]
theorem opens_get {rs : List (Option Bool)} {gs : List (Nat × Nat)} (hl : rs.length = gs.length) {i : Nat} (h : i ∈ opens rs) : ∃ g, gs[i]? = some g ∧ rs[i]? = some none := by
  unfold opens at h
  obtain ⟨p, hp, h⟩ := List.mem_filterMap.1 h
  have h1 := enumN_get0 hp
  cases e : p.2 with
  | some b => simp [e] at h
  | none =>
    simp [e] at h
    subst h
    have h2 : p.1 < gs.length := by rw [← hl]; exact (List.getElem?_eq_some_iff.1 h1).1
    exact ⟨gs[p.1], by simp [h2], by rw [h1, e]⟩
theorem enum_opens' {γ : Type} (gs : List (Nat × Nat)) (rs : List (Option Bool)) (hl : rs.length = gs.length) (H : Nat × Nat → Option γ) :
    (opens rs).filterMap (fun i => (gs[i]?).bind H) = (gs.zip rs).filterMap fun q => if q.2.isNone then H q.1 else none :=
  enum_opens gs rs hl (fun _ => H) fun _ _ _ => rfl
/-- the most wins of a rival -/
def rv (z : Rows) (t s : Nat) (m : Int) : Int := (W z s + Lf z s : Int) - max 0 (m - (Lf z t - Me z t s))
def safe (T : Nat) (z : Rows) (t : Nat) (m : Nat) : Bool := ((List.range T).filterMap fun s => if s = t then none else some s).all fun s => decide (rv z t s m ≤ W z t + m)
def magicN (T : Nat) (z : Rows) (t : Nat) : Option Nat := ((List.range (Lf z t + 1)).filter (safe T z t)).head?
def dO : Option Nat → D
  | none => .non
  | some n => .int n
theorem Lf_le : ∀ (z : Rows) (t : Nat), Lf z t ≤ 2 * z.length
  | [], _ => by simp [Lf]
  | (g, none) :: z, t => by
    have := Lf_le z t
    simp only [Lf, List.length_cons, one]
    split <;> split <;> omega
  | (g, some c) :: z, t => by
    have := Lf_le z t
    simp only [Lf, List.length_cons]
    omega
theorem eqD_nil (ns : List Nat) : eqD (.lst (dNs ns)) (.lst []) = some ns.isEmpty := by
  unfold eqD
  have h1 : (D.lst (dNs ns)).py = some (.list (ns.map fun n : Nat => PyData.int n)) := by simp [D.py, pyAll_dNs]
  have h2 : (D.lst []).py = some (.list []) := by simp [D.py, D.pyAll]
  have h3 := depthAll_dNs ns
  have h4 : SeqAt.shaped (.list (ns.map fun n : Nat => PyData.int n)) = true := by
    simp only [SeqAt.shaped, PyData.canLay0, canLay_dNs, PyData.depth, Bool.true_and]
    exact decide_eq_true (by omega)
  have h5 : SeqAt.shaped (.list []) = true := by
    simp [SeqAt.shaped, PyData.canLay0, PyData.canLayAll0, PyData.depth, PyData.depthAll]
  rw [h1, h2]
  simp only [h4, h5, Bool.and_self, if_true]
  cases ns <;> simp [PyData.eqv, PyData.eqvAll]
theorem zip_len {gs : List (Nat × Nat)} {rs : List (Option Bool)} (hl : rs.length = gs.length) : (gs.zip rs).length = gs.length := by
  rw [List.length_zip]; omega
theorem opens_len : ∀ (rs : List (Option Bool)), (opens rs).length ≤ rs.length := by
  intro rs
  have h : ∀ (k : Nat) (l : List (Option Bool)), (enumN k l).length = l.length := by
    intro k l
    induction l generalizing k with
    | nil => rfl
    | cons x xs ih => simp [enumN, ih]
  have := List.length_filterMap_le (fun p : Nat × Option Bool => if p.2.isNone then some p.1 else none) (enumN 0 rs)
  rw [h] at this; exact this
theorem flat2_len {α : Type} (l : List α) (F : α → Option (List Nat)) (h : ∀ x ∈ l, ∀ y, F x = some y → y.length ≤ 2) : (l.filterMap F).flatten.length ≤ 2 * l.length := by
  induction l with
  | nil => simp
  | cons x xs ih =>
    have i := ih fun y hy => h y (List.mem_cons_of_mem _ hy)
    have j := h x (List.mem_cons_self ..)
    cases e : F x with
    | none => rw [List.filterMap_cons_none e, List.length_cons]; omega
    | some y =>
      have := j y e
      rw [List.filterMap_cons_some e, List.flatten_cons, List.length_append, List.length_cons]; omega
end DL
end

section
namespace DK
open PySem DL
@[simp] theorem sp_is_integer (i : Int) (S : Store) : g_is_integer [.d (.int i)] S = .ok (.bl true) S := by
  simp [g_is_integer, runF, i_is_integer]
@[simp] theorem sp_is_within (i lo hi : Int) (S : Store) : g_is_within [.d (.int i), .d (.int lo), .d (.int hi)] S = .ok (.bl (decide (lo ≤ i ∧ i ≤ hi))) S := by
  simp [g_is_within, runF, i_is_within]
@[simp] theorem sp_is_pair_of (a b T : Nat) (S : Store) (h1 : a < b) (h2 : b < T) : g_is_pair_of [.d (dg (a, b)), .d (.int T)] S = .ok (.bl true) S := by
  have hl := lc_pure dN (fun n => some (.bl true)) [a, b] (L := L_is_pair_of) (own := [2]) (tg := .one 2) (it := .var 0) (ifs := .no) (elt := .call 3 (.cons (.var 2) (.cons (.cint 0) (.cons (.bin .sub (.var 1) (.cint 1)) .nil))))
    (r := [.d (dg (a, b)), .d (.int T), .none]) (S := S) (r1 := [.d (dg (a, b)), .d (.int T), .none]) (S1 := S) (by simp [dg, dN]) rfl (by
      intro z hz
      have : z < T := by simp at hz; omega
      simp [wipeS, dN]
      omega)
  have e1 : subD (dg (a, b)) (.int 0) = some (.int a) := rfl
  have e2 : subD (dg (a, b)) (.int 1) = some (.int b) := rfl
  have e3 : b1 .len (dg (a, b)) = some (.d (.int 2)) := rfl
  have e4 : isi (dg (a, b)) (.ty "tuple") = some true := isi_tup_tuple _
  have e5 : b1 .all (.lst [D.bl true, D.bl true]) = some (.d (.bl true)) := rfl
  simp [g_is_pair_of, runF, i_is_pair_of, hl, e1, e2, e3, e4, e5]
  omega
@[simp] theorem sp_check_league (T : Nat) (gs : List (Nat × Nat)) (S : Store) : g_check_league [.d (dL T gs)] S = .ok .non S := by
  simp [g_check_league, runF, i_check_league]
@[simp] theorem sp_is_team (T t : Nat) (gs : List (Nat × Nat)) (S : Store) (h : t < T) : g_is_team [.d (dL T gs), .d (.int t)] S = .ok (.bl true) S := by
  simp [g_is_team, runF, i_is_team]; omega
@[simp] theorem sp_check_team (T t : Nat) (gs : List (Nat × Nat)) (S : Store) (h : t < T) : g_check_team [.d (dL T gs), .d (.int t)] S = .ok .non S := by
  simp [g_check_team, runF, i_check_team, h]
@[simp] theorem sp_everybody (T : Nat) (gs : List (Nat × Nat)) (S : Store) (h : T ≤ 8) : g_everybody [.d (dL T gs)] S = .ok (.tup (dNs (List.range T))) S := by
  have e := rngOf_dN T (by omega)
  have : szOk T = true := szOk_of (by omega)
  simp [g_everybody, runF, i_everybody, e, this]
@[simp] theorem sp_is_side (b : Bool) (S : Store) : g_is_side [.d (ds (some b))] S = .ok (.bl true) S := by
  cases b <;> simp [g_is_side, runF, i_is_side, ds]
@[simp] theorem sp_are_results (T : Nat) (gs : List (Nat × Nat)) (rs : List (Option Bool)) (S : Store) (h : rs.length = gs.length) : g_are_results [.d (dL T gs), .d (dR rs)] S = .ok (.bl true) S := by
  have hl := lc_pure ds (fun n => some (.bl true)) rs (L := L_are_results) (own := [2]) (tg := .one 2) (it := .var 1) (ifs := .no) (elt := .or (.cmp .isnone (.var 2) .cnon) (.call 4 (.cons (.var 2) .nil)))
    (r := [.d (dL T gs), .d (dR rs), .none]) (S := S) (r1 := [.d (dL T gs), .d (dR rs), .none]) (S1 := S) (by simp [dR]) rfl (by
      intro z hz
      cases z with
      | none => simp [wipeS, ds]
      | some b => simp [wipeS])
  have e3 : b1 .len (dR rs) = some (.d (.int rs.length)) := by simp [dR]
  have e4 : isi (dR rs) (.ty "tuple") = some true := isi_tup_tuple _
  have e5 : rs.all (fun _ => true) = true := by simp
  simp [g_are_results, runF, i_are_results, hl, e3, e4, e5, h]
@[simp] theorem sp_check_results (T : Nat) (gs : List (Nat × Nat)) (rs : List (Option Bool)) (S : Store) (h : rs.length = gs.length) : g_check_results [.d (dL T gs), .d (dR rs)] S = .ok .non S := by
  simp [g_check_results, runF, i_check_results, h]
@[simp] theorem sp_open_of (rs : List (Option Bool)) (S : Store) : g_open_of [.d (dR rs)] S = .fresh (dNs (opens rs)) S := by
  have hl := lc_pure (fun p : Nat × Option Bool => .tup [.int p.1, ds p.2]) (fun p => (if p.2.isNone then some p.1 else none).map dN) (enumN 0 rs) (L := L_open_of) (own := [1, 2]) (tg := .many [1, 2])
    (it := .enum (.var 0)) (ifs := .cmp .isnone (.var 2) .cnon) (elt := .var 1)
    (r := [.d (dR rs), .none, .none]) (S := S) (r1 := [.d (dR rs), .none, .none]) (S1 := S) (by simp [dR, enumL_map0]) rfl (by
      intro z hz
      cases h : z.2 <;> simp [wipeS, h, dN])
  rw [filterMap_dN] at hl
  simp [g_open_of, runF, i_open_of, hl, opens]
@[simp] theorem sp_decided_of (rs : List (Option Bool)) (S : Store) : g_decided_of [.d (dR rs)] S = .fresh (dNs (decs rs)) S := by
  have hl := lc_pure (fun p : Nat × Option Bool => .tup [.int p.1, ds p.2]) (fun p => (if p.2.isNone then none else some p.1).map dN) (enumN 0 rs) (L := L_decided_of) (own := [1, 2]) (tg := .many [1, 2])
    (it := .enum (.var 0)) (ifs := .cmp .notnone (.var 2) .cnon) (elt := .var 1)
    (r := [.d (dR rs), .none, .none]) (S := S) (r1 := [.d (dR rs), .none, .none]) (S1 := S) (by simp [dR, enumL_map0]) rfl (by
      intro z hz
      cases h : z.2 <;> simp [wipeS, h, dN])
  rw [filterMap_dN] at hl
  simp [g_decided_of, runF, i_decided_of, hl, decs]
@[simp] theorem sp_winner_of (T : Nat) (gs : List (Nat × Nat)) (rs : List (Option Bool)) (S : Store) (i w : Nat) (h : winAt gs rs i = some w) : g_winner_of [.d (dL T gs), .d (dR rs), .d (.int i)] S = .ok (dN w) S := by
  unfold winAt at h
  obtain ⟨g, h1, h⟩ := Option.bind_eq_some_iff.1 h
  obtain ⟨r, h2, h⟩ := Option.bind_eq_some_iff.1 h
  obtain ⟨b, rfl, h3⟩ := Option.map_eq_some_iff.1 h
  have e1 : subD (.tup (gs.map dg)) (.int i) = some (dg g) := subD_tup (by simp [h1])
  have e2 : subD (dR rs) (.int i) = some (ds (some b)) := subD_tup (by simp [h2])
  have e3 : subD (dg g) (ds (some b)) = some (dN w) := by subst h3; cases b <;> rfl
  simp [g_winner_of, runF, i_winner_of, e1, e2, e3]
@[simp] theorem sp_counted (T : Nat) (gs : List (Nat × Nat)) (ns : List Nat) (S : Store) (h : T ≤ 8) : g_counted [.d (dL T gs), .d (.lst (dNs ns))] S = .ok (dT T fun t => ns.count t) S := by
  have hl := lc_pure dN (fun t => (some (ns.count t)).map dN) (List.range T) (L := L_counted) (own := [2]) (tg := .one 2)
    (it := .call 5 (.cons (.var 0) .nil)) (ifs := .no) (elt := .meth .count (.var 1) (.cons (.var 2) .nil))
    (r := [.d (dL T gs), .d (.lst (dNs ns)), .none]) (S := S) (r1 := [.d (dL T gs), .d (.lst (dNs ns)), .none]) (S1 := S) (by simp [h, dNs]) rfl (by
      intro z hz
      have : mtD .count (dNs ns) [dN z] = some (dN (ns.count z)) := by
        simp [mtD, cntD_dNs]; rfl
      simp [wipeS, this])
  rw [filterMap_dN] at hl
  simp [g_counted, runF, i_counted, hl, dT]
@[simp] theorem sp_wins_of (T : Nat) (gs : List (Nat × Nat)) (rs : List (Option Bool)) (S : Store) (h : T ≤ 8) (h' : rs.length = gs.length) : g_wins_of [.d (dL T gs), .d (dR rs)] S = .ok (dT T (W (gs.zip rs))) S := by
  have hl := lc_pure dN (fun i => (winAt gs rs i).map dN) (decs rs) (L := L_wins_of) (own := [2]) (tg := .one 2)
    (it := .call 8 (.cons (.var 1) .nil)) (ifs := .no) (elt := .call 9 (.cons (.var 0) (.cons (.var 1) (.cons (.var 2) .nil))))
    (r := [.d (dL T gs), .d (dR rs), .none]) (S := S) (r1 := [.d (dL T gs), .d (dR rs), .none]) (S1 := S) (by simp [dNs]) rfl (by
      intro z hz
      obtain ⟨w, hw⟩ := winAt_some h' hz
      simp [wipeS, hw, dN])
  rw [filterMap_dN, enum_decs gs rs h'] at hl
  have e : (fun t => ((gs.zip rs).filterMap fun q => q.2.map (pick q.1)).count t) = W (gs.zip rs) := by funext t; exact W_count _ _
  simp [g_wins_of, runF, i_wins_of, hl, h, e]
end DK
end

section
namespace DK
open PySem DL
@[simp] theorem sp_left_of (T : Nat) (gs : List (Nat × Nat)) (rs : List (Option Bool)) (S : Store) (h : T ≤ 8) (h' : rs.length = gs.length) (hg : gs.length ≤ 24) : g_left_of [.d (dL T gs), .d (dR rs)] S = .ok (dT T (Lf (gs.zip rs))) S := by
  let F : Nat → Option (List Nat) := fun i => (gs[i]?).bind fun g => some [g.1, g.2]
  have hf : ((opens rs).filterMap F).flatten = ((gs.zip rs).filterMap fun q => if q.2.isNone then some [q.1.1, q.1.2] else none).flatten := by
    rw [enum_opens' gs rs h' fun g => some [g.1, g.2]]
  have hF : ((opens rs).filterMap fun i => (F i).map dNs).flatten = dNs ((opens rs).filterMap F).flatten := by
    unfold dNs
    rw [List.map_flatten, List.map_filterMap]
  have hlen : ((opens rs).filterMap F).flatten.length ≤ 48 := by
    have h1 := flat2_len (opens rs) F (by
      intro x _ y hy
      obtain ⟨g, _, h2⟩ := Option.bind_eq_some_iff.1 hy
      cases h2; simp)
    have := opens_len rs
    omega
  have hl := lc2_pure dN (fun i => (F i).map dNs) (opens rs) (L := L_left_of) (own := [2, 3]) (own1 := [3]) (tg := .one 2)
    (it := .call 11 (.cons (.var 1) .nil)) (ifs := .no) (tg1 := .one 3) (it1 := .sub (.attr (.var 0) "games") (.var 2)) (ifs1 := .no) (elt := .var 3)
    (r := [.d (dL T gs), .d (dR rs), .none, .none]) (S := S) (r1 := [.d (dL T gs), .d (dR rs), .none, .none]) (S1 := S) (by simp [dNs]) rfl (by
      rw [hF, length_dNs]; exact szOk_of (by omega)) (by
      intro z hz
      obtain ⟨g, h1, _⟩ := opens_get h' hz
      have e1 : subD (.tup (gs.map dg)) (.int z) = some (dg g) := subD_tup (by simp [h1])
      have e2 : itemsOf (dg g) = some ([g.1, g.2].map dN) := rfl
      have hp := inBlk_pure dN (fun t => some (dN t)) [g.1, g.2] (own := [3]) (tg := .one 3) (c := (ev L_left_of .no).t) (e := vD (ev L_left_of (.var 3)).v) (r := [.d (dL T gs), .d (dR rs), .d (.int z), .none]) (S := S) rfl (by
        intro t ht
        simp [wipeS])
      simp only [turn_eq, wipeS, dN, bindTg_one, setSl_eq, List.set_cons_succ, List.set_cons_zero, List.length_cons, List.length_nil, t_no, bnd_ok, i_sub, v_sub, v_attr, v_var, rd_0, rd_2, peek_d, attr_games, Option.map_some, ofO_some, e1, itM_eq, asD_d, e2, if_true, Nat.reduceAdd, Nat.reduceLT, hp]
      simp [F, h1, dNs, dN])
  rw [hF, hf] at hl
  have e : (fun t => ((gs.zip rs).filterMap fun q => if q.2.isNone then some [q.1.1, q.1.2] else none).flatten.count t) = Lf (gs.zip rs) := by funext t; exact Lf_count _ _
  simp [g_left_of, runF, i_left_of, -Option.isNone_iff_eq_none, hl, h, e]
@[simp] theorem sp_left (T : Nat) (gs : List (Nat × Nat)) (rs : List (Option Bool)) (S : Store) (h : T ≤ 8) (h' : rs.length = gs.length) (hg : gs.length ≤ 24) : g_left [.d (dL T gs), .d (dR rs)] S = .ok (dT T (Lf (gs.zip rs))) S := by
  simp [g_left, runF, i_left, h, h', hg]
@[simp] theorem sp_best_wins (T t : Nat) (gs : List (Nat × Nat)) (rs : List (Option Bool)) (S : Store) (h : T ≤ 8) (h' : rs.length = gs.length) (hg : gs.length ≤ 24) (ht : t < T) :
    g_best_wins [.d (dL T gs), .d (dR rs), .d (.int t)] S = .ok (.int (W (gs.zip rs) t + Lf (gs.zip rs) t)) S := by
  simp [g_best_wins, runF, i_best_wins, h, h', hg, sub_dT _ ht]
@[simp] theorem sp_meetings (T t s : Nat) (gs : List (Nat × Nat)) (rs : List (Option Bool)) (S : Store) (h' : rs.length = gs.length) :
    g_meetings [.d (dL T gs), .d (dR rs), .d (.int t), .d (.int s)] S = .ok (.int (Me (gs.zip rs) t s)) S := by
  let H : Nat → Nat × Nat → Option D := fun i g => if (g.1 = t ∨ g.2 = t) ∧ (g.1 = s ∨ g.2 = s) then some (dN i) else none
  have hl := lc_pure dN (fun i => (gs[i]?).bind (H i)) (opens rs) (L := L_meetings) (own := [4]) (tg := .one 4)
    (it := .call 11 (.cons (.var 1) .nil)) (ifs := .and (.cmp .isin (.var 2) (.sub (.attr (.var 0) "games") (.var 4))) (.cmp .isin (.var 3) (.sub (.attr (.var 0) "games") (.var 4)))) (elt := .var 4)
    (r := [.d (dL T gs), .d (dR rs), .d (.int t), .d (.int s), .none]) (S := S) (r1 := [.d (dL T gs), .d (dR rs), .d (.int t), .d (.int s), .none]) (S1 := S) (by simp [dNs]) rfl (by
      intro z hz
      obtain ⟨g, h1, _⟩ := opens_get h' hz
      have e1 : subD (.tup (gs.map dg)) (.int z) = some (dg g) := subD_tup (by simp [h1])
      by_cases c1 : g.1 = t ∨ g.2 = t
      · by_cases c2 : g.1 = s ∨ g.2 = s
        · simp [wipeS, dN, e1, inD_dg, h1, H, c1, c2]
        · simp [wipeS, dN, e1, inD_dg, h1, H, c1, c2]
      · simp [wipeS, dN, e1, inD_dg, h1, H, c1])
  have hn : ((opens rs).filterMap fun i => (gs[i]?).bind (H i)).length = Me (gs.zip rs) t s := by
    rw [← Me_len (fun _ => dN 0)]
    have h2 := enum_opens' gs rs h' (γ := D) fun g => if (g.1 = t ∨ g.2 = t) ∧ (g.1 = s ∨ g.2 = s) then some (dN 0) else none
    rw [← h2, ← List.length_map (fun _ => dN 0), List.map_filterMap]
    congr 1
    apply filterMap_congr'
    intro i hi
    obtain ⟨g, h1, _⟩ := opens_get h' hi
    simp only [h1, Option.bind_some, H]
    split <;> rfl
  simp [g_meetings, runF, i_meetings, hl, hn]
@[simp] theorem sp_rival_most (T t s : Nat) (m : Int) (gs : List (Nat × Nat)) (rs : List (Option Bool)) (S : Store) (h : T ≤ 8) (h' : rs.length = gs.length) (hg : gs.length ≤ 24) (ht : t < T) (hs : s < T) :
    g_rival_most [.d (dL T gs), .d (dR rs), .d (.int t), .d (.int s), .d (.int m)] S = .ok (.int (rv (gs.zip rs) t s m)) S := by
  simp [g_rival_most, runF, i_rival_most, h, h', hg, sub_dT _ ht, hs, rv]
end DK
end

section
namespace DK
open PySem DL
@[simp] theorem sp_is_safe (T t m : Nat) (gs : List (Nat × Nat)) (rs : List (Option Bool)) (S : Store) (h : T ≤ 8) (h' : rs.length = gs.length) (hg : gs.length ≤ 24) (ht : t < T) :
    g_is_safe [.d (dL T gs), .d (dR rs), .d (.int t), .d (.int m)] S = .ok (.bl (safe T (gs.zip rs) t m)) S := by
  let R := fun x : D => [Sl.d (dL T gs), .d (dR rs), .d (.int t), .d (.int m), .d (.int (W (gs.zip rs) t + m)), .d x, .none]
  have hl1 := lc_pure dN (fun s => (if s = t then none else some s).map dN) (List.range T) (L := L_is_safe) (own := [6]) (tg := .one 6)
    (it := .call 5 (.cons (.var 0) .nil)) (ifs := .cmp .ne (.var 6) (.var 2)) (elt := .var 6)
    (r := [.d (dL T gs), .d (dR rs), .d (.int t), .d (.int m), .d (.int (W (gs.zip rs) t + m)), .none, .none]) (S := S) (r1 := [.d (dL T gs), .d (dR rs), .d (.int t), .d (.int m), .d (.int (W (gs.zip rs) t + m)), .none, .none]) (S1 := S)
    (by simp [dNs, h]) rfl (by
      intro z hz
      by_cases c : z = t
      · simp [wipeS, dN, c]
      · have c' : ¬ (z : Int) = t := by omega
        simp [wipeS, dN, c, c'])
  rw [filterMap_dN] at hl1
  generalize ho : ((List.range T).filterMap fun s => if s = t then none else some s) = os at hl1
  have hl2 := lc_pure dN (fun s => some (.bl (decide (rv (gs.zip rs) t s m ≤ W (gs.zip rs) t + m)))) os (L := L_is_safe) (own := [6]) (tg := .one 6)
    (it := .var 5) (ifs := .no) (elt := .cmp .le (.call 69 (.cons (.var 0) (.cons (.var 1) (.cons (.var 2) (.cons (.var 6) (.cons (.var 3) .nil)))))) (.var 4))
    (r := [.d (dL T gs), .d (dR rs), .d (.int t), .d (.int m), .d (.int (W (gs.zip rs) t + m)), .d (.lst (dNs os)), .none]) (S := S) (r1 := [.d (dL T gs), .d (dR rs), .d (.int t), .d (.int m), .d (.int (W (gs.zip rs) t + m)), .d (.lst (dNs os)), .none]) (S1 := S)
    (by simp [dNs, h]) rfl (by
      intro z hz
      have : z < T := by
        rw [← ho] at hz
        obtain ⟨s, h1, h2⟩ := List.mem_filterMap.1 hz
        split at h2
        · cases h2
        · cases h2; exact List.mem_range.1 h1
      simp [wipeS, dN, h, h', hg, ht, this])
  have e : safe T (gs.zip rs) t m = os.all fun s => decide (rv (gs.zip rs) t s m ≤ W (gs.zip rs) t + m) := by unfold safe; rw [ho]
  simp [g_is_safe, runF, i_is_safe, h, h', hg, sub_dT _ ht, hl1, hl2, e]
@[simp] theorem sp_magic_of (T t : Nat) (gs : List (Nat × Nat)) (rs : List (Option Bool)) (S : Store) (h : T ≤ 8) (h' : rs.length = gs.length) (hg : gs.length ≤ 24) (ht : t < T) :
    g_magic_of [.d (dL T gs), .d (dR rs), .d (.int t)] S = .ok (dO (magicN T (gs.zip rs) t)) S := by
  have h1 : Lf (gs.zip rs) t + 1 ≤ 49 := by
    have := Lf_le (gs.zip rs) t
    rw [zip_len h'] at this; omega
  have h2 := rngOf_dN (Lf (gs.zip rs) t + 1) (by omega)
  have h3 : szOk (Lf (gs.zip rs) t + 1) = true := szOk_of (by omega)
  have hl := lc_pure dN (fun m => (if safe T (gs.zip rs) t m then some m else none).map dN) (List.range (Lf (gs.zip rs) t + 1)) (L := L_magic_of) (own := [4]) (tg := .one 4)
    (it := .rng1 (.bin .add (.sub (.call 24 (.cons (.var 0) (.cons (.var 1) .nil))) (.var 2)) (.cint 1))) (ifs := .call 67 (.cons (.var 0) (.cons (.var 1) (.cons (.var 2) (.cons (.var 4) .nil))))) (elt := .var 4)
    (r := [.d (dL T gs), .d (dR rs), .d (.int t), .none, .none]) (S := S) (r1 := [.d (dL T gs), .d (dR rs), .d (.int t), .none, .none]) (S1 := S)
    (by
      have h2' : rngOf (.int 0) (.int ((Lf (gs.zip rs) t : Int) + 1)) = some (dNs (List.range (Lf (gs.zip rs) t + 1))) := by rw [← h2]; rfl
      simp [h, h', hg, sub_dT _ ht, h2', h3]; rfl) rfl (by
      intro z hz
      cases c : safe T (gs.zip rs) t z <;> simp [wipeS, dN, h, h', hg, ht, c])
  have e : ((List.range (Lf (gs.zip rs) t + 1)).filterMap fun m => if safe T (gs.zip rs) t m then some m else none) = (List.range (Lf (gs.zip rs) t + 1)).filter (safe T (gs.zip rs) t) := by
    rw [← List.filterMap_eq_filter]; rfl
  rw [filterMap_dN, e] at hl
  unfold magicN
  generalize (List.range (Lf (gs.zip rs) t + 1)).filter (safe T (gs.zip rs) t) = ns at hl
  simp [g_magic_of, runF, i_magic_of, hl, eqD_nil]
  cases ns with
  | nil => simp [dO]
  | cons n ns =>
    have : subD (.lst (dNs (n :: ns))) (.int 0) = some (.int n) := subD_lst (i := 0) rfl
    simp [this, dO]
@[simp] theorem sp_magic (T t : Nat) (gs : List (Nat × Nat)) (rs : List (Option Bool)) (S : Store) (h : T ≤ 8) (h' : rs.length = gs.length) (hg : gs.length ≤ 24) (ht : t < T) :
    g_magic [.d (dL T gs), .d (dR rs), .d (.int t)] S = .ok (dO (magicN T (gs.zip rs) t)) S := by
  simp [g_magic, runF, i_magic, h, h', hg, ht]
@[simp] theorem sp_surely_first (T : Nat) (gs : List (Nat × Nat)) (rs : List (Option Bool)) (S : Store) (h : T ≤ 8) (h' : rs.length = gs.length) (hg : gs.length ≤ 24) :
    g_surely_first [.d (dL T gs), .d (dR rs)] S = .ok (.tup (dNs ((List.range T).filter fun t => safe T (gs.zip rs) t 0))) S := by
  have hl := lc_pure dN (fun t => (if safe T (gs.zip rs) t 0 then some t else none).map dN) (List.range T) (L := L_surely_first) (own := [2]) (tg := .one 2)
    (it := .call 5 (.cons (.var 0) .nil)) (ifs := .call 67 (.cons (.var 0) (.cons (.var 1) (.cons (.var 2) (.cons (.cint 0) .nil))))) (elt := .var 2)
    (r := [.d (dL T gs), .d (dR rs), .none]) (S := S) (r1 := [.d (dL T gs), .d (dR rs), .none]) (S1 := S)
    (by simp [h, dNs]) rfl (by
      intro z hz
      have hz : z < T := List.mem_range.1 hz
      have := sp_is_safe T z 0 gs rs S h h' hg hz
      cases c : safe T (gs.zip rs) z 0 <;> simp [wipeS, dN, c] <;> simp [c] at this <;> simp [this])
  have e : ((List.range T).filterMap fun t => if safe T (gs.zip rs) t 0 then some t else none) = (List.range T).filter fun t => safe T (gs.zip rs) t 0 := by
    rw [← List.filterMap_eq_filter]; rfl
  rw [filterMap_dN, e] at hl
  simp [g_surely_first, runF, i_surely_first, h, h', hg, hl]
end DK
end

section
namespace DL
open PySem
@[simp] theorem i_scut (L : Lk) (i : Nat) (hi : Int) (r : List Sl) (S : Store) : (ev L (.scut i hi)).i r S = bnd ((ev L (.scut i hi)).v r S) itM := nr rfl
@[simp] theorem scut_0 (hi : Int) (ns : List Int) (r : List Sl) (S : Store) : scutM 0 hi (.scr ns :: r) S = .ok (.fresh ((ns.take hi.toNat).map .int)) (.scr ns :: r) S := nr rfl
@[simp] theorem isLst_0 (l : Nat) (r : List Sl) (S : Store) : isLst 0 (.loc l :: r) S = .ok () (.loc l :: r) S := nr rfl
@[simp] theorem putAt_0 (k : Int) (x : D) (r : List Sl) (xs : List D) : putAt 0 (.int k) x (.loc 0 :: r) [xs] = match ixOf xs.length k with
    | some j => .ok () (.loc 0 :: r) [xs.set j x]
    | none => .stuck := nr rfl
@[simp] theorem putFld_0 (f : Str) (x : D) (c : Str) (fs : List (Str × D)) (r : List Sl) (S : Store) : putFld 0 f x (.obj c fs :: r) S = if fs.length < 1000 ∧ f ∈ fldNames then .ok () (.obj c (putF f x fs) :: r) S else .stuck := nr rfl
theorem bop_mul {i j : Int} (h : mulOk i j = true) : bop .mul (.int i) (.int j) = some (.d (.int (i * j))) := by show ite _ _ _ = _; rw [if_pos h]
theorem bop_div {i j : Int} (h : divOk j = true) : bop .fdiv (.int i) (.int j) = some (.d (.int (i.fdiv j))) := by show ite _ _ _ = _; rw [if_pos h]
theorem bop_mod {i j : Int} (h : j ≠ 0) : bop .mod (.int i) (.int j) = some (.d (.int (i.fmod j))) := by show ite _ _ _ = _; rw [if_pos h]
theorem bop_pow {i j : Int} (h : powOk i j = true) : bop .pow (.int i) (.int j) = some (.d (.int (i ^ j.toNat))) := by show ite _ _ _ = _; rw [if_pos h]
def hand (cells : List Int) (a b c d : Int) : Store := [[.lst (cells.map .int), .int a, .int b, .int c, .int d]]
def HandOk (S : Store) : Prop := ∃ cells a b c d, S = hand cells a b c d ∧ 0 ≤ a
theorem mulOk_r (i j : Int) (h : small j = true) : mulOk i j = true := by unfold mulOk; rw [h, Bool.or_true]
theorem mulOk_l (i j : Int) (h : small i = true) : mulOk i j = true := by unfold mulOk; rw [h, Bool.true_or]
@[simp] theorem subI_0 (x : D) (xs : List D) : subD (.lst (x :: xs)) (.int 0) = some x := subD_lst (i := 0) rfl
@[simp] theorem subI_1 (a x : D) (xs : List D) : subD (.lst (a :: x :: xs)) (.int 1) = some x := subD_lst (i := 1) rfl
@[simp] theorem subI_2 (a b x : D) (xs : List D) : subD (.lst (a :: b :: x :: xs)) (.int 2) = some x := subD_lst (i := 2) rfl
@[simp] theorem subI_3 (a b c x : D) (xs : List D) : subD (.lst (a :: b :: c :: x :: xs)) (.int 3) = some x := subD_lst (i := 3) rfl
@[simp] theorem subI_4 (a b c d x : D) (xs : List D) : subD (.lst (a :: b :: c :: d :: x :: xs)) (.int 4) = some x := subD_lst (i := 4) rfl
@[simp] theorem subT_0 (x : D) (xs : List D) : subD (.tup (x :: xs)) (.int 0) = some x := subD_tup (i := 0) rfl
@[simp] theorem subT_1 (a x : D) (xs : List D) : subD (.tup (a :: x :: xs)) (.int 1) = some x := subD_tup (i := 1) rfl
@[simp] theorem subT_2 (a b x : D) (xs : List D) : subD (.tup (a :: b :: x :: xs)) (.int 2) = some x := subD_tup (i := 2) rfl
theorem fmod_lt (i : Int) (b : Nat) (h : 0 < b) : ∃ n : Nat, n < b ∧ i.fmod b = n := by
  refine ⟨(i.fmod b).toNat, ?_, ?_⟩
  · have := Int.fmod_lt_of_pos i (b := b) (by omega)
    omega
  · have := Int.fmod_nonneg_of_pos i (b := b) (by omega)
    omega
end DL
namespace DK
open PySem DL
theorem sp_hand (ns : List Int) (S : Store) : ∃ cells : List Int, g__law_hand [.scr ns] S = .fresh [.lst (cells.map .int), .int 0, .int 0, .int (53 + 5 * cells.length), .int 0] S := by
  let f : Int → Int := fun n => (if n < 0 then -n else n).fmod (10 ^ 36)
  have e1 : bop .pow (.int 10) (.int 36) = some (.d (.int (10 ^ 36))) := bop_pow (by decide +kernel)
  have e2 : ∀ n, bop .mod (.int (if n < 0 then -n else n)) (.int (10 ^ 36)) = some (.d (.int (f n))) := fun n => bop_mod (by decide +kernel)
  have hl := lc_pure D.int (fun n => some (.int (f n))) (ns.take 63) (L := L__law_hand) (own := [2]) (tg := .one 2)
    (it := .scut 0 63) (ifs := .no) (elt := .bin .mod (.b1 .int (.b1 .abs (.b1 .int (.var 2)))) (.bin .pow (.cint 10) (.cint 36)))
    (r := [.scr ns, .none, .none]) (S := S) (r1 := [.scr ns, .none, .none]) (S1 := S) (by simp) rfl (by
      intro z hz
      simp only [turn_eq, wipeS, bindTg_one, setSl_eq, List.set_cons_succ, List.set_cons_zero, List.length_cons, List.length_nil, t_no, bnd_ok, vD_eq, v_bin, v_b1, v_var, v_cint, rd_2, peek_d, b1_int_int, b1_abs, ofO_some, e1, e2, asD_d, if_true, Nat.reduceAdd, Nat.reduceLT])
  refine ⟨(ns.take 63).map f, ?_⟩
  have e3 : ((ns.take 63).filterMap fun n => some (D.int (f n))) = ((ns.take 63).map f).map .int := by rw [List.filterMap_eq_map', List.map_map]; rfl
  have e4 : ∀ j : Int, bop .mul (.int 5) (.int j) = some (.d (.int (5 * j))) := fun j => bop_mul (mulOk_l _ _ (by decide +kernel))
  rw [e3] at hl
  generalize (ns.take 63).map f = cs at hl
  simp [g__law_hand, runF, i__law_hand, hl, e4]
def d_head : IS := match i__law_draw with | .cons t _ => t | _ => .nil
def d_tail : IS := match i__law_draw with | .cons _ t => t | _ => .nil
theorem sp_draw (b : Nat) (h1 : 0 < b) (h2 : b ≤ 1000) (S : Store) (hS : HandOk S) : ∃ n S', n < b ∧ HandOk S' ∧ g__law_draw [.loc 0, .d (.int b)] S = .ok (.int n) S' := by
  obtain ⟨cells, p, q, r, s, rfl, hp⟩ := hS
  have b0 : (b : Int) ≠ 0 := by omega
  have bd : divOk b = true := decide_eq_true ⟨b0, by omega⟩
  have m1 : ∀ i : Int, bop .mod (.int i) (.int b) = some (.d (.int (i.fmod b))) := fun i => bop_mod b0
  have m2 : ∀ i : Int, bop .fdiv (.int i) (.int b) = some (.d (.int (i.fdiv b))) := fun i => bop_div bd
  have p1 : bop .pow (.int 10) (.int 18) = some (.d (.int (10 ^ 18))) := bop_pow (by decide +kernel)
  have a1 : ∀ i : Int, bop .mul (.int i) (.int 69621) = some (.d (.int (i * 69621))) := fun i => bop_mul (mulOk_r _ _ (by decide +kernel))
  have a2 : ∀ i : Int, bop .mul (.int i) (.int 40692) = some (.d (.int (i * 40692))) := fun i => bop_mul (mulOk_r _ _ (by decide +kernel))
  have a3 : ∀ i : Int, bop .mod (.int i) (.int 2147483629) = some (.d (.int (i.fmod 2147483629))) := fun i => bop_mod (by decide)
  have a4 : ∀ i : Int, bop .mod (.int i) (.int 2147483647) = some (.d (.int (i.fmod 2147483647))) := fun i => bop_mod (by decide)
  have a5 : ∀ i : Int, bop .mod (.int i) (.int 2147483563) = some (.d (.int (i.fmod 2147483563))) := fun i => bop_mod (by decide)
  have a6 : ∀ i : Int, bop .mul (.int 7919) (.int i) = some (.d (.int (7919 * i))) := fun i => bop_mul (mulOk_l _ _ (by decide +kernel))
  have a7 : ∀ i : Int, bop .mul (.int i) (.int 48271) = some (.d (.int (i * 48271))) := fun i => bop_mul (mulOk_r _ _ (by decide +kernel))
  have a8 : ∀ i : Int, bop .fdiv (.int i) (.int 1009) = some (.d (.int (i.fdiv 1009))) := fun i => bop_div (by decide +kernel)
  have a9 : ∀ i : Int, bop .fdiv (.int i) (.int 2003) = some (.d (.int (i.fdiv 2003))) := fun i => bop_div (by decide +kernel)
  have a10 : ∀ i : Int, bop .fdiv (.int i) (.int 16) = some (.d (.int (i.fdiv 16))) := fun i => bop_div (by decide +kernel)
  have a11 : ∀ i j : Int, bop .mul (.int (i.fmod 2147483647)) (.int j) = some (.d (.int (i.fmod 2147483647 * j))) := fun i j => bop_mul (mulOk_l _ _ (decide_eq_true (by
    have h1 := Int.fmod_lt_of_pos i (b := 2147483647) (by omega)
    have h2 := Int.fmod_nonneg_of_pos i (b := 2147483647) (by omega)
    constructor <;> omega)))
  -- the second half of the body
  have tail : ∀ (cells : List Int) (p q r s : Int) (x y z : Sl), 0 ≤ p → ∃ n S', n < b ∧ HandOk S' ∧ endFR 1 (exS L__law_draw d_tail [.loc 0, .d (.int b), x, y, z] (hand cells p q r s)) = .ok (.int n) S' := by
    intro cells p q r s x y z hp
    by_cases c : 0 < q
    · obtain ⟨n, hn, e⟩ := fmod_lt q b h1
      refine ⟨n, _, hn, ⟨cells, p, q.fdiv b, r, s, rfl, hp⟩, ?_⟩
      simp [d_tail, i__law_draw, hand, c, m1, m2, e, ixOf]
    · obtain ⟨n, hn, e⟩ := fmod_lt (Int.fdiv (Int.fmod (Int.fmod (Int.fmod ((r + 7919 * (s + 1)) * 48271) 2147483647 * (Int.fdiv (Int.fmod ((r + 7919 * (s + 1)) * 48271) 2147483647) 1009 + 69621)) 2147483647 * (Int.fdiv (Int.fmod (Int.fmod ((r + 7919 * (s + 1)) * 48271) 2147483647 * (Int.fdiv (Int.fmod ((r + 7919 * (s + 1)) * 48271) 2147483647) 1009 + 69621)) 2147483647) 2003 + 40014)) 2147483563) 16) b h1
      refine ⟨n, _, hn, ⟨cells, p, q, r, s + 1, rfl, hp⟩, ?_⟩
      simp [d_tail, i__law_draw, hand, c, m1, a4, a5, a6, a7, a8, a9, a10, a11, ixOf, e]
  have key : ∀ ρ' S', exS L__law_draw d_head [.loc 0, .d (.int b), .none, .none, .none] (hand cells p q r s) = .ok .next ρ' S' → g__law_draw [.loc 0, .d (.int b)] (hand cells p q r s) = endFR 1 (exS L__law_draw d_tail ρ' S') := by
    intro ρ' S' hh
    have e : i__law_draw = .cons d_head d_tail := rfl
    simp only [g__law_draw, runF, e, List.length_cons, List.length_nil, if_true, List.map_cons, List.map_nil, slOf_d, slOf_loc, x_cons]
    have e2 : ([Sl.loc 0, .d (.int b)] ++ List.replicate (5 - 2) Sl.none) = [.loc 0, .d (.int b), .none, .none, .none] := rfl
    rw [e2, hh, bnd_ok, nx_next]; rfl
  by_cases c : q = 0 ∧ p < cells.length
  · obtain ⟨c1, c2⟩ := c
    obtain ⟨k, rfl⟩ : ∃ k : Nat, p = k := ⟨p.toNat, by omega⟩
    have c3 : k < cells.length := by omega
    have e1 : subD (.lst (cells.map .int)) (.int k) = some (.int cells[k]) := subD_lst (by simp [c3])
    by_cases c4 : (10 ^ 18 : Int) ≤ cells[k]
    · obtain ⟨n, S', t1, t2, t3⟩ := tail cells (k + 1) cells[k] ((r * 69621 + cells[k] * 40692 + 37).fmod 2147483629) s .none (.d (.int cells[k])) .none (by omega)
      refine ⟨n, S', t1, t2, ?_⟩
      rw [← t3]
      apply key
      simp [d_head, i__law_draw, hand, c1, c2, e1, ixOf, a1, a2, a3, p1]
      intro h; exfalso; omega
    · obtain ⟨n, S', t1, t2, t3⟩ := tail cells (k + 1) 0 ((r * 69621 + cells[k] * 40692 + 37).fmod 2147483629) s .none (.d (.int cells[k])) .none (by omega)
      refine ⟨n, S', t1, t2, ?_⟩
      rw [← t3]
      apply key
      simp [d_head, i__law_draw, hand, c1, c2, e1, ixOf, a1, a2, a3, p1]
      intro h; exfalso; omega
  · obtain ⟨n, S', t1, t2, t3⟩ := tail cells p q r s .none .none .none hp
    refine ⟨n, S', t1, t2, ?_⟩
    rw [← t3]
    apply key
    by_cases c1 : q = 0
    · have c2 : ¬ p < cells.length := fun h => c ⟨c1, h⟩
      simp [d_head, i__law_draw, hand, c1, c2]
    · simp [d_head, i__law_draw, hand, c1]
end DK
end

section
namespace DL
open PySem
theorem enumN_map_mem {α : Type} : ∀ (k : Nat) (R : List α) (p : Nat × α), p ∈ enumN k R → k ≤ p.1 ∧ p.1 < k + R.length ∧ p.2 ∈ R
  | k, x :: xs, p, h => by
    cases h with
    | head => exact ⟨Nat.le_refl _, by simp, List.mem_cons_self ..⟩
    | tail _ h =>
      obtain ⟨h1, h2, h3⟩ := enumN_map_mem (k + 1) xs p h
      exact ⟨by omega, by simp; omega, List.mem_cons_of_mem _ h3⟩
theorem handOk_len {S : Store} (h : HandOk S) : S.length = 1 := by
  obtain ⟨_, _, _, _, _, rfl, _⟩ := h; rfl
theorem handOk_take {S : Store} (h : HandOk S) : S.take 1 = S := by
  obtain ⟨_, _, _, _, _, rfl, _⟩ := h; rfl
def IS.hd : IS → IS
  | .cons s _ => s
  | _ => .nil
def IS.tl : IS → IS
  | .cons _ s => s
  | _ => .nil
def IS.thn : IS → IS
  | .ife _ s _ => s
  | _ => .nil
def IS.body : IS → IS
  | .loop _ _ s => s
  | _ => .nil
theorem mtOwn_append {xs : List D} {y : D} (h : xs.length ≤ 10000) : mtOwn .append xs [y] = some (.non, xs ++ [y]) := by
  show ite _ _ _ = _
  rw [if_pos]; exact decide_eq_true (by unfold sizeLine; omega)
@[simp] theorem doMethL_3 (m : Mt) (a b c : Sl) (xs ys : List D) (r : List Sl) (S : Store) : doMethL m (.own 3) ys (a :: b :: c :: .own xs :: r) S = match mtOwn m xs ys with
    | some (x, zs) => .ok (.d x) (a :: b :: c :: .own zs :: r) S
    | none => .stuck := nr rfl
@[simp] theorem doMethL_4 (m : Mt) (a b c d : Sl) (xs ys : List D) (r : List Sl) (S : Store) : doMethL m (.own 4) ys (a :: b :: c :: d :: .own xs :: r) S = match mtOwn m xs ys with
    | some (x, zs) => .ok (.d x) (a :: b :: c :: d :: .own zs :: r) S
    | none => .stuck := nr rfl
/-- games of T teams -/
def Good (T : Nat) (gs : List (Nat × Nat)) : Prop := 1 ≤ T ∧ T ≤ 8 ∧ gs.length ≤ 24 ∧ ∀ g ∈ gs, g.1 < g.2 ∧ g.2 < T
end DL
namespace DK
open PySem DL
@[simp] theorem q_init_name : g_League_init.name = "League" := nr rfl
@[simp] theorem sp_init (T : Nat) (gs : List (Nat × Nat)) (S : Store) (h : Good T gs) : g_League_init.init [.d (.int T), .d (.tup (gs.map dg))] S = .ok [("teams", .int T), ("games", .tup (gs.map dg))] S := by
  obtain ⟨h0, h1, h2, h3⟩ := h
  have hp := forL_inv (tg := .many [3, 4]) (b := exS L_League_init (.cons (.ife (.or (.cmp .ge (.var 3) (.gint "MOST_GAMES" (24))) (.not (.call 2 (.cons (.var 4) (.cons (.var 1) .nil))))) (.cons .never .nil) .nil) .nil))
    (enc := fun p : Nat × (Nat × Nat) => .tup [.int p.1, dg p.2])
    (fun zs r S' => S' = S ∧ (∃ a b, r = [.obj "League" [], .d (.int T), .d (.tup (gs.map dg)), a, b]) ∧ ∀ p ∈ zs, p.1 < 24 ∧ p.2.1 < p.2.2 ∧ p.2.2 < T) (by
      intro z zs r S' hI
      obtain ⟨rfl, ⟨a, b, rfl⟩, hz⟩ := hI
      obtain ⟨z1, z2, z3⟩ := hz z (List.mem_cons_self ..)
      refine ⟨[.obj "League" [], .d (.int T), .d (.tup (gs.map dg)), .d (.int z.1), .d (dg z.2)], S', ?_, rfl, ⟨_, _, rfl⟩, fun p hp => hz p (List.mem_cons_of_mem _ hp)⟩
      have e := sp_is_pair_of z.2.1 z.2.2 T S' z2 z3
      have e' : ¬ (24 : Int) ≤ z.1 := by omega
      simp [e, e'])
    (enumN 0 gs) [.obj "League" [], .d (.int T), .d (.tup (gs.map dg)), .none, .none] S ⟨rfl, ⟨_, _, rfl⟩, by
      intro p hp
      obtain ⟨_, m1, m2⟩ := enumN_map_mem 0 gs p hp
      exact ⟨by omega, h3 _ m2⟩⟩
  obtain ⟨r', S', e1, rfl, ⟨a, b, rfl⟩, _⟩ := hp
  rw [← enumL_map0] at e1
  have f1 : ("teams" : Str) ∈ fldNames := by decide
  have f2 : ("games" : Str) ∈ fldNames := by decide
  have f3 : ¬ ("teams" : Str) = "games" := by decide
  have hc : ¬ ((T : Int) < 1 ∨ 8 < (T : Int)) := by omega
  simp [g_League_init, runI, i_League_init, e1, hc, f1, f2, putF, f3]
theorem sp_any (xs : List D) (h1 : 0 < xs.length) (h2 : xs.length ≤ 1000) (S : Store) (hS : HandOk S) : ∃ x S', x ∈ xs ∧ HandOk S' ∧ g__law_any [.loc 0, .d (.lst xs)] S = .ok x S' := by
  obtain ⟨n, S', h3, h4, h5⟩ := sp_draw xs.length h1 h2 S hS
  refine ⟨xs[n], S', List.getElem_mem h3, h4, ?_⟩
  have e : subD (.lst xs) (.int n) = some xs[n] := subD_lst (by simp [h3])
  simp [g__law_any, runF, i__law_any, h5, e, handOk_len hS, handOk_take h4]
def specB : IS := i__law_spec.tl.hd.thn.hd.body
theorem sp_spec (S : Store) (hS : HandOk S) : ∃ T gs rs S', Good T gs ∧ T ≤ 5 ∧ gs.length ≤ 10 ∧ rs.length = gs.length ∧ rs.countP (·.isNone) ≤ 7 ∧ HandOk S' ∧
    g__law_spec [.loc 0, .d (.int 7)] S = .ok (.tup [.int T, .tup (gs.map dg), dR rs]) S' := by
  obtain ⟨n, S1, hn, hS1, e1⟩ := sp_draw 5 (by omega) (by omega) S hS
  by_cases c : 0 < n
  · obtain ⟨k, S2, hk, hS2, e2⟩ := sp_draw 11 (by omega) (by omega) S1 hS1
    have hp := forL_inv (tg := .one 6) (b := exS L__law_spec specB) (enc := dN)
      (fun zs r S => ∃ gs rs a b c, r = [.loc 0, .d (.int 7), .d (.int (1 + n)), .own (gs.map dg), .own (rs.map ds), .d (.int (rs.countP (·.isNone) : Nat)), a, b, c] ∧ HandOk S ∧
        rs.length = gs.length ∧ gs.length + zs.length ≤ 10 ∧ rs.countP (·.isNone) ≤ 7 ∧ ∀ g ∈ gs, g.1 < g.2 ∧ g.2 < n + 1) (by
      intro z zs r S ⟨gs, rs, a, b, c', hr, hS, hl, hz, hc, hg⟩
      subst hr
      obtain ⟨o, S1, ho, hS1, e1⟩ := sp_draw n c (by omega) S hS
      obtain ⟨m, S2, hm, hS2, e2⟩ := sp_draw (n - o) (by omega) (by omega) S1 hS1
      have a1 : (1 + (n : Int) - 1) = n := by omega
      have a2 : ((n : Int) - o) = ((n - o : Nat) : Int) := by omega
      have a3 : (gs.map dg).length ≤ 10000 := by simp at hz ⊢; omega
      have a4 : (rs.map ds).length ≤ 10000 := by simp at hz ⊢; omega
      have a5 : ∀ (x y : Nat), D.tup [.int x, .int ((x : Int) + 1 + y)] = dg (x, x + 1 + y) := fun x y => by simp [dg]
      have key : ∃ x S3, HandOk S3 ∧ (x = none → rs.countP (·.isNone) < 7) ∧ ∀ ρ, ρ = [Sl.loc 0, .d (.int 7), .d (.int (1 + n)), .own ((gs ++ [(o, o + 1 + m)]).map dg), .own (rs.map ds), .d (.int (rs.countP (·.isNone) : Nat)), .d (dN z), .d (.int o), c'] →
          (ev L__law_spec (.ife (.cmp .lt (.var 5) (.var 1)) (.call 13 (.cons (.var 0) (.cons (.lst (.cons .cnon (.cons .cnon (.cons (.cint 0) (.cons (.cint 1) .nil))))) .nil))) (.call 41 (.cons (.var 0) (.cons (.cint 2) .nil))))).v ρ S2 = .ok (.d (ds x)) ρ S3 := by
        by_cases q : rs.countP (·.isNone) < 7
        · obtain ⟨x, S3, hx, hS3, e3⟩ := sp_any [.non, .non, .int 0, .int 1] (by simp) (by simp) S2 hS2
          have : ∃ y, x = ds y := by
            simp at hx
            rcases hx with rfl | rfl | rfl
            · exact ⟨none, rfl⟩
            · exact ⟨some false, rfl⟩
            · exact ⟨some true, rfl⟩
          obtain ⟨y, rfl⟩ := this
          have q' : ((rs.countP (·.isNone) : Nat) : Int) < 7 := by omega
          refine ⟨y, S3, hS3, fun _ => q, ?_⟩
          rintro ρ rfl
          simp [q', e3, -Option.isNone_iff_eq_none]
        · obtain ⟨x, S3, hx, hS3, e3⟩ := sp_draw 2 (by simp) (by simp) S2 hS2
          have q' : ¬ ((rs.countP (·.isNone) : Nat) : Int) < 7 := by omega
          have : ∃ b, D.int x = ds (some b) := by
            have : x = 0 ∨ x = 1 := by omega
            rcases this with rfl | rfl
            · exact ⟨false, rfl⟩
            · exact ⟨true, rfl⟩
          obtain ⟨b, hb⟩ := this
          rw [hb] at e3
          refine ⟨some b, S3, hS3, (fun h => by cases h), ?_⟩
          rintro ρ rfl
          have e3' : g__law_draw [.loc 0, .d (.int 2)] S2 = .ok (ds (some b)) S3 := e3
          simp [q', e3', -Option.isNone_iff_eq_none]
      obtain ⟨x, S3, hS3, hx, e3⟩ := key
      refine ⟨_, S3, ?_, gs ++ [(o, o + 1 + m)], rs ++ [x], .d (dN z), .d (.int o), .d (ds x), rfl, hS3, by simp [hl], by simp at hz ⊢; omega, ?_, ?_⟩
      · have e3 := e3 _ rfl
        simp only [List.map_append, List.map_cons, List.map_nil] at e3
        simp [specB, IS.hd, IS.tl, IS.thn, IS.body, i__law_spec, a1, a2, e1, e2, mtOwn_append a3, mtOwn_append a4, a5, e3, -v_ife, -Option.isNone_iff_eq_none]
        split <;> rfl
      · cases x with
        | none => have := hx rfl; simp [List.countP_append] at this ⊢; omega
        | some x => simp [List.countP_append] at hc ⊢; omega
      · intro g hg'
        rw [List.mem_append] at hg'
        rcases hg' with h | h
        · exact hg g h
        · simp at h; subst h; simp; omega) (List.range k) [.loc 0, .d (.int 7), .d (.int (1 + n)), .own [], .own [], .d (.int 0), .none, .none, .none] S2 ⟨[], [], .none, .none, .none, rfl, hS2, rfl, by simp; omega, by simp, by simp⟩
    obtain ⟨r', S3, e3, gs, rs, a, b, c', rfl, hS3, hl, hz, hc, hg⟩ := hp
    simp at hz
    refine ⟨1 + n, gs, rs, S3, ⟨by omega, by omega, by omega, fun g h => by have := hg g h; omega⟩, by omega, hz, hl, hc, hS3, ?_⟩
    have r1 : rngOf (.int 0) (.int k) = some (dNs (List.range k)) := rngOf_dN k (by omega)
    have r2 : szOk k = true := szOk_of (by omega)
    have r3 : ∀ r S, forL (.one 6) (exS L__law_spec specB) (dNs (List.range k)) r S = forL (.one 6) (exS L__law_spec specB) ((List.range k).map dN) r S := fun _ _ => rfl
    have e1' : g__law_draw [.loc 0, .d (.int 5)] S = .ok (.int n) S1 := e1
    have e2' : g__law_draw [.loc 0, .d (.int 11)] S1 = .ok (.int k) S2 := e2
    have c1 : (1 : Int) < 1 + n := by omega
    have e3' := (r3 _ _).trans e3
    simp only [specB, IS.hd, IS.tl, IS.thn, IS.body, i__law_spec] at e3'
    simp [g__law_spec, runF, i__law_spec, e1', e2', c1, r1, r2, e3', handOk_len hS, handOk_take hS3, dR]
  · have n0 : n = 0 := by omega
    subst n0
    refine ⟨1, [], [], S1, ⟨by omega, by omega, by simp, by simp⟩, by omega, by simp, rfl, by simp, hS1, ?_⟩
    have e1' : g__law_draw [.loc 0, .d (.int 5)] S = .ok (.int 0) S1 := e1
    simp [g__law_spec, runF, i__law_spec, e1', handOk_len hS, handOk_take hS1, dR]
end DK
end

section
namespace DL
open PySem
/-- the outcomes so far, one game more -/
def stepO (fs : List (List Bool)) : Option Bool → List (List Bool)
  | none => fs.map (· ++ [false]) ++ fs.map (· ++ [true])
  | some b => fs.map (· ++ [b])
def outs (rs : List (Option Bool)) : List (List Bool) := rs.foldl stepO [[]]
/-- an outcome of results -/
def Con : List (Option Bool) → List Bool → Prop
  | [], [] => True
  | none :: rs, _ :: o => Con rs o
  | some b :: rs, c :: o => b = c ∧ Con rs o
  | _, _ => False
theorem mem_foldO : ∀ (rs : List (Option Bool)) (fs : List (List Bool)) (o : List Bool), o ∈ rs.foldl stepO fs ↔ ∃ p ∈ fs, ∃ q, Con rs q ∧ o = p ++ q
  | [], fs, o => by
    constructor
    · intro h; exact ⟨o, h, [], trivial, by simp⟩
    · rintro ⟨p, hp, q, hq, rfl⟩
      cases q with
      | nil => simpa using hp
      | cons => exact absurd hq (by simp [Con])
  | none :: rs, fs, o => by
    rw [List.foldl_cons, mem_foldO rs]
    constructor
    · rintro ⟨p, hp, q, hq, rfl⟩
      simp [stepO] at hp
      rcases hp with ⟨a, ha, rfl⟩ | ⟨a, ha, rfl⟩
      · exact ⟨a, ha, false :: q, hq, by simp⟩
      · exact ⟨a, ha, true :: q, hq, by simp⟩
    · rintro ⟨p, hp, q, hq, rfl⟩
      cases q with
      | nil => exact absurd hq (by simp [Con])
      | cons b q =>
        refine ⟨p ++ [b], ?_, q, hq, by simp⟩
        cases b <;> simp [stepO, hp]
  | some c :: rs, fs, o => by
    rw [List.foldl_cons, mem_foldO rs]
    constructor
    · rintro ⟨p, hp, q, hq, rfl⟩
      simp [stepO] at hp
      rcases hp with ⟨a, ha, rfl⟩
      exact ⟨a, ha, c :: q, ⟨rfl, hq⟩, by simp⟩
    · rintro ⟨p, hp, q, hq, rfl⟩
      cases q with
      | nil => exact absurd hq (by simp [Con])
      | cons b q =>
        obtain ⟨rfl, hq⟩ := hq
        exact ⟨p ++ [c], by simp [stepO, hp], q, hq, by simp⟩
theorem mem_outs (rs : List (Option Bool)) (o : List Bool) : o ∈ outs rs ↔ Con rs o := by
  unfold outs
  rw [mem_foldO]
  simp
theorem Con_len : ∀ (rs : List (Option Bool)) (o : List Bool), Con rs o → o.length = rs.length
  | [], [], _ => rfl
  | [], _ :: _, h => absurd h (by simp [Con])
  | _ :: _, [], h => absurd h (by simp [Con])
  | none :: rs, _ :: o, h => by simp [Con_len rs o h]
  | some _ :: rs, _ :: o, h => by simp [Con_len rs o h.2]
/-- an outcome as data -/
def dB (o : List Bool) : D := dR (o.map some)
theorem dB_app (o : List Bool) (b : Bool) (h : o.length ≤ 1000) : bop .add (dB o) (.tup [ds (some b)]) = some (.d (dB (o ++ [b]))) := by
  show ite _ _ _ = _
  rw [if_pos (szOk_of (by simp; omega))]
  simp [dB, dR]
theorem bop_lst (xs ys : List D) (h : xs.length + ys.length ≤ 10000) : bop .add (.lst xs) (.lst ys) = some (.fresh (xs ++ ys)) := by
  show ite _ _ _ = _
  rw [if_pos (szOk_of h)]
theorem set_dT {T k : Nat} (f : Nat → Nat) (h : k < T) : (dNs ((List.range T).map f)).set k (.int (f k + 1)) = dNs ((List.range T).map fun t => f t + one (k = t)) := by
  apply List.ext_getElem?
  intro j
  by_cases e : k = j
  · subst e
    rw [List.getElem?_set_self (by simp [h]), get_dNs, List.getElem?_map, List.getElem?_range h]
    simp [dN, one]
  · rw [List.getElem?_set_ne e, get_dNs, get_dNs, List.getElem?_map, List.getElem?_map]
    cases q : (List.range T)[j]? with
    | none => rfl
    | some i =>
      have : i = j := by
        have := List.getElem?_eq_some_iff.1 q
        obtain ⟨_, h⟩ := this
        simp at h; exact h.symm
      subst this
      simp [one, e]
theorem rep_zero (T : Nat) : rep [.int 0] T = dNs ((List.range T).map fun _ => 0) := by
  have : ∀ n, rep [D.int 0] n = List.replicate n (.int 0) := by
    intro n
    induction n with
    | zero => rfl
    | succ n ih => simp [rep, ih, List.replicate_succ]
  rw [this]
  apply List.ext_getElem
  · simp
  · intro i h1 h2
    simp [dNs, dN]
end DL
namespace DK
open PySem DL
def outB : IS := i__law_outcomes.tl.hd.body
theorem outB_none (fs : List (List Bool)) (x : Sl) (R : List (Option Bool)) (S : Store) (h1 : fs.length ≤ 1000) (h2 : ∀ o ∈ fs, o.length ≤ 1000) :
    exS L__law_outcomes outB [.d (dR R), .d (.lst (fs.map dB)), .d (ds none), .none] S = .ok .next [.d (dR R), .d (.lst ((stepO fs none).map dB)), .d (ds none), .none] S := by
  have hl : ∀ b : Bool, (ev L__law_outcomes (.lc [3] (.one 3) (.var 1) .no (.bin .add (.var 3) (.tup (.cons (if b then .cint 1 else .cint 0) .nil))))).v [.d (dR R), .d (.lst (fs.map dB)), .d (ds none), .none] S =
      .ok (.fresh ((fs.map (· ++ [b])).map dB)) [.d (dR R), .d (.lst (fs.map dB)), .d (ds none), .none] S := by
    intro b
    have := lc_pure dB (fun o => some (dB (o ++ [b]))) fs (L := L__law_outcomes) (own := [3]) (tg := .one 3) (it := .var 1) (ifs := .no) (elt := .bin .add (.var 3) (.tup (.cons (if b then .cint 1 else .cint 0) .nil)))
      (r := [.d (dR R), .d (.lst (fs.map dB)), .d (ds none), .none]) (S := S) (r1 := [.d (dR R), .d (.lst (fs.map dB)), .d (ds none), .none]) (S1 := S) (by simp) rfl (by
        intro o ho
        have e := dB_app o b (h2 o ho)
        cases b <;> (simp only [ds] at e; simp [wipeS, e]))
    rw [this, List.filterMap_eq_map', List.map_map]; rfl
  have l0 := hl false
  have l1 := hl true
  have e := bop_lst ((fs.map (· ++ [false])).map dB) ((fs.map (· ++ [true])).map dB) (by simp; omega)
  simp only [if_true, Bool.false_eq_true, if_false] at l0 l1
  simp only [outB, IS.tl, IS.hd, IS.body, i__law_outcomes, x_cons, x_ife, t_cmp, v_cmp, v_var, v_cnon, rd_2, rd_1, bnd_ok, peek_d, cop_isnone, isNone_ds, Option.isNone_none, blR_some, ofO_some, truthR_eq, truth_bl, if_true, x_set, v_bin, l0, l1, peek_fresh, e, setK_valf, setSl_eq, List.length_cons, List.length_nil, Nat.reduceAdd, Nat.reduceLT, x_nil, nx_next, List.set_cons_succ, List.set_cons_zero, stepO, List.map_append]
theorem outB_some (fs : List (List Bool)) (b : Bool) (R : List (Option Bool)) (S : Store) (h1 : fs.length ≤ 1000) (h2 : ∀ o ∈ fs, o.length ≤ 1000) :
    exS L__law_outcomes outB [.d (dR R), .d (.lst (fs.map dB)), .d (ds (some b)), .none] S = .ok .next [.d (dR R), .d (.lst ((stepO fs (some b)).map dB)), .d (ds (some b)), .none] S := by
  have hl : (ev L__law_outcomes (.lc [3] (.one 3) (.var 1) .no (.bin .add (.var 3) (.tup (.cons (.var 2) .nil))))).v [.d (dR R), .d (.lst (fs.map dB)), .d (ds (some b)), .none] S =
      .ok (.fresh ((fs.map (· ++ [b])).map dB)) [.d (dR R), .d (.lst (fs.map dB)), .d (ds (some b)), .none] S := by
    have := lc_pure dB (fun o => some (dB (o ++ [b]))) fs (L := L__law_outcomes) (own := [3]) (tg := .one 3) (it := .var 1) (ifs := .no) (elt := .bin .add (.var 3) (.tup (.cons (.var 2) .nil)))
      (r := [.d (dR R), .d (.lst (fs.map dB)), .d (ds (some b)), .none]) (S := S) (r1 := [.d (dR R), .d (.lst (fs.map dB)), .d (ds (some b)), .none]) (S1 := S) (by simp) rfl (by
        intro o ho
        have e := dB_app o b (h2 o ho)
        simp [wipeS, e])
    rw [this, List.filterMap_eq_map', List.map_map]; rfl
  simp only [outB, IS.tl, IS.hd, IS.body, i__law_outcomes, x_cons, x_ife, t_cmp, v_cmp, v_var, v_cnon, rd_2, rd_1, bnd_ok, peek_d, cop_isnone, isNone_ds, Option.isNone_some, blR_some, ofO_some, truthR_eq, truth_bl, Bool.false_eq_true, if_false, x_set, hl, setK_valf, setSl_eq, List.length_cons, List.length_nil, Nat.reduceAdd, Nat.reduceLT, if_true, x_nil, nx_next, List.set_cons_succ, List.set_cons_zero, stepO]
theorem sp_outcomes (R : List (Option Bool)) (S : Store) (h1 : R.countP (·.isNone) ≤ 7) (h2 : R.length ≤ 24) : g__law_outcomes [.d (dR R)] S = .ok (.lst ((outs R).map dB)) S := by
  have hp := forL_inv (tg := .one 2) (b := exS L__law_outcomes outB) (enc := ds)
    (fun zs r S' => S' = S ∧ ∃ fs x, r = [.d (dR R), .d (.lst (fs.map dB)), x, .none] ∧ fs.length * 2 ^ (zs.countP (·.isNone)) ≤ 128 ∧ (∀ o ∈ fs, o.length + zs.length ≤ 24) ∧ zs.foldl stepO fs = outs R) (by
    rintro z zs r S' ⟨rfl, fs, x, rfl, i1, i2, i3⟩
    have p2 : 0 < 2 ^ (zs.countP (·.isNone)) := Nat.two_pow_pos _
    have h2' : ∀ o ∈ fs, o.length ≤ 1000 := fun o ho => by have := i2 o ho; simp at this; omega
    cases z with
    | none =>
      have i1' : fs.length * 2 * 2 ^ (zs.countP (·.isNone)) ≤ 128 := by
        simp only [List.countP_cons, Option.isNone_none, if_true, Nat.pow_succ] at i1
        rw [Nat.mul_assoc, Nat.mul_comm 2]; exact i1
      have h1' : fs.length ≤ 1000 := by
        have : fs.length * 2 * 1 ≤ fs.length * 2 * 2 ^ (zs.countP (·.isNone)) := Nat.mul_le_mul_left _ p2
        omega
      refine ⟨_, S', ?_, rfl, stepO fs none, .d (ds none), rfl, ?_, ?_, i3⟩
      · simp only [bindTg_one, setSl_eq, List.length_cons, List.length_nil, Nat.reduceAdd, Nat.reduceLT, if_true, List.set_cons_succ, List.set_cons_zero, bnd_ok]
        exact outB_none fs x R S' h1' h2'
      · simp only [stepO, List.length_append, List.length_map]
        rw [← Nat.mul_two]; exact i1'
      · intro o ho
        simp [stepO] at ho
        rcases ho with ⟨a, ha, rfl⟩ | ⟨a, ha, rfl⟩ <;> (have := i2 a ha; simp at this ⊢; omega)
    | some b =>
      have i1' : fs.length * 2 ^ (zs.countP (·.isNone)) ≤ 128 := by simpa using i1
      have h1' : fs.length ≤ 1000 := by
        have : fs.length * 1 ≤ fs.length * 2 ^ (zs.countP (·.isNone)) := Nat.mul_le_mul_left _ p2
        omega
      refine ⟨_, S', ?_, rfl, stepO fs (some b), .d (ds (some b)), rfl, ?_, ?_, i3⟩
      · simp only [bindTg_one, setSl_eq, List.length_cons, List.length_nil, Nat.reduceAdd, Nat.reduceLT, if_true, List.set_cons_succ, List.set_cons_zero, bnd_ok]
        exact outB_some fs b R S' h1' h2'
      · simp only [stepO, List.length_map]; exact i1'
      · intro o ho
        simp [stepO] at ho
        rcases ho with ⟨a, ha, rfl⟩
        have := i2 a ha; simp at this ⊢; omega) R
    [.d (dR R), .d (.lst [.tup []]), .none, .none] S ⟨rfl, [[]], .none, rfl, by
      have : 2 ^ (R.countP (·.isNone)) ≤ 2 ^ 7 := Nat.pow_le_pow_right (by omega) h1
      simp; omega, by simp; omega, rfl⟩
  obtain ⟨r', S', e, rfl, fs, x, rfl, _, _, e2⟩ := hp
  have e2 : fs = outs R := e2
  subst e2
  simp only [outB, IS.tl, IS.hd, IS.body, i__law_outcomes] at e
  have e3 : itemsOf (dR R) = some (R.map ds) := rfl
  simp [g__law_outcomes, runF, i__law_outcomes, e, e3]
end DK
end

section
namespace DL
open PySem
abbrev zo (gs : List (Nat × Nat)) (o : List Bool) : Rows := gs.zip (o.map some)
theorem M1 (t s : Nat) (hts : s ≠ t) : ∀ (gs : List (Nat × Nat)) (rs : List (Option Bool)) (o : List Bool), (∀ g ∈ gs, g.1 < g.2) → Con rs o → rs.length = gs.length →
    ∃ wm, wm ≤ Me (gs.zip rs) t s ∧ W (zo gs o) s + wm ≤ W (gs.zip rs) s + Lf (gs.zip rs) s ∧ W (zo gs o) t + Me (gs.zip rs) t s ≤ W (gs.zip rs) t + Lf (gs.zip rs) t + wm
  | [], [], [], _, _, _ => ⟨0, by simp [W, Lf, Me]⟩
  | [], _ :: _, _, _, _, h => by simp at h
  | _ :: _, [], _, _, _, h => by simp at h
  | _, [], _ :: _, _, h, _ => absurd h (by simp [Con])
  | _, _ :: _, [], _, h, _ => absurd h (by simp [Con])
  | g :: gs, none :: rs, b :: o, hg, hc, hl => by
    obtain ⟨wm, h1, h2, h3⟩ := M1 t s hts gs rs o (fun g h => hg g (List.mem_cons_of_mem _ h)) hc (by simpa using hl)
    have hg1 := hg g (List.mem_cons_self ..)
    refine ⟨wm + one ((g.1 = t ∨ g.2 = t) ∧ (g.1 = s ∨ g.2 = s) ∧ pick g b = t), ?_, ?_, ?_⟩
    · simp only [zo, List.map_cons, List.zip_cons_cons, W, Lf, Me, one] at h1 h2 h3 ⊢
      cases b <;> simp only [pick, if_true, Bool.false_eq_true, if_false] <;> (repeat' split) <;> omega
    · simp only [zo, List.map_cons, List.zip_cons_cons, W, Lf, Me, one] at h1 h2 h3 ⊢
      cases b <;> simp only [pick, if_true, Bool.false_eq_true, if_false] <;> (repeat' split) <;> omega
    · simp only [zo, List.map_cons, List.zip_cons_cons, W, Lf, Me, one] at h1 h2 h3 ⊢
      cases b <;> simp only [pick, if_true, Bool.false_eq_true, if_false] <;> (repeat' split) <;> omega
  | g :: gs, some c :: rs, b :: o, hg, hc, hl => by
    obtain ⟨rfl, hc⟩ := hc
    obtain ⟨wm, h1, h2, h3⟩ := M1 t s hts gs rs o (fun g h => hg g (List.mem_cons_of_mem _ h)) hc (by simpa using hl)
    refine ⟨wm, ?_, ?_, ?_⟩
    · simp only [zo, List.map_cons, List.zip_cons_cons, W, Lf, Me] at h1 h2 h3 ⊢; omega
    · simp only [zo, List.map_cons, List.zip_cons_cons, W, Lf, Me] at h1 h2 h3 ⊢; omega
    · simp only [zo, List.map_cons, List.zip_cons_cons, W, Lf, Me] at h1 h2 h3 ⊢; omega
theorem M0 (t : Nat) : ∀ (gs : List (Nat × Nat)) (rs : List (Option Bool)) (o : List Bool), (∀ g ∈ gs, g.1 < g.2) → Con rs o → rs.length = gs.length →
    W (gs.zip rs) t ≤ W (zo gs o) t ∧ W (zo gs o) t ≤ W (gs.zip rs) t + Lf (gs.zip rs) t
  | [], [], [], _, _, _ => by simp [W, Lf]
  | [], _ :: _, _, _, _, h => by simp at h
  | _ :: _, [], _, _, _, h => by simp at h
  | _, [], _ :: _, _, h, _ => absurd h (by simp [Con])
  | _, _ :: _, [], _, h, _ => absurd h (by simp [Con])
  | g :: gs, none :: rs, b :: o, hg, hc, hl => by
    obtain ⟨h1, h2⟩ := M0 t gs rs o (fun g h => hg g (List.mem_cons_of_mem _ h)) hc (by simpa using hl)
    have hg1 := hg g (List.mem_cons_self ..)
    simp only [zo, List.map_cons, List.zip_cons_cons, W, Lf, one] at h1 h2 ⊢
    cases b <;> simp only [pick, if_true, Bool.false_eq_true, if_false] <;> (repeat' split) <;> omega
  | g :: gs, some c :: rs, b :: o, hg, hc, hl => by
    obtain ⟨rfl, hc⟩ := hc
    obtain ⟨h1, h2⟩ := M0 t gs rs o (fun g h => hg g (List.mem_cons_of_mem _ h)) hc (by simpa using hl)
    simp only [zo, List.map_cons, List.zip_cons_cons, W, Lf] at h1 h2 ⊢; omega
theorem Me_le (t s : Nat) : ∀ (z : Rows), (∀ p ∈ z, p.1.1 < p.1.2) → Me z t s ≤ Lf z t
  | [], _ => by simp [Me, Lf]
  | (g, none) :: z, h => by
    have := Me_le t s z fun p hp => h p (List.mem_cons_of_mem _ hp)
    simp only [Me, Lf, one]
    (repeat' split) <;> omega
  | (g, some c) :: z, h => by
    have := Me_le t s z fun p hp => h p (List.mem_cons_of_mem _ hp)
    simpa [Me, Lf] using this
theorem M2 (t s : Nat) (hts : s ≠ t) : ∀ (gs : List (Nat × Nat)) (rs : List (Option Bool)) (u v : Nat), (∀ g ∈ gs, g.1 < g.2) → rs.length = gs.length →
    u + Me (gs.zip rs) t s ≤ Lf (gs.zip rs) t → v ≤ Me (gs.zip rs) t s →
    ∃ o, Con rs o ∧ W (zo gs o) t = W (gs.zip rs) t + u + v ∧ W (zo gs o) s + v = W (gs.zip rs) s + Lf (gs.zip rs) s
  | [], [], u, v, _, _, h1, h2 => ⟨[], trivial, by simp [W, Lf, Me] at h1 h2 ⊢; omega⟩
  | [], _ :: _, _, _, _, h, _, _ => by simp at h
  | _ :: _, [], _, _, _, h, _, _ => by simp at h
  | g :: gs, some c :: rs, u, v, hg, hl, h1, h2 => by
    obtain ⟨o, i1, i2, i3⟩ := M2 t s hts gs rs u v (fun g h => hg g (List.mem_cons_of_mem _ h)) (by simpa using hl) (by simpa [Me, Lf] using h1) (by simpa [Me] using h2)
    refine ⟨c :: o, ⟨rfl, i1⟩, ?_, ?_⟩
    · simp only [zo, List.map_cons, List.zip_cons_cons, W, Lf, Me] at i2 i3 ⊢; omega
    · simp only [zo, List.map_cons, List.zip_cons_cons, W, Lf, Me] at i2 i3 ⊢; omega
  | g :: gs, none :: rs, u, v, hg, hl, h1, h2 => by
    have hg1 := hg g (List.mem_cons_self ..)
    have ih := fun u v => M2 t s hts gs rs u v (fun g h => hg g (List.mem_cons_of_mem _ h)) (by simpa using hl)
    have hme := Me_le t s (gs.zip rs) fun p hp => hg p.1 (List.mem_cons_of_mem _ (List.of_mem_zip hp).1)
    simp only [List.zip_cons_cons, Lf, Me, one] at h1 h2
    by_cases ct : g.1 = t ∨ g.2 = t
    · by_cases cs : g.1 = s ∨ g.2 = s
      · -- a meeting
        by_cases cv : 0 < v
        · obtain ⟨o, i1, i2, i3⟩ := ih u (v - 1) (by (repeat' split at h1) <;> (repeat' split at h2) <;> omega) (by (repeat' split at h1) <;> (repeat' split at h2) <;> omega)
          refine ⟨decide (g.2 = t) :: o, i1, ?_, ?_⟩
          · simp only [zo, List.map_cons, List.zip_cons_cons, W, Lf, Me, one, pick, decide_eq_true_eq] at i2 i3 ⊢
            (repeat' split) <;> omega
          · simp only [zo, List.map_cons, List.zip_cons_cons, W, Lf, Me, one, pick, decide_eq_true_eq] at i2 i3 ⊢
            (repeat' split) <;> omega
        · obtain ⟨o, i1, i2, i3⟩ := ih u v (by (repeat' split at h1) <;> (repeat' split at h2) <;> omega) (by (repeat' split at h1) <;> (repeat' split at h2) <;> omega)
          refine ⟨decide (g.2 = s) :: o, i1, ?_, ?_⟩
          · simp only [zo, List.map_cons, List.zip_cons_cons, W, Lf, Me, one, pick, decide_eq_true_eq] at i2 i3 ⊢
            (repeat' split) <;> omega
          · simp only [zo, List.map_cons, List.zip_cons_cons, W, Lf, Me, one, pick, decide_eq_true_eq] at i2 i3 ⊢
            (repeat' split) <;> omega
      · by_cases cu : 0 < u
        · obtain ⟨o, i1, i2, i3⟩ := ih (u - 1) v (by (repeat' split at h1) <;> (repeat' split at h2) <;> omega) (by (repeat' split at h1) <;> (repeat' split at h2) <;> omega)
          refine ⟨decide (g.2 = t) :: o, i1, ?_, ?_⟩
          · simp only [zo, List.map_cons, List.zip_cons_cons, W, Lf, Me, one, pick, decide_eq_true_eq] at i2 i3 ⊢
            (repeat' split) <;> omega
          · simp only [zo, List.map_cons, List.zip_cons_cons, W, Lf, Me, one, pick, decide_eq_true_eq] at i2 i3 ⊢
            (repeat' split) <;> omega
        · obtain ⟨o, i1, i2, i3⟩ := ih u v (by omega) (by (repeat' split at h1) <;> (repeat' split at h2) <;> omega)
          refine ⟨decide (g.2 ≠ t) :: o, i1, ?_, ?_⟩
          · simp only [zo, List.map_cons, List.zip_cons_cons, W, Lf, Me, one, pick, decide_eq_true_eq] at i2 i3 ⊢
            (repeat' split) <;> omega
          · simp only [zo, List.map_cons, List.zip_cons_cons, W, Lf, Me, one, pick, decide_eq_true_eq] at i2 i3 ⊢
            (repeat' split) <;> omega
    · obtain ⟨o, i1, i2, i3⟩ := ih u v (by (repeat' split at h1) <;> (repeat' split at h2) <;> omega) (by (repeat' split at h1) <;> (repeat' split at h2) <;> omega)
      refine ⟨decide (g.2 = s) :: o, i1, ?_, ?_⟩
      · simp only [zo, List.map_cons, List.zip_cons_cons, W, Lf, Me, one, pick, decide_eq_true_eq] at i2 i3 ⊢
        (repeat' split) <;> omega
      · simp only [zo, List.map_cons, List.zip_cons_cons, W, Lf, Me, one, pick, decide_eq_true_eq] at i2 i3 ⊢
        (repeat' split) <;> omega
/-- one open game decided -/
theorem set_rows (g : Nat × Nat) (c : Bool) (t s : Nat) : ∀ (gs : List (Nat × Nat)) (rs : List (Option Bool)) (i : Nat), gs[i]? = some g → rs[i]? = some none →
    W (gs.zip (rs.set i (some c))) s = W (gs.zip rs) s + one (pick g c = s) ∧ Lf (gs.zip rs) s = Lf (gs.zip (rs.set i (some c))) s + one (g.1 = s) + one (g.2 = s) ∧
    Me (gs.zip rs) t s = Me (gs.zip (rs.set i (some c))) t s + one ((g.1 = t ∨ g.2 = t) ∧ (g.1 = s ∨ g.2 = s))
  | [], _, _, h, _ => by simp at h
  | _ :: _, [], _, _, h => by simp at h
  | g' :: gs, r :: rs, 0, h1, h2 => by
    simp at h1 h2
    subst h1; subst h2
    simp [W, Lf, Me]
  | g' :: gs, r :: rs, i + 1, h1, h2 => by
    obtain ⟨i1, i2, i3⟩ := set_rows g c t s gs rs i (by simpa using h1) (by simpa using h2)
    cases r with
    | none =>
      simp only [List.set_cons_succ, List.zip_cons_cons, W, Lf, Me] at i1 i2 i3 ⊢
      omega
    | some b =>
      simp only [List.set_cons_succ, List.zip_cons_cons, W, Lf, Me] at i1 i2 i3 ⊢
      omega
theorem safe_iff (T : Nat) (z : Rows) (t m : Nat) : safe T z t m = true ↔ ∀ s, s < T → s ≠ t → rv z t s m ≤ W z t + m := by
  unfold safe
  rw [List.all_eq_true]
  constructor
  · intro h s hs hn
    have := h s (List.mem_filterMap.2 ⟨s, List.mem_range.2 hs, by simp [hn]⟩)
    exact of_decide_eq_true this
  · intro h s hs
    obtain ⟨s', h1, h2⟩ := List.mem_filterMap.1 hs
    have h1 := List.mem_range.1 h1
    split at h2
    · cases h2
    · cases h2
      exact decide_eq_true (h s h1 (by assumption))
theorem safe_mono {T : Nat} {z : Rows} {t m m' : Nat} (h : safe T z t m = true) (hm : m ≤ m') : safe T z t m' = true := by
  rw [safe_iff] at h ⊢
  intro s h1 h2
  have := h s h1 h2
  unfold rv at this ⊢
  omega
theorem magic_some {T : Nat} {z : Rows} {t d : Nat} : magicN T z t = some d ↔ safe T z t d = true ∧ d ≤ Lf z t ∧ ∀ j, j < d → safe T z t j = false := by
  unfold magicN
  rw [List.head?_filter, List.find?_range_eq_some]
  simp only [List.mem_range, Bool.not_eq_true']
  constructor
  · rintro ⟨h1, h2, h3⟩; exact ⟨h1, by omega, h3⟩
  · rintro ⟨h1, h2, h3⟩; exact ⟨h1, by omega, h3⟩
theorem magic_none {T : Nat} {z : Rows} {t : Nat} : magicN T z t = none ↔ ∀ m, m ≤ Lf z t → safe T z t m = false := by
  unfold magicN
  rw [List.head?_filter, List.find?_eq_none]
  simp only [List.mem_range, Bool.not_eq_true]
  constructor
  · intro h m hm; exact h m (by omega)
  · intro h m hm; exact h m (by omega)
end DL
end

section
namespace DL
open PySem
theorem maxI_spec : ∀ (bs : List Int) (M : Int), maxI bs = some M → M ∈ bs ∧ ∀ b ∈ bs, b ≤ M
  | [], _, h => by cases h
  | x :: xs, M, h => by
    unfold maxI at h
    cases e : maxI xs with
    | none =>
      rw [e] at h
      cases h
      have : xs = [] := by
        cases xs with
        | nil => rfl
        | cons y ys =>
          unfold maxI at e
          cases e2 : maxI ys <;> rw [e2] at e <;> cases e
      subst this
      exact ⟨by simp, by simp⟩
    | some m =>
      rw [e] at h
      obtain ⟨h1, h2⟩ := maxI_spec xs m e
      have h : (if m ≤ x then x else m) = M := by simpa using h
      subst h
      split
      · refine ⟨by simp, ?_⟩
        intro b hb
        cases hb with
        | head => exact Int.le_refl _
        | tail _ hb => have := h2 b hb; omega
      · refine ⟨List.mem_cons_of_mem _ h1, ?_⟩
        intro b hb
        cases hb with
        | head => omega
        | tail _ hb => exact h2 b hb
theorem maxISome : ∀ (bs : List Int), bs ≠ [] → ∃ M, maxI bs = some M
  | [], h => absurd rfl h
  | x :: xs, _ => by
    unfold maxI
    cases maxI xs <;> exact ⟨_, rfl⟩
theorem toInts_map : ∀ bs : List Int, toInts (bs.map .int) = some bs
  | [] => rfl
  | b :: bs => by
    have := toInts_map bs
    simp only [List.map_cons, toInts, this]; rfl
theorem b1_max {bs : List Int} {M : Int} (h : maxI bs = some M) : b1 .max (.lst (bs.map .int)) = some (.d (.int M)) := by
  show ((toInts _).bind maxI).map _ = _
  rw [toInts_map, Option.bind_some, h]; rfl
theorem b1_maxN {ns : List Nat} (h : ns ≠ []) : ∃ M : Nat, b1 .max (.lst (dNs ns)) = some (.d (.int M)) ∧ M ∈ ns ∧ ∀ n ∈ ns, n ≤ M := by
  obtain ⟨M, hM⟩ := maxISome (ns.map fun n : Nat => (n : Int)) (by simpa using h)
  obtain ⟨h1, h2⟩ := maxI_spec _ _ hM
  obtain ⟨m, h3, rfl⟩ := List.mem_map.1 h1
  refine ⟨m, ?_, h3, ?_⟩
  · have := b1_max hM
    rw [List.map_map] at this
    exact this
  · intro n hn
    have := h2 n (List.mem_map.2 ⟨n, hn, rfl⟩)
    omega
/-- an outcome in which t is not first -/
def isBad (T : Nat) (gs : List (Nat × Nat)) (t : Nat) (o : List Bool) : Prop := ∃ s, s < T ∧ W (zo gs o) t < W (zo gs o) s
theorem bad_unsafe {T : Nat} {gs : List (Nat × Nat)} {rs : List (Option Bool)} {t : Nat} {o : List Bool} (hg : ∀ g ∈ gs, g.1 < g.2) (hl : rs.length = gs.length) (hc : Con rs o) (hb : isBad T gs t o) :
    safe T (gs.zip rs) t (W (zo gs o) t - W (gs.zip rs) t) = false := by
  obtain ⟨s, h1, h2⟩ := hb
  cases e : safe T (gs.zip rs) t (W (zo gs o) t - W (gs.zip rs) t) with
  | false => rfl
  | true =>
    exfalso
    have hn : s ≠ t := by rintro rfl; omega
    have h3 := (safe_iff _ _ _ _).1 e s h1 hn
    obtain ⟨wm, i1, i2, i3⟩ := M1 t s hn gs rs o hg hc hl
    obtain ⟨j1, j2⟩ := M0 t gs rs o hg hc hl
    unfold rv at h3
    omega
theorem unsafe_bad {T : Nat} {gs : List (Nat × Nat)} {rs : List (Option Bool)} {t m : Nat} (hg : ∀ g ∈ gs, g.1 < g.2) (hl : rs.length = gs.length) (hm : m ≤ Lf (gs.zip rs) t) (h : safe T (gs.zip rs) t m = false) :
    ∃ o, Con rs o ∧ isBad T gs t o ∧ W (zo gs o) t = W (gs.zip rs) t + m := by
  have h' : ¬ ∀ s, s < T → s ≠ t → rv (gs.zip rs) t s m ≤ W (gs.zip rs) t + m := by
    rw [← safe_iff, h]; simp
  obtain ⟨s, h'⟩ := Classical.not_forall.1 h'
  have ⟨h1, h'⟩ := Classical.not_imp.1 h'
  have ⟨h2, h3⟩ := Classical.not_imp.1 h'
  have hme := Me_le t s (gs.zip rs) fun p hp => hg p.1 (List.of_mem_zip hp).1
  obtain ⟨o, i1, i2, i3⟩ := M2 t s h2 gs rs (min m (Lf (gs.zip rs) t - Me (gs.zip rs) t s)) (m - min m (Lf (gs.zip rs) t - Me (gs.zip rs) t s)) hg hl (by omega) (by omega)
  refine ⟨o, i1, ⟨s, h1, ?_⟩, by omega⟩
  unfold rv at h3
  omega
theorem due_eq {T : Nat} {gs : List (Nat × Nat)} {rs : List (Option Bool)} {t : Nat} (hg : ∀ g ∈ gs, g.1 < g.2) (hl : rs.length = gs.length) {bs : List Int} {M : Int} (hM : maxI bs = some M)
    (b1 : (-1 : Int) ∈ bs) (b2 : ∀ b ∈ bs, b = -1 ∨ ∃ o, Con rs o ∧ isBad T gs t o ∧ b = (W (zo gs o) t : Int) - W (gs.zip rs) t)
    (b3 : ∀ o, Con rs o → isBad T gs t o → ((W (zo gs o) t : Int) - W (gs.zip rs) t) ∈ bs) :
    (if M < Lf (gs.zip rs) t then D.int (M + 1) else .non) = dO (magicN T (gs.zip rs) t) := by
  obtain ⟨m1, m2⟩ := maxI_spec _ _ hM
  have n1 := m2 _ b1
  -- unsafe numbers are M at most
  have c1 : ∀ m : Nat, m ≤ Lf (gs.zip rs) t → safe T (gs.zip rs) t m = false → (m : Int) ≤ M := by
    intro m hm h
    obtain ⟨o, i1, i2, i3⟩ := unsafe_bad hg hl hm h
    have := m2 _ (b3 o i1 i2)
    omega
  have c2 : ∀ k : Nat, M = k → k ≤ Lf (gs.zip rs) t ∧ safe T (gs.zip rs) t k = false := by
    rintro k rfl
    rcases b2 _ m1 with h | ⟨o, i1, i2, i3⟩
    · omega
    · obtain ⟨j1, j2⟩ := M0 t gs rs o hg i1 hl
      have e : k = W (zo gs o) t - W (gs.zip rs) t := by omega
      refine ⟨by omega, ?_⟩
      rw [e]; exact bad_unsafe hg hl i1 i2
  by_cases c : M < Lf (gs.zip rs) t
  · rw [if_pos c]
    have : magicN T (gs.zip rs) t = some (M + 1).toNat := by
      rw [magic_some]
      refine ⟨?_, by omega, ?_⟩
      · cases e : safe T (gs.zip rs) t (M + 1).toNat with
        | true => rfl
        | false => have := c1 _ (by omega) e; omega
      · intro j hj
        cases e : safe T (gs.zip rs) t j with
        | false => rfl
        | true =>
          obtain ⟨k, hk⟩ : ∃ k : Nat, M = k := ⟨M.toNat, by omega⟩
          have := (c2 k hk).2
          rw [safe_mono e (by omega)] at this
          cases this
    rw [this]
    show _ = D.int _
    congr 1; omega
  · rw [if_neg c]
    obtain ⟨k, hk⟩ : ∃ k : Nat, M = k := ⟨M.toNat, by omega⟩
    obtain ⟨k1, k2⟩ := c2 k hk
    have : magicN T (gs.zip rs) t = none := by
      rw [magic_none]
      intro m hm
      cases e : safe T (gs.zip rs) t m with
      | false => rfl
      | true =>
        rw [safe_mono e (by omega)] at k2
        cases k2
    rw [this]; rfl
theorem outs_len : ∀ (rs : List (Option Bool)) (fs : List (List Bool)), (rs.foldl stepO fs).length = fs.length * 2 ^ rs.countP (·.isNone)
  | [], fs => by simp
  | none :: rs, fs => by
    rw [List.foldl_cons, outs_len rs]
    simp only [stepO, List.length_append, List.length_map, List.countP_cons, Option.isNone_none, if_true, Nat.pow_succ]
    rw [← Nat.mul_two, Nat.mul_assoc, Nat.mul_comm 2]
  | some b :: rs, fs => by
    rw [List.foldl_cons, outs_len rs]
    simp [stepO]
theorem bop_rep (T : Nat) (h : T ≤ 8) : bop .mul (.lst [.int 0]) (.int T) = some (.fresh (dNs ((List.range T).map fun _ => 0))) := by
  have h1 : small (T : Int) = true := decide_eq_true (by omega)
  have h2 : szOk ([D.int 0].length * (T : Int).toNat) = true := szOk_of (by simp; omega)
  have h3 : decide ((T : Int) < 2 ^ 63) = true := decide_eq_true (by omega)
  have h4 : decide (-(2 ^ 63) ≤ (T : Int)) = true := decide_eq_true (by omega)
  have h5 : (small (T : Int) && decide ((T : Int) < 2 ^ 63) && decide (-(2 ^ 63) ≤ (T : Int)) && szOk ([D.int 0].length * (T : Int).toNat)) = true := by
    rw [h1, h2, h3, h4]; rfl
  have h6 : bop .mul (.lst [.int 0]) (.int T) = if (small (T : Int) && decide ((T : Int) < 2 ^ 63) && decide (-(2 ^ 63) ≤ (T : Int)) && szOk ([D.int 0].length * (T : Int).toNat)) then some (.fresh (rep [.int 0] (T : Int).toNat)) else none := by
    unfold bop; rfl
  rw [h6, if_pos h5, ← rep_zero]; rfl
@[simp] theorem isLst_2 (a b : Sl) (xs : List D) (r : List Sl) (S : Store) : isLst 2 (a :: b :: .own xs :: r) S = .ok () (a :: b :: .own xs :: r) S := nr rfl
@[simp] theorem putAt_2 (k : Int) (x : D) (a b : Sl) (xs : List D) (r : List Sl) (S : Store) : putAt 2 (.int k) x (a :: b :: .own xs :: r) S = match ixOf xs.length k with
    | some j => .ok () (a :: b :: .own (xs.set j x) :: r) S
    | none => .stuck := nr rfl
/-- what is drawn -/
def dS (T : Nat) (gs : List (Nat × Nat)) (rs : List (Option Bool)) : D := .tup [.int T, .tup (gs.map dg), dR rs]
@[simp] theorem sub_dS0 (T : Nat) (gs : List (Nat × Nat)) (rs : List (Option Bool)) : subD (dS T gs rs) (.int 0) = some (.int T) := subT_0 _ _
@[simp] theorem sub_dS1 (T : Nat) (gs : List (Nat × Nat)) (rs : List (Option Bool)) : subD (dS T gs rs) (.int 1) = some (.tup (gs.map dg)) := subT_1 _ _ _
@[simp] theorem sub_dS2 (T : Nat) (gs : List (Nat × Nat)) (rs : List (Option Bool)) : subD (dS T gs rs) (.int 2) = some (dR rs) := subT_2 _ _ _ _
@[simp] theorem zipOf_tup (xs ys : List D) : zipOf (.tup xs) (.tup ys) = some (zip2L xs ys) := nr rfl
theorem zipOf_dR (gs : List (Nat × Nat)) (rs : List (Option Bool)) : zipOf (.tup (gs.map dg)) (dR rs) = some ((gs.zip rs).map fun p => .tup [dg p.1, ds p.2]) := by
  show some (zip2L _ _) = _
  rw [zip2L_map]
theorem sub_dg (g : Nat × Nat) (b : Bool) : subD (dg g) (ds (some b)) = some (.int (pick g b)) := by cases b <;> rfl
theorem Lf_len (t : Nat) : ∀ (z : Rows), (∀ p ∈ z, p.1.1 < p.1.2) → (z.filterMap fun p => if p.2.isNone && decide (p.1.1 = t ∨ p.1.2 = t) then some (dg p.1) else none).length = Lf z t
  | [], _ => rfl
  | (g, none) :: z, h => by
    have ih := Lf_len t z fun p hp => h p (List.mem_cons_of_mem _ hp)
    have h1 := h (g, none) (List.mem_cons_self ..)
    simp only at h1
    by_cases c : g.1 = t ∨ g.2 = t
    · simp only [List.filterMap_cons, c, Option.isNone_none, decide_true, Bool.and_self, if_true, List.length_cons, ih, Lf, one]
      (repeat' split) <;> omega
    · simp only [List.filterMap_cons, c, Option.isNone_none, decide_false, Bool.and_false, Bool.false_eq_true, if_false, ih, Lf, one]
      (repeat' split) <;> omega
  | (g, some b) :: z, h => by
    have ih := Lf_len t z fun p hp => h p (List.mem_cons_of_mem _ hp)
    simpa [List.filterMap_cons, Lf] using ih
end DL
namespace DK
open PySem DL
def winB : IS := i__law_wins.tl.hd.body
@[simp] theorem sp_lwins (T : Nat) (gs : List (Nat × Nat)) (rs0 rs : List (Option Bool)) (S : Store) (hT : T ≤ 8) (hg : ∀ g ∈ gs, g.1 < g.2 ∧ g.2 < T) :
    g__law_wins [.d (dS T gs rs0), .d (dR rs)] S = .fresh (dNs ((List.range T).map (W (gs.zip rs)))) S := by
  have hp := forL_inv (tg := .many [3, 4]) (b := exS L__law_wins winB) (enc := fun p : (Nat × Nat) × Option Bool => .tup [dg p.1, ds p.2])
    (fun zs r S' => S' = S ∧ (∀ p ∈ zs, p.1.1 < T ∧ p.1.2 < T) ∧ ∃ f x y, r = [.d (dS T gs rs0), .d (dR rs), .own (dNs ((List.range T).map f)), x, y] ∧ ∀ t, f t + W zs t = W (gs.zip rs) t) (by
    rintro ⟨g, c⟩ zs r S' ⟨rfl, hz, f, x, y, rfl, hf⟩
    have hg := hz (g, c) (List.mem_cons_self ..)
    simp only at hg
    cases c with
    | none =>
      refine ⟨[.d (dS T gs rs0), .d (dR rs), .own (dNs ((List.range T).map f)), .d (dg g), .d (ds none)], S', ?_, rfl, fun p hp => hz p (List.mem_cons_of_mem _ hp), f, _, _, rfl, hf⟩
      simp [winB, IS.tl, IS.hd, IS.body, i__law_wins]
    | some b =>
      have hk : pick g b < T := by cases b <;> simp [pick, hg]
      refine ⟨[.d (dS T gs rs0), .d (dR rs), .own (dNs ((List.range T).map fun t => f t + one (pick g b = t))), .d (dg g), .d (ds (some b))], S', ?_, rfl, fun p hp => hz p (List.mem_cons_of_mem _ hp), _, _, _, rfl, ?_⟩
      · have e1 : subD (.lst (dNs ((List.range T).map f))) (.int (pick g b)) = some (.int (f (pick g b))) := subD_lst (by rw [get_dNs, List.getElem?_map, List.getElem?_range hk]; rfl)
        have e2 := set_dT f hk
        have e3 := ixOf_nat T (pick g b) hk
        simp [winB, IS.tl, IS.hd, IS.body, i__law_wins, sub_dg, e1, e2, e3]
      · intro t
        have := hf t
        simp only [W] at this ⊢
        omega)
    (gs.zip rs) [.d (dS T gs rs0), .d (dR rs), .own (dNs ((List.range T).map fun _ => 0)), .none, .none] S ⟨rfl, fun p hp => by
      have := hg p.1 (List.of_mem_zip hp).1
      exact ⟨by omega, by omega⟩, _, _, _, rfl, fun t => by simp⟩
  obtain ⟨r', S', e1, rfl, _, f, x, y, rfl, hf⟩ := hp
  have : f = W (gs.zip rs) := by
    funext t
    have := hf t
    simpa [W] using this
  subst this
  simp only [winB, IS.tl, IS.hd, IS.body, i__law_wins] at e1
  have e2 := bop_rep T hT
  have e3 := zipOf_dR gs rs
  simp [g__law_wins, runF, i__law_wins, e1, e2, e3]
end DK
end

section
namespace DL
open PySem
theorem idx_dg (g : Nat × Nat) (t : Nat) (w : Bool) (hw : pick g w = t) (hg : g.1 < g.2) : mtD .index [.int g.1, .int g.2] [.int t] = some (.int (if w then 1 else 0)) := by
  have h1 : pysS [.int g.1, .int g.2] = some [.int g.1, .int g.2] := by
    simp [pysS, D.pyAll, D.py, PyData.canLayAll0, PyData.canLay0]
  have h2 : shD (.int t) = some (.int t) := by
    simp [shD, D.py, SeqAt.shaped, PyData.canLay0, PyData.depth]
  have h3 : idxD (.int t) [.int g.1, .int g.2] = some (if w then 1 else 0) := by
    unfold idxD
    rw [h1, h2]
    cases w with
    | false =>
      have : g.1 = t := hw
      simp [PyData.eqv, List.findIdx_cons, this]
    | true =>
      have h : g.2 = t := hw
      have h' : ¬ (g.1 : Int) = t := by omega
      have h'' : ((g.1 : Int) == t) = false := by simp; omega
      simp [PyData.eqv, List.findIdx_cons, h, h'']
  simp only [mtD, h3]
  cases w <;> rfl
theorem cut_lo (rs : List (Option Bool)) (i : Nat) (h : i < rs.length) : slcD (dR rs) none (some (i : Int)) = some (.d (dR (rs.take i))) := by
  show some (R.d (.tup (cut _ _ _))) = _
  have h1 : cutIx (rs.map ds).length (rs.map ds).length (some (i : Int)) = i := by
    simp only [cutIx]
    rw [if_neg (by omega)]; simp; omega
  unfold cut
  rw [h1]
  simp [cutIx, dR]
theorem cut_hi (rs : List (Option Bool)) (i : Nat) (h : i < rs.length) : slcD (dR rs) (some ((i : Int) + 1)) none = some (.d (dR (rs.drop (i + 1)))) := by
  show some (R.d (.tup (cut _ _ _))) = _
  have h1 : cutIx (rs.map ds).length 0 (some ((i : Int) + 1)) = i + 1 := by
    simp only [cutIx]
    rw [if_neg (by omega)]; simp; omega
  have h2 : cutIx (rs.map ds).length (rs.map ds).length none = rs.length := by simp [cutIx]
  unfold cut
  rw [h1, h2]
  simp only [dR]
  congr 3
  rw [List.take_of_length_le (by simp), List.map_drop]
theorem add_dR (xs ys : List (Option Bool)) (h : xs.length + ys.length ≤ 1000) : bop .add (dR xs) (dR ys) = some (.d (dR (xs ++ ys))) := by
  show ite _ _ _ = _
  rw [if_pos (szOk_of (by simp; omega))]
  simp [dR]
@[simp] theorem optI_int (i : Int) : optI (.int i) = some (some i) := nr rfl
@[simp] theorem kindOf_tup_ix (xs : List D) : kindOf .index (.tup xs) = some false := nr rfl
@[simp] theorem kindOf_dg (g : Nat × Nat) : kindOf .index (dg g) = some false := nr rfl
@[simp] theorem doMeth_f (m : Mt) (o : R) (ys : List D) : doMeth m o false ys = doMethT m o ys := by unfold doMeth; simp
@[simp] theorem doMethT_eq (m : Mt) (o : R) (ys : List D) (r : List Sl) (S : Store) : doMethT m o ys r S = bnd (peek o r S) fun d r S => M.ofO ((tupOf d).bind fun xs => (mtD m xs ys).map .d) r S := nr rfl
@[simp] theorem tupOf_tup (xs : List D) : tupOf (.tup xs) = some xs := nr rfl
theorem set_app {α : Type} (xs : List α) (i : Nat) (x : α) (h : i < xs.length) : xs.take i ++ [x] ++ xs.drop (i + 1) = xs.set i x := by
  rw [List.set_eq_take_append_cons_drop, if_pos h]; simp
end DL
namespace DK
open PySem DL
/-- who wins, by a team and whether it wins -/
def sideOf (w won : Bool) : Bool := if won then w else !w
theorem sp_lwon (T t i : Nat) (g : Nat × Nat) (w won : Bool) (gs : List (Nat × Nat)) (rs : List (Option Bool)) (S : Store) (hi : gs[i]? = some g) (hl : rs.length = gs.length) (hn : gs.length ≤ 24) (hw : pick g w = t) (hg : g.1 < g.2) :
    g__law_won [.d (dS T gs rs), .d (.int t), .d (.int i), .d (.bl won)] S = .ok (dR (rs.set i (some (sideOf w won)))) S := by
  have hi' : i < rs.length := by rw [hl]; exact (List.getElem?_eq_some_iff.1 hi).1
  have e1 : subD (.tup (gs.map dg)) (.int i) = some (dg g) := subD_tup (by simp [hi])
  have e2 := idx_dg g t w hw hg
  have e3 := cut_lo rs i hi'
  have e4 := cut_hi rs i hi'
  have e5 : tupOf (dg g) = some [.int g.1, .int g.2] := rfl
  have e6 : ∀ x : Option Bool, D.tup [ds x] = dR [x] := fun x => rfl
  have e7 := add_dR (rs.take i) [some (sideOf w won)] (by simp; omega)
  have e8 := add_dR (rs.take i ++ [some (sideOf w won)]) (rs.drop (i + 1)) (by simp; omega)
  rw [set_app _ _ _ hi'] at e8
  have e9 : D.int (if w then 1 else 0) = ds (some w) := by cases w <;> rfl
  have e10 : D.int (1 - (if w then 1 else 0)) = ds (some (!w)) := by cases w <;> rfl
  cases won
  · simp only [sideOf, Bool.false_eq_true, if_false] at e7 e8 ⊢
    simp [g__law_won, runF, i__law_won, e1, e2, e3, e4, e5, e10, e6, e7, e8]
  · simp only [sideOf, if_true] at e7 e8 ⊢
    simp [g__law_won, runF, i__law_won, e1, e2, e3, e4, e5, e9, e6, e7, e8]
def magB : IS := i__law_magic.tl.tl.tl.hd.body
theorem sp_lmagic (T t : Nat) (gs : List (Nat × Nat)) (rs : List (Option Bool)) (S : Store) (hG : Good T gs) (hl : rs.length = gs.length) (hn : rs.countP (·.isNone) ≤ 7) (ht : t < T) :
    g__law_magic [.d (dS T gs rs), .d (.int t)] S = .ok (dO (magicN T (gs.zip rs) t)) S := by
  obtain ⟨hT1, hT, hgl, hg⟩ := hG
  have hg1 : ∀ g ∈ gs, g.1 < g.2 := fun g h => (hg g h).1
  -- the games of the team
  have l1 := lc_pure (fun p : (Nat × Nat) × Option Bool => .tup [dg p.1, ds p.2]) (fun p => if p.2.isNone && decide (p.1.1 = t ∨ p.1.2 = t) then some (dg p.1) else none) (gs.zip rs) (L := L__law_magic) (own := [7, 8]) (tg := .many [7, 8])
    (it := .zip2 (.sub (.var 0) (.cint 1)) (.sub (.var 0) (.cint 2))) (ifs := .and (.cmp .isnone (.var 8) .cnon) (.cmp .isin (.var 1) (.var 7))) (elt := .var 7)
    (r := [.d (dS T gs rs), .d (.int t), .d (.int (W (gs.zip rs) t)), .none, .none, .none, .none, .none, .none]) (S := S) (r1 := [.d (dS T gs rs), .d (.int t), .d (.int (W (gs.zip rs) t)), .none, .none, .none, .none, .none, .none]) (S1 := S)
    (by simp [zipOf_dR]) rfl (by
      rintro ⟨g, c⟩ hz
      cases c with
      | some b => simp [wipeS]
      | none =>
        by_cases q : g.1 = t ∨ g.2 = t
        · simp [wipeS, inD_dg, q]
        · simp [wipeS, inD_dg, q])
  have l2 := Lf_len t (gs.zip rs) fun p hp => hg1 p.1 (List.of_mem_zip hp).1
  generalize ((gs.zip rs).filterMap fun p => if p.2.isNone && decide (p.1.1 = t ∨ p.1.2 = t) then some (dg p.1) else none) = fm at l1 l2
  -- the outcomes
  have hlen : (outs rs).length ≤ 128 := by
    have := outs_len rs [[]]
    have p2 : 2 ^ (rs.countP (·.isNone)) ≤ 2 ^ 7 := Nat.pow_le_pow_right (by omega) hn
    unfold outs
    simp at this
    omega
  have hp := forL_inv (tg := .one 5) (b := exS L__law_magic magB) (enc := dB)
    (fun zs r S' => S' = S ∧ (∀ o ∈ zs, Con rs o) ∧ ∃ bs x y, r = [.d (dS T gs rs), .d (.int t), .d (.int (W (gs.zip rs) t)), .d (.int (Lf (gs.zip rs) t)), .own (bs.map .int), x, y, .none, .none] ∧ bs.length + zs.length ≤ 129 ∧ (-1 : Int) ∈ bs ∧
      (∀ b ∈ bs, b = -1 ∨ ∃ o, Con rs o ∧ isBad T gs t o ∧ b = (W (zo gs o) t : Int) - W (gs.zip rs) t) ∧
      (∀ o, Con rs o → isBad T gs t o → o ∈ zs ∨ ((W (zo gs o) t : Int) - W (gs.zip rs) t) ∈ bs)) (by
    rintro o zs r S' ⟨rfl, hc, bs, x, y, rfl, hb0, hb1, hb2, hb3⟩
    have hco := hc o (List.mem_cons_self ..)
    have w1 := sp_lwins T gs rs (o.map some) S' hT hg
    have w1' : g__law_wins [.d (dS T gs rs), .d (dB o)] S' = .fresh (dNs ((List.range T).map (W (zo gs o)))) S' := w1
    obtain ⟨M, m1, m2, m3⟩ := b1_maxN (ns := (List.range T).map (W (zo gs o))) (by simp; omega)
    have e1 : subD (.lst (dNs ((List.range T).map (W (zo gs o))))) (.int t) = some (.int (W (zo gs o) t)) := subD_lst (by rw [get_dNs, List.getElem?_map, List.getElem?_range ht]; rfl)
    by_cases q : W (zo gs o) t < M
    · have hbad : isBad T gs t o := by
        obtain ⟨s, s1, s2⟩ := List.mem_map.1 m2
        exact ⟨s, List.mem_range.1 s1, by rw [s2]; exact q⟩
      have a1 : (bs.map D.int).length ≤ 10000 := by simp at hb0 ⊢; omega
      have q' : ((W (zo gs o) t : Nat) : Int) < M := by omega
      refine ⟨[.d (dS T gs rs), .d (.int t), .d (.int (W (gs.zip rs) t)), .d (.int (Lf (gs.zip rs) t)), .own ((bs ++ [(W (zo gs o) t : Int) - W (gs.zip rs) t]).map .int), .d (dB o), .d (.lst (dNs ((List.range T).map (W (zo gs o))))), .none, .none], S', ?_, rfl, fun p hp => hc p (List.mem_cons_of_mem _ hp), _, _, _, rfl, ?_, ?_, ?_, ?_⟩
      · simp [magB, IS.tl, IS.hd, IS.body, i__law_magic, w1', e1, m1, q', mtOwn_append a1]
      · simp at hb0 ⊢; omega
      · simp [hb1]
      · intro b hb
        rw [List.mem_append] at hb
        rcases hb with hb | hb
        · exact hb2 b hb
        · simp at hb; exact .inr ⟨o, hco, hbad, hb⟩
      · intro p hp1 hp2
        rcases hb3 p hp1 hp2 with h | h
        · cases h with
          | head => exact .inr (by simp)
          | tail _ h => exact .inl h
        · exact .inr (by simp [h])
    · have hbad : ¬ isBad T gs t o := by
        rintro ⟨s, s1, s2⟩
        have := m3 (W (zo gs o) s) (List.mem_map.2 ⟨s, List.mem_range.2 s1, rfl⟩)
        omega
      have q' : ¬ ((W (zo gs o) t : Nat) : Int) < M := by omega
      refine ⟨[.d (dS T gs rs), .d (.int t), .d (.int (W (gs.zip rs) t)), .d (.int (Lf (gs.zip rs) t)), .own (bs.map .int), .d (dB o), .d (.lst (dNs ((List.range T).map (W (zo gs o))))), .none, .none], S', ?_, rfl, fun p hp => hc p (List.mem_cons_of_mem _ hp), _, _, _, rfl, ?_, hb1, hb2, ?_⟩
      · simp [magB, IS.tl, IS.hd, IS.body, i__law_magic, w1', e1, m1, q']
      · simp at hb0; omega
      · intro p hp1 hp2
        rcases hb3 p hp1 hp2 with h | h
        · cases h with
          | head => exact absurd hp2 hbad
          | tail _ h => exact .inl h
        · exact .inr h)
    (outs rs) [.d (dS T gs rs), .d (.int t), .d (.int (W (gs.zip rs) t)), .d (.int (Lf (gs.zip rs) t)), .own [.int (-1)], .none, .none, .none, .none] S
    ⟨rfl, fun o ho => (mem_outs rs o).1 ho, [-1], .none, .none, rfl, by simp; omega, by simp, fun b hb => .inl (by simpa using hb), fun o h1 _ => .inl ((mem_outs rs o).2 h1)⟩
  obtain ⟨r', S', e1, rfl, _, bs, x, y, rfl, hb0, hb1, hb2, hb3⟩ := hp
  obtain ⟨M, hM⟩ := maxISome bs (by rintro rfl; simp at hb1)
  have key := due_eq hg1 hl hM hb1 hb2 fun o h1 h2 => (hb3 o h1 h2).resolve_left (by simp)
  have e2 := b1_max hM
  have e3 := sp_outcomes rs S' hn (by omega)
  have e4 := sp_lwins T gs rs rs S' hT hg
  have e5 : subD (.lst (dNs ((List.range T).map (W (gs.zip rs))))) (.int t) = some (.int (W (gs.zip rs) t)) := subD_lst (by rw [get_dNs, List.getElem?_map, List.getElem?_range ht]; rfl)
  simp only [magB, IS.tl, IS.hd, IS.body, i__law_magic] at e1
  rw [← key]
  have e6 : negR (.int 1) = some (.d (.int (-1))) := rfl
  simp [g__law_magic, runF, i__law_magic, e4, e5, l1, l2, e6, e3, e1, e2]
end DK
end

section
namespace DL
open PySem
def chkRepr (x : D) : Bool := match reprD x with
  | some (.str s) => match eqD (.str s) (.str s) with
    | some b => b
    | none => false
  | _ => false
theorem repr_small : ∀ m, m < 64 → chkRepr (.int (m : Nat)) = true := by decide +kernel
theorem repr_non : chkRepr .non = true := by decide +kernel
theorem repr_of {x : D} (h : chkRepr x = true) : ∃ s, b1 .repr x = some (.d (.str s)) ∧ eqD (.str s) (.str s) = some true := by
  unfold chkRepr at h
  split at h
  · rename_i s e
    refine ⟨s, ?_, ?_⟩
    · show (reprD x).map _ = _
      rw [e]; rfl
    · split at h
      · rename_i e2; rw [e2, h]
      · cases h
  · cases h
theorem repr_dO (m : Option Nat) (h : ∀ d, m = some d → d < 64) : ∃ s, b1 .repr (dO m) = some (.d (.str s)) ∧ eqD (.str s) (.str s) = some true := by
  apply repr_of
  cases m with
  | none => exact repr_non
  | some d => exact repr_small d (h d rfl)
theorem inD_dNs (t : Nat) (ns : List Nat) : inD (.int t) (.tup (dNs ns)) = some (decide (t ∈ ns)) := by
  have h3 := depthAll_dNs ns
  have h4 : SeqAt.shaped (.tuple (ns.map fun n : Nat => PyData.int n)) = true := by
    simp only [SeqAt.shaped, PyData.canLay0, canLay_dNs, PyData.depth, Bool.true_and]
    exact decide_eq_true (by omega)
  have h5 : SeqAt.shaped (.int t) = true := by simp [SeqAt.shaped, PyData.canLay0, PyData.depth]
  simp only [inD, D.py, pyAll_dNs, Option.map_some, h4, h5, Bool.and_self, if_true]
  congr 1
  rw [List.any_map]
  by_cases h : t ∈ ns
  · rw [decide_eq_true h, List.any_eq_true]
    exact ⟨t, h, by simp [PyData.eqv]⟩
  · rw [decide_eq_false h, List.any_eq_false]
    intro x hx
    have : ¬ x = t := by rintro rfl; exact h hx
    simp [PyData.eqv]; omega
theorem mem_enumN {α : Type} : ∀ (R : List α) (k i : Nat) (x : α), R[i]? = some x → (k + i, x) ∈ enumN k R
  | [], _, _, _, h => by simp at h
  | y :: R, k, 0, x, h => by simp at h; subst h; exact List.mem_cons_self ..
  | y :: R, k, i + 1, x, h => by
    have := mem_enumN R (k + 1) i x (by simpa using h)
    have e : k + 1 + i = k + (i + 1) := by omega
    rw [e] at this
    exact List.mem_cons_of_mem _ this
theorem Lf_zero (t : Nat) : ∀ (gs : List (Nat × Nat)) (rs : List (Option Bool)), (∀ (i : Nat) g, gs[i]? = some g → (g.1 = t ∨ g.2 = t) → rs[i]? ≠ some none) → Lf (gs.zip rs) t = 0
  | [], _, _ => by simp [Lf]
  | _ :: _, [], _ => by simp [Lf]
  | g :: gs, r :: rs, h => by
    have ih := Lf_zero t gs rs fun i g hg => by simpa using h (i + 1) g (by simpa using hg)
    cases r with
    | some b => simpa [Lf] using ih
    | none =>
      have h0 := h 0 g (by simp)
      simp at h0
      simp [Lf, ih, one, h0.1, h0.2]
/-- its open games -/
def mine (gs : List (Nat × Nat)) (rs : List (Option Bool)) (t : Nat) : List Nat := (enumN 0 gs).filterMap fun p => if (p.2.1 = t ∨ p.2.2 = t) ∧ rs[p.1]? = some none then some p.1 else none
theorem mine_get {gs : List (Nat × Nat)} {rs : List (Option Bool)} {t i : Nat} (h : i ∈ mine gs rs t) : ∃ g, gs[i]? = some g ∧ (g.1 = t ∨ g.2 = t) ∧ rs[i]? = some none := by
  obtain ⟨p, h1, h2⟩ := List.mem_filterMap.1 h
  split at h2
  · rename_i h3
    cases h2
    exact ⟨p.2, enumN_get0 h1, h3.1, h3.2⟩
  · cases h2
theorem mine_nil {gs : List (Nat × Nat)} {rs : List (Option Bool)} {t : Nat} (h : mine gs rs t = []) : Lf (gs.zip rs) t = 0 := by
  apply Lf_zero
  intro i g h1 h2 h3
  have : i ∈ mine gs rs t := List.mem_filterMap.2 ⟨(i, g), by simpa using mem_enumN gs 0 i g h1, by simp [h2, h3]⟩
  rw [h] at this
  cases this
theorem mine_len (gs : List (Nat × Nat)) (rs : List (Option Bool)) (t : Nat) : (mine gs rs t).length ≤ gs.length := by
  have h : ∀ (k : Nat) (l : List (Nat × Nat)), (enumN k l).length = l.length := by
    intro k l
    induction l generalizing k with
    | nil => rfl
    | cons x xs ih => simp [enumN, ih]
  have := List.length_filterMap_le (fun p : Nat × (Nat × Nat) => if (p.2.1 = t ∨ p.2.2 = t) ∧ rs[p.1]? = some none then some p.1 else none) (enumN 0 gs)
  rw [h] at this; exact this
/-- a game won: one fewer at most -/
theorem won_fewer {T t i : Nat} {g : Nat × Nat} {w : Bool} {gs : List (Nat × Nat)} {rs : List (Option Bool)} (hi : gs[i]? = some g) (hr : rs[i]? = some none) (hg : g.1 < g.2) (hw : pick g w = t)
    {d : Nat} (hd : magicN T (gs.zip rs) t = some d) : ∃ e, magicN T (gs.zip (rs.set i (some w))) t = some e ∧ e ≤ d - 1 := by
  obtain ⟨h1, h2, h3⟩ := magic_some.1 hd
  have hs : ∀ m, safe T (gs.zip rs) t (m + 1) = true → safe T (gs.zip (rs.set i (some w))) t m = true := by
    intro m hm
    rw [safe_iff] at hm ⊢
    intro s s1 s2
    have a1 := hm s s1 s2
    obtain ⟨r1, r2, r3⟩ := set_rows g w t s gs rs i hi hr
    obtain ⟨q1, q2, q3⟩ := set_rows g w t t gs rs i hi hr
    unfold rv at a1 ⊢
    unfold one at r1 r2 r3 q1 q2 q3
    cases w <;> simp only [pick, if_true, Bool.false_eq_true, if_false] at hw r1 q1 <;> (repeat' split at r1) <;> (repeat' split at r2) <;> (repeat' split at r3) <;> (repeat' split at q1) <;> (repeat' split at q2) <;> omega
  have hl : Lf (gs.zip rs) t = Lf (gs.zip (rs.set i (some w))) t + 1 := by
    obtain ⟨q1, q2, q3⟩ := set_rows g w t t gs rs i hi hr
    unfold one at q1 q2 q3
    cases w <;> simp only [pick, if_true, Bool.false_eq_true, if_false] at hw <;> (repeat' split at q2) <;> omega
  have hsd : safe T (gs.zip (rs.set i (some w))) t (d - 1) = true := by
    cases d with
    | zero => exact hs 0 (safe_mono h1 (by omega))
    | succ d => exact hs d h1
  cases e : magicN T (gs.zip (rs.set i (some w))) t with
  | none =>
    have := magic_none.1 e (d - 1) (by omega)
    rw [hsd] at this; cases this
  | some k =>
    obtain ⟨k1, k2, k3⟩ := magic_some.1 e
    refine ⟨k, rfl, ?_⟩
    cases Nat.lt_or_ge (d - 1) k with
    | inl h => have := k3 (d - 1) h; rw [hsd] at this; cases this
    | inr h => exact h
/-- a game lost: no more, or none; of none none -/
theorem lost_more {T t i : Nat} {g : Nat × Nat} {w : Bool} {gs : List (Nat × Nat)} {rs : List (Option Bool)} (hi : gs[i]? = some g) (hr : rs[i]? = some none) (hg : g.1 < g.2) (hw : pick g w = t) :
    (magicN T (gs.zip rs) t = none → magicN T (gs.zip (rs.set i (some (!w)))) t = none) ∧ (∀ d e, magicN T (gs.zip rs) t = some d → magicN T (gs.zip (rs.set i (some (!w)))) t = some e → e ≤ d) := by
  have hl : Lf (gs.zip rs) t = Lf (gs.zip (rs.set i (some (!w)))) t + 1 := by
    obtain ⟨q1, q2, q3⟩ := set_rows g (!w) t t gs rs i hi hr
    unfold one at q1 q2 q3
    cases w <;> simp only [pick, if_true, Bool.false_eq_true, if_false] at hw <;> (repeat' split at q2) <;> omega
  have hWt : W (gs.zip (rs.set i (some (!w)))) t = W (gs.zip rs) t := by
    obtain ⟨q1, q2, q3⟩ := set_rows g (!w) t t gs rs i hi hr
    unfold one at q1
    cases w <;> simp only [pick, if_true, Bool.false_eq_true, if_false, Bool.not_true, Bool.not_false] at hw q1 ⊢ <;> (repeat' split at q1) <;> omega
  have hs : ∀ m, safe T (gs.zip rs) t m = true → safe T (gs.zip (rs.set i (some (!w)))) t m = true := by
    intro m hm
    rw [safe_iff] at hm ⊢
    intro s s1 s2
    have a1 := hm s s1 s2
    obtain ⟨r1, r2, r3⟩ := set_rows g (!w) t s gs rs i hi hr
    unfold rv at a1 ⊢
    unfold one at r1 r2 r3
    cases w <;> simp only [pick, if_true, Bool.false_eq_true, if_false, Bool.not_true, Bool.not_false] at hw r1 hWt hl a1 ⊢ r2 r3 <;> (repeat' split at r1) <;> (repeat' split at r2) <;> (repeat' split at r3) <;> omega
  constructor
  · intro h0
    rw [magic_none] at h0 ⊢
    intro m hm
    cases e : safe T (gs.zip (rs.set i (some (!w)))) t m with
    | false => rfl
    | true =>
      exfalso
      have e' := safe_mono e hm
      have h1 := h0 (Lf (gs.zip rs) t) (Nat.le_refl _)
      have : safe T (gs.zip rs) t (Lf (gs.zip rs) t) = true := by
        rw [safe_iff] at e' ⊢
        intro s s1 s2
        have a1 := e' s s1 s2
        obtain ⟨r1, r2, r3⟩ := set_rows g (!w) t s gs rs i hi hr
        unfold rv at a1 ⊢
        unfold one at r1 r2 r3
        cases w <;> simp only [pick, if_true, Bool.false_eq_true, if_false, Bool.not_true, Bool.not_false] at hw r1 hWt hl a1 ⊢ r2 r3 <;> (repeat' split at r1) <;> (repeat' split at r2) <;> (repeat' split at r3) <;> omega
      rw [h1] at this; cases this
  · intro d e hd he
    obtain ⟨h1, h2, h3⟩ := magic_some.1 hd
    obtain ⟨k1, k2, k3⟩ := magic_some.1 he
    cases Nat.lt_or_ge d e with
    | inl h => have := k3 d h; rw [hs d h1] at this; cases this
    | inr h => exact h
end DL
namespace DK
open PySem DL
theorem sp_new_eq (T : Nat) (gs : List (Nat × Nat)) : D.ins "League" [("teams", .int T), ("games", .tup (gs.map dg))] = dL T gs := rfl
theorem sp_right (T t : Nat) (gs : List (Nat × Nat)) (rs : List (Option Bool)) (S : Store) (hS : HandOk S) (hG : Good T gs) (hl : rs.length = gs.length) (hn : rs.countP (·.isNone) ≤ 7) (ht : t < T) :
    ∃ S', HandOk S' ∧ g__law_team_right [.loc 0, .d (dS T gs rs), .d (.int t)] S = .ok (.bl true) S' := by
  obtain ⟨hT1, hT, hgl, hg⟩ := id hG
  have n1 := sp_init T gs S hG
  have n2 := sp_lmagic T t gs rs S hG hl hn ht
  have n3 := sp_magic T t gs rs S hT hl hgl ht
  have n4 := sp_surely_first T gs rs S hT hl hgl
  have n5 := sp_left T gs rs S hT hl hgl
  have n6 := sub_dT (Lf (gs.zip rs)) ht
  have n7 := inD_dNs t ((List.range T).filter fun t => safe T (gs.zip rs) t 0)
  have n8 : decide (t ∈ (List.range T).filter fun t => safe T (gs.zip rs) t 0) = safe T (gs.zip rs) t 0 := by
    cases e : safe T (gs.zip rs) t 0 <;> simp [e, ht]
  rw [n8] at n7
  have hLf := Lf_le (gs.zip rs) t
  rw [zip_len hl] at hLf
  generalize hm : magicN T (gs.zip rs) t = m at n2 n3
  obtain ⟨rp, r1, r2⟩ := repr_dO m (by
    rintro d rfl
    have := (magic_some.1 hm).2.1
    omega)
  have r3 : eqD (dO m) (.int 0) = some (safe T (gs.zip rs) t 0) := by
    cases m with
    | none =>
      rw [magic_none.1 hm 0 (by omega)]
      exact eqD_non_int 0
    | some d =>
      obtain ⟨m1, m2, m3⟩ := magic_some.1 hm
      have : eqD (dO (some d)) (.int 0) = some (decide ((d : Int) = 0)) := eqD_int d 0
      rw [this]
      cases d with
      | zero => rw [m1]; rfl
      | succ d =>
        rw [m3 0 (by omega)]
        congr 1
  -- the open games of the team
  have l1 := lc_pure (fun p : Nat × (Nat × Nat) => .tup [.int p.1, dg p.2]) (fun p => (if (p.2.1 = t ∨ p.2.2 = t) ∧ rs[p.1]? = some none then some p.1 else none).map dN) (enumN 0 gs) (L := L__law_team_right) (own := [5, 10]) (tg := .many [5, 10])
    (it := .enum (.sub (.var 1) (.cint 1))) (ifs := .and (.cmp .isin (.var 2) (.var 10)) (.cmp .isnone (.sub (.sub (.var 1) (.cint 2)) (.var 5)) .cnon)) (elt := .var 5)
    (r := [.loc 0, .d (dS T gs rs), .d (.int t), .d (dO m), .none, .none, .none, .none, .d (dL T gs), .d (dO m), .none]) (S := S) (r1 := [.loc 0, .d (dS T gs rs), .d (.int t), .d (dO m), .none, .none, .none, .none, .d (dL T gs), .d (dO m), .none]) (S1 := S)
    (by simp [enumL_map0]) rfl (by
      rintro ⟨i, g⟩ hz
      have h1 := enumN_get0 hz
      have h2 : i < rs.length := by rw [hl]; exact (List.getElem?_eq_some_iff.1 h1).1
      have h3 : rs[i]? = some rs[i] := by simp [h2]
      have h4 : subD (dR rs) (.int i) = some (ds rs[i]) := subD_tup (by simp [h2])
      by_cases q : g.1 = t ∨ g.2 = t
      · cases q2 : rs[i] with
        | none => simp [wipeS, inD_dg, q, h4, q2, h3, dN]
        | some b => simp [wipeS, inD_dg, q, h4, q2, h3, dN]
      · simp [wipeS, inD_dg, q])
  rw [filterMap_dN] at l1
  change _ = Out.ok (R.fresh (dNs (mine gs rs t))) _ _ at l1
  have v0 : t < T := ht
  by_cases hc : mine gs rs t = []
  · -- no open game
    have z0 := mine_nil hc
    rw [hc] at l1
    have z1 : inD (dO m) (.tup [.int 0, .non]) = some true := by
      cases m with
      | none => decide +kernel
      | some d =>
        have := (magic_some.1 hm).2.1
        have : d = 0 := by omega
        subst this
        decide +kernel
    refine ⟨S, hS, ?_⟩
    cases m with
    | none =>
      simp only [dO] at n2 n3 r1 r3 z1 l1
      simp [g__law_team_right, runF, i__law_team_right, n1, sp_new_eq, n2, n3, n4, n5, n6, n7, r1, r2, r3, l1, z1, handOk_len hS, handOk_take hS]
    | some d =>
      have b1 : ¬ Lf (gs.zip rs) t < d := by have := (magic_some.1 hm).2.1; omega
      simp only [dO] at n2 n3 r1 r3 z1 l1
      simp [g__law_team_right, runF, i__law_team_right, n1, sp_new_eq, n2, n3, n4, n5, n6, n7, r1, r2, r3, l1, z1, b1, handOk_len hS, handOk_take hS]
  · obtain ⟨x, S1, hx, hS1, d1⟩ := sp_any (dNs (mine gs rs t)) (by
      cases e : mine gs rs t with
      | nil => exact absurd e hc
      | cons => simp) (by
      have := mine_len gs rs t
      simp; omega) S hS
    obtain ⟨i, hi, rfl⟩ := List.mem_map.1 hx
    obtain ⟨g, g1, g2, g3⟩ := mine_get hi
    obtain ⟨g4, g5⟩ := hg g (List.mem_of_getElem? g1)
    have hw : pick g (decide (g.2 = t)) = t := by
      by_cases e : g.2 = t
      · simp [pick, e]
      · simp [pick, e]; omega
    generalize decide (g.2 = t) = w at hw
    have e1 := sp_lwon T t i g w true gs rs S1 g1 hl hgl hw g4
    have e2 := sp_lwon T t i g w false gs rs S1 g1 hl hgl hw g4
    simp only [sideOf, if_true, Bool.false_eq_true, if_false] at e1 e2
    have e3 := sp_magic T t gs (rs.set i (some w)) S1 hT (by simp [hl]) hgl ht
    have e4 := sp_magic T t gs (rs.set i (some (!w))) S1 hT (by simp [hl]) hgl ht
    have e5 := @won_fewer T t i g w gs rs g1 g3 g4 hw
    have e6 := @lost_more T t i g w gs rs g1 g3 g4 hw
    generalize magicN T (gs.zip (rs.set i (some w))) t = m1 at e3 e5
    generalize magicN T (gs.zip (rs.set i (some (!w)))) t = m2 at e4 e6
    rw [hm] at e5 e6
    refine ⟨S1, hS1, ?_⟩
    have hne : ¬ (mine gs rs t).length = 0 := by simpa using hc
    have d1' : g__law_any [.loc 0, .d (.lst (dNs (mine gs rs t)))] S = .ok (.int i) S1 := d1
    cases m with
    | none =>
      have e7 := e6.1 rfl
      subst e7
      simp only [dO] at n2 n3 r1 r3 l1 e4
      cases m1 with
      | none =>
        simp only [dO] at e3
        simp [g__law_team_right, runF, i__law_team_right, n1, sp_new_eq, n2, n3, n4, n5, n6, n7, r1, r2, r3, l1, hc, d1', e1, e2, e3, e4, handOk_len hS, handOk_take hS1]
      | some k =>
        simp only [dO] at e3
        simp [g__law_team_right, runF, i__law_team_right, n1, sp_new_eq, n2, n3, n4, n5, n6, n7, r1, r2, r3, l1, hc, d1', e1, e2, e3, e4, handOk_len hS, handOk_take hS1]
    | some d =>
      have b1 : ¬ Lf (gs.zip rs) t < d := by have := (magic_some.1 hm).2.1; omega
      obtain ⟨k, rfl, hk⟩ := e5 rfl
      have b2 : ¬ max 0 ((d : Int) - 1) < k := by omega
      simp only [dO] at n2 n3 r1 r3 l1 e3
      cases m2 with
      | none =>
        simp only [dO] at e4
        simp [g__law_team_right, runF, i__law_team_right, n1, sp_new_eq, n2, n3, n4, n5, n6, n7, r1, r2, r3, l1, hc, d1', e1, e2, e3, e4, b1, b2, handOk_len hS, handOk_take hS1]
      | some l =>
        have b3 : l ≤ d := e6.2 d l rfl rfl
        simp only [dO] at e4
        simp [g__law_team_right, runF, i__law_team_right, n1, sp_new_eq, n2, n3, n4, n5, n6, n7, r1, r2, r3, l1, hc, d1', e1, e2, e3, e4, b1, b2, b3, handOk_len hS, handOk_take hS1]
end DK
end

section
namespace DL
open PySem
@[simp] theorem rdS_0 (x : List Int) (r : List Sl) (S : Store) : rd 0 (.scr x :: r) S = .ok (.scr x) (.scr x :: r) S := nr rfl
end DL
namespace DK
open PySem DL
def lawB : IS := i_law.tl.tl.tl.tl.hd.body
theorem law_turn (r : List Sl) (S : Store) (L3 told x4 x5 : Sl) (h : r = [.scr ns, .loc 0, L3, told, x4, x5, .none]) (hS : HandOk S) :
    ∃ r' S', (exS L_law lawB r S) = .ok .next r' S' ∧ HandOk S' ∧ ∃ x4' x5', r' = [.scr ns, .loc 0, L3, told, x4', x5', .none] := by
  subst h
  obtain ⟨T, gs, rs, S1, hG, hT5, hg10, hl, hn, hS1, e1⟩ := sp_spec S hS
  have e1' : g__law_spec [.loc 0, .d (.int 7)] S = .ok (dS T gs rs) S1 := e1
  have r1 := rngOf_dN T (by omega)
  have r2 : szOk T = true := szOk_of (by omega)
  obtain ⟨ys, S2, l1, hS2, hy⟩ := lc_inv dN HandOk (fun y => y = .bl true) (List.range T) (L := L_law) (own := [6]) (tg := .one 6)
    (it := .rng1 (.sub (.var 5) (.cint 0))) (ifs := .no) (elt := .call 1228 (.cons (.var 1) (.cons (.var 5) (.cons (.var 6) .nil))))
    (r := [.scr ns, .loc 0, L3, told, x4, .d (dS T gs rs), .none]) (S := S1) (r1 := [.scr ns, .loc 0, L3, told, x4, .d (dS T gs rs), .none]) (S1 := S1) (by simp [r1, r2]; rfl) rfl hS1 (by
      intro t ht S hS
      obtain ⟨S', hS', e⟩ := sp_right T t gs rs S hS hG hl hn (List.mem_range.1 ht)
      refine ⟨some (.bl true), S', ?_, hS', fun y hy => by cases hy; rfl⟩
      simp [wipeS, dN, e])
  have e2 : ys = (List.range ys.length).map fun _ => D.bl true := by
    apply List.ext_getElem
    · simp
    · intro i h1 h2
      simp [hy _ (List.getElem_mem h1)]
  rw [e2] at l1
  refine ⟨_, S2, ?_, hS2, x4, .d (dS T gs rs), rfl⟩
  simp [lawB, IS.tl, IS.hd, IS.body, i_law, e1', l1]
theorem sem_law (ns : List Int) : ∃ S, g_law [.scr ns] [] = .ok (.bl true) S := by
  obtain ⟨cells, h1⟩ := sp_hand ns []
  have hS : HandOk [[.lst (cells.map .int), .int 0, .int 0, .int (53 + 5 * cells.length), .int 0]] := ⟨cells, 0, 0, _, 0, rfl, Int.le_refl _⟩
  generalize hS0 : [[D.lst (cells.map .int), .int 0, .int 0, .int (53 + 5 * cells.length), .int 0]] = S0 at hS
  have g3 : Good 3 [(0, 1), (0, 2), (1, 2)] := ⟨by decide, by decide, by decide, by decide⟩
  have g1 : Good 1 [] := ⟨by decide, by decide, by decide, by decide⟩
  have i3 := sp_init 3 [(0, 1), (0, 2), (1, 2)] S0 g3
  have i1 := sp_init 1 [] S0 g1
  have m1 := sp_magic 3 0 [(0, 1), (0, 2), (1, 2)] [none, none, none] S0 (by decide) (by decide) (by decide) (by decide)
  have m2 := sp_magic 3 0 [(0, 1), (0, 2), (1, 2)] [some false, none, some true] S0 (by decide) (by decide) (by decide) (by decide)
  have m3 := sp_magic 3 1 [(0, 1), (0, 2), (1, 2)] [some false, some false, none] S0 (by decide) (by decide) (by decide) (by decide)
  have m4 := sp_magic 1 0 [] [] S0 (by decide) (by decide) (by decide) (by decide)
  have v1 : magicN 3 (List.zip [(0, 1), (0, 2), (1, 2)] [none, none, none]) 0 = some 2 := by decide +kernel
  have v2 : magicN 3 (List.zip [(0, 1), (0, 2), (1, 2)] [some false, none, some true]) 0 = some 1 := by decide +kernel
  have v3 : magicN 3 (List.zip [(0, 1), (0, 2), (1, 2)] [some false, some false, none]) 1 = none := by decide +kernel
  have v4 : magicN 1 (List.zip [] []) 0 = some 0 := by decide +kernel
  rw [v1] at m1; rw [v2] at m2; rw [v3] at m3; rw [v4] at m4
  obtain ⟨s, p1, p2⟩ := repr_of (x := .lst [.int 2, .int 1, .non]) (by decide +kernel)
  have hp := forL_inv (tg := .one 4) (b := exS L_law lawB) (enc := dN)
    (fun zs r S => HandOk S ∧ ∃ x4 x5, r = [.scr ns, .loc 0, .d (dL 3 [(0, 1), (0, 2), (1, 2)]), .d (.lst [.int 2, .int 1, .non]), x4, x5, .none]) (by
    rintro z zs r S ⟨hS, x4, x5, rfl⟩
    obtain ⟨r', S', e, hS', x4', x5', rfl⟩ := law_turn (ns := ns) [.scr ns, .loc 0, .d (dL 3 [(0, 1), (0, 2), (1, 2)]), .d (.lst [.int 2, .int 1, .non]), .d (dN z), x5, .none] S _ _ _ _ rfl hS
    refine ⟨_, S', ?_, hS', x4', x5', rfl⟩
    simp [e])
    (List.range 3) [.scr ns, .loc 0, .d (dL 3 [(0, 1), (0, 2), (1, 2)]), .d (.lst [.int 2, .int 1, .non]), .none, .none, .none] S0 ⟨hS, _, _, rfl⟩
  obtain ⟨r', S', e, hS', x4, x5, rfl⟩ := hp
  have r1 : rngOf (.int 0) (.int 3) = some (dNs (List.range 3)) := rngOf_dN 3 (by decide)
  have r2 : szOk 3 = true := szOk_of (by decide)
  have e' : forL (.one 4) (exS L_law lawB) (dNs (List.range 3)) [.scr ns, .loc 0, .d (dL 3 [(0, 1), (0, 2), (1, 2)]), .d (.lst [.int 2, .int 1, .non]), .none, .none, .none] S0 = _ := e
  simp only [lawB, IS.tl, IS.hd, IS.body, i_law] at e'
  have i3' : g_League_init.init [.d (.int 3), .d (.tup [.tup [.int 0, .int 1], .tup [.int 0, .int 2], .tup [.int 1, .int 2]])] S0 = .ok [("teams", .int 3), ("games", .tup [.tup [.int 0, .int 1], .tup [.int 0, .int 2], .tup [.int 1, .int 2]])] S0 := i3
  have i1' : g_League_init.init [.d (.int 1), .d (.tup [])] S0 = .ok [("teams", .int 1), ("games", .tup [])] S0 := i1
  have h3 : D.ins "League" [("teams", .int 3), ("games", .tup [.tup [.int 0, .int 1], .tup [.int 0, .int 2], .tup [.int 1, .int 2]])] = dL 3 [(0, 1), (0, 2), (1, 2)] := rfl
  have h4 : D.ins "League" [("teams", .int 1), ("games", .tup [])] = dL 1 [] := rfl
  have m1' : g_magic [.d (dL 3 [(0, 1), (0, 2), (1, 2)]), .d (.tup [.non, .non, .non]), .d (.int 0)] S0 = .ok (.int 2) S0 := m1
  have m2' : g_magic [.d (dL 3 [(0, 1), (0, 2), (1, 2)]), .d (.tup [.int 0, .non, .int 1]), .d (.int 0)] S0 = .ok (.int 1) S0 := m2
  have m3' : g_magic [.d (dL 3 [(0, 1), (0, 2), (1, 2)]), .d (.tup [.int 0, .int 0, .non]), .d (.int 1)] S0 = .ok .non S0 := m3
  have m4' : g_magic [.d (dL 1 []), .d (.tup []), .d (.int 0)] S0 = .ok (.int 0) S0 := m4
  refine ⟨[], ?_⟩
  simp [g_law, runF, i_law, h1, hS0, i3', h3, m1', m2', m3', i1', h4, m4', p1, p2, r1, r2, e']
end DK
end

open PySem PySem.W PyProof.Rows
set_option maxRecDepth 100000 in
set_option maxHeartbeats 0 in
theorem PySem.Challenge.cw_lastgames_k53_whole_magic_numbers_holds : PySem.Challenge.rw_lastgames_k53_whole_magic_numbers.Holds := by
  w_on; o_law; k_head; (case hw => w_witness2)
  k_fill
  refine DL.head_walk (l := PySem.Challenge.rw_lastgames_k53_whole_magic_numbers) (n := 63) (k := 10) (x := "script") (g := DK.g_law) rfl (by decide) rfl ⟨rfl, by decide, by decide⟩ (fun w h Y => PySem.W.kIn_of Y) ?F ?sem
  case F =>
    intro w mg fa h KX G hmg
    refine' DK.all_g KX G hmg ?a_is_integer ?l_is_integer ?cc_is_integer ?kk_is_integer ?a_is_within ?l_is_within ?cc_is_within ?kk_is_within ?a_is_pair_of ?l_is_pair_of ?cc_is_pair_of ?kk_is_pair_of ?a_check_league ?l_check_league ?cc_check_league ?kk_check_league ?a_is_team ?l_is_team ?cc_is_team ?kk_is_team ?a_check_team ?l_check_team ?cc_check_team ?kk_check_team ?a_everybody ?l_everybody ?cc_everybody ?kk_everybody ?a_is_side ?l_is_side ?cc_is_side ?kk_is_side ?a_are_results ?l_are_results ?cc_are_results ?kk_are_results ?a_check_results ?l_check_results ?cc_check_results ?kk_check_results ?a_open_of ?l_open_of ?cc_open_of ?kk_open_of ?a_winner_of ?l_winner_of ?cc_winner_of ?kk_winner_of ?a_decided_of ?l_decided_of ?cc_decided_of ?kk_decided_of ?a_counted ?l_counted ?cc_counted ?kk_counted ?a_wins_of ?l_wins_of ?cc_wins_of ?kk_wins_of ?a_left_of ?l_left_of ?cc_left_of ?kk_left_of ?a_left ?l_left ?cc_left ?kk_left ?a_best_wins ?l_best_wins ?cc_best_wins ?kk_best_wins ?a_meetings ?l_meetings ?cc_meetings ?kk_meetings ?a_rival_most ?l_rival_most ?cc_rival_most ?kk_rival_most ?a_is_safe ?l_is_safe ?cc_is_safe ?kk_is_safe ?a_magic_of ?l_magic_of ?cc_magic_of ?kk_magic_of ?a_magic ?l_magic ?cc_magic ?kk_magic ?a_surely_first ?l_surely_first ?cc_surely_first ?kk_surely_first ?a__law_hand ?l__law_hand ?cc__law_hand ?kk__law_hand ?a__law_draw ?l__law_draw ?cc__law_draw ?kk__law_draw ?a__law_any ?l__law_any ?cc__law_any ?kk__law_any ?a__law_spec ?l__law_spec ?cc__law_spec ?kk__law_spec ?a__law_outcomes ?l__law_outcomes ?cc__law_outcomes ?kk__law_outcomes ?a__law_wins ?l__law_wins ?cc__law_wins ?kk__law_wins ?a__law_magic ?l__law_magic ?cc__law_magic ?kk__law_magic ?a__law_won ?l__law_won ?cc__law_won ?kk__law_won ?aC_League ?a_League_init ?if_League_init ?mk_League ?kC_League ?pg_League ?hd_League ?po_League ?sa_League ?ha_League ?hn_League ?ht_League ?hm_League ?c1_League ?c2_League ?i0_League ?i1_League ?i2_League ?i3_League ?i4_League ?i5_League ?i6_League ?i7_League ?i8_League ?t0_League ?t1_League ?t2_League ?t3_League ?t4_League ?t5_League ?t6_League ?t7_League ?t8_League ?n0_League ?n1_League ?n2_League ?n3_League ?n4_League ?n5_League ?n6_League ?l_League_init ?cc_League_init ?kk_League_init ?a__law_team_right ?l__law_team_right ?cc__law_team_right ?kk__law_team_right ?a_law ?l_law ?cc_law ?kk_law ?z0 ?z1 ?z2 ?z3 ?z4 ?z5 ?z6 ?z7 ?z8 ?z9 ?z10 ?z11 ?u0 ?u1
    (case a_is_integer => k_is)
    (case l_is_integer => k_is)
    (case cc_is_integer => k_is)
    (case kk_is_integer => k_is)
    (case a_is_within => k_is)
    (case l_is_within => k_is)
    (case cc_is_within => k_is)
    (case kk_is_within => k_is)
    (case a_is_pair_of => k_is)
    (case l_is_pair_of => k_is)
    (case cc_is_pair_of => k_is)
    (case kk_is_pair_of => k_is)
    (case a_check_league => k_is)
    (case l_check_league => k_is)
    (case cc_check_league => k_is)
    (case kk_check_league => k_is)
    (case a_is_team => k_is)
    (case l_is_team => k_is)
    (case cc_is_team => k_is)
    (case kk_is_team => k_is)
    (case a_check_team => k_is)
    (case l_check_team => k_is)
    (case cc_check_team => k_is)
    (case kk_check_team => k_is)
    (case a_everybody => k_is)
    (case l_everybody => k_is)
    (case cc_everybody => k_is)
    (case kk_everybody => k_is)
    (case a_is_side => k_is)
    (case l_is_side => k_is)
    (case cc_is_side => k_is)
    (case kk_is_side => k_is)
    (case a_are_results => k_is)
    (case l_are_results => k_is)
    (case cc_are_results => k_is)
    (case kk_are_results => k_is)
    (case a_check_results => k_is)
    (case l_check_results => k_is)
    (case cc_check_results => k_is)
    (case kk_check_results => k_is)
    (case a_open_of => k_is)
    (case l_open_of => k_is)
    (case cc_open_of => k_is)
    (case kk_open_of => k_is)
    (case a_winner_of => k_is)
    (case l_winner_of => k_is)
    (case cc_winner_of => k_is)
    (case kk_winner_of => k_is)
    (case a_decided_of => k_is)
    (case l_decided_of => k_is)
    (case cc_decided_of => k_is)
    (case kk_decided_of => k_is)
    (case a_counted => k_is)
    (case l_counted => k_is)
    (case cc_counted => k_is)
    (case kk_counted => k_is)
    (case a_wins_of => k_is)
    (case l_wins_of => k_is)
    (case cc_wins_of => k_is)
    (case kk_wins_of => k_is)
    (case a_left_of => k_is)
    (case l_left_of => k_is)
    (case cc_left_of => k_is)
    (case kk_left_of => k_is)
    (case a_left => k_is)
    (case l_left => k_is)
    (case cc_left => k_is)
    (case kk_left => k_is)
    (case a_best_wins => k_is)
    (case l_best_wins => k_is)
    (case cc_best_wins => k_is)
    (case kk_best_wins => k_is)
    (case a_meetings => k_is)
    (case l_meetings => k_is)
    (case cc_meetings => k_is)
    (case kk_meetings => k_is)
    (case a_rival_most => k_is)
    (case l_rival_most => k_is)
    (case cc_rival_most => k_is)
    (case kk_rival_most => k_is)
    (case a_is_safe => k_is)
    (case l_is_safe => k_is)
    (case cc_is_safe => k_is)
    (case kk_is_safe => k_is)
    (case a_magic_of => k_is)
    (case l_magic_of => k_is)
    (case cc_magic_of => k_is)
    (case kk_magic_of => k_is)
    (case a_magic => k_is)
    (case l_magic => k_is)
    (case cc_magic => k_is)
    (case kk_magic => k_is)
    (case a_surely_first => k_is)
    (case l_surely_first => k_is)
    (case cc_surely_first => k_is)
    (case kk_surely_first => k_is)
    (case a__law_hand => k_is)
    (case l__law_hand => k_is)
    (case cc__law_hand => k_is)
    (case kk__law_hand => k_is)
    (case a__law_draw => k_is)
    (case l__law_draw => k_is)
    (case cc__law_draw => k_is)
    (case kk__law_draw => k_is)
    (case a__law_any => k_is)
    (case l__law_any => k_is)
    (case cc__law_any => k_is)
    (case kk__law_any => k_is)
    (case a__law_spec => k_is)
    (case l__law_spec => k_is)
    (case cc__law_spec => k_is)
    (case kk__law_spec => k_is)
    (case a__law_outcomes => k_is)
    (case l__law_outcomes => k_is)
    (case cc__law_outcomes => k_is)
    (case kk__law_outcomes => k_is)
    (case a__law_wins => k_is)
    (case l__law_wins => k_is)
    (case cc__law_wins => k_is)
    (case kk__law_wins => k_is)
    (case a__law_magic => k_is)
    (case l__law_magic => k_is)
    (case cc__law_magic => k_is)
    (case kk__law_magic => k_is)
    (case a__law_won => k_is)
    (case l__law_won => k_is)
    (case cc__law_won => k_is)
    (case kk__law_won => k_is)
    (case aC_League => k_is)
    (case a_League_init => k_is)
    (case if_League_init => k_is)
    (case mk_League => k_is)
    (case kC_League => k_is)
    (case pg_League => k_is)
    (case hd_League => k_is)
    (case po_League => k_is)
    (case sa_League => k_is)
    (case ha_League => k_is)
    (case hn_League => k_is)
    (case ht_League => k_is)
    (case hm_League => k_is)
    (case c1_League => k_is)
    (case c2_League => k_is)
    (case i0_League => k_is)
    (case i1_League => k_is)
    (case i2_League => k_is)
    (case i3_League => k_is)
    (case i4_League => k_is)
    (case i5_League => k_is)
    (case i6_League => k_is)
    (case i7_League => k_is)
    (case i8_League => k_is)
    (case t0_League => k_is)
    (case t1_League => k_is)
    (case t2_League => k_is)
    (case t3_League => k_is)
    (case t4_League => k_is)
    (case t5_League => k_is)
    (case t6_League => k_is)
    (case t7_League => k_is)
    (case t8_League => k_is)
    (case n0_League => k_is)
    (case n1_League => k_is)
    (case n2_League => k_is)
    (case n3_League => k_is)
    (case n4_League => k_is)
    (case n5_League => k_is)
    (case n6_League => k_is)
    (case l_League_init => k_is)
    (case cc_League_init => k_is)
    (case kk_League_init => k_is)
    (case a__law_team_right => k_is)
    (case l__law_team_right => k_is)
    (case cc__law_team_right => k_is)
    (case kk__law_team_right => k_is)
    (case a_law => k_is)
    (case l_law => k_is)
    (case cc_law => k_is)
    (case kk_law => k_is)
    (case z0 => k_is)
    (case z1 => k_is)
    (case z2 => k_is)
    (case z3 => k_is)
    (case z4 => k_is)
    (case z5 => k_is)
    (case z6 => k_is)
    (case z7 => k_is)
    (case z8 => k_is)
    (case z9 => k_is)
    (case z10 => k_is)
    (case z11 => k_is)
    (case u0 => k_is)
    (case u1 => k_is)
  case sem => exact fun ns _ => DK.sem_law ns
