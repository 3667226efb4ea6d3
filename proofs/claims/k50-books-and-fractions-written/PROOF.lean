import PyProof.Rows.All
import Wide.All
import OpenK.AllK
import Wide.FinOn
import HandS.ForMost
import HandS.ForExc
import HandS.Evl
import HandS.Wide
import HandS.IsInst
import HandS.Conv
import HandS.TupAny
import HandS.Flow
import HandS.Walk
import HandS.Deep
import HandS.SortInts
import HandS.Style
import HandS.Zip
import HandS.SortKw
import HandS.More
import HandS.Dict
import HandS.Iter
import HandS.ExcValue
import HandS.ExcIs
import HandS.TryOnly
import HandS.Text
import HandS.Steps
import HandS.TupMul
import KE.GoesEnum
import HandS.SetFor
import HandS.Strs
import HandS.ExcOwn
import PySem.Challenge.RW_ablehands_k50_books_and_fractions_writte
set_option Elab.async false
set_option linter.all false
set_option maxRecDepth 100000
set_option maxHeartbeats 4000000
set_option autoImplicit true
/-! Iv1: values, expressions, statements, their meaning. -/
namespace Iv
open PySem
/-- a value: numbers, texts, what nobody changes any more (tup, lst), a place of the store -/
inductive Val where
  | non | bl (b : Bool) | int (i : Int) | str (s : Str)
  | tup (vs : List Val) | lst (vs : List Val) | dct (t : Bool) (ks : List (List (Int ⊕ Str))) (vs : List Val) | loc (n : Nat) | exc (c : Str)
/-- what stands in the store; a dict's keys are numbers and texts (t: tuples of these), l: it is being walked -/
inductive Obj where
  | lst (vs : List Val) | dct (t l : Bool) (ks : List (List (Int ⊕ Str))) (vs : List Val) | ins (c : Str) (ns : List Str) (vs : List Val)
abbrev Store := List Obj
abbrev Env := List (Option Val)
inductive R (α : Type) where
  | ok (a : α) (S : Store) | ex (c : Str) (S : Store) | bad
def R.bind {α β : Type} (r : R α) (f : α → Store → R β) : R β :=
  match r with
  | .ok a S => f a S
  | .ex c S => .ex c S
  | .bad => .bad
def R.of {α : Type} (o : Option α) (S : Store) : R α :=
  match o with
  | some a => .ok a S
  | none => .bad
/-- no exception may leave -/
def R.mute {α : Type} (r : R α) : R α :=
  match r with
  | .ok a S => .ok a S
  | _ => .bad
mutual
def Val.free : Val → Bool
  | .tup vs => Val.frees vs
  | .lst vs => Val.frees vs
  | .dct _ _ vs => Val.frees vs
  | .loc _ => false
  | _ => true
def Val.frees : List Val → Bool
  | [] => true
  | v :: vs => v.free && Val.frees vs
end
mutual
def mapLoc (g : Nat → Option Val) : Val → Option Val
  | .tup vs => match mapLocs g vs with
    | some ws => some (.tup ws)
    | none => none
  | .lst vs => match mapLocs g vs with
    | some ws => some (.lst ws)
    | none => none
  | .dct t ks vs => match mapLocs g vs with
    | some ws => some (.dct t ks ws)
    | none => none
  | .loc n => g n
  | .exc c => some (.exc c)
  | .non => some .non
  | .bl b => some (.bl b)
  | .int i => some (.int i)
  | .str s => some (.str s)
def mapLocs (g : Nat → Option Val) : List Val → Option (List Val)
  | [] => some []
  | v :: vs => match mapLoc g v with
    | some w => match mapLocs g vs with
      | some ws => some (w :: ws)
      | none => none
    | none => none
end
def allSome (g : Val → Option Val) : List Val → Option (List Val)
  | [] => some []
  | v :: vs => match g v with
    | some w => match allSome g vs with
      | some ws => some (w :: ws)
      | none => none
    | none => none
/-- the places that are not kept as what they hold -/
def frz (S : Store) (kp : Nat → Bool) : Nat → Val → Option Val
  | 0 => mapLoc fun _ => none
  | f + 1 => mapLoc fun n => if kp n then none else
    match S[n]? with
    | some (.lst vs) => match allSome (frz S kp f) vs with
      | some ws => some (.lst ws)
      | none => none
    | some (.dct t _ ks vs) => match allSome (frz S kp f) vs with
      | some ws => some (.dct t ks ws)
      | none => none
    | _ => none
def frzO (S : Store) (kp : Nat → Bool) : Obj → Option Obj
  | .lst vs => match allSome (frz S kp 6) vs with
    | some ws => some (.lst ws)
    | none => none
  | .dct t l ks vs => match allSome (frz S kp 6) vs with
    | some ws => some (.dct t l ks ws)
    | none => none
  | .ins c ns vs => match allSome (frz S kp 6) vs with
    | some ws => some (.ins c ns ws)
    | none => none
def Obj.free : Obj → Bool
  | .lst vs => Val.frees vs
  | .dct _ _ _ vs => Val.frees vs
  | .ins _ _ vs => Val.frees vs
/-! ### the words -/
inductive Bop where | add | sub | mul | fdiv | mod | pow
  deriving DecidableEq
inductive Cop where | eq | ne | lt | le | gt | ge | isin | notin | is | isnot | eqs | nes
  deriving DecidableEq
/-- built-in functions of values -/
inductive Blt where | len | abs | max2 | min2 | all | any | sum | sorted | list | tuple | int | str | rangeL | max1 | min1
  deriving DecidableEq
/-- functions of one value -/
inductive Uop where | all | any | sum | tuple | list (mu : Bool) | sset | lset | srt (rev mu : Bool) | rvs | rvsM | int | max1 | min1 | repr | bool | str
  deriving DecidableEq
inductive Mth where | append | extend | pop | index | count | insert | remove | clear
  deriving DecidableEq
inductive Tg where
  | nm (i : Nat) | tp (is : List Nat)
inductive E where
  | nil | cons (e r : E)
  | var (i : Nat) | non | bl (b : Bool) | int (i : Int) | str (s : Str)
  | tup (es : E) | lst (mu : Bool) (es : E)
  | bin (o : Bop) (a b : E) | neg (a : E)
  | cmp (o : Cop) (a b : E) | chain (o o' : Cop) (a b c : E)
  | and (a b : E) | or (a b : E) | not (a : E) | ite (t a b : E)
  | call (mu : Option Bool) (f : Nat) (es : E) | blt (f : Blt) (es : E) | isi (a : E) (T : String)
  | ix (a i : E) | sl (a lo hi : E)
  | comp (mu : Bool) (g : Tg) (own : List (Str × Nat)) (it cond elt : E)
  | rng (a : E) | rng2 (a b : E) | enum (a : E) | zip (a b : E) | rev (a : E) | vals (a : E) | yes | part (a : E)
  | mth (m : Mth) (o es : E)
  | cat (mu : Bool) (a b : E) | u (o : Uop) (a : E) | rl1 (k : Option Bool) (a : E) | rl2 (k : Option Bool) (a b : E) | gv (x : Str) (i : Int) | edc (mu t : Bool) | dsp (mu : Bool) (k v : E) | callR (f : Nat) (es : E)
  | compL (mu : Bool) (g : Tg) (own : List (Str × Nat)) (o cond elt : E)
  | rep (mu : Bool) (es b : E)
  | isx (cs : List Str) (a : E) (T : Str)
  | gs (x s : Str) | tx (j : Bool) (a b : E)
inductive St where
  | nil | seq (s r : St)
  | expr (e : E) | asg (i : Nat) (e : E) | par (i j : Nat) (a b : E) | unp (is : List Nat) (e : E)
  | sub (o i e : E)
  | ite (t : E) (a b : St) | for_ (g : Tg) (it : E) (b : St) | while_ (t : E) (b : St)
  | ret (e : E) | retN | pass | brk | cnt | no | forL (g : Tg) (o : E) (b : St)
  | pas (i : Nat) (o j e : E)
  | raise_ (c : Str) | try_ (j i : Nat) (cs : List Str) (b : St)
/-- the global numbers that are read, the refusals' classes -/
abbrev GLt := List (Str × (Int ⊕ Str)) × List Str
/-! ### refusals: the classes right under DealError -/
def exN : List Str := ["NoBook", "NoCosts", "NoDeal", "NoHand", "NoRooms", "NoRow", "NoText", "NoWay", "NoWeights", "NoWork", "TooMany"]
def excIs (c T : Str) : Option Bool :=
  if c ∈ exN then (if T ∈ exN then some (decide (T = c)) else if T = "DealError" ∨ T = "ValueError" then some true else none) else none
/-! ### operations -/
def mulOk (i j : Int) : Bool := (decide (-(2 ^ 64) < i) && decide (i < 2 ^ 64)) || (decide (-(2 ^ 64) < j) && decide (j < 2 ^ 64)) || decide (i.natAbs.log2 + j.natAbs.log2 < 1000000)
def binI : Bop → Int → Int → Option Int
  | .add, i, j => some (i + j)
  | .sub, i, j => some (i - j)
  | .mul, i, j => if mulOk i j then some (i * j) else none
  | .fdiv, i, j => if 0 < j ∧ j.natAbs.log2 < 9000 then some (i / j) else none
  | .mod, i, j => if 0 < j then some (i % j) else none
  | .pow, i, j => if 0 ≤ j ∧ j ≤ 1000000 ∧ i.natAbs < 2 ^ 64 then some (i ^ j.toNat) else none
def lim : Nat := 100000
def binV : Bop → Val → Val → Option Val
  | o, .int i, .int j => match binI o i j with
    | some k => some (.int k)
    | none => none
  | .add, .str a, .str b => if a.length + b.length ≤ lim then some (.str (a ++ b)) else none
  | .add, .tup a, .tup b => if a.length + b.length ≤ lim then some (.tup (a ++ b)) else none
  | .add, .lst a, .lst b => if a.length + b.length ≤ lim then some (.lst (a ++ b)) else none
  | .mul, .tup a, .int k => if (-(2 ^ 62) ≤ k ∧ k < 2 ^ 62) ∧ k.toNat * a.length ≤ lim then some (.tup (List.replicate k.toNat a).flatten) else none
  | _, _, _ => none
mutual
def toD : Val → Option PyData
  | .non => some .none
  | .bl b => some (.bool b)
  | .int i => some (.int i)
  | .str s => some (.str s)
  | .tup vs => match toDs vs with
    | some ds => some (.tuple ds)
    | none => none
  | .lst vs => match toDs vs with
    | some ds => some (.list ds)
    | none => none
  | .loc _ => none
  | .dct _ _ _ => none
  | .exc _ => none
def toDs : List Val → Option (List PyData)
  | [] => some []
  | v :: vs => match toD v with
    | some d => match toDs vs with
      | some ds => some (d :: ds)
      | none => none
    | none => none
end
/-- what a place holds, as a value -/
def deref (S : Store) : Val → Val
  | .loc n => match S[n]? with
    | some (.lst vs) => .lst vs
    | _ => .loc n
  | v => v
def eqV (a b : Val) : Option Bool :=
  match toD a with
  | some d => match toD b with
    | some e => if SeqAt.shaped d && SeqAt.shaped e then some (PyData.eqv d e) else none
    | none => none
  | none => none
/-- a tuple of anything, held against the empty one -/
def eq0 : Val → Val → Option Bool
  | .tup vs, .tup [] => some vs.isEmpty
  | _, _ => none
def eqW (a b : Val) : Option Bool :=
  match eqV a b with
  | some k => some k
  | none => eq0 a b
def inVals (x : Val) (ys : List Val) : Option Bool :=
  match toD x with
  | some d => match toDs ys with
    | some es => if SeqAt.shaped d && SeqAt.shaped (.list es) then some (es.any fun z => PyData.eqv z d) else none
    | none => none
  | none => none
def items (S : Store) : Val → Option (List Val)
  | .tup vs => some vs
  | .lst vs => some vs
  | .loc n => match S[n]? with
    | some (.lst vs) => some vs
    | _ => none
  | _ => none
/-- a key of numbers and texts; of a tuple of these -/
def kyOf : Val → Option (Int ⊕ Str)
  | .int i => some (.inl i)
  | .str s => some (.inr s)
  | _ => none
def kysOf : List Val → Option (List (Int ⊕ Str))
  | [] => some []
  | v :: vs => match kyOf v with
    | some k => match kysOf vs with
      | some ks => some (k :: ks)
      | none => none
    | none => none
def keyOf (t : Bool) (v : Val) : Option (List (Int ⊕ Str)) :=
  match t with
  | true => none
  | false => match kyOf v with
    | some k => some [k]
    | none => none
def kyV : Int ⊕ Str → Val
  | .inl i => .int i
  | .inr s => .str s
def keyV (t : Bool) (k : List (Int ⊕ Str)) : Val := if t then .tup (k.map kyV) else match k with
  | [k] => kyV k
  | _ => .non
def dGet : List (List (Int ⊕ Str)) → List Val → List (Int ⊕ Str) → Option Val
  | k :: ks, v :: vs, q => if k = q then some v else dGet ks vs q
  | _, _, _ => none
def dRep : List (List (Int ⊕ Str)) → List Val → List (Int ⊕ Str) → Val → List Val
  | k :: ks, v :: vs, q, w => (if k = q then w else v) :: dRep ks vs q w
  | _, vs, _, _ => vs
def dKeys (ks : List (List (Int ⊕ Str))) (q : List (Int ⊕ Str)) : List (List (Int ⊕ Str)) := if ks.any (fun k => decide (k = q)) then ks else ks ++ [q]
def dVals (ks : List (List (Int ⊕ Str))) (vs : List Val) (q : List (Int ⊕ Str)) (w : Val) : List Val := if ks.any (fun k => decide (k = q)) then dRep ks vs q w else vs ++ [w]
/-- a dict's keys and values -/
def dctAt (S : Store) : Val → Option (Bool × List (List (Int ⊕ Str)) × List Val)
  | .dct t ks vs => some (t, ks, vs)
  | .loc n => match S[n]? with
    | some (.dct t _ ks vs) => some (t, ks, vs)
    | _ => none
  | _ => none
/-- what a dict holds at a key -/
def dAt (S : Store) (d k : Val) : Option (Option Val) :=
  match dctAt S d with
  | some (t, ks, vs) => match keyOf t k with
    | some q => some (dGet ks vs q)
    | none => none
  | none => none
/-- a sign in a text -/
def sgnIn : Val → Val → Option Bool
  | .str a, .str b => match a.cps.toList with
    | [c] => some (decide (c ∈ b.cps.toList))
    | _ => none
  | _, _ => none
def cmpV (S : Store) : Cop → Val → Val → Option Bool
  | .lt, .int i, .int j => some (decide (i < j))
  | .le, .int i, .int j => some (decide (i ≤ j))
  | .gt, .int i, .int j => some (decide (j < i))
  | .ge, .int i, .int j => some (decide (j ≤ i))
  | .eq, a, b => eqW (deref S a) (deref S b)
  | .ne, a, b => match eqV (deref S a) (deref S b) with
    | some k => some (!k)
    | none => none
  | .is, .non, .non => some true
  | .is, .bl _, .non => some false
  | .is, .int _, .non => some false
  | .is, .str _, .non => some false
  | .is, .tup _, .non => some false
  | .is, .lst _, .non => some false
  | .is, .dct _ _ _, .non => some false
  | .is, .exc _, .non => some false
  | .is, .loc _, .non => some false
  | .is, .bl a, .bl b => some (decide (a = b))
  | .isnot, .non, .non => some false
  | .isnot, .bl _, .non => some true
  | .isnot, .int _, .non => some true
  | .isnot, .str _, .non => some true
  | .isnot, .tup _, .non => some true
  | .isnot, .lst _, .non => some true
  | .isnot, .dct _ _ _, .non => some true
  | .isnot, .exc _, .non => some true
  | .isnot, .loc _, .non => some true
  | .isnot, .bl a, .bl b => some (!decide (a = b))
  | .eqs, .str a, .str b => some (decide (a = b))
  | .nes, .str a, .str b => some (!decide (a = b))
  | .isin, a, b => match items S b with
    | some ws => inVals (deref S a) ws
    | none => match dAt S b a with
      | some o => some o.isSome
      | none => sgnIn a b
  | .notin, a, b => match items S b with
    | some ws => match inVals (deref S a) ws with
      | some k => some (!k)
      | none => none
    | none => match dAt S b a with
      | some o => some (!o.isSome)
      | none => (sgnIn a b).map (!·)
  | _, _, _ => none
def isT (S : Store) (T : String) : Val → Option Bool
  | .non => some false
  | .bl _ => if T = "int" ∨ T = "bool" then some true else some false
  | .int _ => some (decide (T = "int"))
  | .str _ => some (decide (T = "str"))
  | .tup _ => some (decide (T = "tuple"))
  | .lst _ => some (decide (T = "list"))
  | .dct t _ _ => if t then none else some (decide (T = "dict"))
  | .exc _ => none
  | .loc n => match S[n]? with
    | some (.lst _) => some (decide (T = "list"))
    | some (.dct false _ _ _) => some (decide (T = "dict"))
    | _ => none
def atV (vs : List Val) (i : Int) : Option Val := L2.atI vs i
/-! numbers in a row -/
def intsOf : List Val → Option (List Int)
  | [] => some []
  | .int i :: r => match intsOf r with
    | some is => some (i :: is)
    | none => none
  | _ :: _ => none
def bolsOf : List Val → Option (List Bool)
  | [] => some []
  | .bl i :: r => match bolsOf r with
    | some is => some (i :: is)
    | none => none
  | _ :: _ => none
def insS (x : Int) : List Int → List Int
  | [] => [x]
  | y :: r => if x < y then x :: y :: r else if x = y then y :: r else y :: insS x r
/-- each once, rising -/
def setS : List Int → List Int
  | [] => []
  | x :: r => insS x (setS r)
def insI (x : Int) : List Int → List Int
  | [] => [x]
  | y :: r => if x ≤ y then x :: y :: r else y :: insI x r
/-- rising -/
def srtI : List Int → List Int
  | [] => []
  | x :: r => insI x (srtI r)
def maxI : Int → List Int → Int
  | m, [] => m
  | m, x :: r => maxI (if m < x then x else m) r
def minI : Int → List Int → Int
  | m, [] => m
  | m, x :: r => minI (if x < m then x else m) r
/-- what stands in a list -/
def litems (S : Store) : Val → Option (List Val)
  | .lst vs => some vs
  | .loc n => match S[n]? with
    | some (.lst vs) => some vs
    | _ => none
  | _ => none
def lints (S : Store) (v : Val) : Option (List Int) :=
  match litems S v with
  | some vs => intsOf vs
  | none => none
def lbols (S : Store) (v : Val) : Option (List Bool) :=
  match litems S v with
  | some vs => bolsOf vs
  | none => none
/-- numbers of a list or a tuple -/
def sints (S : Store) (v : Val) : Option (List Int) :=
  match items S v with
  | some vs => intsOf vs
  | none => none
/-- a dict's keys that are numbers -/
def dints (S : Store) (v : Val) : Option (List Int) :=
  match dctAt S v with
  | some (false, ks, _) => intsOf (ks.map (keyV false))
  | _ => none
/-- a list or a tuple as data, its items as what they hold -/
def dataOf (S : Store) (v : Val) : Option PyData :=
  match v with
  | .tup vs => match toDs (vs.map (deref S)) with
    | some ds => some (.tuple ds)
    | none => none
  | v => match litems S v with
    | some vs => match toDs (vs.map (deref S)) with
      | some ds => some (.list ds)
      | none => none
    | none => none
/-- an atom as it is shown -/
def reprA : Val → Option Str
  | .non => some "None"
  | .bl b => some (if b then "True" else "False")
  | .int i => if i.natAbs.log2 < 1920 then some (toString i) else none
  | .str s => if (reprText s).length ≤ lim then some (reprText s) else none
  | _ => none
mutual
/-- data without lists, perhaps with empty dicts -/
def toQ : Val → Option PyData
  | .non => some .none
  | .bl b => some (.bool b)
  | .int i => some (.int i)
  | .str s => some (.str s)
  | .tup vs => match toQs vs with
    | some ds => some (.tuple ds)
    | none => none
  | .dct false [] [] => some (.dict [])
  | .dct _ _ _ => none
  | .lst _ => none
  | .loc _ => none
  | .exc _ => none
def toQs : List Val → Option (List PyData)
  | [] => some []
  | v :: vs => match toQ v with
    | some d => match toQs vs with
      | some ds => some (d :: ds)
      | none => none
    | none => none
end
def showQ (d : PyData) : Bool := d.showable && decide (d.depth ≤ 32) && decide (d.shown.length ≤ 1000000)
/-- what is no data without dicts, shown -/
def reprQ (v : Val) (S : Store) : R Val := match v with
  | .int _ => .bad
  | .str _ => .bad
  | v => match toQ v with
    | some d => if showQ d then .ok (.str d.shown) S else .bad
    | none => .bad
/-- may be shown -/
def showD (d : PyData) : Bool := d.showable && !d.hasDict && decide (d.depth ≤ 32) && decide (d.shown.length ≤ 1000000)
/-- a built-in's value -/
def bltV (S : Store) : Blt → List Val → Option Val
  | .len, [v] => match v with
    | .str s => if s.length ≤ lim then some (.int s.length) else none
    | v => match items S v with
      | some vs => some (.int vs.length)
      | none => none
  | .abs, [.int i] => some (.int (if i < 0 then -i else i))
  | .max2, [.int i, .int j] => some (.int (if j > i then j else i))
  | .min2, [.int i, .int j] => some (.int (if j < i then j else i))
  | _, _ => none
def mk (mu : Bool) (vs : List Val) (S : Store) : R Val :=
  if mu then .ok (.loc S.length) (S ++ [.lst vs]) else .ok (.lst vs) S
def uV (o : Uop) (v : Val) (S : Store) : R Val :=
  match o with
  | .all => match lbols S v with
    | some bs => .ok (.bl (bs.all id)) S
    | none => .bad
  | .any => match lbols S v with
    | some bs => .ok (.bl (bs.any id)) S
    | none => .bad
  | .sum => match sints S v with
    | some ns => .ok (.int ns.sum) S
    | none => .bad
  | .tuple => match items S v with
    | some vs => .ok (.tup vs) S
    | none => .bad
  | .list mu => match items S v with
    | some vs => mk mu vs S
    | none => match dctAt S v with
      | some (false, ks, _) => mk mu (ks.map (keyV false)) S
      | _ => .bad
  | .sset => match sints S v with
    | some ns => if ns.length < 64 then .ok (.lst ((setS ns).map .int)) S else .bad
    | none => .bad
  | .lset => match lints S v with
    | some ns => if ns.length < 1000 then .ok (.int (setS ns).length) S else .bad
    | none => .bad
  | .srt rev mu => match sints S v with
    | some ns => mk mu ((if rev then (srtI ns).reverse else srtI ns).map .int) S
    | none => match dints S v with
      | some ns => if ns.length < 64 ∧ rev = false then mk mu ((srtI ns).map .int) S else .bad
      | none => .bad
  | .repr => match reprA v with
    | some s => .ok (.str s) S
    | none => match dataOf S v with
      | some d => if showD d then .ok (.str d.shown) S else .bad
      | none => reprQ v S
  | .rvs => match v with
    | .tup vs => .ok (.tup vs.reverse) S
    | v => match litems S v with
      | some vs => .ok (.lst vs.reverse) S
      | none => .bad
  | .rvsM => match litems S v with
    | some vs => mk true vs.reverse S
    | none => .bad
  | .int => match v with
    | .int i => .ok (.int i) S
    | .bl b => .ok (.int (if b then 1 else 0)) S
    | .str s => match PySem.intText? s with
      | some n => if s.length ≤ 640 then .ok (.int n) S else .bad
      | none => .bad
    | _ => .bad
  | .str => match v with
    | .int i => if i.natAbs.log2 < 1920 then .ok (.str (toString i)) S else .bad
    | _ => .bad
  | .bool => match v with
    | .int i => .ok (.bl (i != 0)) S
    | .bl b => .ok (.bl b) S
    | _ => .bad
  | .max1 => match lints S v with
    | some (n :: ns) => .ok (.int (maxI n ns)) S
    | _ => .bad
  | .min1 => match lints S v with
    | some (n :: ns) => .ok (.int (minI n ns)) S
    | _ => .bad
/-- list + list -/
def catV (mu : Bool) (v w : Val) (S : Store) : R Val :=
  match litems S v, litems S w with
  | some vs, some ws => if vs.length + ws.length ≤ lim then mk mu (vs ++ ws) S else .bad
  | _, _ => .bad
/-- list(range(..)), tuple(range(..)) -/
def rlV (k : Option Bool) (vs : List Val) (S : Store) : R Val :=
  match k with
  | none => .ok (.tup vs) S
  | some mu => mk mu vs S
def setTg (ρ : Env) : Tg → Val → Option Env
  | .nm i, v => some (ρ.set i (some v))
  | .tp is, .tup vs => if is.length = vs.length then some ((is.zip vs).foldl (fun ρ p => ρ.set p.1 (some p.2)) ρ) else none
  | .tp _, _ => none
def wipeE (ρ : Env) : List Nat → Env
  | [] => ρ
  | v :: vs => (wipeE ρ vs).set v none
/-- a comprehension's turns -/
def compGo (f : Val → Store → R (Option Val)) : List Val → List Val → Store → R (List Val)
  | [], acc, S => .ok acc S
  | x :: xs, acc, S => match f x S with
    | .ok (some v) S1 => if acc.length < lim then compGo f xs (acc ++ [v]) S1 else .bad
    | .ok none S1 => compGo f xs acc S1
    | _ => .bad
/-- the list at n, if it still has so many items -/
def liveAt (S : Store) (n len : Nat) : Option (List Val) :=
  match S[n]? with
  | some (.lst vs) => if vs.length = len then some vs else none
  | _ => none
def lenAt (S : Store) (n : Nat) : Nat :=
  match S[n]? with
  | some (.lst vs) => vs.length
  | _ => 0
/-- .. over a list of the store, item by item as it then is -/
def compLive (f : Val → Store → R (Option Val)) (n len : Nat) : Nat → Nat → List Val → Store → R (List Val)
  | _, 0, acc, S => match liveAt S n len with
    | some _ => .ok acc S
    | none => .bad
  | i, k + 1, acc, S => match liveAt S n len with
    | some xs => match xs[i]? with
      | some x => match f x S with
        | .ok (some v) S1 => if acc.length < lim then compLive f n len (i + 1) k (acc ++ [v]) S1 else .bad
        | .ok none S1 => compLive f n len (i + 1) k acc S1
        | _ => .bad
      | none => .bad
    | none => .bad
def pairs : Nat → List Val → List Val
  | _, [] => []
  | k, v :: vs => .tup [.int k, v] :: pairs (k + 1) vs
def zipV : List Val → List Val → List Val
  | a :: as, b :: bs => .tup [a, b] :: zipV as bs
  | _, _ => []
def rangeV (lo : Int) : Nat → List Val
  | 0 => []
  | n + 1 => .int lo :: rangeV (lo + 1) n
def asBool {α : Type} (r : Val) (f : Bool → R α) : R α :=
  match r with
  | .bl b => f b
  | _ => .bad
def partV : Val → Option (Option Int)
  | .non => some none
  | .int i => some (some i)
  | _ => none
def cutL (xs : List Val) (lo hi : Option Int) : List Val := (xs.drop (HT.sIx xs.length 0 lo)).take (HT.sIx xs.length xs.length hi - HT.sIx xs.length 0 lo)
def sliceV (S : Store) (v : Val) (lo hi : Option Int) : Option Val :=
  match v with
  | .tup vs => some (.tup (cutL vs lo hi))
  | .lst vs => some (.lst (cutL vs lo hi))
  | .loc n => match S[n]? with
    | some (.lst vs) => some (.lst (cutL vs lo hi))
    | _ => none
  | _ => none
/-- a text's sign -/
def sgnAt (v : Val) (k : Int) : Option Val :=
  match v with
  | .str s => if s.length ≤ lim then (L2.atI s.cps.toList k).map fun c => .str ⟨#[c]⟩ else none
  | _ => none
def ixV (S : Store) (v i : Val) : Option Val :=
  match dctAt S v with
  | some _ => match dAt S v i with
    | some (some z) => some z
    | _ => none
  | none => match i with
    | .int k => match items S v with
      | some vs => L2.atI vs k
      | none => sgnAt v k
    | _ => none
/-- whose methods these are -/
def rcv (S : Store) (m : Mth) : Val → Bool
  | .loc n => match S[n]? with
    | some (.lst _) => true
    | _ => false
  | .lst _ => match m with
    | .index => true
    | .count => true
    | _ => false
  | _ => false
def mthV (m : Mth) (o : Val) (vs : List Val) (S : Store) : R Val :=
  match m, o, vs with
  | .append, .loc n, [v] => match S[n]? with
    | some (.lst xs) => if xs.length < lim then .ok .non (S.set n (.lst (xs ++ [v]))) else .bad
    | _ => .bad
  | .extend, .loc n, [v] => match S[n]? with
    | some (.lst xs) => match litems S v with
      | some ys => if xs.length + ys.length ≤ lim then .ok .non (S.set n (.lst (xs ++ ys))) else .bad
      | none => .bad
    | _ => .bad
  | .index, o, [.int i] => match lints S o with
    | some ns => if i ∈ ns then .ok (.int (ns.idxOf i : Nat)) S else .bad
    | none => .bad
  | .index, o, [.bl i] => match lbols S o with
    | some ns => if i ∈ ns then .ok (.int (ns.idxOf i : Nat)) S else .bad
    | none => .bad
  | .count, o, [.bl i] => match lbols S o with
    | some ns => .ok (.int (ns.count i : Nat)) S
    | none => .bad
  | .remove, .loc n, [.int i] => match S[n]? with
    | some (.lst xs) => match intsOf xs with
      | some ns => if i ∈ ns then .ok .non (S.set n (.lst ((ns.eraseIdx (ns.idxOf i)).map .int))) else .bad
      | none => .bad
    | _ => .bad
  | .insert, .loc n, [.int i, v] => match S[n]? with
    | some (.lst xs) => if (0 ≤ i ∧ i < 2 ^ 62) ∧ xs.length < lim then .ok .non (S.set n (.lst (xs.take i.toNat ++ [v] ++ xs.drop i.toNat))) else .bad
    | _ => .bad
  | _, _, _ => .bad
/-- [..] * n -/
def repV (mu : Bool) (vs : List Val) (w : Val) (S : Store) : R Val :=
  match w with
  | .int n => if -(2 ^ 62) ≤ n ∧ n < 2 ^ 62 ∧ vs.length * n.toNat ≤ lim then mk mu (List.replicate n.toNat vs).flatten S else .bad
  | _ => .bad
def rlR (k : Option Bool) (v w : Val) (S : Store) : R Val :=
  match v, w with
  | .int lo, .int hi => if -(2 ^ 62) ≤ lo ∧ lo < 2 ^ 62 ∧ -(2 ^ 62) ≤ hi ∧ hi < 2 ^ 62 ∧ (hi - lo).toNat ≤ lim then rlV k (rangeV lo (hi - lo).toNat) S else .bad
  | _, _ => .bad
def rngR (v w : Val) (S : Store) : R (List Val) :=
  match v, w with
  | .int lo, .int hi => if -(2 ^ 62) ≤ lo ∧ lo < 2 ^ 62 ∧ -(2 ^ 62) ≤ hi ∧ hi < 2 ^ 62 then .ok (rangeV lo (hi - lo).toNat) S else .bad
  | _, _ => .bad
def zipR (v w : Val) (S : Store) : R (List Val) :=
  match v, w with
  | .lst vs, .lst ws => .ok (zipV vs ws) S
  | .tup vs, .tup ws => .ok (zipV vs ws) S
  | .lst vs, .tup ws => .ok (zipV vs ws) S
  | .tup vs, .lst ws => .ok (zipV vs ws) S
  | _, _ => .bad
/-- texts in a row -/
def strsOf : List Val → Option (List Str)
  | [] => some []
  | .str s :: r => match strsOf r with
    | some ss => some (s :: ss)
    | none => none
  | _ :: _ => none
/-- sep.join(texts), text.split(sep) -/
def txR (j : Bool) (a : Str) (w : Val) (S : Store) : R Val :=
  match j with
  | true => match items S w with
    | some vs => match strsOf vs with
      | some ys => if (ys.map (·.length)).sum + ys.length * a.length ≤ 1000000 then .ok (.str (Txt.join a ys)) S else .bad
      | none => .bad
    | none => .bad
  | false => match w with
    | .str b => if (b.length == 0) = false ∧ a.length ≤ lim then .ok (.lst ((Txt.split a b).map .str)) S else .bad
    | _ => .bad
/-- {k: v} -/
def dspR (mu : Bool) (q w : Val) (S : Store) : R Val :=
  match keyOf false q with
  | some k => if mu then .ok (.loc S.length) (S ++ [.dct false false [k] [w]]) else .ok (.dct false [k] [w]) S
  | none => .bad
/-- a value that holds no other -/
def Val.atom : Val → Bool
  | .non => true
  | .bl _ => true
  | .int _ => true
  | .str _ => true
  | _ => false
/-- lists of the store as what they hold -/
def frzL (S : Store) : Nat → Val → Option Val
  | 0 => mapLoc fun _ => none
  | f + 1 => mapLoc fun n => match S[n]? with
    | some (.lst vs) => match allSome (frzL S f) vs with
      | some ws => some (.lst ws)
      | none => none
    | _ => none
/-- a call that only looks, and tells a value that holds no other -/
def roR (φ : List Val → Store → R Val) (vs : List Val) (S : Store) : R Val :=
  match allSome (frzL S 6) vs with
  | some ws => match φ ws [] with
    | .ok v _ => if v.atom then .ok v S else .bad
    | .ex c _ => .ex c S
    | .bad => .bad
  | none => .bad
section
variable (Φ : Option Bool → Nat → List Val → Store → R Val)
mutual
def evalE : E → Env → Store → R Val
  | .nil, _, _ => .bad
  | .yes, _, S => .ok (.bl true) S
  | .cons _ _, _, _ => .bad
  | .var i, ρ, S => match ρ[i]? with
    | some (some v) => .ok v S
    | _ => .bad
  | .non, _, S => .ok .non S
  | .bl b, _, S => .ok (.bl b) S
  | .int i, _, S => .ok (.int i) S
  | .str s, _, S => .ok (.str s) S
  | .tup es, ρ, S => (evalA es ρ S).bind fun vs S1 => if vs.length ≤ lim then .ok (.tup vs) S1 else .bad
  | .lst mu es, ρ, S => (evalA es ρ S).bind fun vs S1 => if vs.length ≤ lim then mk mu vs S1 else .bad
  | .bin o a b, ρ, S => (evalE a ρ S).bind fun v S1 => (evalE b ρ S1).bind fun w S2 => .of (binV o v w) S2
  | .neg a, ρ, S => (evalE a ρ S).bind fun v S1 => match v with
    | .int i => .ok (.int (-i)) S1
    | _ => .bad
  | .cmp o a b, ρ, S => (evalE a ρ S).bind fun v S1 => (evalE b ρ S1).bind fun w S2 => .of ((cmpV S2 o v w).map .bl) S2
  | .chain o o' a b c, ρ, S => (evalE a ρ S).bind fun v S1 => (evalE b ρ S1).bind fun w S2 => match cmpV S2 o v w with
    | some true => (evalE c ρ S2).bind fun u S3 => .of ((cmpV S3 o' w u).map .bl) S3
    | some false => .ok (.bl false) S2
    | none => .bad
  | .and a b, ρ, S => (evalE a ρ S).bind fun v S1 => asBool v fun k => if k then evalE b ρ S1 else .ok (.bl false) S1
  | .or a b, ρ, S => (evalE a ρ S).bind fun v S1 => asBool v fun k => if k then .ok (.bl true) S1 else evalE b ρ S1
  | .not a, ρ, S => (evalE a ρ S).bind fun v S1 => asBool v fun k => .ok (.bl (!k)) S1
  | .ite t a b, ρ, S => (evalE t ρ S).bind fun v S1 => asBool v fun k => if k then evalE a ρ S1 else evalE b ρ S1
  | .call mu f es, ρ, S => (evalA es ρ S).bind fun vs S1 => Φ mu f vs S1
  | .blt f es, ρ, S => (evalA es ρ S).bind fun vs S1 => .of (bltV S1 f vs) S1
  | .isi a T, ρ, S => (evalE a ρ S).bind fun v S1 => .of ((isT S1 T v).map .bl) S1
  | .ix a i, ρ, S => (evalE a ρ S).bind fun v S1 => (evalE i ρ S1).bind fun w S2 => .of (ixV S2 v w) S2
  | .sl a lo hi, ρ, S => (evalE a ρ S).bind fun v S1 => (evalO lo ρ S1).bind fun l S2 => (evalO hi ρ S2).bind fun h S3 => .of (sliceV S3 v l h) S3
  | .comp mu g own it cond elt, ρ, S => (evalI it ρ S).bind fun xs S1 =>
    (compGo (fun x S2 => match setTg (wipeE ρ (own.map (·.2))) g x with
      | some ρ' => ((evalE cond ρ' S2).bind fun c S3 => asBool c fun k => if k then (evalE elt ρ' S3).bind fun v S4 => .ok (some v) S4 else .ok none S3).mute
      | none => .bad) xs [] S1).bind fun vs S2 => mk mu vs S2
  | .mth m o es, ρ, S => (evalE o ρ S).bind fun v S1 => if rcv S1 m v then (evalA es ρ S1).bind fun vs S2 => mthV m v vs S2 else .bad
  | .cat mu a b, ρ, S => (evalE a ρ S).bind fun v S1 => (evalE b ρ S1).bind fun w S2 => catV mu v w S2
  | .u o a, ρ, S => (evalE a ρ S).bind fun v S1 => uV o v S1
  | .rl1 k a, ρ, S => (evalE a ρ S).bind fun v S1 => match v with
    | .int n => if -(2 ^ 62) ≤ n ∧ n < 2 ^ 62 ∧ n.toNat ≤ lim then rlV k (rangeV 0 n.toNat) S1 else .bad
    | _ => .bad
  | .rl2 k a b, ρ, S => (evalE a ρ S).bind fun v S1 => (evalE b ρ S1).bind fun w S2 => rlR k v w S2
  | .gv _ i, _, S => .ok (.int i) S
  | .gs _ s, _, S => .ok (.str s) S
  | .tx j a b, ρ, S => (evalE a ρ S).bind fun v S1 => match v with
    | .str s => (evalE b ρ S1).bind fun w S2 => txR j s w S2
    | _ => .bad
  | .edc mu t, _, S => if mu then .ok (.loc S.length) (S ++ [.dct t false [] []]) else .ok (.dct t [] []) S
  | .dsp mu k v, ρ, S => (evalE k ρ S).mute.bind fun q S1 => (evalE v ρ S1).mute.bind fun w S2 => dspR mu q w S2
  | .compL mu g own o cond elt, ρ, S => (evalE o ρ S).bind fun v S0 => match v with
    | .loc n => (compLive (fun x S2 => match setTg (wipeE ρ (own.map (·.2))) g x with
          | some ρ' => ((evalE cond ρ' S2).bind fun c S3 => asBool c fun k => if k then (evalE elt ρ' S3).bind fun v S4 => .ok (some v) S4 else .ok none S3).mute
          | none => .bad) n (lenAt S0 n) 0 (lenAt S0 n) [] S0).bind fun vs S2 => mk mu vs S2
    | _ => .bad
  | .rep mu es b, ρ, S => (evalA es ρ S).bind fun vs S1 => if vs.length ≤ lim then (evalE b ρ S1).mute.bind fun w S2 => repV mu vs w S2 else .bad
  | .callR f es, ρ, S => (evalA es ρ S).bind fun vs S1 => roR (Φ none f) vs S1
  | .isx cs a T, ρ, S => (evalE a ρ S).bind fun v S1 => match v with
    | .exc c => if c ∈ cs then .of ((excIs c T).map .bl) S1 else .bad
    | _ => .bad
  | .rng _, _, _ => .bad
  | .rng2 _ _, _, _ => .bad
  | .enum _, _, _ => .bad
  | .zip _ _, _, _ => .bad
  | .rev _, _, _ => .bad
  | .vals _, _, _ => .bad
  | .part _, _, _ => .bad
termination_by structural e => e
def evalO : E → Env → Store → R (Option Int)
  | .nil, _, S => .ok none S
  | .part e, ρ, S => (evalE e ρ S).bind fun v S1 => match v with
    | .int i => .ok (some i) S1
    | _ => .bad
  | _, _, _ => .bad
termination_by structural e => e
def evalA : E → Env → Store → R (List Val)
  | .nil, _, S => .ok [] S
  | .cons e r, ρ, S => (evalE e ρ S).bind fun v S1 => (evalA r ρ S1).bind fun vs S2 => .ok (v :: vs) S2
  | _, _, _ => .bad
termination_by structural e => e
def evalI : E → Env → Store → R (List Val)
  | .rng a, ρ, S => (evalE a ρ S).bind fun v S1 => match v with
    | .int n => if -(2 ^ 62) ≤ n ∧ n < 2 ^ 62 then .ok (rangeV 0 n.toNat) S1 else .bad
    | _ => .bad
  | .rng2 a b, ρ, S => (evalE a ρ S).bind fun v S1 => (evalE b ρ S1).bind fun w S2 => rngR v w S2
  | .enum a, ρ, S => (evalE a ρ S).bind fun v S1 => match v with
    | .lst vs => .ok (pairs 0 vs) S1
    | .tup vs => .ok (pairs 0 vs) S1
    | _ => .bad
  | .zip a b, ρ, S => (evalE a ρ S).bind fun v S1 => (evalE b ρ S1).bind fun w S2 => zipR v w S2
  | .vals e, ρ, S => (evalE e ρ S).bind fun v S1 => match v with
    | .tup vs => .ok vs S1
    | .lst vs => .ok vs S1
    | .dct false ks _ => .ok (ks.map (keyV false)) S1
    | .str s => .ok (s.cps.toList.map fun c => .str ⟨#[c]⟩) S1
    | _ => .bad
  | _, _, _ => .bad
termination_by structural e => e
end
end
inductive Out where
  | nxt (ρ : Env) (S : Store) | ret (v : Val) (S : Store) | brk (ρ : Env) (S : Store) | cnt (ρ : Env) (S : Store) | ex (c : Str) (S : Store) | bad
def R.go {α : Type} (r : R α) (f : α → Store → Out) : Out :=
  match r with
  | .ok a S => f a S
  | .ex c S => .ex c S
  | .bad => .bad
def Out.then (o : Out) (f : Env → Store → Out) : Out :=
  match o with
  | .nxt ρ S => f ρ S
  | o => o
def asB (r : Val) (f : Bool → Out) : Out :=
  match r with
  | .bl b => f b
  | _ => .bad
/-- a for's turns -/
def forGo (g : Tg) (f : Env → Store → Out) : List Val → Env → Store → Out
  | [], ρ, S => .nxt ρ S
  | x :: xs, ρ, S => match setTg ρ g x with
    | some ρ1 => match f ρ1 S with
      | .nxt ρ2 S2 => forGo g f xs ρ2 S2
      | .cnt ρ2 S2 => forGo g f xs ρ2 S2
      | .brk ρ2 S2 => .nxt ρ2 S2
      | .ret v S2 => .ret v S2
      | .ex c S2 => .ex c S2
      | .bad => .bad
    | none => .bad
/-- .. over a list of the store -/
def forLive (g : Tg) (f : Env → Store → Out) (n len : Nat) : Nat → Nat → Env → Store → Out
  | _, 0, ρ, S => match liveAt S n len with
    | some _ => .nxt ρ S
    | none => .bad
  | i, k + 1, ρ, S => match liveAt S n len with
    | some xs => match xs[i]? with
      | some x => match setTg ρ g x with
        | some ρ1 => match f ρ1 S with
          | .nxt ρ2 S2 => forLive g f n len (i + 1) k ρ2 S2
          | .cnt ρ2 S2 => forLive g f n len (i + 1) k ρ2 S2
          | .brk ρ2 S2 => .nxt ρ2 S2
          | .ret v S2 => .ret v S2
          | .ex c S2 => .ex c S2
          | .bad => .bad
        | none => .bad
      | none => .bad
    | none => .bad
def whileGo (t : Env → Store → R Val) (f : Env → Store → Out) : Nat → Env → Store → Out
  | 0, _, _ => .bad
  | k + 1, ρ, S => (t ρ S).go fun v S1 => asB v fun b => if b then match f ρ S1 with
      | .nxt ρ2 S2 => whileGo t f k ρ2 S2
      | .cnt ρ2 S2 => whileGo t f k ρ2 S2
      | .brk ρ2 S2 => .nxt ρ2 S2
      | .ret v S2 => .ret v S2
      | .ex c S2 => .ex c S2
      | .bad => .bad
    else .nxt ρ S1
def storeSub (S : Store) (o i v : Val) : Option Store :=
  match o with
  | .loc n => match S[n]? with
    | some (.lst xs) => match i with
      | .int k => match L2.ixN xs.length k with
        | some j => some (S.set n (.lst (xs.set j v)))
        | none => none
      | _ => none
    | some (.dct t false ks vs) => match keyOf t i with
      | some q => if ks.length < lim then some (S.set n (.dct t false (dKeys ks q) (dVals ks vs q v))) else none
      | none => none
    | _ => none
  | _ => none
section
variable (Φ : Option Bool → Nat → List Val → Store → R Val) (W : Nat)
def execS : St → Env → Store → Out
  | .nil, ρ, S => .nxt ρ S
  | .seq s r, ρ, S => (execS s ρ S).then fun ρ1 S1 => execS r ρ1 S1
  | .expr e, ρ, S => (evalE Φ e ρ S).go fun _ S1 => .nxt ρ S1
  | .asg i e, ρ, S => (evalE Φ e ρ S).go fun v S1 => .nxt (ρ.set i (some v)) S1
  | .par i j a b, ρ, S => (evalE Φ a ρ S).go fun v S1 => (evalE Φ b ρ S1).go fun w S2 => .nxt ((ρ.set i (some v)).set j (some w)) S2
  | .unp is e, ρ, S => (evalE Φ e ρ S).go fun v S1 => match setTg ρ (.tp is) v with
    | some ρ1 => .nxt ρ1 S1
    | none => .bad
  | .sub o i e, ρ, S => (evalE Φ e ρ S).go fun v S1 => (evalE Φ o ρ S1).go fun ov S2 => (evalE Φ i ρ S2).go fun iv S3 => match storeSub S3 ov iv v with
    | some S4 => .nxt ρ S4
    | none => .bad
  | .pas i o j e, ρ, S => (evalE Φ e ρ S).go fun v S1 => match v with
    | .tup [x, w] => (evalE Φ o (ρ.set i (some x)) S1).go fun ov S2 => (evalE Φ j (ρ.set i (some x)) S2).go fun jv S3 => match storeSub S3 ov jv w with
      | some S4 => .nxt (ρ.set i (some x)) S4
      | none => .bad
    | _ => .bad
  | .ite t a b, ρ, S => (evalE Φ t ρ S).go fun v S1 => asB v fun k => if k then execS a ρ S1 else execS b ρ S1
  | .for_ g it b, ρ, S => (evalI Φ it ρ S).go fun xs S1 => forGo g (fun ρ1 S2 => execS b ρ1 S2) xs ρ S1
  | .while_ t b, ρ, S => whileGo (fun ρ1 S1 => evalE Φ t ρ1 S1) (fun ρ1 S1 => execS b ρ1 S1) W ρ S
  | .forL g o b, ρ, S => (evalE Φ o ρ S).go fun v S0 => match v with
    | .loc n => forLive g (fun ρ1 S2 => execS b ρ1 S2) n (lenAt S0 n) 0 (lenAt S0 n) ρ S0
    | .tup xs => forGo g (fun ρ1 S2 => execS b ρ1 S2) xs ρ S0
    | .lst xs => forGo g (fun ρ1 S2 => execS b ρ1 S2) xs ρ S0
    | _ => .bad
  | .no, _, _ => .bad
  | .ret e, ρ, S => (evalE Φ e ρ S).go fun v S1 => .ret v S1
  | .retN, _, S => .ret .non S
  | .pass, ρ, S => .nxt ρ S
  | .brk, ρ, S => .brk ρ S
  | .cnt, ρ, S => .cnt ρ S
  | .raise_ c, _, S => .ex c S
  | .try_ j i cs b, ρ, S => match execS b ρ S with
    | .ex c S1 => if c ∈ cs ∧ i < ρ.length then .nxt ((ρ.set j (some (.exc c))).set i none) S1 else .bad
    | o => o
end
/-! ### calls -/
def argLocs : List Val → List Nat
  | [] => []
  | .loc n :: r => n :: argLocs r
  | _ :: r => argLocs r
def reArgs : Nat → List Val → List Val
  | _, [] => []
  | k, .loc _ :: r => .loc k :: reArgs (k + 1) r
  | k, v :: r => v :: reArgs k r
def argsOk : List Val → Bool
  | [] => true
  | .loc _ :: r => argsOk r
  | v :: r => v.free && argsOk r
def getAll (S : Store) : List Nat → Option Store
  | [] => some []
  | n :: r => match S[n]? with
    | some o => match getAll S r with
      | some os => some (o :: os)
      | none => none
    | none => none
def freeObjs : Store → Bool
  | [] => true
  | o :: r => o.free && freeObjs r
/-- the j-th and further objects of S' back to the places ls of S -/
def backs (S' : Store) (kp : Nat → Bool) : Nat → List Nat → Store → Option Store
  | _, [], S => some S
  | j, n :: r, S => match S'[j]? with
    | some o => match frzO S' kp o with
      | some o' => backs S' kp (j + 1) r (S.set n o')
      | none => none
    | none => none
def resV (S' : Store) (ls : List Nat) (v : Val) : Option Val :=
  match v with
  | .loc j => match ls[j]? with
    | some n => some (.loc n)
    | none => frz S' (fun n => decide (n < ls.length)) 6 v
  | v => frz S' (fun n => decide (n < ls.length)) 6 v
/-- the place of a new list that is handed back to be changed -/
def newLoc (k : Nat) (v : Val) : Option Nat :=
  match v with
  | .loc j => if k ≤ j then some j else none
  | _ => none
def kpJ (k j : Nat) (n : Nat) : Bool := decide (n < k) || decide (n = j)
def Obj.isD : Obj → Bool
  | .dct _ _ _ _ => true
  | _ => false
/-- a call: the callee sees its arguments and the lists that stand among them; what it hands back is frozen, or (mu) a new list of the store -/
def callJ (Φ : Nat → List Val → Store → R Val) (mu : Bool) (f : Nat) (args : List Val) (S : Store) : R Val :=
  if argsOk args && decide (argLocs args).Nodup then
    match getAll S (argLocs args) with
    | some os => if freeObjs os then
        match Φ f (reArgs 0 args) os with
        | .ok v S' =>
          if mu then
            match newLoc (argLocs args).length v with
            | some j => match S'[j]? with
              | some o => match frzO S' (kpJ (argLocs args).length j) o with
                | some o' => match backs S' (kpJ (argLocs args).length j) 0 (argLocs args) S with
                  | some S2 => .ok (.loc S2.length) (S2 ++ [o'])
                  | none => .bad
                | none => .bad
              | none => .bad
            | none => .bad
          else
            match backs S' (fun n => decide (n < (argLocs args).length)) 0 (argLocs args) S with
            | some S2 => match resV S' (argLocs args) v with
              | some v' => .ok v' S2
              | none => .bad
            | none => .bad
        | .ex c S' => if (S'.drop (argLocs args).length).any Obj.isD then .bad else match backs S' (fun n => decide (n < (argLocs args).length)) 0 (argLocs args) S with
          | some S2 => .ex c S2
          | none => .bad
        | .bad => .bad
      else .bad
    | none => .bad
  else .bad
/-- .. or it sees the store as it is -/
def callI (Φ : Nat → List Val → Store → R Val) (md : Option Bool) (f : Nat) (args : List Val) (S : Store) : R Val :=
  match md with
  | none => Φ f args S
  | some mu => callJ Φ mu f args S
def Out.res (o : Out) : R Val :=
  match o with
  | .nxt _ S => .ok .non S
  | .ret v S => .ok v S
  | .ex c S => .ex c S
  | _ => .bad
/-- a def: its parameters, its names, its body -/
structure Fn where
  name : Str
  ps : List Str
  N : List Str
  body : St
def startE (n : Nat) (args : List Val) : Env := args.map some ++ List.replicate (n - args.length) none
def run (P : Nat → Option Fn) (W : Nat) : Nat → Nat → List Val → Store → R Val
  | 0, _, _, _ => .bad
  | k + 1, f, args, S => match P f with
    | some d => if args.length = d.ps.length then (execS (callI (run P W k)) W d.body (startE d.N.length args) S).res else .bad
    | none => .bad
end Iv
/-! Iv2: values and stores against the abstract heap. -/
namespace Iv
open PySem PySem.Spec PyProof.Rows L2
open Evl (Ex ex_l ex_t)
/-- what a global name holds -/
def clsK (K : PySem.W.Frag) (c : Str) : Option Value := match PySem.W.nsIn K mainGlobals c with
  | some (some v) => some v
  | _ => none
/-- an exception that was caught -/
def CgO (cls : Value) (a : Addr) : HO := .ext fun h => ∃ (oe : PySem.Obj) (vs : Array Value), h.get? a = some oe ∧ Zc cls none oe ∧ oe.data = .fields vs
/-- a dict of these keys and values -/
def dIs (t : Bool) (ks : List (List (Int ⊕ Str))) (xs : List V) (u : HO) : Prop := match t with
  | false => ∃ kvs : List (Key × V), u = .dK kvs ∧ kvs.map (fun p => [p.1]) = ks ∧ kvs.map (·.2) = xs
  | true => ∃ kvs : List (List Key × V), u = .dT kvs ∧ kvs.map (·.1) = ks ∧ kvs.map (·.2) = xs
theorem dIs_mut {t : Bool} {ks : List (List (Int ⊕ Str))} {xs : List V} {u : HO} (h : dIs t ks xs u) : Mut (some u) := by
  cases t with
  | false => obtain ⟨_, rfl, _⟩ := h; exact trivial
  | true => obtain ⟨_, rfl, _⟩ := h; exact trivial
mutual
def Rep (K : PySem.W.Frag) (Hf : Hp) (m : List Addr) : Val → V → Prop
  | .non, x => x = .non
  | .bl b, x => x = .bl b
  | .int i, x => x = .int i
  | .str s, x => x = .str s
  | .tup vs, x => ∃ a xs, x = .ref a ∧ SqT K Hf a xs ∧ Reps K Hf m vs xs
  | .lst vs, x => ∃ a xs, x = .ref a ∧ SqL K Hf a xs ∧ Reps K Hf m vs xs
  | .dct t ks vs, x => ∃ a ob u xs, x = .ref a ∧ Hf a = some (.frz ob u) ∧ dIs t ks xs u ∧ Reps K Hf m vs xs
  | .exc c, x => ∃ a v, x = .ref a ∧ clsK K c = some v ∧ Hf a = some (CgO v a)
  | .loc n, x => ∃ a, x = .ref a ∧ m[n]? = some a
def Reps (K : PySem.W.Frag) (Hf : Hp) (m : List Addr) : List Val → List V → Prop
  | [], xs => xs = []
  | v :: vs, xs => ∃ x r, xs = x :: r ∧ Rep K Hf m v x ∧ Reps K Hf m vs r
end
variable {K : PySem.W.Frag} {Hf Hf' Fr H H' : Hp} {m m' : List Addr} {S S' : Store}
theorem pre_get {n : Nat} {a : Addr} (p : m <+: m') (h : m[n]? = some a) : m'[n]? = some a := by
  obtain ⟨t, rfl⟩ := p
  rw [List.getElem?_append_left (List.getElem?_eq_some_iff.mp h).1]
  exact h
mutual
theorem Rep.mono (e : Ex Hf Hf') (p : m <+: m') : ∀ (v : Val) (x : V), Rep K Hf m v x → Rep K Hf' m' v x
  | .non, _, h => h
  | .bl _, _, h => h
  | .int _, _, h => h
  | .str _, _, h => h
  | .tup vs, _, h => by
    obtain ⟨a, xs, h1, h2, h3⟩ := h
    exact ⟨a, xs, h1, ex_t e h2, Reps.mono e p vs xs h3⟩
  | .lst vs, _, h => by
    obtain ⟨a, xs, h1, h2, h3⟩ := h
    exact ⟨a, xs, h1, ex_l e h2, Reps.mono e p vs xs h3⟩
  | .dct t ks vs, _, h => by
    obtain ⟨a, ob, u, xs, h1, h2, h3, h4⟩ := h
    exact ⟨a, ob, u, xs, h1, e a _ h2, h3, Reps.mono e p vs _ h4⟩
  | .exc c, _, h => by
    obtain ⟨a, v, h1, h2, h3⟩ := h
    exact ⟨a, v, h1, h2, e a _ h3⟩
  | .loc n, _, h => by
    obtain ⟨a, h1, h2⟩ := h
    exact ⟨a, h1, pre_get p h2⟩
theorem Reps.mono (e : Ex Hf Hf') (p : m <+: m') : ∀ (vs : List Val) (xs : List V), Reps K Hf m vs xs → Reps K Hf' m' vs xs
  | [], _, h => h
  | v :: vs, _, h => by
    obtain ⟨x, r, h1, h2, h3⟩ := h
    exact ⟨x, r, h1, Rep.mono e p v x h2, Reps.mono e p vs r h3⟩
end
mutual
theorem Rep.free : ∀ (v : Val) (x : V), v.free = true → Rep K Hf m v x → Rep K Hf m' v x
  | .non, _, _, h => h
  | .bl _, _, _, h => h
  | .int _, _, _, h => h
  | .str _, _, _, h => h
  | .tup vs, _, f, h => by
    obtain ⟨a, xs, h1, h2, h3⟩ := h
    exact ⟨a, xs, h1, h2, Reps.free vs xs f h3⟩
  | .lst vs, _, f, h => by
    obtain ⟨a, xs, h1, h2, h3⟩ := h
    exact ⟨a, xs, h1, h2, Reps.free vs xs f h3⟩
  | .dct t ks vs, _, f, h => by
    obtain ⟨a, ob, u, xs, h1, h2, h3, h4⟩ := h
    exact ⟨a, ob, u, xs, h1, h2, h3, Reps.free vs _ f h4⟩
  | .exc c, _, f, h => h
  | .loc n, _, f, h => by cases f
theorem Reps.free : ∀ (vs : List Val) (xs : List V), Val.frees vs = true → Reps K Hf m vs xs → Reps K Hf m' vs xs
  | [], _, _, h => h
  | v :: vs, _, f, h => by
    obtain ⟨x, r, h1, h2, h3⟩ := h
    have f' : (v.free && Val.frees vs) = true := f
    rw [Bool.and_eq_true] at f'
    exact ⟨x, r, h1, Rep.free v x f'.1 h2, Reps.free vs r f'.2 h3⟩
end
theorem Reps.nil : Reps K Hf m [] [] := rfl
theorem Reps.cons {v : Val} {vs : List Val} {x : V} {xs : List V} (h : Rep K Hf m v x) (t : Reps K Hf m vs xs) : Reps K Hf m (v :: vs) (x :: xs) := ⟨x, xs, rfl, h, t⟩
theorem Reps.length : ∀ {vs : List Val} {xs : List V}, Reps K Hf m vs xs → vs.length = xs.length
  | [], _, h => by cases h; rfl
  | v :: vs, _, h => by
    obtain ⟨x, r, rfl, _, h3⟩ := h
    rw [List.length_cons, List.length_cons, Reps.length h3]
theorem Reps.get : ∀ {vs : List Val} {xs : List V} {i : Nat} {v : Val}, Reps K Hf m vs xs → vs[i]? = some v → ∃ x, xs[i]? = some x ∧ Rep K Hf m v x
  | [], _, _, _, _, e => by simp at e
  | w :: vs, _, 0, v, h, e => by
    obtain ⟨x, r, rfl, h2, _⟩ := h
    have e' : w = v := by simpa using e
    subst e'
    exact ⟨x, rfl, h2⟩
  | w :: vs, _, i + 1, v, h, e => by
    obtain ⟨x, r, rfl, _, h3⟩ := h
    obtain ⟨y, h4, h5⟩ := Reps.get (i := i) (v := v) h3 (by simpa using e)
    exact ⟨y, by simpa using h4, h5⟩
theorem Reps.get' {vs : List Val} {xs : List V} {i : Nat} {x : V} (h : Reps K Hf m vs xs) (e : xs[i]? = some x) : ∃ v, vs[i]? = some v ∧ Rep K Hf m v x := by
  have hl := h.length
  have hi : i < vs.length := by rw [hl]; exact (List.getElem?_eq_some_iff.mp e).1
  obtain ⟨y, h1, h2⟩ := h.get (List.getElem?_eq_getElem hi)
  rw [e] at h1
  cases h1
  exact ⟨vs[i], List.getElem?_eq_getElem hi, h2⟩
theorem Reps.append : ∀ {vs ws : List Val} {xs ys : List V}, Reps K Hf m vs xs → Reps K Hf m ws ys → Reps K Hf m (vs ++ ws) (xs ++ ys)
  | [], _, _, _, h, t => by cases h; exact t
  | v :: vs, _, _, _, h, t => by
    obtain ⟨x, r, rfl, h2, h3⟩ := h
    exact .cons h2 (Reps.append h3 t)
theorem Reps.snoc {vs : List Val} {xs : List V} {v : Val} {x : V} (h : Reps K Hf m vs xs) (t : Rep K Hf m v x) : Reps K Hf m (vs ++ [v]) (xs ++ [x]) := h.append (.cons t .nil)
theorem Reps.drop : ∀ (n : Nat) {vs : List Val} {xs : List V}, Reps K Hf m vs xs → Reps K Hf m (vs.drop n) (xs.drop n)
  | 0, _, _, h => h
  | n + 1, [], _, h => by cases h; exact .nil
  | n + 1, v :: vs, _, h => by
    obtain ⟨x, r, rfl, _, h3⟩ := h
    exact Reps.drop n h3
theorem Reps.take : ∀ (n : Nat) {vs : List Val} {xs : List V}, Reps K Hf m vs xs → Reps K Hf m (vs.take n) (xs.take n)
  | 0, _, _, _ => .nil
  | n + 1, [], _, h => by cases h; exact .nil
  | n + 1, v :: vs, _, h => by
    obtain ⟨x, r, rfl, h2, h3⟩ := h
    exact .cons h2 (Reps.take n h3)
theorem Reps.set {v : Val} {x : V} (t : Rep K Hf m v x) : ∀ (j : Nat) {vs : List Val} {xs : List V}, Reps K Hf m vs xs → Reps K Hf m (vs.set j v) (xs.set j x)
  | _, [], _, h => by cases h; exact .nil
  | 0, w :: vs, _, h => by
    obtain ⟨y, r, rfl, _, h3⟩ := h
    exact .cons t h3
  | j + 1, w :: vs, _, h => by
    obtain ⟨y, r, rfl, h2, h3⟩ := h
    exact .cons h2 (Reps.set t j h3)
def ObjRep (K : PySem.W.Frag) (Hf : Hp) (m : List Addr) : Obj → Option HO → Prop
  | .lst vs, o => ∃ xs, o = some (.lst xs) ∧ Reps K Hf m vs xs
  | .dct t l ks vs, o => ∃ u xs, (match l with
      | false => o = some u
      | true => ∃ ob, o = some (.frz ob u)) ∧ dIs t ks xs u ∧ Reps K Hf m vs xs
  | .ins c ns vs, o => ∃ C dx fs, clsK K c = some (.ref C) ∧ o = some (.ins C dx fs) ∧ fs.map (·.1) = ns ∧ Reps K Hf m vs (fs.map (·.2))
theorem ObjRep.mono (e : Ex Hf Hf') (p : m <+: m') : ∀ {o : Obj} {u : Option HO}, ObjRep K Hf m o u → ObjRep K Hf' m' o u
  | .lst vs, _, ⟨xs, h1, h2⟩ => ⟨xs, h1, Reps.mono e p vs xs h2⟩
  | .dct t l ks vs, _, ⟨u, xs, h1, h2, h3⟩ => ⟨u, xs, h1, h2, Reps.mono e p vs _ h3⟩
  | .ins c ns vs, _, ⟨C, dx, fs, h0, h1, h2, h3⟩ => ⟨C, dx, fs, h0, h1, h2, Reps.mono e p vs _ h3⟩
theorem ObjRep.some : ∀ {o : Obj} {u : Option HO}, ObjRep K Hf m o u → ∃ w, u = some w ∧ True
  | .lst vs, _, ⟨xs, h1, _⟩ => ⟨.lst xs, h1, trivial⟩
  | .dct t l ks vs, _, ⟨u, xs, h1, _⟩ => by
    cases l with
    | false => exact ⟨u, h1, trivial⟩
    | true => obtain ⟨ob, h1⟩ := h1; exact ⟨_, h1, trivial⟩
  | .ins c ns vs, _, ⟨C, dx, fs, _, h1, _⟩ => ⟨_, h1, trivial⟩
/-- the store S stands at the addresses m; Hf: what nobody changes; Fr: what others keep -/
structure Sim (K : PySem.W.Frag) (Hf Fr : Hp) (m : List Addr) (S : Store) (H : Hp) : Prop where
  exf : Ex Hf H
  exr : Ex Fr H
  dis : ∀ a o, Fr a = some o → Hf a = none
  nd : m.Nodup
  len : m.length = S.length
  mf : ∀ a ∈ m, Hf a = none ∧ Fr a = none
  obj : ∀ (i : Nat) (a : Addr) (o : Obj), m[i]? = some a → S[i]? = some o → ObjRep K Hf m o (H a)
theorem none_of {Hf H : Hp} {p : Addr} (e : Ex Hf H) (h : H p = none) : Hf p = none := Evl.fresh_back e h
theorem Sim.at (s : Sim K Hf Fr m S H) {a : Addr} (ha : a ∈ m) : ∃ w, H a = some w ∧ True := by
  obtain ⟨i, hi⟩ := List.getElem?_of_mem ha
  have hl : i < S.length := by rw [← s.len]; exact (List.getElem?_eq_some_iff.mp hi).1
  exact (s.obj i a _ hi (List.getElem?_eq_getElem hl)).some
theorem Sim.notin (s : Sim K Hf Fr m S H) {p : Addr} (h : H p = none) : p ∉ m := fun hp => by
  obtain ⟨w, e, _⟩ := s.at hp
  rw [h] at e
  cases e
theorem ex_upd {A B : Hp} {p : Addr} {o : HO} (e : Ex A B) : Ex (upd A p o) (upd B p o) := fun a u h => by
  by_cases hp : a = p
  · subst hp
    rw [upd_same] at h ⊢
    exact h
  · rw [upd_ne hp] at h ⊢
    exact e a u h
/-- a new thing that nobody changes -/
theorem Sim.newF (s : Sim K Hf Fr m S H) {p : Addr} {o : HO} (h : H p = none) : Sim K (upd Hf p o) Fr m S (upd H p o) := by
  have hf := none_of s.exf h
  have hr := none_of s.exr h
  have hm := s.notin h
  have np : ∀ a ∈ m, a ≠ p := fun a ha e => hm (e ▸ ha)
  refine ⟨ex_upd s.exf, Evl.Ex.trans s.exr (Evl.Ex.new h), fun a u e => ?_, s.nd, s.len, fun a ha => ⟨by rw [upd_ne (np a ha)]; exact (s.mf a ha).1, (s.mf a ha).2⟩, fun i a u e1 e2 => ?_⟩
  · have ne : a ≠ p := fun z => by rw [z, hr] at e; cases e
    rw [upd_ne ne]
    exact s.dis a u e
  · rw [upd_ne (np a (List.mem_of_getElem? e1))]
    exact (s.obj i a u e1 e2).mono (Evl.Ex.new hf) (List.prefix_refl _)
/-- a new thing of the store -/
theorem Sim.newO (s : Sim K Hf Fr m S H) {p : Addr} {o : Obj} {w : HO} (h : H p = none) (r : ObjRep K Hf m o (some w)) : Sim K Hf Fr (m ++ [p]) (S ++ [o]) (upd H p w) := by
  have hf := none_of s.exf h
  have hr := none_of s.exr h
  have hm := s.notin h
  refine ⟨Evl.Ex.trans s.exf (Evl.Ex.new h), Evl.Ex.trans s.exr (Evl.Ex.new h), s.dis, ?_, by rw [List.length_append, List.length_append, s.len]; rfl, fun a ha => ?_, fun i a u e1 e2 => ?_⟩
  · rw [List.nodup_append]
    refine ⟨s.nd, by simp, fun a ha b hb => ?_⟩
    have e : b = p := by simpa using hb
    subst e
    exact fun z => hm (z ▸ ha)
  · rcases List.mem_append.mp ha with ha | ha
    · exact s.mf a ha
    · have e : a = p := by simpa using ha
      subst e
      exact ⟨hf, hr⟩
  · by_cases hi : i < m.length
    · rw [List.getElem?_append_left hi] at e1
      rw [List.getElem?_append_left (by rw [← s.len]; exact hi)] at e2
      have ne : a ≠ p := fun z => hm (z ▸ List.mem_of_getElem? e1)
      rw [upd_ne ne]
      exact (s.obj i a u e1 e2).mono (Evl.Ex.refl _) (List.prefix_append _ _)
    · have hl : i = m.length := by
        have := (List.getElem?_eq_some_iff.mp e1).1
        rw [List.length_append] at this
        have h1 : ([p] : List Addr).length = 1 := rfl
        omega
      subst hl
      have e1' : p = a := by simpa using e1
      have e2' : o = u := by simpa [s.len] using e2
      subst e1' e2'
      rw [upd_same]
      exact r.mono (Evl.Ex.refl _) (List.prefix_append _ _)
theorem Sim.newL (s : Sim K Hf Fr m S H) {p : Addr} {vs : List Val} {xs : List V} (h : H p = none) (r : Reps K Hf m vs xs) : Sim K Hf Fr (m ++ [p]) (S ++ [.lst vs]) (upd H p (.lst xs)) := s.newO h ⟨xs, rfl, r⟩
/-- a thing of the store is changed -/
theorem Sim.writeO (s : Sim K Hf Fr m S H) {n : Nat} {a : Addr} {o : Obj} {w : HO} (hn : m[n]? = some a) (r : ObjRep K Hf m o (some w)) : Sim K Hf Fr m (S.set n o) (upd H a w) := by
  have ha := List.mem_of_getElem? hn
  obtain ⟨f1, f2⟩ := s.mf a ha
  refine ⟨Evl.Ex.mut s.exf f1, Evl.Ex.mut s.exr f2, s.dis, s.nd, by rw [List.length_set]; exact s.len, s.mf, fun i b u e1 e2 => ?_⟩
  by_cases hi : i = n
  · subst hi
    rw [hn] at e1
    cases e1
    have hl : i < S.length := by rw [← s.len]; exact (List.getElem?_eq_some_iff.mp hn).1
    rw [List.getElem?_set_self hl] at e2
    cases e2
    rw [upd_same]
    exact r
  · rw [List.getElem?_set_ne (Ne.symm hi)] at e2
    have ne : b ≠ a := fun z => hi (by
      subst z
      obtain ⟨h1, q1⟩ := List.getElem?_eq_some_iff.mp e1
      obtain ⟨h2, q2⟩ := List.getElem?_eq_some_iff.mp hn
      exact (List.getElem_inj s.nd).mp (q1.trans q2.symm))
    rw [upd_ne ne]
    exact s.obj i b u e1 e2
theorem Sim.write (s : Sim K Hf Fr m S H) {n : Nat} {a : Addr} {vs : List Val} {xs : List V} (hn : m[n]? = some a) (r : Reps K Hf m vs xs) : Sim K Hf Fr m (S.set n (.lst vs)) (upd H a (.lst xs)) :=
  s.writeO hn ⟨xs, rfl, r⟩
/-- a new thing that is kept apart -/
theorem Sim.hold (s : Sim K Hf Fr m S H) {p : Addr} {o : HO} (h : H p = none) : Sim K Hf (upd Fr p o) m S (upd H p o) := by
  have hf := none_of s.exf h
  have hm := s.notin h
  refine ⟨Evl.Ex.trans s.exf (Evl.Ex.new h), ex_upd s.exr, fun a u e => ?_, s.nd, s.len, fun a ha => ⟨(s.mf a ha).1, ?_⟩, fun i a u e1 e2 => ?_⟩
  · by_cases hp : a = p
    · subst hp; exact hf
    · rw [upd_ne hp] at e
      exact s.dis a u e
  · rw [upd_ne (show a ≠ p from fun z => hm (z ▸ ha))]
    exact (s.mf a ha).2
  · rw [upd_ne (show a ≠ p from fun z => hm (z ▸ List.mem_of_getElem? e1))]
    exact s.obj i a u e1 e2
/-- .. changed -/
theorem Sim.held {p : Addr} {o o' : HO} (s : Sim K Hf (upd Fr p o) m S H) : Sim K Hf (upd Fr p o') m S (upd H p o') := by
  have hf : Hf p = none := s.dis p o upd_same
  have hm : p ∉ m := fun h => by
    have := (s.mf p h).2
    rw [upd_same] at this
    cases this
  have er : Ex (upd Fr p o') (upd H p o') := fun a u e => by
    by_cases hp : a = p
    · subst hp
      rw [upd_same] at e ⊢
      exact e
    · rw [upd_ne hp] at e ⊢
      exact s.exr a u (by rw [upd_ne hp]; exact e)
  refine ⟨Evl.Ex.mut s.exf hf, er, fun a u e => ?_, s.nd, s.len, fun a ha => ⟨(s.mf a ha).1, ?_⟩, fun i a u e1 e2 => ?_⟩
  · by_cases hp : a = p
    · subst hp; exact hf
    · rw [upd_ne hp] at e
      exact s.dis a u (by rw [upd_ne hp]; exact e)
  · have := (s.mf a ha).2
    have ne : a ≠ p := fun z => hm (z ▸ ha)
    rw [upd_ne ne] at this ⊢
    exact this
  · rw [upd_ne (show a ≠ p from fun z => hm (z ▸ List.mem_of_getElem? e1))]
    exact s.obj i a u e1 e2
theorem Sim.heldAt {p : Addr} {o : HO} (s : Sim K Hf (upd Fr p o) m S H) : H p = some o := s.exr p o upd_same
/-- .. let go, to be changed no more -/
theorem Sim.thaw {p : Addr} {o : HO} (s : Sim K Hf (upd Fr p o) m S H) (hr : Fr p = none) : Sim K (upd Hf p o) Fr m S H := by
  have hf : Hf p = none := s.dis p o upd_same
  have hm : p ∉ m := fun h => by
    have := (s.mf p h).2
    rw [upd_same] at this
    cases this
  refine ⟨fun a u e => ?_, fun a u e => ?_, fun a u e => ?_, s.nd, s.len, fun a ha => ?_, fun i a u e1 e2 => (s.obj i a u e1 e2).mono (Evl.Ex.new hf) (List.prefix_refl _)⟩
  · by_cases hp : a = p
    · subst hp
      rw [upd_same] at e
      cases e
      exact s.heldAt
    · rw [upd_ne hp] at e
      exact s.exf a u e
  · have ne : a ≠ p := fun z => by rw [z, hr] at e; cases e
    exact s.exr a u (by rw [upd_ne ne]; exact e)
  · have ne : a ≠ p := fun z => by rw [z, hr] at e; cases e
    rw [upd_ne ne]
    exact s.dis a u (by rw [upd_ne ne]; exact e)
  · have ne : a ≠ p := fun z => hm (z ▸ ha)
    have := (s.mf a ha)
    rw [upd_ne ne] at this
    rw [upd_ne ne]
    exact this
/-- .. let go into the store -/
theorem Sim.take {p : Addr} {vs : List Val} {xs : List V} (s : Sim K Hf (upd Fr p (.lst xs)) m S H) (hr : Fr p = none) (r : Reps K Hf m vs xs) : Sim K Hf Fr (m ++ [p]) (S ++ [.lst vs]) H := by
  have hf : Hf p = none := s.dis p _ upd_same
  have hm : p ∉ m := fun h => by
    have := (s.mf p h).2
    rw [upd_same] at this
    cases this
  refine ⟨s.exf, fun a u e => ?_, fun a u e => ?_, ?_, by rw [List.length_append, List.length_append, s.len]; rfl, fun a ha => ?_, fun i a u e1 e2 => ?_⟩
  · have ne : a ≠ p := fun z => by rw [z, hr] at e; cases e
    exact s.exr a u (by rw [upd_ne ne]; exact e)
  · have ne : a ≠ p := fun z => by rw [z, hr] at e; cases e
    exact s.dis a u (by rw [upd_ne ne]; exact e)
  · rw [List.nodup_append]
    refine ⟨s.nd, by simp, fun a ha b hb => ?_⟩
    have e : b = p := by simpa using hb
    subst e
    exact fun z => hm (z ▸ ha)
  · rcases List.mem_append.mp ha with ha | ha
    · have ne : a ≠ p := fun z => hm (z ▸ ha)
      have := (s.mf a ha)
      rw [upd_ne ne] at this
      exact this
    · have e : a = p := by simpa using ha
      subst e
      exact ⟨hf, hr⟩
  · by_cases hi : i < m.length
    · rw [List.getElem?_append_left hi] at e1
      rw [List.getElem?_append_left (by rw [← s.len]; exact hi)] at e2
      exact (s.obj i a u e1 e2).mono (Evl.Ex.refl _) (List.prefix_append _ _)
    · have hl : i = m.length := by
        have := (List.getElem?_eq_some_iff.mp e1).1
        rw [List.length_append] at this
        have h1 : ([p] : List Addr).length = 1 := rfl
        omega
      subst hl
      have e1' : p = a := by simpa using e1
      have e2' : Obj.lst vs = u := by simpa [s.len] using e2
      subst e1' e2'
      exact ⟨xs, s.heldAt, Reps.mono (Evl.Ex.refl _) (List.prefix_append _ _) _ _ r⟩
/-- .. let go into the store -/
theorem Sim.takeO {p : Addr} {o : Obj} {w : HO} (s : Sim K Hf (upd Fr p w) m S H) (hr : Fr p = none) (r : ObjRep K Hf m o (some w)) : Sim K Hf Fr (m ++ [p]) (S ++ [o]) H := by
  have hf : Hf p = none := s.dis p _ upd_same
  have hm : p ∉ m := fun h => by
    have := (s.mf p h).2
    rw [upd_same] at this
    cases this
  refine ⟨s.exf, fun a u e => ?_, fun a u e => ?_, ?_, by rw [List.length_append, List.length_append, s.len]; rfl, fun a ha => ?_, fun i a u e1 e2 => ?_⟩
  · have ne : a ≠ p := fun z => by rw [z, hr] at e; cases e
    exact s.exr a u (by rw [upd_ne ne]; exact e)
  · have ne : a ≠ p := fun z => by rw [z, hr] at e; cases e
    exact s.dis a u (by rw [upd_ne ne]; exact e)
  · rw [List.nodup_append]
    refine ⟨s.nd, by simp, fun a ha b hb => ?_⟩
    have e : b = p := by simpa using hb
    subst e
    exact fun z => hm (z ▸ ha)
  · rcases List.mem_append.mp ha with ha | ha
    · have ne : a ≠ p := fun z => hm (z ▸ ha)
      have := (s.mf a ha)
      rw [upd_ne ne] at this
      exact this
    · have e : a = p := by simpa using ha
      subst e
      exact ⟨hf, hr⟩
  · by_cases hi : i < m.length
    · rw [List.getElem?_append_left hi] at e1
      rw [List.getElem?_append_left (by rw [← s.len]; exact hi)] at e2
      exact (s.obj i a u e1 e2).mono (Evl.Ex.refl _) (List.prefix_append _ _)
    · have hl : i = m.length := by
        have := (List.getElem?_eq_some_iff.mp e1).1
        rw [List.length_append] at this
        have h1 : ([p] : List Addr).length = 1 := rfl
        omega
      subst hl
      have e1' : p = a := by simpa using e1
      have e2' : o = u := by simpa [s.len] using e2
      subst e1' e2'
      rw [s.heldAt]
      exact r.mono (Evl.Ex.refl _) (List.prefix_append _ _)
/-- a def's slots -/
structure EnvR (K : PySem.W.Frag) (Hf : Hp) (m : List Addr) (ρ : Env) (σ : L2.St) : Prop where
  len : ρ.length = σ.length
  get : ∀ (i : Nat) (v : Val), ρ[i]? = some (some v) → ∃ x, σ[i]? = some (some x) ∧ Rep K Hf m v x
theorem EnvR.mono {ρ : Env} {σ : L2.St} (r : EnvR K Hf m ρ σ) (e : Ex Hf Hf') (p : m <+: m') : EnvR K Hf' m' ρ σ :=
  ⟨r.len, fun i v h => let ⟨x, h1, h2⟩ := r.get i v h; ⟨x, h1, Rep.mono e p v x h2⟩⟩
theorem EnvR.set {ρ : Env} {σ : L2.St} (r : EnvR K Hf m ρ σ) (i : Nat) {v : Val} {x : V} (h : Rep K Hf m v x) : EnvR K Hf m (ρ.set i (some v)) (σ.set i (some x)) := by
  refine ⟨by rw [List.length_set, List.length_set, r.len], fun j w e => ?_⟩
  by_cases hj : i = j
  · subst hj
    have hi : i < ρ.length := by
      have := (List.getElem?_eq_some_iff.mp e).1
      rwa [List.length_set] at this
    rw [List.getElem?_set_self hi] at e
    cases e
    exact ⟨x, List.getElem?_set_self (by rw [← r.len]; exact hi), h⟩
  · rw [List.getElem?_set_ne hj] at e
    obtain ⟨y, h1, h2⟩ := r.get j w e
    exact ⟨y, by rw [List.getElem?_set_ne hj]; exact h1, h2⟩
theorem EnvR.unset {ρ : Env} {σ : L2.St} (r : EnvR K Hf m ρ σ) (i : Nat) : EnvR K Hf m (ρ.set i none) (σ.set i none) := by
  refine ⟨by rw [List.length_set, List.length_set, r.len], fun j w e => ?_⟩
  by_cases hj : i = j
  · subst hj
    have hi : i < ρ.length := by
      have := (List.getElem?_eq_some_iff.mp e).1
      rwa [List.length_set] at this
    rw [List.getElem?_set_self hi] at e
    cases e
  · rw [List.getElem?_set_ne hj] at e
    obtain ⟨y, h1, h2⟩ := r.get j w e
    exact ⟨y, by rw [List.getElem?_set_ne hj]; exact h1, h2⟩
theorem EnvR.wipe {ρ : Env} {σ : L2.St} (r : EnvR K Hf m ρ σ) : ∀ vs : List Nat, EnvR K Hf m (wipeE ρ vs) (L2.wipe σ vs)
  | [] => r
  | v :: vs => (EnvR.wipe r vs).unset v
/-! ### results -/
section
variable {α β γ : Type}
/-- what a result must lead to: P relates a value with its value of the heap -/
def QR (K : PySem.W.Frag) (cl : Str → Value) (X : XK) (P : Hp → List Addr → α → γ → Prop) (Hf Fr : Hp) (m : List Addr) (Q : γ → Hp → Prop) : R α → Prop
  | .ok a S => ∀ x H Hf' m', Ex Hf Hf' → m <+: m' → Sim K Hf' Fr m' S H → P Hf' m' a x → Q x H
  | .ex c S => ∀ H Hf' m', Ex Hf Hf' → m <+: m' → Sim K Hf' Fr m' S H → X (cl c) none H
  | .bad => False
variable {cl : Str → Value} {X : XK} {P : Hp → List Addr → α → γ → Prop}
theorem QR.mono {Q : γ → Hp → Prop} : ∀ {r : R α}, QR K cl X P Hf Fr m Q r → Ex Hf Hf' → m <+: m' → QR K cl X P Hf' Fr m' Q r
  | .ok _ _, h, e, p => fun x H Hf2 m2 e2 p2 s r => h x H Hf2 m2 (e.trans e2) (p.trans p2) s r
  | .ex _ _, h, e, p => fun H Hf2 m2 e2 p2 s => h H Hf2 m2 (e.trans e2) (p.trans p2) s
  | .bad, h, _, _ => h
theorem QR.bind {δ : Type} {P' : Hp → List Addr → β → δ → Prop} {Q : δ → Hp → Prop} {Q' : γ → Hp → Prop} {f : α → Store → R β} : ∀ {r : R α},
    QR K cl X P' Hf Fr m Q (r.bind f) →
    (∀ a S x H Hf' m', Ex Hf Hf' → m <+: m' → Sim K Hf' Fr m' S H → P Hf' m' a x → QR K cl X P' Hf' Fr m' Q (f a S) → Q' x H) → QR K cl X P Hf Fr m Q' r
  | .ok a S, h, k => fun x H Hf' m' e p s r => k a S x H Hf' m' e p s r (QR.mono (r := f a S) h e p)
  | .ex _ _, h, _ => h
  | .bad, h, _ => h
end
abbrev QE (K : PySem.W.Frag) (cl : Str → Value) (X : XK) := QR K cl X (Rep K)
abbrev QA (K : PySem.W.Frag) (cl : Str → Value) (X : XK) := QR K cl X (Reps K)
end Iv
/-! Iv2d: dicts: what is read, stored, locked. -/
namespace Iv
open PySem PySem.Spec PyProof.Rows L2
open Evl (Ex ex_l ex_t)
section
variable {X : Cx}
def rInDict : R2 := fun x y H Q => ∃ a o, y = .ref a ∧ DGet H a x o ∧ Q (.bl o.isSome) H
def rNotInDict : R2 := fun x y H Q => ∃ a o, y = .ref a ∧ DGet H a x o ∧ Q (.bl (!o.isSome)) H
theorem op_inDict (hu : X.A.units + 1 < cLine) : OpR X (compareOp .In) rInDict := by
  intro pins s σ H x y v u Q I rx ry h
  obtain ⟨a, o, rfl, g, q⟩ := h
  obtain rfl : u = Value.ref a := ry
  exact d_in hu I g rx fun s3 I3 => ⟨.bl o.isSome, H, I3, rfl, q⟩
theorem op_notInDict (hu : X.A.units + 1 < cLine) : OpR X (compareOp .NotIn) rNotInDict := by
  intro pins s σ H x y v u Q I rx ry h
  obtain ⟨a, o, rfl, g, q⟩ := h
  obtain rfl : u = Value.ref a := ry
  exact d_notIn hu I g rx fun s3 I3 => ⟨.bl (!o.isSome), H, I3, rfl, q⟩
def rIxDict : R2 := fun x y H Q => ∃ a v, x = .ref a ∧ DGet H a y (some v) ∧ Q v H
theorem ix_dict (hu : X.A.units + 1 < cLine) : IxR X rIxDict := by
  intro value slice pins s σ H x y v u Q I rx ry h hs
  obtain ⟨a, z, rfl, g, q⟩ := h
  obtain rfl : v = Value.ref a := rx
  have hT := dict_typeIs I g
  unfold subscriptTail
  refine wpAny_bind ?_
  rw [getitemInPython_of_ne hT.not_modules]
  refine wpAny_bind (wpAny_specialOf hT PySem.F.slot_dict_getitem.lookup ?_)
  have fin : wpAny (model X.prog X.w) X.A (subscripted slice false (.ref a) u) (fun r s₃ => wpAny (model X.prog X.w) X.A (letTemporaryGo value (.ref a) r >>= fun _ => pure r) (EP X pins σ Q) X.xe s₃) X.xe s := by
    rw [hs]
    exact wpAny_operating (d_getItem hu I g ry fun w' s3 I3 rw' => wpAny_bind (wpAny_letTemporaryGo (wpAny_pure ⟨z, H, I3, rw', q⟩)))
  first
    | exact wpAny_pure (wpAny_bind fin)
    | exact wpAny_bind (wpAny_pure (wpAny_bind fin))
    | exact wpAny_bind fin
def rSetDict : V → V → V → Hp → (Hp → Prop) → Prop := fun o i v H Q => ∃ a H', o = .ref a ∧ DPut H a i v H' ∧ Q H'
theorem set_dict (hu : X.A.units + 1 < cLine) : PSet X rSetDict := by
  intro pins s σ H o i v ov iv u Q I ro ri rv h
  obtain ⟨a, H', rfl, g, q⟩ := h
  obtain rfl : ov = Value.ref a := ro
  exact d_setItem hu I g ri rv fun s4 I4 => ⟨H', I4, q⟩
theorem PSet.or {r r' : V → V → V → Hp → (Hp → Prop) → Prop} (h : PSet X r) (h' : PSet X r') : PSet X (fun o i v H Q => r o i v H Q ∨ r' o i v H Q) := by
  intro pins s σ H o i v ov iv u Q I ro ri rv q
  rcases q with q | q
  · exact h pins s σ H o i v ov iv u Q I ro ri rv q
  · exact h' pins s σ H o i v ov iv u Q I ro ri rv q
/-! locking for good -/
/-- H2 is H, the things at ds locked -/
def LkOn (ds : List Addr) (H H2 : Hp) : Prop := ∀ a, (a ∈ ds → ∃ u ob, H a = some u ∧ Mut (some u) ∧ H2 a = some (.frz ob u)) ∧ (a ∉ ds → H2 a = H a)
theorem lock_all {pins : List (Addr × PySem.Obj)} {σ : L2.St} {s : Shared} : ∀ (ds : List Addr) (H : Hp), Inv X pins σ H s → ds.Nodup → (∀ a ∈ ds, ∃ u, H a = some u ∧ Mut (some u)) → ∃ H2, LkOn ds H H2 ∧ Inv X pins σ H2 s
  | [], H, I, _, _ => ⟨H, fun a => ⟨fun h => by simp at h, fun _ => rfl⟩, I⟩
  | d :: ds, H, I, nd, hm => by
    obtain ⟨n1, n2⟩ := List.nodup_cons.mp nd
    obtain ⟨u, hu, mu⟩ := hm d List.mem_cons_self
    obtain ⟨ob, I1⟩ := I.lock hu mu
    have ne : ∀ a ∈ ds, a ≠ d := fun a ha e => n1 (e ▸ ha)
    obtain ⟨H2, l2, I2⟩ := lock_all ds (upd H d (.frz ob u)) I1 n2 fun a ha => by
      rw [upd_ne (ne a ha)]
      exact hm a (List.mem_cons_of_mem _ ha)
    refine ⟨H2, fun a => ⟨fun ha => ?_, fun ha => ?_⟩, I2⟩
    · by_cases e : a = d
      · subst e
        exact ⟨u, ob, hu, mu, ((l2 a).2 n1).trans upd_same⟩
      · have ha2 : a ∈ ds := (List.mem_cons.mp ha).resolve_left e
        obtain ⟨u2, ob2, e1, e2, e3⟩ := (l2 a).1 ha2
        rw [upd_ne e] at e1
        exact ⟨u2, ob2, e1, e2, e3⟩
    · have e : a ≠ d := fun z => ha (z ▸ List.mem_cons_self)
      have ha2 : a ∉ ds := fun z => ha (List.mem_cons_of_mem _ z)
      rw [(l2 a).2 ha2, upd_ne e]
def tLockP (t : TE) : TE := fun σ H Q => t σ H fun v H1 => ∃ ds : List Addr, ds.Nodup ∧ (∀ a ∈ ds, ∃ u, H1 a = some u ∧ Mut (some u)) ∧ ∀ H2, LkOn ds H1 H2 → Q v H2
theorem pe_lockP {e : Expr} {t : TE} (h : PE X e t) : PE X e (tLockP t) := by
  refine ⟨fun pins s σ H Q I hw => ?_⟩
  refine thn (h.run pins s σ H _ I hw) fun u s1 ⟨v, H1, I1, r, ds, nd, hm, q⟩ => ?_
  obtain ⟨H2, l2, I2⟩ := lock_all ds H1 I1 nd hm
  exact ⟨v, H2, I2, r, q H2 l2⟩
end
/-! what stands at a key -/
section
variable {K : PySem.W.Frag} {Hf Fr H : Hp} {m : List Addr} {S : Store}
theorem dGet_val {κ : Type} [DecidableEq κ] (g : κ → List (Int ⊕ Str)) (hg : ∀ a b, g a = g b → a = b) : ∀ (kvs : List (κ × V)) (vs : List Val), Reps K Hf m vs (kvs.map (·.2)) → ∀ k, (dGet (kvs.map fun p => g p.1) vs (g k)).isSome = (valV kvs k).isSome ∧ ∀ z, dGet (kvs.map fun p => g p.1) vs (g k) = some z → ∃ z', valV kvs k = some z' ∧ Rep K Hf m z z'
  | [], vs, r, k => by
    have e : vs = [] := List.eq_nil_of_length_eq_zero r.length
    subst e
    exact ⟨rfl, fun z h => by cases h⟩
  | p :: kvs, vs, r, k => by
    cases vs with
    | nil => cases r
    | cons v vs =>
      obtain ⟨x, t, e, h1, h2⟩ := r
      cases e
      show (if g p.1 = g k then some v else dGet (kvs.map fun p => g p.1) vs (g k)).isSome = _ ∧ ∀ z, (if g p.1 = g k then some v else dGet (kvs.map fun p => g p.1) vs (g k)) = some z → _
      by_cases c : p.1 = k
      · rw [if_pos (by rw [c]), valV_pos c]
        exact ⟨rfl, fun z h => by cases h; exact ⟨_, rfl, h1⟩⟩
      · rw [if_neg (fun q => c (hg _ _ q)), valV_neg c]
        exact dGet_val g hg kvs vs h2 k
theorem any_map {κ : Type} [DecidableEq κ] (g : κ → List (Int ⊕ Str)) (hg : ∀ a b, g a = g b → a = b) (k : κ) : ∀ kvs : List (κ × V), ((kvs.map fun p => g p.1).any fun j => decide (j = g k)) = (kvs.any fun kv => decide (kv.1 = k))
  | [] => rfl
  | p :: kvs => by
    show (decide (g p.1 = g k) || (kvs.map fun p => g p.1).any fun j => decide (j = g k)) = (decide (p.1 = k) || kvs.any fun kv => decide (kv.1 = k))
    rw [any_map g hg k kvs]
    congr 1
    by_cases c : p.1 = k
    · rw [decide_eq_true c, decide_eq_true (by rw [c])]
    · rw [decide_eq_false c, decide_eq_false fun q => c (hg _ _ q)]
theorem dRep_reps {κ : Type} [DecidableEq κ] (g : κ → List (Int ⊕ Str)) (hg : ∀ a b, g a = g b → a = b) (k : κ) {w : Val} {y : V} (rw_ : Rep K Hf m w y) : ∀ (kvs : List (κ × V)) (vs : List Val), Reps K Hf m vs (kvs.map (·.2)) → Reps K Hf m (dRep (kvs.map fun p => g p.1) vs (g k) w) ((kvs.map fun kv => if kv.1 = k then (kv.1, y) else kv).map (·.2))
  | [], vs, r => by
    have e : vs = [] := List.eq_nil_of_length_eq_zero r.length
    subst e
    exact .nil
  | p :: kvs, vs, r => by
    cases vs with
    | nil => cases r
    | cons v vs =>
      obtain ⟨x, t, e, h1, h2⟩ := r
      cases e
      show Reps K Hf m ((if g p.1 = g k then w else v) :: dRep (kvs.map fun p => g p.1) vs (g k) w) ((if p.1 = k then (p.1, y) else p).2 :: _)
      refine .cons ?_ (dRep_reps g hg k rw_ kvs vs h2)
      by_cases c : p.1 = k
      · rw [if_pos c, if_pos (by rw [c])]; exact rw_
      · rw [if_neg c, if_neg fun q => c (hg _ _ q)]; exact h1
/-- a store into a dict's keys and values -/
theorem put_reps {κ : Type} [DecidableEq κ] (g : κ → List (Int ⊕ Str)) (hg : ∀ a b, g a = g b → a = b) (k : κ) {w : Val} {y : V} (rw_ : Rep K Hf m w y) (kvs : List (κ × V)) (vs : List Val) (r : Reps K Hf m vs (kvs.map (·.2))) :
    (putK kvs k y).map (fun p => g p.1) = dKeys (kvs.map fun p => g p.1) (g k) ∧ Reps K Hf m (dVals (kvs.map fun p => g p.1) vs (g k) w) ((putK kvs k y).map (·.2)) := by
  unfold dKeys dVals putK
  rw [any_map g hg k]
  by_cases c : (kvs.any fun kv => decide (kv.1 = k)) = true
  · rw [if_pos c, if_pos c, if_pos c]
    refine ⟨?_, dRep_reps g hg k rw_ kvs vs r⟩
    rw [List.map_map]
    congr 1
    funext p
    show g (if p.1 = k then (p.1, y) else p).1 = g p.1
    by_cases c2 : p.1 = k
    · rw [if_pos c2]
    · rw [if_neg c2]
  · rw [if_neg c, if_neg c, if_neg c, List.map_append, List.map_append]
    exact ⟨rfl, r.append (.cons rw_ .nil)⟩
theorem sing_inj (a b : Key) (h : ([a] : List (Int ⊕ Str)) = [b]) : a = b := by cases h; rfl
theorem kyOf_rep {v : Val} {k : Int ⊕ Str} {x : V} (h : kyOf v = some k) (r : Rep K Hf m v x) : x = kV k := by
  cases v with
  | int i => cases h; cases r; rfl
  | str s => cases h; cases r; rfl
  | _ => cases h
theorem keyOf_f {v : Val} {q : List (Int ⊕ Str)} (h : keyOf false v = some q) : ∃ k, kyOf v = some k ∧ q = [k] := by
  have h' : (match kyOf v with
    | some k => some [k]
    | none => none) = some q := h
  cases e : kyOf v with
  | none => rw [e] at h'; cases h'
  | some k => rw [e] at h'; cases h'; exact ⟨k, rfl, rfl⟩
theorem Rep.dctAt (s : Sim K Hf Fr m S H) {v : Val} {x : V} {t : Bool} {ks : List (List (Int ⊕ Str))} {vs : List Val} (r : Rep K Hf m v x) (h : dctAt S v = some (t, ks, vs)) : ∃ a u xs, x = .ref a ∧ Rd H a u ∧ dIs t ks xs u ∧ Reps K Hf m vs xs := by
  cases v with
  | dct t' ks' vs' =>
    cases h
    obtain ⟨a, ob, u, xs, h1, h2, h3, h4⟩ := r
    exact ⟨a, u, xs, h1, .inr ⟨ob, s.exf a _ h2⟩, h3, h4⟩
  | loc n =>
    have h' : (match S[n]? with
      | some (.dct t _ ks vs) => some (t, ks, vs)
      | _ => none) = some (t, ks, vs) := h
    cases q : S[n]? with
    | none => rw [q] at h'; cases h'
    | some o =>
      cases o with
      | dct t' l ks' vs' =>
        rw [q] at h'
        cases h'
        obtain ⟨a, rfl, h2⟩ := r
        obtain ⟨u, xs, h3, h4, h5⟩ := s.obj n a _ h2 q
        cases l with
        | false => exact ⟨a, u, xs, rfl, .inl h3, h4, h5⟩
        | true => obtain ⟨ob, h3⟩ := h3; exact ⟨a, u, xs, rfl, .inr ⟨ob, h3⟩, h4, h5⟩
      | lst _ => rw [q] at h'; cases h'
      | ins _ _ _ => rw [q] at h'; cases h'
  | _ => cases h
/-- what a dict holds at a key -/
theorem Rep.dAt (s : Sim K Hf Fr m S H) {d k : Val} {x y : V} {o : Option Val} (rd : Rep K Hf m d x) (rk : Rep K Hf m k y) (h : dAt S d k = some o) : ∃ a o', x = .ref a ∧ DGet H a y o' ∧ o.isSome = o'.isSome ∧ ∀ z, o = some z → ∃ z', o' = some z' ∧ Rep K Hf m z z' := by
  unfold Iv.dAt at h
  cases e : Iv.dctAt S d with
  | none => rw [e] at h; cases h
  | some p =>
    obtain ⟨t, ks, vs⟩ := p
    rw [e] at h
    have h' : (match keyOf t k with
      | some q => some (dGet ks vs q)
      | none => none) = some o := h
    cases t with
    | true => cases h'
    | false =>
      cases e2 : keyOf false k with
      | none => rw [e2] at h'; cases h'
      | some q =>
        rw [e2] at h'
        cases h'
        obtain ⟨k', e3, rfl⟩ := keyOf_f e2
        obtain ⟨a, u, xs, rfl, h1, ⟨kvs, rfl, rfl, rfl⟩, h3⟩ := Rep.dctAt s rd e
        have ey := kyOf_rep e3 rk
        obtain ⟨g1, g2⟩ := dGet_val (fun k : Key => [k]) sing_inj kvs vs h3 k'
        exact ⟨a, valV kvs k', rfl, .inl ⟨kvs, k', h1, ey, rfl⟩, g1, g2⟩
end
end Iv
/-! Iv2m: tuple * n, for every n. -/
namespace Iv
open PySem PySem.Spec PyProof.Rows L2
theorem tm_same (l : Addr) (vs : Array Value) (k : Nat) (dd : Option Addr) (sl : Array (Option Value)) (x : Int) (u : Tok) (h0 : (decide (x < -(2 ^ 63)) || decide (x ≥ 2 ^ 63)) = false) (h1 : (vs.isEmpty || x == 1) = true) :
    Meets (Builtin.«tuple.__mul__» ⟨[.ref l, .int x u], []⟩) (fun _ R s => s.heap.get? l = some { cls := .type "tuple", dict := dd, data := .seq vs k, slots := sl } ∧ R (.ok (.ret (Value.ref l))) s) :=
  .of_wp fun prog w A R s h => by
    obtain ⟨hp, g, d, tk, os⟩ := s
    obtain ⟨hl, h⟩ := h
    have e1 := AutoSeq1.idx_int
    wp_walk using wpAny_loadPart' hl
    repeat (first
      | (refine wpAny_ite_false (decide_eq_false (by rw [h0]; exact Bool.false_ne_true)) ?_; (wp_walk using wpAny_loadPart' hl))
      | (refine wpAny_ite_true (decide_eq_true (by rw [h1])) ?_; (wp_walk using wpAny_loadPart' hl)))
    exact ⟨_, rfl, h⟩
theorem tm_zero (l : Addr) (vs : Array Value) (k : Nat) (dd : Option Addr) (sl : Array (Option Value)) (x : Int) (u : Tok) (h0 : (decide (x < -(2 ^ 63)) || decide (x ≥ 2 ^ 63)) = false) (h1 : (vs.isEmpty || x == 1) = false) (h2 : (decide (x ≤ 0) || vs.isEmpty) = true) :
    Meets (Builtin.«tuple.__mul__» ⟨[.ref l, .int x u], []⟩) (fun _ R s => s.heap.get? l = some { cls := .type "tuple", dict := dd, data := .seq vs k, slots := sl } ∧
      R (.ok (.ret (Value.ref s.heap.objs.size))) { s with heap := s.heap.push { cls := Value.type "tuple", data := Data.seq #[] }, toks := s.toks }) :=
  .of_wp fun prog w A R s h => by
    obtain ⟨hp, g, d, tk, os⟩ := s
    obtain ⟨hl, h⟩ := h
    have e1 := AutoSeq1.idx_int
    wp_walk using wpAny_loadPart' hl
    repeat (first
      | (refine wpAny_ite_false (decide_eq_false (by rw [h0]; exact Bool.false_ne_true)) ?_; (wp_walk using wpAny_loadPart' hl))
      | (refine wpAny_ite_false (decide_eq_false (by rw [h1]; exact Bool.false_ne_true)) ?_; (wp_walk using wpAny_loadPart' hl))
      | (refine wpAny_ite_true (decide_eq_true (by rw [h2])) ?_; (wp_walk using wpAny_loadPart' hl)))
    exact ⟨_, rfl, h⟩
/-- tuple * n -/
def rMulT (K : PySem.W.Frag) : R2 := fun x y H Q => ∃ l k xs, x = .ref l ∧ y = .int k ∧ SqT K H l xs ∧ (-(2 ^ 62) ≤ k ∧ k < 2 ^ 62) ∧ k.toNat * xs.length ≤ lim ∧ ((xs = [] ∨ k = 1) → Q (.ref l) H) ∧ (xs ≠ [] → k ≠ 1 → ∀ p, H p = none → Q (.ref p) (upd H p (.tup (List.replicate k.toNat xs).flatten)))
section
variable {X : Cx}
theorem op_mulT : OpR X (binaryOp .Mult) (rMulT X.K) := by
  intro pins s σ H x y v u Q I rx ry h
  obtain ⟨l, k, xs, rfl, rfl, hT, ⟨hk1, hk2⟩, hz, qs, qn⟩ := h
  cases rx
  obtain ⟨t, rfl⟩ := ry
  obtain ⟨its, r, ⟨⟨cls, dd, data, sl⟩, ho, hc, n, hd⟩, hs⟩ := I.tuple hT
  simp only at hc hd
  subst hc hd
  have hle : its.length = xs.length := r.length.symm
  have h0 : (decide (k < -(2 ^ 63)) || decide (k ≥ 2 ^ 63)) = false := by
    rw [decide_eq_false (by omega), decide_eq_false (by omega)]
    rfl
  by_cases hsame : xs = [] ∨ k = 1
  · have h1 : (its.toArray.isEmpty || k == 1) = true := by
      rcases hsame with e | e
      · subst e
        have : its = [] := List.eq_nil_of_length_eq_zero hle
        subst this
        rfl
      · subst e
        rw [Bool.or_eq_true]
        exact .inr rfl
    refine wpAny_binaryOp_repeat_ref (T := "tuple") (U := "int") (by decide) ⟨_, ho, rfl⟩ (fun s' => typeIs_int s' k t) noFill_tuple_mul F.fills_int_mul F.slot_int_rmul repeat_tuple F.slot_int_index.lookup
      (call_meets F.slot_int_rmul (typeIs_int s k t) F.entry_int_rmul (F.args_int_rmul_2 _ _) (int_rmul_tuple k t l its.toArray n dd sl)
        ⟨ho, rfl, ⟨_, ho, rfl⟩, call_meets F.slot_tuple_mul ⟨_, ho, rfl⟩ F.entry_tuple_mul (F.args_tuple_mul_2 _ _) (tm_same l its.toArray n dd sl k t h0 h1) ⟨ho, ?_⟩⟩)
    exact ⟨.ref l, H, I.kept (t' := s.toks) fun _ _ z => z, rfl, qs hsame⟩
  · have hx : xs ≠ [] := fun e => hsame (.inl e)
    have hk : k ≠ 1 := fun e => hsame (.inr e)
    have hn : its ≠ [] := fun e => hx (by rw [e] at hle; exact List.eq_nil_of_length_eq_zero hle.symm)
    have hi : its.toArray.isEmpty = false := by
      cases its with
      | nil => exact absurd rfl hn
      | cons a b => rfl
    have h1 : (its.toArray.isEmpty || k == 1) = false := by
      rw [hi, Bool.false_or]
      exact beq_eq_false_iff_ne.mpr hk
    have hpos : 0 < xs.length := List.length_pos_iff.mpr hx
    have flen : (List.replicate k.toNat xs).flatten.length ≤ sizeLine := by
      rw [PyProof.Rows.lm_len_rep_flat]
      exact Nat.le_trans hz (by decide)
    have lay : ∀ h' : Heap, (∀ b ob, s.heap.get? b = some ob → h'.get? b = some ob) → h'.get? s.heap.objs.size = some { cls := Value.type "tuple", data := Data.seq (List.replicate k.toNat its).flatten.toArray } → 
        Inv X pins σ (upd H s.heap.objs.size (.tup (List.replicate k.toNat xs).flatten)) { s with heap := h', toks := s.toks } := fun h' q1 q2 =>
      I.laid (t' := s.toks) (o := .tup (List.replicate k.toNat xs).flatten) q1 (Nat.le_refl _) ⟨flen, _, r.rep k.toNat, ⟨_, q2, rfl, _, rfl⟩⟩
    by_cases hk0 : k ≤ 0
    · have h2 : (decide (k ≤ 0) || its.toArray.isEmpty) = true := by
        rw [Bool.or_eq_true]
        exact .inl (decide_eq_true hk0)
      have e0 : k.toNat = 0 := by omega
      refine wpAny_binaryOp_repeat_ref (T := "tuple") (U := "int") (by decide) ⟨_, ho, rfl⟩ (fun s' => typeIs_int s' k t) noFill_tuple_mul F.fills_int_mul F.slot_int_rmul repeat_tuple F.slot_int_index.lookup
        (call_meets F.slot_int_rmul (typeIs_int s k t) F.entry_int_rmul (F.args_int_rmul_2 _ _) (int_rmul_tuple k t l its.toArray n dd sl)
          ⟨ho, rfl, ⟨_, ho, rfl⟩, call_meets F.slot_tuple_mul ⟨_, ho, rfl⟩ F.entry_tuple_mul (F.args_tuple_mul_2 _ _) (tm_zero l its.toArray n dd sl k t h0 h1 h2) ⟨ho, ?_⟩⟩)
      refine ⟨.ref s.heap.objs.size, _, lay _ (fun b ob q => Heap.get?_push_of_some _ q) ?_, rfl, qn hx hk _ (I.hok.fresh (Nat.le_refl _))⟩
      rw [e0]
      exact Heap.get?_push_size _ rfl
    · have h2 : (decide (k ≤ 0) || its.toArray.isEmpty) = false := by
        rw [hi, Bool.or_false]
        exact decide_eq_false hk0
      have hm : ((its.toArray.size : Nat) : Int) * k ≤ 100000 := by
        rw [List.size_toArray, hle]
        have e1 : ((k.toNat : Nat) : Int) = k := Int.toNat_of_nonneg (by omega)
        have e2 : ((k.toNat * xs.length : Nat) : Int) ≤ 100000 := Int.ofNat_le.mpr hz
        rw [Int.natCast_mul, e1] at e2
        rw [Int.mul_comm]
        exact e2
      have h4 : Builtin.Tuple.tupleTooMany (((its.toArray.size : Nat) : Int) * k) = false := by
        unfold Builtin.Tuple.tupleTooMany
        rw [sizeLine_eq]
        exact decide_eq_false (by omega)
      refine wpAny_binaryOp_repeat_ref (T := "tuple") (U := "int") (by decide) ⟨_, ho, rfl⟩ (fun s' => typeIs_int s' k t) noFill_tuple_mul F.fills_int_mul F.slot_int_rmul repeat_tuple F.slot_int_index.lookup
        (call_meets F.slot_int_rmul (typeIs_int s k t) F.entry_int_rmul (F.args_int_rmul_2 _ _) (int_rmul_tuple k t l its.toArray n dd sl)
          ⟨ho, rfl, ⟨_, ho, rfl⟩, call_meets F.slot_tuple_mul ⟨_, ho, rfl⟩ F.entry_tuple_mul (F.args_tuple_mul_2 _ _) (tuple_mulW l its.toArray n dd sl k t h0 h1 h2 (by omega) h4 (by
            rw [size_rep, List.size_toArray, PyProof.Rows.lm_len_rep_flat, hle]
            exact Nat.le_trans hz (by decide))) ⟨ho, ?_⟩⟩)
      rw [size_rep]
      exact ⟨.ref s.heap.objs.size, _, lay _ (fun b ob q => Heap.get?_push_of_some _ q) (Heap.get?_push_size _ rfl), rfl, qn hx hk _ (I.hok.fresh (Nat.le_refl _))⟩
end
end Iv
/-! Iv3: operations by values. -/
namespace Iv
open PySem PySem.Spec PyProof.Rows L2
open Evl (Ex ex_l ex_t)
theorem PE.of {X : Cx} {e : Expr} {t t' : TE} (h : PE X e t) (i : ∀ σ H Q, t' σ H Q → t σ H Q) : PE X e t' := ⟨fun pins s σ H Q I hq => h.run pins s σ H Q I (i σ H Q hq)⟩
theorem PT.of {X : Cx} {e : Expr} {t t' : TT} (h : PT X e t) (i : ∀ σ H Q, t' σ H Q → t σ H Q) : PT X e t' := ⟨fun pins s σ H Q I hq => h.run pins s σ H Q I (i σ H Q hq)⟩
theorem PA.of {X : Cx} {es : List Expr} {t t' : TA} (h : PA X es t) (i : ∀ σ H Q, t' σ H Q → t σ H Q) : PA X es t' := ⟨fun pos pins s σ H Q I hq => h.run pos pins s σ H Q I (i σ H Q hq)⟩
theorem PS.of {X : Cx} {st : Stmt} {t t' : TS} (h : PS X st t) (i : ∀ D σ H, t' D σ H → t D σ H) : PS X st t' := ⟨fun pins s σ H D I hq => h.run pins s σ H D I (i D σ H hq)⟩
theorem PSs.of {X : Cx} {st : List Stmt} {t t' : TS} (h : PSs X st t) (i : ∀ D σ H, t' D σ H → t D σ H) : PSs X st t' := ⟨fun pins s σ H D I hq => h.run pins s σ H D I (i D σ H hq)⟩
theorem PI.of {X : Cx} {tg e : Expr} {t t' : TI} (h : PI X tg e t) (i : ∀ σ H Q, t' σ H Q → t σ H Q) : PI X tg e t' := ⟨fun pins s σ H Q I hq => h.run pins s σ H Q I (i σ H Q hq)⟩
theorem PI.or {X : Cx} {tg e : Expr} {t t' : TI} (h : PI X tg e t) (h' : PI X tg e t') : PI X tg e (fun σ H Q => t σ H Q ∨ t' σ H Q) := ⟨fun pins s σ H Q I hq => hq.elim (h.run pins s σ H Q I) (h'.run pins s σ H Q I)⟩
theorem sz {n : Nat} (h : n ≤ lim) : n ≤ sizeLine := Nat.le_trans h (by decide)
theorem sz' {n : Nat} (h : n < lim) : n < sizeLine := Nat.lt_of_lt_of_le h (by decide)
section
variable {K : PySem.W.Frag}
/-- z is handed on -/
abbrev Give (K : PySem.W.Frag) (Hf Fr : Hp) (m : List Addr) (S : Store) (z : Val) (Q : VK) : Prop := ∀ x H Hf' m', Ex Hf Hf' → m <+: m' → Sim K Hf' Fr m' S H → Rep K Hf' m' z x → Q x H
variable {Hf Fr H : Hp} {m : List Addr} {S : Store} {z : Val} {Q : VK}
theorem Give.at (q : Give K Hf Fr m S z Q) (s : Sim K Hf Fr m S H) {x : V} (r : Rep K Hf m z x) : Q x H := q x H Hf m (Evl.Ex.refl _) (List.prefix_refl _) s r
/-- a new tuple, a new list that nobody changes -/
theorem Give.tup {vs : List Val} (q : Give K Hf Fr m S (.tup vs) Q) (s : Sim K Hf Fr m S H) {xs : List V} (r : Reps K Hf m vs xs) {p : Addr} (h : H p = none) : Q (.ref p) (upd H p (.tup xs)) := by
  have e := Evl.Ex.new (o := HO.tup xs) (none_of s.exf h)
  exact q _ _ _ m e (List.prefix_refl _) (s.newF h) ⟨p, xs, rfl, SqT.of upd_same, Reps.mono e (List.prefix_refl _) _ _ r⟩
theorem Give.lst {vs : List Val} (q : Give K Hf Fr m S (.lst vs) Q) (s : Sim K Hf Fr m S H) {xs : List V} (r : Reps K Hf m vs xs) {p : Addr} (h : H p = none) : Q (.ref p) (upd H p (.lst xs)) := by
  have e := Evl.Ex.new (o := HO.lst xs) (none_of s.exf h)
  exact q _ _ _ m e (List.prefix_refl _) (s.newF h) ⟨p, xs, rfl, SqL.of upd_same, Reps.mono e (List.prefix_refl _) _ _ r⟩
/-! ### what stands at a value -/
theorem Rep.tupAt (s : Sim K Hf Fr m S H) {vs : List Val} {x : V} (r : Rep K Hf m (.tup vs) x) : ∃ a xs, x = .ref a ∧ SqT K H a xs ∧ Reps K Hf m vs xs := by
  obtain ⟨a, xs, h1, h2, h3⟩ := r
  exact ⟨a, xs, h1, ex_t s.exf h2, h3⟩
theorem Rep.lstAt (s : Sim K Hf Fr m S H) {vs : List Val} {x : V} (r : Rep K Hf m (.lst vs) x) : ∃ a xs, x = .ref a ∧ SqL K H a xs ∧ Reps K Hf m vs xs := by
  obtain ⟨a, xs, h1, h2, h3⟩ := r
  exact ⟨a, xs, h1, ex_l s.exf h2, h3⟩
theorem Rep.locAt (s : Sim K Hf Fr m S H) {n : Nat} {vs : List Val} {x : V} (r : Rep K Hf m (.loc n) x) (e : S[n]? = some (.lst vs)) : ∃ a xs, x = .ref a ∧ m[n]? = some a ∧ H a = some (.lst xs) ∧ Reps K Hf m vs xs := by
  obtain ⟨a, h1, h2⟩ := r
  obtain ⟨xs, h3, h4⟩ := s.obj n a _ h2 e
  exact ⟨a, xs, h1, h2, h3, h4⟩
/-- items of a list or a tuple -/
theorem Rep.seqAt (s : Sim K Hf Fr m S H) {v : Val} {vs : List Val} {x : V} (r : Rep K Hf m v x) (e : items S v = some vs) : ∃ a xs, x = .ref a ∧ (SqL K H a xs ∨ SqT K H a xs) ∧ Reps K Hf m vs xs := by
  cases v with
  | tup ws =>
    have e' : some ws = some vs := e
    cases e'
    obtain ⟨a, xs, h1, h2, h3⟩ := Rep.tupAt s r
    exact ⟨a, xs, h1, .inr h2, h3⟩
  | lst ws =>
    have e' : some ws = some vs := e
    cases e'
    obtain ⟨a, xs, h1, h2, h3⟩ := Rep.lstAt s r
    exact ⟨a, xs, h1, .inl h2, h3⟩
  | loc n =>
    have e' : (match S[n]? with
      | some (.lst vs) => some vs
      | _ => none) = some vs := e
    cases q : S[n]? with
    | none => rw [q] at e'; cases e'
    | some o =>
      cases o with
      | lst ws =>
        rw [q] at e'
        cases e'
        obtain ⟨a, xs, h1, _, h3, h4⟩ := Rep.locAt s r q
        exact ⟨a, xs, h1, .inl (SqL.of h3), h4⟩
      | dct _ _ _ _ => rw [q] at e'; cases e'
      | ins _ _ _ => rw [q] at e'; cases e'
  | _ => cases e
mutual
theorem Rep.dp (s : Ex Hf H) : ∀ (v : Val) (x : V) (d : PyData), Rep K Hf m v x → toD v = some d → Dp K H x d
  | .non, _, _, r, e => by cases r; cases e; exact .non
  | .bl b, _, _, r, e => by cases r; cases e; exact .bl b
  | .int b, _, _, r, e => by cases r; cases e; exact .int b
  | .str b, _, _, r, e => by cases r; cases e; exact .str b
  | .tup vs, _, _, r, e => by
    obtain ⟨a, xs, rfl, h2, h3⟩ := r
    unfold toD at e
    cases q : toDs vs with
    | none => rw [q] at e; cases e
    | some ds =>
      rw [q] at e
      cases e
      exact .tup (ex_t s h2) (Reps.dp s vs xs ds h3 q)
  | .lst vs, _, _, r, e => by
    obtain ⟨a, xs, rfl, h2, h3⟩ := r
    unfold toD at e
    cases q : toDs vs with
    | none => rw [q] at e; cases e
    | some ds =>
      rw [q] at e
      cases e
      exact .lst (ex_l s h2) (Reps.dp s vs xs ds h3 q)
  | .loc _, _, _, _, e => by cases e
  | .dct _ _ _, _, _, _, e => by cases e
  | .exc _, _, _, _, e => by cases e
theorem Reps.dp (s : Ex Hf H) : ∀ (vs : List Val) (xs : List V) (ds : List PyData), Reps K Hf m vs xs → toDs vs = some ds → DpAll K H xs ds
  | [], _, _, r, e => by cases r; cases e; exact .nil
  | v :: vs, _, _, r, e => by
    obtain ⟨x, t, rfl, h2, h3⟩ := r
    unfold toDs at e
    cases q : toD v with
    | none => rw [q] at e; cases e
    | some d =>
      rw [q] at e
      cases q2 : toDs vs with
      | none => rw [q2] at e; cases e
      | some ds =>
        rw [q2] at e
        cases e
        exact .cons (Rep.dp s v x d h2 q) (Reps.dp s vs t ds h3 q2)
end
/-- a place as what it holds -/
theorem Rep.derefDp (s : Sim K Hf Fr m S H) {v : Val} {x : V} {d : PyData} (r : Rep K Hf m v x) (e : toD (deref S v) = some d) : Dp K H x d := by
  cases v with
  | loc n =>
    have e' : toD (match S[n]? with
      | some (.lst vs) => .lst vs
      | _ => .loc n) = some d := e
    cases q : S[n]? with
    | none => rw [q] at e'; cases e'
    | some o =>
      cases o with
      | lst ws =>
        rw [q] at e'
        obtain ⟨a, xs, rfl, _, h3, h4⟩ := Rep.locAt s r q
        unfold toD at e'
        cases q2 : toDs ws with
        | none => rw [q2] at e'; cases e'
        | some ds =>
          rw [q2] at e'
          cases e'
          exact .lst (SqL.of h3) (Reps.dp s.exf ws xs ds h4 q2)
      | dct _ _ _ _ => rw [q] at e'; cases e'
      | ins _ _ _ => rw [q] at e'; cases e'
  | dct _ _ _ => exact Rep.dp s.exf _ _ _ r e
  | exc _ => exact Rep.dp s.exf _ _ _ r e
  | non => exact Rep.dp s.exf _ _ _ r e
  | bl _ => exact Rep.dp s.exf _ _ _ r e
  | int _ => exact Rep.dp s.exf _ _ _ r e
  | str _ => exact Rep.dp s.exf _ _ _ r e
  | tup _ => exact Rep.dp s.exf _ _ _ r e
  | lst _ => exact Rep.dp s.exf _ _ _ r e
end
/-! ### binary operations -/
/-- an operation on values told by f -/
def OpS (K : PySem.W.Frag) (r : R2) (f : Store → Val → Val → Option Val) : Prop := ∀ (Hf Fr : Hp) (m : List Addr) (S : Store) (H : Hp) (v w z : Val) (x y : V) (Q : VK), Sim K Hf Fr m S H → Rep K Hf m v x → Rep K Hf m w y → f S v w = some z →
  Give K Hf Fr m S z Q → r x y H Q
/-- list + list, of lists that are read -/
def rCatR (K : PySem.W.Frag) : R2 := fun x y H Q => ∃ l b xs zs, x = .ref l ∧ y = .ref b ∧ SqL K H l xs ∧ SqL K H b zs ∧ xs.length + zs.length ≤ sizeLine ∧ ∀ p, H p = none → Q (.ref p) (upd H p (.lst (xs ++ zs)))
section
variable {X : Cx}
theorem plain_get {h : Heap} {a : Addr} {its : Array Value} (p : PlainL h a its) : ∃ n sl, h.get? a = some { cls := .type "list", dict := none, data := .seq its n, slots := sl } := by
  obtain ⟨⟨c, d, dt, sl⟩, n, e, hc, hd, hs⟩ := p
  simp only at hc hd hs
  subst hc hd hs
  exact ⟨n, sl, e⟩
end
section
variable {X : Cx}
theorem op_catR : OpR X (binaryOp .Add) (rCatR X.K) := by
  intro pins s σ H x y v u Q I rx ry h
  obtain ⟨l, b, xs, zs, rfl, rfl, hH, hB, hz, q⟩ := h
  cases rx
  cases ry
  obtain ⟨its, r, pl, hl⟩ := I.list hH
  obtain ⟨its2, r2, pl2, hl2⟩ := I.list hB
  obtain ⟨n, sl, ho⟩ := plain_get pl
  obtain ⟨n2, sl2, ho2⟩ := plain_get pl2
  have z1 := r.length
  have z2 := r2.length
  refine concat_meets ⟨_, ho, rfl⟩ ⟨_, ho2, rfl⟩ noFill_list_add seq_list_add PySem.F.slot_list_add PySem.F.entry_list_add (PySem.F.args_list_add_2 _ _) (list_addW l b its.toArray its2.toArray n n2 none none sl sl2 (by rw [List.size_toArray, List.size_toArray]; omega)) ⟨ho, ho2, ?_⟩
  have ea : its.toArray ++ its2.toArray = (its ++ its2).toArray := by simp
  rw [ea]
  exact ⟨.ref _, _, I.lnew (t' := s.toks) (r.append r2) (by rw [List.length_append]; omega), rfl, q _ I.fresh⟩
end
theorem binI_int {o : Bop} {i j k : Int} {v : Val} (h : binV o (.int i) (.int j) = some v) : ∃ k, v = .int k ∧ binI o i j = some k := by
  have h' : (match binI o i j with
    | some k => some (Val.int k)
    | none => none) = some v := by
    cases o <;> exact h
  cases q : binI o i j with
  | none => rw [q] at h'; cases h'
  | some k =>
    rw [q] at h'
    cases h'
    exact ⟨k, rfl, rfl⟩
section
variable {K : PySem.W.Frag}
/-- ints by a rule -/
theorem opS_I {o : Bop} {C : Int → Int → Prop} {g : Int → Int → Int} (hc : ∀ i j k, binI o i j = some k → C i j ∧ k = g i j)
    (hv : ∀ v w z, binV o v w = some z → ∃ i j, v = .int i ∧ w = .int j) : OpS K (rI C fun i j => .int (g i j)) (fun _ v w => binV o v w) := by
  intro Hf Fr m S H v w z x y Q s rx ry e q
  obtain ⟨i, j, rfl, rfl⟩ := hv v w z e
  obtain ⟨k, rfl, hk⟩ := binI_int (k := 0) e
  obtain ⟨h1, rfl⟩ := hc i j k hk
  cases rx
  cases ry
  exact ⟨i, j, rfl, rfl, h1, q.at s rfl⟩
theorem binV_ints {o : Bop} (ho : o ≠ .add ∧ o ≠ .mul) {v w z : Val} (h : binV o v w = some z) : ∃ i j, v = .int i ∧ w = .int j := by
  cases v <;> cases w <;> first
    | exact ⟨_, _, rfl, rfl⟩
    | (cases o <;> first | exact absurd rfl ho.1 | exact absurd rfl ho.2 | cases h)
def rAdd (K : PySem.W.Frag) : R2 := fun x y H Q => rI0 (fun i j => .int (i + j)) x y H Q ∨ ((∃ i j, x = .str i ∧ y = .str j ∧ i.length + j.length ≤ sizeLine ∧ Q (.str (i ++ j)) H) ∨ (rCatA K x y H Q ∨ rCatR K x y H Q))
theorem op_addR {X : Cx} : OpR X (binaryOp .Add) (rAdd X.K) := op_add.or (op_add_str.or (op_catA.or op_catR))
theorem opS_add : OpS K (rAdd K) (fun _ v w => binV .add v w) := by
  intro Hf Fr m S H v w z x y Q s rx ry e q
  cases v with
  | int i =>
    cases w with
    | int j =>
      cases rx
      cases ry
      cases e
      exact .inl ⟨i, j, rfl, rfl, q.at s rfl⟩
    | _ => cases e
  | str a =>
    cases w with
    | str b =>
      cases rx
      cases ry
      have e' : (if a.length + b.length ≤ lim then some (Val.str (a ++ b)) else none) = some z := e
      by_cases hl : a.length + b.length ≤ lim
      · rw [if_pos hl] at e'
        cases e'
        exact .inr (.inl ⟨a, b, rfl, rfl, sz hl, q.at s rfl⟩)
      · rw [if_neg hl] at e'
        cases e'
    | _ => cases e
  | tup a =>
    cases w with
    | tup b =>
      have e' : (if a.length + b.length ≤ lim then some (Val.tup (a ++ b)) else none) = some z := e
      by_cases hl : a.length + b.length ≤ lim
      · rw [if_pos hl] at e'
        cases e'
        obtain ⟨p, xs, rfl, h1, h2⟩ := Rep.tupAt s rx
        obtain ⟨p', ys, rfl, h3, h4⟩ := Rep.tupAt s ry
        have l1 := h2.length
        have l2 := h4.length
        refine .inr (.inr (.inl ⟨p, p', xs, ys, rfl, rfl, h1, h3, sz (by omega), fun hx => ?_, fun hx hy => ?_, fun hx hy p hp => ?_⟩))
        · subst hx
          have ea : a = [] := List.eq_nil_of_length_eq_zero (by simpa using l1)
          subst ea
          exact q.at s ry
        · subst hy
          have ea : b = [] := List.eq_nil_of_length_eq_zero (by simpa using l2)
          subst ea
          rw [List.append_nil] at q
          exact q.at s rx
        · exact Give.tup q s (h2.append h4) hp
      · rw [if_neg hl] at e'
        cases e'
    | _ => cases e
  | lst a =>
    cases w with
    | lst b =>
      have e' : (if a.length + b.length ≤ lim then some (Val.lst (a ++ b)) else none) = some z := e
      by_cases hl : a.length + b.length ≤ lim
      · rw [if_pos hl] at e'
        cases e'
        obtain ⟨p, xs, rfl, h1, h2⟩ := Rep.lstAt s rx
        obtain ⟨p', ys, rfl, h3, h4⟩ := Rep.lstAt s ry
        have l1 := h2.length
        have l2 := h4.length
        exact .inr (.inr (.inr ⟨p, p', xs, ys, rfl, rfl, h1, h3, sz (by omega), fun p hp => Give.lst q s (h2.append h4) hp⟩))
      · rw [if_neg hl] at e'
        cases e'
    | _ => cases e
  | non => cases w <;> cases e
  | dct _ _ _ => cases w <;> cases e
  | exc _ => cases w <;> cases e
  | bl _ => cases w <;> cases e
  | loc _ => cases w <;> cases e
theorem Reps.repN {K : PySem.W.Frag} {Hf : Hp} {m : List Addr} {vs : List Val} {xs : List V} (r : Reps K Hf m vs xs) : ∀ n : Nat, Reps K Hf m (List.replicate n vs).flatten (List.replicate n xs).flatten
  | 0 => .nil
  | n + 1 => by
    rw [List.replicate_succ, List.replicate_succ, List.flatten_cons, List.flatten_cons]
    exact r.append (Reps.repN r n)
def rMulA (K : PySem.W.Frag) : R2 := fun x y H Q => rI CMul (fun i j => .int (i * j)) x y H Q ∨ (rI CMulW (fun i j => .int (i * j)) x y H Q ∨ rMulT K x y H Q)
theorem op_mulR {X : Cx} : OpR X (binaryOp .Mult) (rMulA X.K) := op_mul.or (op_mulW.or op_mulT)
theorem opS_mul : OpS K (rMulA K) (fun _ v w => binV .mul v w) := by
  intro Hf Fr m S H v w z x y Q s rx ry e q
  cases v with
  | tup a =>
    cases w with
    | int k =>
      have e' : (if (-(2 ^ 62) ≤ k ∧ k < 2 ^ 62) ∧ k.toNat * a.length ≤ lim then some (Val.tup (List.replicate k.toNat a).flatten) else none) = some z := e
      by_cases hl : (-(2 ^ 62) ≤ k ∧ k < 2 ^ 62) ∧ k.toNat * a.length ≤ lim
      · rw [if_pos hl] at e'
        cases e'
        obtain ⟨p, xs, rfl, h1, h2⟩ := Rep.tupAt s rx
        have l1 := h2.length
        cases ry
        refine .inr (.inr ⟨p, k, xs, rfl, rfl, h1, hl.1, by rw [← l1]; exact hl.2, fun hx => ?_, fun hx hy p hp => Give.tup q s (h2.repN _) hp⟩)
        have ea : (List.replicate k.toNat a).flatten = a := by
          rcases hx with hx | hx
          · subst hx
            have ea : a = [] := List.eq_nil_of_length_eq_zero (by simpa using l1)
            subst ea
            simp
          · subst hx
            show (List.replicate 1 a).flatten = a
            simp
        rw [ea] at q
        exact q.at s rx
      · rw [if_neg hl] at e'
        cases e'
    | _ => cases e
  | int i =>
    cases w with
    | int j =>
      obtain ⟨k, rfl, hk⟩ := binI_int (k := 0) e
      cases rx
      cases ry
      have e' : (if mulOk i j = true then some (i * j) else none) = some k := hk
      by_cases hm : mulOk i j = true
      · rw [if_pos hm] at e'
        cases e'
        unfold mulOk at hm
        simp only [Bool.or_eq_true, Bool.and_eq_true, decide_eq_true_eq] at hm
        rcases hm with (h | h) | h
        · exact .inl ⟨i, j, rfl, rfl, .inl h, q.at s rfl⟩
        · exact .inl ⟨i, j, rfl, rfl, .inr h, q.at s rfl⟩
        · exact .inr (.inl ⟨i, j, rfl, rfl, h, q.at s rfl⟩)
      · rw [if_neg hm] at e'
        cases e'
    | _ => cases e
  | _ => cases w <;> cases e
def bopR (K : PySem.W.Frag) : Bop → R2
  | .add => rAdd K
  | .sub => rI (fun _ _ => True) fun i j => .int (i - j)
  | .mul => rMulA K
  | .fdiv => rI CDivW fun i j => .int (i / j)
  | .mod => rI (fun _ j => 0 < j) fun i j => .int (i % j)
  | .pow => rI CPow fun i j => .int (i ^ j.toNat)
def bopOf : Bop → Operator
  | .add => .Add | .sub => .Sub | .mul => .Mult | .fdiv => .FloorDiv | .mod => .Mod | .pow => .Pow
theorem op_subR {X : Cx} : OpR X (binaryOp .Sub) (rI (fun _ _ => True) fun i j => .int (i - j)) := fun pins s σ H x y v u Q I rx ry h =>
  op_sub pins s σ H x y v u Q I rx ry (let ⟨i, j, h1, h2, _, h3⟩ := h; ⟨i, j, h1, h2, h3⟩)
theorem bop_ok {X : Cx} : ∀ o : Bop, OpR X (binaryOp (bopOf o)) (bopR X.K o)
  | .add => op_addR
  | .sub => op_subR
  | .mul => op_mulR
  | .fdiv => op_fdivW
  | .mod => op_mod
  | .pow => op_pow
theorem bopS : ∀ o : Bop, OpS K (bopR K o) (fun _ v w => binV o v w)
  | .add => opS_add
  | .sub => opS_I (fun i j k h => ⟨trivial, (Option.some.inj h).symm⟩) fun _ _ _ h => binV_ints (by decide) h
  | .mul => opS_mul
  | .fdiv => opS_I (fun i j k h => by
      have h' : (if 0 < j ∧ j.natAbs.log2 < 9000 then some (i / j) else none) = some k := h
      by_cases c : 0 < j ∧ j.natAbs.log2 < 9000
      · rw [if_pos c] at h'; cases h'; exact ⟨c, rfl⟩
      · rw [if_neg c] at h'; cases h') fun _ _ _ h => binV_ints (by decide) h
  | .mod => opS_I (fun i j k h => by
      have h' : (if 0 < j then some (i % j) else none) = some k := h
      by_cases c : 0 < j
      · rw [if_pos c] at h'; cases h'; exact ⟨c, rfl⟩
      · rw [if_neg c] at h'; cases h') fun _ _ _ h => binV_ints (by decide) h
  | .pow => opS_I (fun i j k h => by
      have h' : (if 0 ≤ j ∧ j ≤ 1000000 ∧ i.natAbs < 2 ^ 64 then some (i ^ j.toNat) else none) = some k := h
      by_cases c : 0 ≤ j ∧ j ≤ 1000000 ∧ i.natAbs < 2 ^ 64
      · rw [if_pos c] at h'; cases h'; exact ⟨c, rfl⟩
      · rw [if_neg c] at h'; cases h') fun _ _ _ h => binV_ints (by decide) h
/-! ### comparisons -/
def rIsA : R2 := fun x y H Q => (y = .non ∧ Q (.bl (decide (x = .non))) H) ∨ rIsB x y H Q
def rNotA : R2 := fun x y H Q => (y = .non ∧ Q (.bl (!decide (x = .non))) H) ∨ rNotB x y H Q
def rInT (K : PySem.W.Frag) : R2 := fun x y H Q => ∃ d ds, Dp K H x d ∧ Dp K H y (.tuple ds) ∧ SeqAt.shaped d = true ∧ SeqAt.shaped (.list ds) = true ∧ Q (.bl (ds.any fun z => PyData.eqv z d)) H
def rNotInT (K : PySem.W.Frag) : R2 := fun x y H Q => ∃ d ds, Dp K H x d ∧ Dp K H y (.tuple ds) ∧ SeqAt.shaped d = true ∧ SeqAt.shaped (.list ds) = true ∧ Q (.bl (!ds.any fun z => PyData.eqv z d)) H
theorem op_inT {X : Cx} (hu : X.A.units + 65 < cLine) : OpR X (compareOp .In) (rInT X.K) := by
  intro pins s σ H x y v u Q I rx ry h
  obtain ⟨d, ds, hd, he, sd, se, q⟩ := h
  obtain ⟨as, r1⟩ := Dp.reads I d x v hd rx
  obtain ⟨bs, r2⟩ := Dp.reads I (.tuple ds) y u he ry
  exact SeqAt.in_tuple_reads r2 r1 (SeqAt.canLay_of_shaped se) (SeqAt.canLay_of_shaped sd) (room_in_shaped sd hu) ⟨.bl _, H, I, rfl, q⟩
theorem op_notInT {X : Cx} (hu : X.A.units + 65 < cLine) : OpR X (compareOp .NotIn) (rNotInT X.K) := by
  intro pins s σ H x y v u Q I rx ry h
  obtain ⟨d, ds, hd, he, sd, se, q⟩ := h
  obtain ⟨as, r1⟩ := Dp.reads I d x v hd rx
  obtain ⟨bs, r2⟩ := Dp.reads I (.tuple ds) y u he ry
  exact SeqAt.notIn_tuple_reads r2 r1 (SeqAt.canLay_of_shaped se) (SeqAt.canLay_of_shaped sd) (room_in_shaped sd hu) ⟨.bl _, H, I, rfl, q⟩
/-- a tuple of anything == () -/
def rEqT0 (K : PySem.W.Frag) : R2 := fun x y H Q => ∃ a b xs, x = .ref a ∧ y = .ref b ∧ SqT K H a xs ∧ SqT K H b [] ∧ Q (.bl xs.isEmpty) H
theorem op_eqT0 {X : Cx} (hu : X.A.units < cLine) : OpR X (compareOp .Eq) (rEqT0 X.K) := by
  intro pins s σ H x y v u Q I rx ry h
  obtain ⟨a, b, xs, rfl, rfl, h1, h2, q⟩ := h
  cases rx
  cases ry
  obtain ⟨its, r, t1, _⟩ := I.tuple h1
  obtain ⟨jts, r2, t2, _⟩ := I.tuple h2
  cases r2
  refine SeqAt.eq_tupleAt (e := fun _ => true) t1 t2 hu (fun j _ z => absurd z (Nat.not_lt_zero j)) ⟨.bl xs.isEmpty, H, I, ?_, q⟩
  cases r with
  | nil => rfl
  | cons _ _ => rfl
def rEqA (K : PySem.W.Frag) : R2 := fun x y H Q => rEqD K x y H Q ∨ rEqT0 K x y H Q
def copR (K : PySem.W.Frag) : Cop → R2
  | .eq => rEqA K
  | .ne => rNeD K
  | .lt => rI0 fun i j => .bl (decide (i < j))
  | .le => rI0 fun i j => .bl (decide (i ≤ j))
  | .gt => rI0 fun i j => .bl (decide (j < i))
  | .ge => rI0 fun i j => .bl (decide (j ≤ i))
  | .is => rIsA
  | .eqs => rEq
  | .nes => rNe
  | .isnot => rNotA
  | .isin => fun x y H Q => rInD K x y H Q ∨ rInT K x y H Q ∨ rInDict x y H Q ∨ rInS x y H Q
  | .notin => fun x y H Q => rNotInD K x y H Q ∨ rNotInT K x y H Q ∨ rNotInDict x y H Q ∨ rNotInS x y H Q
def copOf : Cop → CmpOp
  | .eq => .Eq | .ne => .NotEq | .lt => .Lt | .le => .LtE | .gt => .Gt | .ge => .GtE | .is => .Is | .isnot => .IsNot | .isin => .In | .notin => .NotIn | .eqs => .Eq | .nes => .NotEq
theorem cop_ok {X : Cx} (hu : X.A.units + 65 < cLine) : ∀ o : Cop, OpR X (compareOp (copOf o)) (copR X.K o)
  | .eq => (op_eqD (by omega)).or (op_eqT0 (by omega))
  | .ne => op_neD (by omega)
  | .lt => op_lt
  | .le => op_le
  | .gt => op_gt
  | .ge => op_ge
  | .is => op_isN.or op_isBl
  | .eqs => op_eq
  | .nes => op_ne
  | .isnot => op_notN.or op_notBl
  | .isin => (op_inD hu).or ((op_inT hu).or ((op_inDict (by omega)).or op_inS))
  | .notin => (op_notInD hu).or ((op_notInT hu).or ((op_notInDict (by omega)).or op_notInS))
theorem eqV_some {a b : Val} {k : Bool} (h : eqV a b = some k) : ∃ d e, toD a = some d ∧ toD b = some e ∧ SeqAt.shaped d = true ∧ SeqAt.shaped e = true ∧ k = PyData.eqv d e := by
  unfold eqV at h
  cases qa : toD a with
  | none => rw [qa] at h; cases h
  | some d =>
    rw [qa] at h
    cases qb : toD b with
    | none => rw [qb] at h; cases h
    | some e =>
      rw [qb] at h
      have h' : (if (SeqAt.shaped d && SeqAt.shaped e) = true then some (PyData.eqv d e) else none) = some k := h
      by_cases c : (SeqAt.shaped d && SeqAt.shaped e) = true
      · rw [if_pos c] at h'
        cases h'
        rw [Bool.and_eq_true] at c
        exact ⟨d, e, rfl, rfl, c.1, c.2, rfl⟩
      · rw [if_neg c] at h'
        cases h'
theorem inVals_some {a : Val} {bs : List Val} {k : Bool} (h : inVals a bs = some k) : ∃ d es, toD a = some d ∧ toDs bs = some es ∧ SeqAt.shaped d = true ∧ SeqAt.shaped (.list es) = true ∧ k = es.any fun z => PyData.eqv z d := by
  unfold inVals at h
  cases qa : toD a with
  | none => rw [qa] at h; cases h
  | some d =>
    rw [qa] at h
    cases qb : toDs bs with
    | none => rw [qb] at h; cases h
    | some e =>
      rw [qb] at h
      have h' : (if (SeqAt.shaped d && SeqAt.shaped (.list e)) = true then some (e.any fun z => PyData.eqv z d) else none) = some k := h
      by_cases c : (SeqAt.shaped d && SeqAt.shaped (.list e)) = true
      · rw [if_pos c] at h'
        cases h'
        rw [Bool.and_eq_true] at c
        exact ⟨d, e, rfl, rfl, c.1, c.2, rfl⟩
      · rw [if_neg c] at h'
        cases h'
theorem map_bl {o : Option Bool} {z : Val} (h : o.map Val.bl = some z) : ∃ k, o = some k ∧ z = .bl k := by
  cases o with
  | none => cases h
  | some k => cases h; exact ⟨k, rfl, rfl⟩
theorem Rep.seqDp {Hf Fr H : Hp} {m : List Addr} {S : Store} (s : Sim K Hf Fr m S H) {w : Val} {ws : List Val} {y : V} {es : List PyData} (ry : Rep K Hf m w y) (q : items S w = some ws) (h2 : toDs ws = some es) : Dp K H y (.list es) ∨ Dp K H y (.tuple es) := by
  obtain ⟨a, xs, rfl, h3, h4⟩ := Rep.seqAt s ry q
  rcases h3 with h3 | h3
  · exact .inl (.lst h3 (Reps.dp s.exf ws xs es h4 h2))
  · exact .inr (.tup h3 (Reps.dp s.exf ws xs es h4 h2))
theorem eq0_some {a b : Val} {k : Bool} (h : eq0 a b = some k) : ∃ vs, a = .tup vs ∧ b = .tup [] ∧ k = vs.isEmpty := by
  unfold eq0 at h
  split at h
  · cases h
    exact ⟨_, rfl, rfl, rfl⟩
  · cases h
theorem deref_tup {S : Store} {v : Val} {vs : List Val} (h : deref S v = .tup vs) : v = .tup vs := by
  cases v with
  | loc n =>
    unfold deref at h
    dsimp only at h
    split at h <;> cases h
  | _ => exact h
theorem copS_eq : OpS K (rEqA K) (fun S v w => (cmpV S .eq v w).map .bl) := by
  intro Hf Fr m S H v w z x y Q s rx ry e q
  obtain ⟨k, e1, rfl⟩ := map_bl e
  have e' : (match eqV (deref S v) (deref S w) with
    | some k => some k
    | none => eq0 (deref S v) (deref S w)) = some k := by
    cases v <;> cases w <;> exact e1
  cases e3 : eqV (deref S v) (deref S w) with
  | some k' =>
    rw [e3] at e'
    cases e'
    obtain ⟨d, e2, h1, h2, h3, h4, rfl⟩ := eqV_some e3
    exact .inl ⟨d, e2, Rep.derefDp s rx h1, Rep.derefDp s ry h2, h3, h4, q.at s rfl⟩
  | none =>
    rw [e3] at e'
    obtain ⟨vs, h1, h2, rfl⟩ := eq0_some e'
    have h1 := deref_tup h1
    have h2 := deref_tup h2
    subst h1 h2
    obtain ⟨a, xs, rfl, t1, r1⟩ := Rep.tupAt s rx
    obtain ⟨b, ys, rfl, t2, r2⟩ := Rep.tupAt s ry
    cases r2
    refine .inr ⟨a, b, xs, rfl, rfl, t1, t2, q.at s ?_⟩
    have := r1.length
    cases vs with
    | nil =>
      cases xs with
      | nil => rfl
      | cons _ _ => cases this
    | cons _ _ =>
      cases xs with
      | nil => cases this
      | cons _ _ => rfl
theorem copS_ne : OpS K (rNeD K) (fun S v w => (cmpV S .ne v w).map .bl) := by
  intro Hf Fr m S H v w z x y Q s rx ry e q
  obtain ⟨k, e1, rfl⟩ := map_bl e
  have e' : (match eqV (deref S v) (deref S w) with
    | some k => some (!k)
    | none => none) = some k := by
    cases v <;> cases w <;> exact e1
  cases q2 : eqV (deref S v) (deref S w) with
  | none => rw [q2] at e'; cases e'
  | some k2 =>
    rw [q2] at e'
    cases e'
    obtain ⟨d, e2, h1, h2, h3, h4, rfl⟩ := eqV_some q2
    exact ⟨d, e2, Rep.derefDp s rx h1, Rep.derefDp s ry h2, h3, h4, q.at s rfl⟩
theorem sgnIn_some {v w : Val} {k : Bool} (h : sgnIn v w = some k) : ∃ (c : Nat) (z : Str), v = .str ⟨#[c]⟩ ∧ w = .str z ∧ k = decide (c ∈ z.cps.toList) := by
  cases v with
  | str a =>
    cases w with
    | str b =>
      have h' : (match a.cps.toList with
        | [c] => some (decide (c ∈ b.cps.toList))
        | _ => none) = some k := h
      obtain ⟨⟨l⟩⟩ := a
      match l, h' with
      | [c], h' => cases h'; exact ⟨c, b, rfl, rfl, rfl⟩
      | [], h' => cases h'
      | _ :: _ :: _, h' => cases h'
    | _ => cases h
  | _ => cases h
theorem copS_in : OpS K (copR K .isin) (fun S v w => (cmpV S .isin v w).map .bl) := by
  intro Hf Fr m S H v w z x y Q s rx ry e q
  obtain ⟨k, e1, rfl⟩ := map_bl e
  have e' : (match items S w with
    | some ws => inVals (deref S v) ws
    | none => match dAt S w v with
      | some o => some o.isSome
      | none => sgnIn v w) = some k := by
    cases v <;> cases w <;> exact e1
  cases q1 : items S w with
  | none =>
    rw [q1] at e'
    have e2 : (match dAt S w v with
      | some o => some o.isSome
      | none => sgnIn v w) = some k := e'
    cases q2 : dAt S w v with
    | none =>
      rw [q2] at e2
      obtain ⟨c, z, rfl, rfl, rfl⟩ := sgnIn_some e2
      cases rx
      cases ry
      exact .inr (.inr (.inr ⟨c, z, rfl, rfl, q.at s rfl⟩))
    | some o =>
      rw [q2] at e2
      cases e2
      obtain ⟨a, o', rfl, g, hs, _⟩ := Rep.dAt s ry rx q2
      exact .inr (.inr (.inl ⟨a, o', rfl, g, by rw [← hs]; exact q.at s rfl⟩))
  | some ws =>
    rw [q1] at e'
    obtain ⟨d, es, h1, h2, h3, h4, rfl⟩ := inVals_some e'
    rcases Rep.seqDp s ry q1 h2 with h5 | h5
    · exact .inl ⟨d, es, Rep.derefDp s rx h1, h5, h3, h4, q.at s rfl⟩
    · exact .inr (.inl ⟨d, es, Rep.derefDp s rx h1, h5, h3, h4, q.at s rfl⟩)
theorem copS_notin : OpS K (copR K .notin) (fun S v w => (cmpV S .notin v w).map .bl) := by
  intro Hf Fr m S H v w z x y Q s rx ry e q
  obtain ⟨k, e1, rfl⟩ := map_bl e
  have e' : (match items S w with
    | some ws => match inVals (deref S v) ws with
      | some k => some (!k)
      | none => none
    | none => match dAt S w v with
      | some o => some (!o.isSome)
      | none => (sgnIn v w).map (!·)) = some k := by
    cases v <;> cases w <;> exact e1
  cases q1 : items S w with
  | none =>
    rw [q1] at e'
    have e2 : (match dAt S w v with
      | some o => some (!o.isSome)
      | none => (sgnIn v w).map (!·)) = some k := e'
    cases q2 : dAt S w v with
    | none =>
      rw [q2] at e2
      have e3 : (sgnIn v w).map (!·) = some k := e2
      cases q3 : sgnIn v w with
      | none => rw [q3] at e3; cases e3
      | some k0 =>
        rw [q3] at e3
        cases e3
        obtain ⟨c, z, rfl, rfl, rfl⟩ := sgnIn_some q3
        cases rx
        cases ry
        exact .inr (.inr (.inr ⟨c, z, rfl, rfl, q.at s rfl⟩))
    | some o =>
      rw [q2] at e2
      cases e2
      obtain ⟨a, o', rfl, g, hs, _⟩ := Rep.dAt s ry rx q2
      exact .inr (.inr (.inl ⟨a, o', rfl, g, by rw [← hs]; exact q.at s rfl⟩))
  | some ws =>
    rw [q1] at e'
    have e2 : (match inVals (deref S v) ws with
      | some k => some (!k)
      | none => none) = some k := e'
    cases q2 : inVals (deref S v) ws with
    | none => rw [q2] at e2; cases e2
    | some k2 =>
      rw [q2] at e2
      cases e2
      obtain ⟨d, es, h1, h2, h3, h4, rfl⟩ := inVals_some q2
      rcases Rep.seqDp s ry q1 h2 with h5 | h5
      · exact .inl ⟨d, es, Rep.derefDp s rx h1, h5, h3, h4, q.at s rfl⟩
      · exact .inr (.inl ⟨d, es, Rep.derefDp s rx h1, h5, h3, h4, q.at s rfl⟩)
theorem copS_I {o : Cop} {p : Int → Int → Bool} (h : ∀ S v w k, cmpV S o v w = some k → ∃ i j, v = .int i ∧ w = .int j ∧ k = p i j) : OpS K (rI0 fun i j => .bl (p i j)) (fun S v w => (cmpV S o v w).map .bl) := by
  intro Hf Fr m S H v w z x y Q s rx ry e q
  obtain ⟨k, e1, rfl⟩ := map_bl e
  obtain ⟨i, j, rfl, rfl, rfl⟩ := h S v w k e1
  cases rx
  cases ry
  exact ⟨i, j, rfl, rfl, q.at s rfl⟩
theorem non_rep {Hf : Hp} {m : List Addr} {v : Val} {x : V} (r : Rep K Hf m v x) (hv : v ≠ .non) : x ≠ .non := by
  cases v with
  | non => exact absurd rfl hv
  | bl _ => cases r; exact fun e => nomatch e
  | int _ => cases r; exact fun e => nomatch e
  | str _ => cases r; exact fun e => nomatch e
  | tup _ => obtain ⟨_, _, rfl, _⟩ := r; exact fun e => nomatch e
  | lst _ => obtain ⟨_, _, rfl, _⟩ := r; exact fun e => nomatch e
  | dct _ _ _ => obtain ⟨_, _, _, _, rfl, _⟩ := r; exact fun e => nomatch e
  | exc _ => obtain ⟨_, _, rfl, _⟩ := r; exact fun e => nomatch e
  | loc _ => obtain ⟨_, rfl, _⟩ := r; exact fun e => nomatch e
theorem is_some {S : Store} {v w : Val} {k : Bool} (h : cmpV S .is v w = some k) : (w = .non ∧ ((v = .non ∧ k = true) ∨ (v ≠ .non ∧ k = false))) ∨ ∃ a b, v = .bl a ∧ w = .bl b ∧ k = decide (a = b) := by
  cases v <;> cases w <;> first
    | (cases h; exact .inl ⟨rfl, .inl ⟨rfl, rfl⟩⟩)
    | (cases h; exact .inl ⟨rfl, .inr ⟨(by intro e; cases e), rfl⟩⟩)
    | (cases h; exact .inr ⟨_, _, rfl, rfl, rfl⟩)
    | cases h
theorem isnot_some {S : Store} {v w : Val} {k : Bool} (h : cmpV S .isnot v w = some k) : (w = .non ∧ ((v = .non ∧ k = false) ∨ (v ≠ .non ∧ k = true))) ∨ ∃ a b, v = .bl a ∧ w = .bl b ∧ k = !decide (a = b) := by
  cases v <;> cases w <;> first
    | (cases h; exact .inl ⟨rfl, .inl ⟨rfl, rfl⟩⟩)
    | (cases h; exact .inl ⟨rfl, .inr ⟨(by intro e; cases e), rfl⟩⟩)
    | (cases h; exact .inr ⟨_, _, rfl, rfl, rfl⟩)
    | cases h
theorem copS_is : OpS K rIsA (fun S v w => (cmpV S .is v w).map .bl) := by
  intro Hf Fr m S H v w z x y Q s rx ry e q
  obtain ⟨k, e1, rfl⟩ := map_bl e
  rcases is_some e1 with ⟨rfl, h⟩ | ⟨a, b, rfl, rfl, rfl⟩
  · cases ry
    rcases h with ⟨rfl, rfl⟩ | ⟨hv, rfl⟩
    · cases rx
      exact .inl ⟨rfl, q.at s rfl⟩
    · refine .inl ⟨rfl, ?_⟩
      rw [decide_eq_false (non_rep rx hv)]
      exact q.at s rfl
  · cases rx
    cases ry
    exact .inr ⟨a, b, rfl, rfl, q.at s rfl⟩
theorem copS_isnot : OpS K rNotA (fun S v w => (cmpV S .isnot v w).map .bl) := by
  intro Hf Fr m S H v w z x y Q s rx ry e q
  obtain ⟨k, e1, rfl⟩ := map_bl e
  rcases isnot_some e1 with ⟨rfl, h⟩ | ⟨a, b, rfl, rfl, rfl⟩
  · cases ry
    rcases h with ⟨rfl, rfl⟩ | ⟨hv, rfl⟩
    · cases rx
      exact .inl ⟨rfl, q.at s rfl⟩
    · refine .inl ⟨rfl, ?_⟩
      rw [decide_eq_false (non_rep rx hv)]
      exact q.at s rfl
  · cases rx
    cases ry
    exact .inr ⟨a, b, rfl, rfl, q.at s rfl⟩
theorem copS_eqs : OpS K rEq (fun S v w => (cmpV S .eqs v w).map .bl) := by
  intro Hf Fr m S H v w z x y Q s rx ry e q
  obtain ⟨k, e1, rfl⟩ := map_bl e
  cases v <;> cases w <;> first | cases e1 | skip
  cases rx
  cases ry
  rename_i a b
  refine ⟨rfl, ?_⟩
  have ed : decide (V.str a = V.str b) = decide (a = b) := by simp
  rw [ed]
  exact q.at s rfl
theorem copS_nes : OpS K rNe (fun S v w => (cmpV S .nes v w).map .bl) := by
  intro Hf Fr m S H v w z x y Q s rx ry e q
  obtain ⟨k, e1, rfl⟩ := map_bl e
  cases v <;> cases w <;> first | cases e1 | skip
  cases rx
  cases ry
  rename_i a b
  refine ⟨rfl, ?_⟩
  have ed : decide (V.str a = V.str b) = decide (a = b) := by simp
  rw [ed]
  exact q.at s rfl
theorem copS : ∀ o : Cop, OpS K (copR K o) (fun S v w => (cmpV S o v w).map .bl)
  | .eq => copS_eq
  | .ne => copS_ne
  | .eqs => copS_eqs
  | .nes => copS_nes
  | .isin => copS_in
  | .notin => copS_notin
  | .is => copS_is
  | .isnot => copS_isnot
  | .lt => copS_I fun S v w k h => by cases v <;> cases w <;> first | (cases h; exact ⟨_, _, rfl, rfl, rfl⟩) | cases h
  | .le => copS_I fun S v w k h => by cases v <;> cases w <;> first | (cases h; exact ⟨_, _, rfl, rfl, rfl⟩) | cases h
  | .gt => copS_I fun S v w k h => by cases v <;> cases w <;> first | (cases h; exact ⟨_, _, rfl, rfl, rfl⟩) | cases h
  | .ge => copS_I fun S v w k h => by cases v <;> cases w <;> first | (cases h; exact ⟨_, _, rfl, rfl, rfl⟩) | cases h
/-! ### subscripts -/
def rIxA (K : PySem.W.Frag) : R2 := fun x y H Q => rIxL K x y H Q ∨ rIxT K x y H Q ∨ rIxDict x y H Q ∨ rIxS x y H Q
theorem ix_A {X : Cx} (hu : X.A.units + 1 < cLine) : IxR X (rIxA X.K) := ix_list.or (ix_tup.or ((ix_dict hu).or ix_str))
theorem ixN_len {n n' : Nat} {i : Int} (h : n = n') : ixN n i = ixN n' i := by rw [h]
theorem atI_rep {Hf : Hp} {m : List Addr} {vs : List Val} {xs : List V} {i : Int} {z : Val} (r : Reps K Hf m vs xs) (h : L2.atI vs i = some z) : ∃ x, L2.atI xs i = some x ∧ Rep K Hf m z x := by
  unfold L2.atI at h ⊢
  rw [← r.length]
  cases q : ixN vs.length i with
  | none => rw [q] at h; cases h
  | some j =>
    rw [q] at h
    exact r.get h
theorem ixV_inv {S : Store} {v w z : Val} (h : ixV S v w = some z) : dAt S v w = some (some z) ∨ (∃ k vs, w = .int k ∧ items S v = some vs ∧ L2.atI vs k = some z) ∨ ∃ (k : Int) (s : Str) (c : Nat), w = .int k ∧ v = .str s ∧ s.length ≤ lim ∧ L2.atI s.cps.toList k = some c ∧ z = .str ⟨#[c]⟩ := by
  unfold ixV at h
  cases q0 : dctAt S v with
  | some p =>
    rw [q0] at h
    have e1 : (match dAt S v w with
      | some (some z) => some z
      | _ => none) = some z := h
    cases q1 : dAt S v w with
    | none => rw [q1] at e1; cases e1
    | some o =>
      cases o with
      | none => rw [q1] at e1; cases e1
      | some z' =>
        rw [q1] at e1
        cases e1
        exact .inl rfl
  | none =>
    rw [q0] at h
    cases w with
    | int k =>
      have e' : (match items S v with
        | some vs => L2.atI vs k
        | none => sgnAt v k) = some z := h
      cases q1 : items S v with
      | none =>
        rw [q1] at e'
        have e2 : sgnAt v k = some z := e'
        cases v with
        | str s =>
          have e3 : (if s.length ≤ lim then (L2.atI s.cps.toList k).map fun c => Val.str ⟨#[c]⟩ else none) = some z := e2
          by_cases c : s.length ≤ lim
          · rw [if_pos c] at e3
            cases q3 : L2.atI s.cps.toList k with
            | none => rw [q3] at e3; cases e3
            | some x =>
              rw [q3] at e3
              cases e3
              exact .inr (.inr ⟨k, s, x, rfl, rfl, c, q3, rfl⟩)
          · rw [if_neg c] at e3
            cases e3
        | _ => cases e2
      | some vs => rw [q1] at e'; exact .inr (.inl ⟨k, vs, rfl, rfl, e'⟩)
    | _ => cases h
theorem ixS : OpS K (rIxA K) (fun S v w => ixV S v w) := by
  intro Hf Fr m S H v w z x y Q s rx ry e0 q
  rcases ixV_inv e0 with q1 | ⟨k, vs, rfl, q1, e'⟩ | ⟨k, t, c, rfl, rfl, hl, hc, rfl⟩
  · obtain ⟨a, o', rfl, g, _, hz⟩ := Rep.dAt s rx ry q1
    obtain ⟨y', rfl, r'⟩ := hz _ rfl
    exact .inr (.inr (.inl ⟨a, y', rfl, g, q.at s r'⟩))
  · cases ry
    obtain ⟨a, xs, rfl, h3, h4⟩ := Rep.seqAt s rx q1
    obtain ⟨x, h5, h6⟩ := atI_rep h4 e'
    rcases h3 with h3 | h3
    · exact .inl ⟨a, xs, k, x, rfl, rfl, h3, h5, q.at s h6⟩
    · exact .inr (.inl ⟨a, xs, k, x, rfl, rfl, h3, h5, q.at s h6⟩)
  · cases rx
    cases ry
    exact .inr (.inr (.inr ⟨t, k, c, rfl, rfl, sz hl, hc, q.at s rfl⟩))
/-! ### slices -/
def rSlA2 (K : PySem.W.Frag) : V → Option Int → Option Int → Hp → VK → Prop := fun x lo hi H Q => rSlL K x lo hi H Q ∨ rSlA K x lo hi H Q
theorem sl_A {X : Cx} : SlR X (rSlA2 X.K) := sl_list.or sl_tupA
theorem cutL_rep {Hf : Hp} {m : List Addr} {vs : List Val} {xs : List V} (r : Reps K Hf m vs xs) (lo hi : Option Int) : Reps K Hf m (cutL vs lo hi) (cutV xs lo hi) := by
  unfold cutL cutV
  rw [r.length]
  exact (r.drop _).take _
theorem cutL_all {vs : List Val} {lo hi : Option Int} (h1 : HT.sIx vs.length 0 lo = 0) (h2 : HT.sIx vs.length vs.length hi = vs.length) : cutL vs lo hi = vs := by
  unfold cutL
  rw [h1, h2, List.drop_zero, Nat.sub_zero]
  exact List.take_length
theorem slS {Hf Fr : Hp} {m : List Addr} {S : Store} {H : Hp} {v z : Val} {x : V} {lo hi : Option Int} {Q : VK} (s : Sim K Hf Fr m S H) (rx : Rep K Hf m v x) (e : sliceV S v lo hi = some z) (q : Give K Hf Fr m S z Q) : rSlA2 K x lo hi H Q := by
  cases v with
  | tup vs =>
    cases e
    obtain ⟨a, xs, rfl, h1, h2⟩ := Rep.tupAt s rx
    refine .inr ⟨a, xs, rfl, h1, fun ⟨z1, z2⟩ => ?_, fun _ p hp => Give.tup q s (cutL_rep h2 lo hi) hp⟩
    rw [cutL_all (by rw [h2.length]; exact z1) (by rw [h2.length]; exact z2)] at q
    exact q.at s rx
  | lst vs =>
    cases e
    obtain ⟨a, xs, rfl, h1, h2⟩ := Rep.lstAt s rx
    exact .inl ⟨a, xs, rfl, h1, fun p hp => Give.lst q s (cutL_rep h2 lo hi) hp⟩
  | loc n =>
    have e' : (match S[n]? with
      | some (.lst vs) => some (.lst (cutL vs lo hi))
      | _ => none) = some z := e
    cases q1 : S[n]? with
    | none => rw [q1] at e'; cases e'
    | some o =>
      cases o with
      | lst vs =>
        rw [q1] at e'
        cases e'
        obtain ⟨a, xs, rfl, _, h1, h2⟩ := Rep.locAt s rx q1
        exact .inl ⟨a, xs, rfl, SqL.of h1, fun p hp => Give.lst q s (cutL_rep h2 lo hi) hp⟩
      | dct _ _ _ _ => rw [q1] at e'; cases e'
      | ins _ _ _ => rw [q1] at e'; cases e'
  | _ => cases e
/-! ### isinstance -/
theorem tyD {H : Hp} {a : Addr} {u : HO} {ks : List (List (Int ⊕ Str))} {xs : List V} (r : Rd H a u) (h : dIs false ks xs u) : TyX K H (.ref a) (.type "dict") := by
  obtain ⟨kvs, rfl, _⟩ := h
  rcases r with r | ⟨o, r⟩
  · exact .base (.dK r)
  · exact .fDict r
theorem tyX {Hf Fr H : Hp} {m : List Addr} {S : Store} (s : Sim K Hf Fr m S H) {v : Val} {x : V} {T : String} {k : Bool} (r : Rep K Hf m v x) (hT : T = "int" ∨ T = "bool" ∨ T = "str" ∨ T = "tuple" ∨ T = "list" ∨ T = "dict") (h : isT S T v = some k) :
    ∃ t, TyX K H x (.type t) ∧ kitB t T = some k := by
  have hL : ∀ {a : Addr} {xs : List V}, SqL K H a xs → TyX K H (.ref a) (.type "list") := fun {a xs} q => by
    rcases q with (q | ⟨o, q⟩) | ⟨o, its, n, q1, q2, _⟩
    · exact .base (.lst q)
    · exact .base (.frz q)
    · exact .kList q1 q2
  have hU : ∀ {a : Addr} {xs : List V}, SqT K H a xs → TyX K H (.ref a) (.type "tuple") := fun {a xs} q => by
    rcases q with (q | ⟨o, q⟩) | ⟨o, its, n, q1, q2, _⟩
    · exact .base (.tup q)
    · exact .fTuple q
    · exact .kTuple q1 q2
  cases v with
  | non => cases r; cases h; refine ⟨"NoneType", .base .non, ?_⟩; rcases hT with rfl | rfl | rfl | rfl | rfl | rfl <;> decide +kernel
  | bl b =>
    cases r
    refine ⟨"bool", .base (.bl b), ?_⟩
    rcases hT with rfl | rfl | rfl | rfl | rfl | rfl <;> (cases h; decide +kernel)
  | int b =>
    cases r
    refine ⟨"int", .base (.int b), ?_⟩
    rcases hT with rfl | rfl | rfl | rfl | rfl | rfl <;> (cases h; decide +kernel)
  | str b =>
    cases r
    refine ⟨"str", .base (.str b), ?_⟩
    rcases hT with rfl | rfl | rfl | rfl | rfl | rfl <;> (cases h; decide +kernel)
  | tup vs =>
    obtain ⟨a, xs, rfl, h1, _⟩ := Rep.tupAt s r
    refine ⟨"tuple", hU h1, ?_⟩
    rcases hT with rfl | rfl | rfl | rfl | rfl | rfl <;> (cases h; decide +kernel)
  | lst vs =>
    obtain ⟨a, xs, rfl, h1, _⟩ := Rep.lstAt s r
    refine ⟨"list", hL h1, ?_⟩
    rcases hT with rfl | rfl | rfl | rfl | rfl | rfl <;> (cases h; decide +kernel)
  | loc n =>
    have h' : (match S[n]? with
      | some (.lst _) => some (decide (T = "list"))
      | some (.dct false _ _ _) => some (decide (T = "dict"))
      | _ => none) = some k := h
    cases q1 : S[n]? with
    | none => rw [q1] at h'; cases h'
    | some o =>
      cases o with
      | lst vs =>
        rw [q1] at h'
        obtain ⟨a, xs, rfl, _, h1, _⟩ := Rep.locAt s r q1
        refine ⟨"list", hL (SqL.of h1), ?_⟩
        rcases hT with rfl | rfl | rfl | rfl | rfl | rfl <;> (cases h'; decide +kernel)
      | ins _ _ _ => rw [q1] at h'; cases h'
      | dct t l ks vs =>
        cases t with
        | true => rw [q1] at h'; cases h'
        | false =>
        rw [q1] at h'
        obtain ⟨a, rfl, h2⟩ := r
        obtain ⟨u, xs, h3, h4, _⟩ := s.obj n a _ h2 q1
        refine ⟨"dict", tyD (u := u) ?_ h4, ?_⟩
        · cases l with
          | false => exact .inl h3
          | true => exact .inr h3
        · rcases hT with rfl | rfl | rfl | rfl | rfl | rfl <;> (cases h'; decide +kernel)
  | dct t ks vs =>
    cases t with
    | true => cases h
    | false =>
    obtain ⟨a, ob, u, xs, rfl, h3, h4, _⟩ := r
    refine ⟨"dict", tyD (u := u) (.inr ⟨ob, s.exf a _ h3⟩) h4, ?_⟩
    rcases hT with rfl | rfl | rfl | rfl | rfl | rfl <;> (cases h; decide +kernel)
  | exc _ => cases h
end
end Iv
/-! Iv4: readings of expressions. -/
namespace Iv
open PySem PySem.Spec PyProof.Rows L2
open Evl (Ex ex_l ex_t)
/-- what a walk gives, turn by turn -/
structure WalkV (K : PySem.W.Frag) (Hf : Hp) (m : List Addr) (J : It) (xs : List Val) : Prop where
  goes : ∀ i H, i < xs.length → Ex Hf H → J.go i H
  stops : ∀ H, Ex Hf H → J.stop xs.length H
  yields : ∀ i H x H', i < xs.length → Ex Hf H → J.yld i H x H' → ∃ v, xs[i]? = some v ∧ ((H' = H ∧ Rep K Hf m v x) ∨ ∃ T a b xa xb, v = .tup [a, b] ∧ x = .ref T ∧ H T = none ∧ H' = upd H T (.tup [xa, xb]) ∧ Rep K Hf m a xa ∧ Rep K Hf m b xb)
section
variable (K : PySem.W.Frag) (cl : Str → Value) (Y : L2.St → XK) (Φ : Option Bool → Nat → List Val → Store → R Val)
def tI (e : E) : TE := fun σ H Q => ∃ Hf Fr m S ρ, Sim K Hf Fr m S H ∧ EnvR K Hf m ρ σ ∧ QE K cl (Y σ) Hf Fr m Q (evalE Φ e ρ S)
def tAs (e : E) : TA := fun σ H Q => ∃ Hf Fr m S ρ, Sim K Hf Fr m S H ∧ EnvR K Hf m ρ σ ∧ QA K cl (Y σ) Hf Fr m Q (evalA Φ e ρ S)
def evalT (e : E) (ρ : Env) (S : Store) : R Bool := (evalE Φ e ρ S).bind fun v S1 => asBool v fun b => .ok b S1
def tTs (e : E) : TT := fun σ H Q => ∃ Hf Fr m S ρ, Sim K Hf Fr m S H ∧ EnvR K Hf m ρ σ ∧ QR K cl (Y σ) (fun _ _ (a x : Bool) => a = x) Hf Fr m Q (evalT Φ e ρ S)
def tIt (e : E) : TI := fun σ H Q => ∃ Hf Fr m S ρ, Sim K Hf Fr m S H ∧ EnvR K Hf m ρ σ ∧ QR K cl (Y σ) (fun Hf m xs J => WalkV K Hf m J xs) Hf Fr m Q (evalI Φ e ρ S)
end
theorem QE.ofS {K : PySem.W.Frag} {cl : Str → Value} {Y : XK} {Hf Fr : Hp} {m : List Addr} {S : Store} {Q : VK} {o : Option Val} (h : QE K cl Y Hf Fr m Q (.of o S)) : ∃ z, o = some z ∧ Give K Hf Fr m S z Q := by
  cases o with
  | none => exact h.elim
  | some z => exact ⟨z, rfl, h⟩
theorem asBool_inv {α γ : Type} {K : PySem.W.Frag} {cl : Str → Value} {Y : XK} {P : Hp → List Addr → α → γ → Prop} {Hf Fr : Hp} {m : List Addr} {Q : γ → Hp → Prop} {v : Val} {f : Bool → R α} (h : QR K cl Y P Hf Fr m Q (asBool v f)) : ∃ b, v = .bl b ∧ QR K cl Y P Hf Fr m Q (f b) := by
  cases v with
  | bl b => exact ⟨b, rfl, h⟩
  | _ => exact h.elim
section
variable {X : Cx} {cl : Str → Value} {Y : L2.St → XK} {Z : XK} {Φ : Option Bool → Nat → List Val → Store → R Val}
theorem sn_var {i : Nat} {x : Str} {pos : Pos} (h : PE X (.Name x pos) (tVar i)) : PE X (.Name x pos) ((tI X.K cl Y Φ) (.var i)) := PE.of h fun σ H Q ⟨Hf, Fr, m, S, ρ, s, r, q⟩ => by
  have q' : QE X.K cl (Y σ) Hf Fr m Q (match ρ[i]? with
    | some (some v) => .ok v S
    | _ => .bad) := q
  cases e : ρ[i]? with
  | none => rw [e] at q'; exact q'.elim
  | some o =>
    rw [e] at q'
    cases o with
    | none => exact q'.elim
    | some v =>
      obtain ⟨y, h1, h2⟩ := r.get i v e
      exact ⟨y, h1, Give.at q' s h2⟩
theorem sn_c {e : Expr} {v : V} {z : Val} {ie : E} (h : PE X e (tC v)) (hz : ∀ ρ S, evalE Φ ie ρ S = .ok z S) (hr : ∀ Hf m, Rep X.K Hf m z v) : PE X e ((tI X.K cl Y Φ) ie) := PE.of h fun σ H Q ⟨Hf, Fr, m, S, ρ, s, r, q⟩ => by
  rw [hz] at q
  exact Give.at q s (hr _ _)
theorem sn_int {i : Int} {j : Nat} {pos : Pos} : PE X (.Constant (.int i) j pos) ((tI X.K cl Y Φ) (.int i)) := sn_c pe_int (fun _ _ => rfl) fun _ _ => rfl
theorem sn_bl {i : Bool} {j : Nat} {pos : Pos} : PE X (.Constant (.bool i) j pos) ((tI X.K cl Y Φ) (.bl i)) := sn_c pe_bl (fun _ _ => rfl) fun _ _ => rfl
theorem sn_non {j : Nat} {pos : Pos} : PE X (.Constant .none j pos) ((tI X.K cl Y Φ) .non) := sn_c pe_non (fun _ _ => rfl) fun _ _ => rfl
theorem sn_str {i : Str} {j : Nat} {pos : Pos} : PE X (.Constant (.str i) j pos) ((tI X.K cl Y Φ) (.str i)) := sn_c pe_str (fun _ _ => rfl) fun _ _ => rfl
/-! arguments -/
theorem sa_nil : PA X [] ((tAs X.K cl Y Φ) .nil) := PA.of pa_nil fun σ H Q ⟨Hf, Fr, m, S, ρ, s, r, q⟩ => q [] H Hf m (Evl.Ex.refl _) (List.prefix_refl _) s .nil
theorem sa_cons {x : Expr} {xs : List Expr} {e r : E} (h : PE X x ((tI X.K cl Y Φ) e)) (hr : PA X xs ((tAs X.K cl Y Φ) r)) (hs : starEach (x :: xs) X.env = (false, eval x X.env) :: starEach xs X.env) : PA X (x :: xs) ((tAs X.K cl Y Φ) (.cons e r)) :=
  PA.of (pa_cons h hr hs) fun σ H Q ⟨Hf, Fr, m, S, ρ, s, er, q⟩ =>
    ⟨Hf, Fr, m, S, ρ, s, er, QR.bind (f := fun v S1 => (evalA Φ r ρ S1).bind fun vs S2 => .ok (v :: vs) S2) q fun v S1 y H1 Hf1 m1 e1 p1 s1 r1 q1 =>
      ⟨Hf1, Fr, m1, S1, ρ, s1, er.mono e1 p1, QR.bind (f := fun vs S2 => .ok (v :: vs) S2) q1 fun vs S2 ys H2 Hf2 m2 e2 p2 s2 r2 q2 =>
        q2 _ _ _ _ (Evl.Ex.refl _) (List.prefix_refl _) s2 (.cons (Rep.mono e2 p2 _ _ r1) r2)⟩⟩
/-! displays -/
theorem mk_give {Hf Fr H : Hp} {m : List Addr} {S : Store} {Q : VK} {mu : Bool} {vs : List Val} {xs : List V} (q : QE X.K cl Z Hf Fr m Q (mk mu vs S)) (s : Sim X.K Hf Fr m S H) (r : Reps X.K Hf m vs xs) {p : Addr} (hp : H p = none) : Q (.ref p) (upd H p (.lst xs)) := by
  cases mu with
  | false => exact Give.lst q s r hp
  | true =>
    have q' : Give X.K Hf Fr m (S ++ [.lst vs]) (.loc S.length) Q := q
    exact q' _ _ Hf (m ++ [p]) (Evl.Ex.refl _) (List.prefix_append _ _) (s.newL hp r) ⟨p, rfl, by rw [← s.len]; simp⟩
theorem sn_tup {es : List Expr} {j : Nat} {pos : Pos} {e : E} (h : PA X es ((tAs X.K cl Y Φ) e)) : PE X (.Tuple es j pos) ((tI X.K cl Y Φ) (.tup e)) :=
  PE.of (pe_tup h) fun σ H Q ⟨Hf, Fr, m, S, ρ, s, er, q⟩ =>
    ⟨Hf, Fr, m, S, ρ, s, er, QR.bind (f := fun vs S1 => if vs.length ≤ lim then .ok (Val.tup vs) S1 else .bad) q fun vs S1 xs H1 Hf1 m1 e1 p1 s1 r1 q1 => by
      by_cases c : vs.length ≤ lim
      · rw [if_pos c] at q1
        exact ⟨sz (by rw [← r1.length]; exact c), fun p hp => Give.tup q1 s1 r1 hp⟩
      · rw [if_neg c] at q1
        exact q1.elim⟩
theorem sn_lst {es : List Expr} {pos : Pos} {e : E} {mu : Bool} (h : PA X es ((tAs X.K cl Y Φ) e)) : PE X (.List es pos) ((tI X.K cl Y Φ) (.lst mu e)) :=
  PE.of (pe_lst h) fun σ H Q ⟨Hf, Fr, m, S, ρ, s, er, q⟩ =>
    ⟨Hf, Fr, m, S, ρ, s, er, QR.bind (f := fun vs S1 => if vs.length ≤ lim then mk mu vs S1 else .bad) q fun vs S1 xs H1 Hf1 m1 e1 p1 s1 r1 q1 => by
      by_cases c : vs.length ≤ lim
      · rw [if_pos c] at q1
        exact ⟨sz (by rw [← r1.length]; exact c), fun p hp => mk_give q1 s1 r1 hp⟩
      · rw [if_neg c] at q1
        exact q1.elim⟩
/-! operators -/
theorem two {r : R2} {f : Store → Val → Val → Option Val} (hf : OpS X.K r f) {a b : E} {ie : E} (he : ∀ ρ S, evalE Φ ie ρ S = (evalE Φ a ρ S).bind fun v S1 => (evalE Φ b ρ S1).bind fun w S2 => .of (f S2 v w) S2) (σ : L2.St) (H : Hp) (Q : VK) (h : (tI X.K cl Y Φ) ie σ H Q) :
    tOp r ((tI X.K cl Y Φ) a) ((tI X.K cl Y Φ) b) σ H Q := by
  obtain ⟨Hf, Fr, m, S, ρ, s, er, q⟩ := h
  rw [he] at q
  refine ⟨Hf, Fr, m, S, ρ, s, er, QR.bind q fun v S1 y H1 Hf1 m1 e1 p1 s1 r1 q1 => ⟨Hf1, Fr, m1, S1, ρ, s1, er.mono e1 p1, QR.bind q1 fun w S2 y2 H2 Hf2 m2 e2 p2 s2 r2 q2 => ?_⟩⟩
  obtain ⟨z, hz, g⟩ := QE.ofS q2
  exact hf Hf2 Fr m2 S2 H2 v w z y y2 Q s2 (Rep.mono e2 p2 _ _ r1) r2 hz g
theorem sn_bin {o : Bop} {a b : E} {xa xb : Expr} {pos : Pos} (ha : PE X xa ((tI X.K cl Y Φ) a)) (hb : PE X xb ((tI X.K cl Y Φ) b)) : PE X (.BinOp xa (bopOf o) xb pos) ((tI X.K cl Y Φ) (.bin o a b)) :=
  PE.of (pe_op (bop_ok o) ha hb) fun σ H Q h => two (bopS o) (fun _ _ => rfl) σ H Q h
theorem sn_cmp {o : Cop} {a b : E} {xa xb : Expr} {pos : Pos} (hu : X.A.units + 65 < cLine) (ha : PE X xa ((tI X.K cl Y Φ) a)) (hb : PE X xb ((tI X.K cl Y Φ) b)) (hm : behindInMarks (copOf o) xb = false) : PE X (.Compare xa [copOf o] [xb] pos) ((tI X.K cl Y Φ) (.cmp o a b)) :=
  PE.of (pe_cmpR (cop_ok hu o) ha hb hm) fun σ H Q h => two (copS o) (fun _ _ => rfl) σ H Q h
theorem sn_ix {a b : E} {xa xb : Expr} {pos : Pos} (hu : X.A.units + 65 < cLine) (ha : PE X xa ((tI X.K cl Y Φ) a)) (hb : PE X xb ((tI X.K cl Y Φ) b)) (hs : PlainIx xb) : PE X (.Subscript xa xb pos) ((tI X.K cl Y Φ) (.ix a b)) :=
  PE.of (pe_ix (ix_A (by omega)) ha hb hs) fun σ H Q h => two ixS (fun _ _ => rfl) σ H Q h
theorem sn_neg {a : E} {xa : Expr} {pos : Pos} (ha : PE X xa ((tI X.K cl Y Φ) a)) : PE X (.UnaryOp .USub xa pos) ((tI X.K cl Y Φ) (.neg a)) :=
  PE.of (pe_un un_neg ha) fun σ H Q ⟨Hf, Fr, m, S, ρ, s, er, q⟩ =>
    ⟨Hf, Fr, m, S, ρ, s, er, QR.bind (f := fun v S1 => match v with
      | .int i => .ok (Val.int (-i)) S1
      | _ => .bad) q fun v S1 y H1 Hf1 m1 e1 p1 s1 r1 q1 => by
      cases v with
      | int i =>
        cases r1
        exact ⟨i, rfl, Give.at q1 s1 rfl⟩
      | _ => exact q1.elim⟩
theorem test_of {e : E} {σ : L2.St} {H : Hp} {Q : Bool → Hp → Prop} (h : (tTs X.K cl Y Φ) e σ H Q) : (tI X.K cl Y Φ) e σ H fun x H1 => ∃ k, x = .bl k ∧ Q k H1 := by
  obtain ⟨Hf, Fr, m, S, ρ, s, er, q⟩ := h
  refine ⟨Hf, Fr, m, S, ρ, s, er, QR.bind (f := fun v S1 => asBool v fun b => .ok b S1) q fun v S1 y H1 Hf1 m1 e1 p1 s1 r1 q1 => ?_⟩
  obtain ⟨b, rfl, q2⟩ := asBool_inv q1
  cases r1
  exact ⟨b, rfl, q2 b H1 Hf1 m1 (Evl.Ex.refl _) (List.prefix_refl _) s1 rfl⟩
/-- a value as a test -/
theorem st_val {e : E} {x : Expr} (h : PE X x ((tI X.K cl Y Φ) e)) (he : ∀ whole, isTrue x X.env whole = (do let v ← whole; standAt x.pos; holding [v] (truthy v))) : PT X x ((tTs X.K cl Y Φ) e) :=
  PT.of (pt_val h he) fun σ H Q q => test_of q
theorem of_test {e : E} {ie : E} {σ : L2.St} {H : Hp} {Q : Bool → Hp → Prop} {g : Bool → Env → Store → R Bool}
    (he : ∀ ρ S, evalT Φ ie ρ S = (evalT Φ e ρ S).bind fun b S1 => g b ρ S1) (h : (tTs X.K cl Y Φ) ie σ H Q) {Q' : Bool → Hp → Prop}
    (k : ∀ b S1 H1 Hf1 Fr m1 ρ, Sim X.K Hf1 Fr m1 S1 H1 → EnvR X.K Hf1 m1 ρ σ → QR X.K cl (Y σ) (fun _ _ (a x : Bool) => a = x) Hf1 Fr m1 Q (g b ρ S1) → Q' b H1) : (tTs X.K cl Y Φ) e σ H Q' := by
  obtain ⟨Hf, Fr, m, S, ρ, s, er, q⟩ := h
  rw [he] at q
  refine ⟨Hf, Fr, m, S, ρ, s, er, QR.bind (f := fun b S1 => g b ρ S1) q fun b S1 b' H1 Hf1 m1 e1 p1 s1 r1 q1 => ?_⟩
  cases r1
  exact k b S1 H1 Hf1 Fr m1 ρ s1 (er.mono e1 p1) q1
theorem bind_assoc {α β γ : Type} (r : R α) (f : α → Store → R β) (g : β → Store → R γ) : (r.bind f).bind g = r.bind fun a S => (f a S).bind g := by
  cases r <;> rfl
theorem asBool_bind {α β : Type} (v : Val) (f : Bool → R α) (g : α → Store → R β) : (asBool v f).bind g = asBool v fun b => (f b).bind g := by
  cases v <;> rfl
theorem evalT_and (a b : E) (ρ : Env) (S : Store) : evalT Φ (.and a b) ρ S = (evalT Φ a ρ S).bind fun k S1 => if k then evalT Φ b ρ S1 else .ok false S1 := by
  show ((evalE Φ a ρ S).bind fun v S1 => asBool v fun k => if k then evalE Φ b ρ S1 else .ok (Val.bl false) S1).bind _ = _
  unfold evalT
  rw [bind_assoc, bind_assoc]
  congr 1
  funext v S1
  rw [asBool_bind, asBool_bind]
  cases v <;> try rfl
  rename_i k
  cases k <;> rfl
theorem evalT_or (a b : E) (ρ : Env) (S : Store) : evalT Φ (.or a b) ρ S = (evalT Φ a ρ S).bind fun k S1 => if k then .ok true S1 else evalT Φ b ρ S1 := by
  show ((evalE Φ a ρ S).bind fun v S1 => asBool v fun k => if k then .ok (Val.bl true) S1 else evalE Φ b ρ S1).bind _ = _
  unfold evalT
  rw [bind_assoc, bind_assoc]
  congr 1
  funext v S1
  rw [asBool_bind, asBool_bind]
  cases v <;> try rfl
  rename_i k
  cases k <;> rfl
theorem evalT_not (a : E) (ρ : Env) (S : Store) : evalT Φ (.not a) ρ S = (evalT Φ a ρ S).bind fun k S1 => .ok (!k) S1 := by
  show ((evalE Φ a ρ S).bind fun v S1 => asBool v fun k => .ok (Val.bl (!k)) S1).bind _ = _
  unfold evalT
  rw [bind_assoc, bind_assoc]
  congr 1
  funext v S1
  rw [asBool_bind, asBool_bind]
  cases v <;> rfl
theorem st_and {a b : E} {xa xb : Expr} {rest : List Expr} {pos : Pos} (ha : PT X xa ((tTs X.K cl Y Φ) a)) (hb : PW X (.BoolOp .And (xb :: rest) pos) ((tTs X.K cl Y Φ) b)) : PW X (.BoolOp .And (xa :: xb :: rest) pos) ((tTs X.K cl Y Φ) (.and a b)) := by
  have h := pw_and ha hb
  refine ⟨fun wh pins s σ H Q I hq => h.run wh pins s σ H Q I (of_test (fun ρ S => evalT_and a b ρ S) hq fun k S1 H1 Hf1 Fr m1 ρ s1 er q => ?_)⟩
  cases k with
  | true => exact ⟨Hf1, Fr, m1, S1, ρ, s1, er, q⟩
  | false => exact q false H1 Hf1 m1 (Evl.Ex.refl _) (List.prefix_refl _) s1 rfl
theorem st_or {a b : E} {xa xb : Expr} {rest : List Expr} {pos : Pos} (ha : PT X xa ((tTs X.K cl Y Φ) a)) (hb : PW X (.BoolOp .Or (xb :: rest) pos) ((tTs X.K cl Y Φ) b)) : PW X (.BoolOp .Or (xa :: xb :: rest) pos) ((tTs X.K cl Y Φ) (.or a b)) := by
  have h := pw_or ha hb
  refine ⟨fun wh pins s σ H Q I hq => h.run wh pins s σ H Q I (of_test (fun ρ S => evalT_or a b ρ S) hq fun k S1 H1 Hf1 Fr m1 ρ s1 er q => ?_)⟩
  cases k with
  | false => exact ⟨Hf1, Fr, m1, S1, ρ, s1, er, q⟩
  | true => exact q true H1 Hf1 m1 (Evl.Ex.refl _) (List.prefix_refl _) s1 rfl
theorem st_not {a : E} {xa : Expr} {pos : Pos} (ha : PT X xa ((tTs X.K cl Y Φ) a)) : PT X (.UnaryOp .Not xa pos) ((tTs X.K cl Y Φ) (.not a)) :=
  PT.of (pt_not ha) fun σ H Q hq => of_test (fun ρ S => evalT_not a ρ S) hq fun k S1 H1 Hf1 Fr m1 ρ s1 er q => q (!k) H1 Hf1 m1 (Evl.Ex.refl _) (List.prefix_refl _) s1 rfl
theorem st_cmp {o : Cop} {a b : E} {xa xb : Expr} {pos : Pos} (hu : X.A.units + 65 < cLine) (ha : PE X xa ((tI X.K cl Y Φ) a)) (hb : PE X xb ((tI X.K cl Y Φ) b)) (hm : behindInMarks (copOf o) xb = false) : PT X (.Compare xa [copOf o] [xb] pos) ((tTs X.K cl Y Φ) (.cmp o a b)) :=
  PT.of (pt_cmpR (cop_ok hu o) ha hb hm) fun σ H Q h => two (copS o) (fun _ _ => rfl) σ H _ (test_of h)
/-! and, or, not, if as values -/
theorem sn_and {a b : E} {xa xb : Expr} {rest : List Expr} {pos : Pos} (ha : PE X xa ((tI X.K cl Y Φ) a)) (hb : PE X (.BoolOp .And (xb :: rest) pos) ((tI X.K cl Y Φ) b)) : PE X (.BoolOp .And (xa :: xb :: rest) pos) ((tI X.K cl Y Φ) (.and a b)) :=
  PE.of (pe_and ha hb) fun σ H Q ⟨Hf, Fr, m, S, ρ, s, er, q⟩ =>
    ⟨Hf, Fr, m, S, ρ, s, er, QR.bind (f := fun v S1 => asBool v fun k => if k then evalE Φ b ρ S1 else .ok (Val.bl false) S1) q fun v S1 y H1 Hf1 m1 e1 p1 s1 r1 q1 => by
      obtain ⟨k, rfl, q2⟩ := asBool_inv q1
      cases r1
      refine ⟨k, rfl, ?_⟩
      cases k with
      | true => exact ⟨Hf1, Fr, m1, S1, ρ, s1, er.mono e1 p1, q2⟩
      | false => exact Give.at q2 s1 rfl⟩
theorem sn_or {a b : E} {xa xb : Expr} {rest : List Expr} {pos : Pos} (ha : PE X xa ((tI X.K cl Y Φ) a)) (hb : PE X (.BoolOp .Or (xb :: rest) pos) ((tI X.K cl Y Φ) b)) : PE X (.BoolOp .Or (xa :: xb :: rest) pos) ((tI X.K cl Y Φ) (.or a b)) :=
  PE.of (pe_or ha hb) fun σ H Q ⟨Hf, Fr, m, S, ρ, s, er, q⟩ =>
    ⟨Hf, Fr, m, S, ρ, s, er, QR.bind (f := fun v S1 => asBool v fun k => if k then .ok (Val.bl true) S1 else evalE Φ b ρ S1) q fun v S1 y H1 Hf1 m1 e1 p1 s1 r1 q1 => by
      obtain ⟨k, rfl, q2⟩ := asBool_inv q1
      cases r1
      refine ⟨k, rfl, ?_⟩
      cases k with
      | false => exact ⟨Hf1, Fr, m1, S1, ρ, s1, er.mono e1 p1, q2⟩
      | true => exact Give.at q2 s1 rfl⟩
theorem sn_not {a : E} {xa : Expr} {pos : Pos} (ha : PE X xa ((tI X.K cl Y Φ) a)) : PE X (.UnaryOp .Not xa pos) ((tI X.K cl Y Φ) (.not a)) :=
  PE.of (pe_not ha) fun σ H Q ⟨Hf, Fr, m, S, ρ, s, er, q⟩ =>
    ⟨Hf, Fr, m, S, ρ, s, er, QR.bind (f := fun v S1 => asBool v fun k => .ok (Val.bl (!k)) S1) q fun v S1 y H1 Hf1 m1 e1 p1 s1 r1 q1 => by
      obtain ⟨k, rfl, q2⟩ := asBool_inv q1
      cases r1
      exact ⟨k, rfl, Give.at q2 s1 rfl⟩⟩
theorem sn_ite {t a b : E} {xt xa xb : Expr} {pos : Pos} (ht : PT X xt ((tTs X.K cl Y Φ) t)) (ha : PE X xa ((tI X.K cl Y Φ) a)) (hb : PE X xb ((tI X.K cl Y Φ) b)) : PE X (.IfExp xt xa xb pos) ((tI X.K cl Y Φ) (.ite t a b)) :=
  PE.of (pe_ifExp ht ha hb) fun σ H Q ⟨Hf, Fr, m, S, ρ, s, er, q⟩ => by
    have e : evalE Φ (.ite t a b) ρ S = (evalT Φ t ρ S).bind fun k S1 => if k then evalE Φ a ρ S1 else evalE Φ b ρ S1 := by
      unfold evalT
      rw [bind_assoc]
      show (evalE Φ t ρ S).bind _ = (evalE Φ t ρ S).bind _
      congr 1
      funext v S1
      rw [asBool_bind]
      cases v <;> rfl
    rw [e] at q
    refine ⟨Hf, Fr, m, S, ρ, s, er, QR.bind (f := fun k S1 => if k then evalE Φ a ρ S1 else evalE Φ b ρ S1) q fun k S1 k' H1 Hf1 m1 e1 p1 s1 r1 q1 => ?_⟩
    cases r1
    cases k with
    | true => exact ⟨Hf1, Fr, m1, S1, ρ, s1, er.mono e1 p1, q1⟩
    | false => exact ⟨Hf1, Fr, m1, S1, ρ, s1, er.mono e1 p1, q1⟩
/-! a < b < c -/
theorem chain_of {o o' : Cop} {a b c : E} (σ : L2.St) (H : Hp) (Q : VK) (h : (tI X.K cl Y Φ) (.chain o o' a b c) σ H Q) : tChain (copR X.K o) (copR X.K o') ((tI X.K cl Y Φ) a) ((tI X.K cl Y Φ) b) ((tI X.K cl Y Φ) c) σ H Q := by
  obtain ⟨Hf, Fr, m, S, ρ, s, er, q⟩ := h
  refine ⟨Hf, Fr, m, S, ρ, s, er, QR.bind (f := fun v S1 => (evalE Φ b ρ S1).bind fun w S2 => match cmpV S2 o v w with
    | some true => (evalE Φ c ρ S2).bind fun u S3 => R.of ((cmpV S3 o' w u).map Val.bl) S3
    | some false => .ok (Val.bl false) S2
    | none => .bad) q fun v S1 y H1 Hf1 m1 e1 p1 s1 r1 q1 => ⟨Hf1, Fr, m1, S1, ρ, s1, er.mono e1 p1, QR.bind (f := fun w S2 => match cmpV S2 o v w with
    | some true => (evalE Φ c ρ S2).bind fun u S3 => R.of ((cmpV S3 o' w u).map Val.bl) S3
    | some false => .ok (Val.bl false) S2
    | none => .bad) q1 fun w S2 y2 H2 Hf2 m2 e2 p2 s2 r2 q2 => ?_⟩⟩
  cases hc : cmpV S2 o v w with
  | none => rw [hc] at q2; exact q2.elim
  | some k =>
    rw [hc] at q2
    refine copS o Hf2 Fr m2 S2 H2 v w (.bl k) y y2 _ s2 (Rep.mono e2 p2 _ _ r1) r2 (show (cmpV S2 o v w).map Val.bl = some (.bl k) by rw [hc]; rfl) fun x' H3 Hf3 m3 e3 p3 s3 r3 => ?_
    cases r3
    refine ⟨k, rfl, ?_⟩
    cases k with
    | false => exact q2 _ H3 Hf3 m3 e3 p3 s3 rfl
    | true =>
      refine ⟨Hf3, Fr, m3, S2, ρ, s3, ((er.mono e1 p1).mono e2 p2).mono e3 p3, QR.bind (f := fun u S3 => R.of ((cmpV S3 o' w u).map Val.bl) S3) (QR.mono (r := (evalE Φ c ρ S2).bind fun u S3 => R.of ((cmpV S3 o' w u).map Val.bl) S3) q2 e3 p3) fun u S3 y3 H4 Hf4 m4 e4 p4 s4 r4 q4 => ?_⟩
      obtain ⟨z, hz, g⟩ := QE.ofS q4
      exact copS o' Hf4 Fr m4 S3 H4 w u z y2 y3 Q s4 (Rep.mono e4 p4 _ _ (Rep.mono e3 p3 _ _ r2)) r4 hz g
theorem sn_chain {o o' : Cop} {a b c : E} {xa xb xc : Expr} {pos : Pos} (hu : X.A.units + 65 < cLine) (ha : PE X xa ((tI X.K cl Y Φ) a)) (hb : PE X xb ((tI X.K cl Y Φ) b)) (hc : PE X xc ((tI X.K cl Y Φ) c)) (hm : lastMarks [copOf o, copOf o'] [xb, xc] = false) :
    PE X (.Compare xa [copOf o, copOf o'] [xb, xc] pos) ((tI X.K cl Y Φ) (.chain o o' a b c)) :=
  PE.of (pe_chain (cop_ok hu o) (cop_ok hu o') ha hb hc hm) chain_of
theorem st_chain {o o' : Cop} {a b c : E} {xa xb xc : Expr} {pos : Pos} (hu : X.A.units + 65 < cLine) (ha : PE X xa ((tI X.K cl Y Φ) a)) (hb : PE X xb ((tI X.K cl Y Φ) b)) (hc : PE X xc ((tI X.K cl Y Φ) c)) (hm : lastMarks [copOf o, copOf o'] [xb, xc] = false) :
    PT X (.Compare xa [copOf o, copOf o'] [xb, xc] pos) ((tTs X.K cl Y Φ) (.chain o o' a b c)) :=
  PT.of (pt_chain (cop_ok hu o) (cop_ok hu o') ha hb hc hm) fun σ H Q h => chain_of σ H _ (test_of h)
/-! slices -/
def tOs (K : PySem.W.Frag) (cl : Str → Value) (Y : L2.St → XK) (Φ : Option Bool → Nat → List Val → Store → R Val) (e : E) : TO := fun σ H Q => ∃ Hf Fr m S ρ, Sim K Hf Fr m S H ∧ EnvR K Hf m ρ σ ∧ QR K cl (Y σ) (fun _ _ (a x : Option Int) => a = x) Hf Fr m Q (evalO Φ e ρ S)
theorem PO.of {e : Option Expr} {t t' : TO} (h : PO X e t) (i : ∀ σ H Q, t' σ H Q → t σ H Q) : PO X e t' := ⟨fun pins s σ H Q I hq => h.run pins s σ H Q I (i σ H Q hq)⟩
theorem so_none : PO X none (tOs X.K cl Y Φ .nil) := PO.of po_none fun σ H Q ⟨Hf, Fr, m, S, ρ, s, er, q⟩ => q none H Hf m (Evl.Ex.refl _) (List.prefix_refl _) s rfl
theorem so_some {e : E} {x : Expr} (h : PE X x ((tI X.K cl Y Φ) e)) : PO X (some x) (tOs X.K cl Y Φ (.part e)) := PO.of (po_some h) fun σ H Q ⟨Hf, Fr, m, S, ρ, s, er, q⟩ =>
  ⟨Hf, Fr, m, S, ρ, s, er, QR.bind (f := fun v S1 => match v with
    | Val.int i => R.ok (some i) S1
    | _ => .bad) q fun v S1 y H1 Hf1 m1 e1 p1 s1 r1 q1 => by
      cases v with
      | int i =>
        cases r1
        exact ⟨i, rfl, q1 (some i) H1 Hf1 m1 (Evl.Ex.refl _) (List.prefix_refl _) s1 rfl⟩
      | _ => exact q1.elim⟩
theorem sn_sl {a lo hi : E} {xa : Expr} {xl xh : Option Expr} {p2 pos : Pos} (ha : PE X xa ((tI X.K cl Y Φ) a)) (hl : PO X xl (tOs X.K cl Y Φ lo)) (hh : PO X xh (tOs X.K cl Y Φ hi)) : PE X (.Subscript xa (.Slice xl xh none p2) pos) ((tI X.K cl Y Φ) (.sl a lo hi)) :=
  PE.of (pe_slice sl_A ha hl hh) fun σ H Q ⟨Hf, Fr, m, S, ρ, s, er, q⟩ =>
    ⟨Hf, Fr, m, S, ρ, s, er, QR.bind (f := fun v S1 => (evalO Φ lo ρ S1).bind fun l S2 => (evalO Φ hi ρ S2).bind fun h S3 => R.of (sliceV S3 v l h) S3) q fun v S1 y H1 Hf1 m1 e1 p1 s1 r1 q1 =>
      ⟨Hf1, Fr, m1, S1, ρ, s1, er.mono e1 p1, QR.bind (f := fun l S2 => (evalO Φ hi ρ S2).bind fun h S3 => R.of (sliceV S3 v l h) S3) q1 fun l S2 l' H2 Hf2 m2 e2 p2 s2 r2 q2 =>
        ⟨Hf2, Fr, m2, S2, ρ, s2, (er.mono e1 p1).mono e2 p2, QR.bind (f := fun h S3 => R.of (sliceV S3 v l h) S3) q2 fun h S3 h' H3 Hf3 m3 e3 p3 s3 r3 q3 => by
          cases r2
          cases r3
          obtain ⟨z, hz, g⟩ := QE.ofS q3
          exact slS s3 (Rep.mono e3 p3 _ _ (Rep.mono e2 p2 _ _ r1)) hz g⟩⟩⟩
end
end Iv
/-! Iv5: built-ins, walks, comprehensions, calls. -/
namespace Iv
open PySem PySem.Spec PyProof.Rows L2
open Evl (Ex ex_l ex_t)
/-- a call of a built-in told by f -/
def CallS (K : PySem.W.Frag) (r : List V → Hp → VK → Prop) (f : Store → List Val → Option Val) : Prop := ∀ (Hf Fr : Hp) (m : List Addr) (S : Store) (H : Hp) (vs : List Val) (z : Val) (xs : List V) (Q : VK), Sim K Hf Fr m S H → Reps K Hf m vs xs → f S vs = some z →
  Give K Hf Fr m S z Q → r xs H Q
section
variable {K : PySem.W.Frag}
def rLenA (K : PySem.W.Frag) : List V → Hp → VK → Prop := fun xs H Q => (∃ p ys, xs = [.ref p] ∧ (SqL K H p ys ∨ SqT K H p ys) ∧ Q (.int ys.length) H) ∨ (∃ z, xs = [.str z] ∧ z.length ≤ sizeLine ∧ Q (.int z.length) H)
theorem blt_one {S : Store} {f : Blt} {vs : List Val} {z : Val} (hf : f ≠ .max2 ∧ f ≠ .min2) (h : bltV S f vs = some z) : ∃ v, vs = [v] := by
  cases vs with
  | nil => cases f <;> cases h
  | cons v r =>
    cases r with
    | nil => exact ⟨v, rfl⟩
    | cons w t =>
      cases f
      case max2 => exact absurd rfl hf.1
      case min2 => exact absurd rfl hf.2
      all_goals (cases v <;> cases h)
theorem callS_len : CallS K (rLenA K) (fun S vs => bltV S .len vs) := by
  intro Hf Fr m S H vs z xs Q s r e q
  obtain ⟨v, rfl⟩ := blt_one (by decide) e
  obtain ⟨x, t, rfl, r1, r2⟩ := r
  cases r2
  have key : ∀ ws, items S v = some ws → z = .int ws.length → rLenA K [x] H Q := fun ws h1 h2 => by
    obtain ⟨a, ys, rfl, h3, h4⟩ := Rep.seqAt s r1 h1
    subst h2
    rw [h4.length] at q
    exact .inl ⟨a, ys, rfl, h3, q.at s rfl⟩
  have gen : (match items S v with
    | some ws => some (Val.int ws.length)
    | none => none) = some z → rLenA K [x] H Q := fun h => by
    cases h1 : items S v with
    | none => rw [h1] at h; cases h
    | some ws =>
      rw [h1] at h
      cases h
      exact key ws h1 rfl
  cases v with
  | str a =>
    cases r1
    have e' : (if a.length ≤ lim then some (Val.int a.length) else none) = some z := e
    by_cases c : a.length ≤ lim
    · rw [if_pos c] at e'
      cases e'
      exact .inr ⟨a, rfl, sz c, q.at s rfl⟩
    · rw [if_neg c] at e'
      cases e'
  | non => exact gen e
  | bl _ => exact gen e
  | int _ => exact gen e
  | tup _ => exact gen e
  | lst _ => exact gen e
  | dct _ _ _ => exact gen e
  | exc _ => exact gen e
  | loc _ => exact gen e
theorem callS_abs : CallS K (fun xs H Q => ∃ i, xs = [.int i] ∧ Q (.int (if i < 0 then -i else i)) H) (fun S vs => bltV S .abs vs) := by
  intro Hf Fr m S H vs z xs Q s r e q
  obtain ⟨v, rfl⟩ := blt_one (by decide) e
  obtain ⟨x, t, rfl, r1, r2⟩ := r
  cases r2
  cases v with
  | int i =>
    cases r1
    cases e
    exact ⟨i, rfl, q.at s rfl⟩
  | _ => cases e
theorem blt_two {S : Store} {f : Blt} {vs : List Val} {z : Val} (hf : f = .max2 ∨ f = .min2) (h : bltV S f vs = some z) : ∃ i j, vs = [.int i, .int j] := by
  cases vs with
  | nil => rcases hf with rfl | rfl <;> cases h
  | cons v r =>
    cases r with
    | nil => rcases hf with rfl | rfl <;> cases v <;> cases h
    | cons w t =>
      cases t with
      | cons _ _ => rcases hf with rfl | rfl <;> cases v <;> cases w <;> cases h
      | nil =>
        cases v with
        | int i =>
          cases w with
          | int j => exact ⟨i, j, rfl⟩
          | _ => rcases hf with rfl | rfl <;> cases h
        | _ => rcases hf with rfl | rfl <;> cases h
theorem callS_max2 : CallS K (fun xs H Q => ∃ i j, xs = [.int i, .int j] ∧ Q (.int (if j > i then j else i)) H) (fun S vs => bltV S .max2 vs) := by
  intro Hf Fr m S H vs z xs Q s r e q
  obtain ⟨i, j, rfl⟩ := blt_two (.inl rfl) e
  obtain ⟨x, t, rfl, r1, x2, t2, rfl, r3, r4⟩ := r
  cases r4
  cases r1
  cases r3
  cases e
  exact ⟨i, j, rfl, q.at s rfl⟩
theorem callS_min2 : CallS K (fun xs H Q => ∃ i j, xs = [.int i, .int j] ∧ Q (.int (if j < i then j else i)) H) (fun S vs => bltV S .min2 vs) := by
  intro Hf Fr m S H vs z xs Q s r e q
  obtain ⟨i, j, rfl⟩ := blt_two (.inr rfl) e
  obtain ⟨x, t, rfl, r1, x2, t2, rfl, r3, r4⟩ := r
  cases r4
  cases r1
  cases r3
  cases e
  exact ⟨i, j, rfl, q.at s rfl⟩
end
section
variable {X : Cx} {cl : Str → Value} {Y : L2.St → XK} {Z : XK} {Φ : Option Bool → Nat → List Val → Store → R Val}
theorem blt_of {r : List V → Hp → VK → Prop} {f : Blt} (hf : CallS X.K r (fun S vs => bltV S f vs)) {es : E} (σ : L2.St) (H : Hp) (Q : VK) (h : (tI X.K cl Y Φ) (.blt f es) σ H Q) : tCB r ((tAs X.K cl Y Φ) es) σ H Q := by
  obtain ⟨Hf, Fr, m, S, ρ, s, er, q⟩ := h
  refine ⟨Hf, Fr, m, S, ρ, s, er, QR.bind (f := fun vs S1 => R.of (bltV S1 f vs) S1) q fun vs S1 xs H1 Hf1 m1 e1 p1 s1 r1 q1 => ?_⟩
  obtain ⟨z, hz, g⟩ := QE.ofS q1
  exact hf Hf1 Fr m1 S1 H1 vs z xs Q s1 r1 hz g
/-- isinstance(a, T) -/
theorem sn_isi {a : E} {T : String} {xa : Expr} {xT : Str} {p p2 pos : Pos} (hT : T = "int" ∨ T = "bool" ∨ T = "str" ∨ T = "tuple" ∨ T = "list" ∨ T = "dict") (ha : PE X xa ((tI X.K cl Y Φ) a)) (hg : Gl X "isinstance") (hm : X.mg "isinstance" = none)
    (hgT : Gl X xT) (hmT : X.mg xT = none) (hbT : bootBuiltins xT = some (.type T)) (hnT : xT ≠ "__name__") (hdT : (xT == ("__debug__" : Str)) = false) (hs : starEach (xa :: [.Name xT p2]) X.env = (false, eval xa X.env) :: starEach [.Name xT p2] X.env) :
    PE X (.Call (.Name "isinstance" p) [xa, .Name xT p2] [] pos) ((tI X.K cl Y Φ) (.isi a T)) := by
  have hb : PE X (.Name xT p2) (tC (.ty T)) := pe_bltn (v := .ty T) hgT hmT hbT rfl hnT hdT
  refine PE.of (pe_callB call_isi hg hm (by decide +kernel) (pa_cons ha (pa_cons hb pa_nil) hs) (by decide) (by decide) hs rfl) fun σ H Q ⟨Hf, Fr, m, S, ρ, s, er, q⟩ => ?_
  refine ⟨Hf, Fr, m, S, ρ, s, er, QR.bind (f := fun v S1 => R.of ((isT S1 T v).map Val.bl) S1) q fun v S1 y H1 Hf1 m1 e1 p1 s1 r1 q1 => ?_⟩
  obtain ⟨z, hz, g⟩ := QE.ofS q1
  obtain ⟨k, hk, rfl⟩ := map_bl hz
  obtain ⟨t, h1, h2⟩ := tyX s1 r1 hT hk
  exact ⟨y, .ty T, .type t, .type T, k, rfl, .ty T, h1, kit_ty h2, g.at s1 rfl⟩
/-- xs.append(e) -/
theorem sn_append {o e : E} {xo xe : Expr} {apos cpos : Pos} (ho : PE X xo ((tI X.K cl Y Φ) o)) (he : PE X xe ((tI X.K cl Y Φ) e)) (hbase : attributeBase xo "append" X.env (eval xo X.env) = eval xo X.env)
    (hs : starEach (xe :: []) X.env = (false, eval xe X.env) :: starEach [] X.env) (hline : (apos.endLine == cpos.line) = true) :
    PE X (.Call (.Attribute xo "append" apos) [xe] [] cpos) ((tI X.K cl Y Φ) (.mth .append o (.cons e .nil))) := by
  refine PE.of (pe_bm PySem.F.plainAttrs_list PySem.F.slot_list_append PySem.F.type_list_append mt_append ho (sa_cons (r := .nil) he sa_nil hs) hbase (by rw [hs]; rfl) hline hs rfl) fun σ H Q ⟨Hf, Fr, m, S, ρ, s, er, q⟩ => ?_
  refine ⟨Hf, Fr, m, S, ρ, s, er, QR.bind (f := fun v S1 => if rcv S1 .append v then (evalA Φ (.cons e .nil) ρ S1).bind fun vs S2 => mthV .append v vs S2 else .bad) q fun v S1 y H1 Hf1 m1 e1 p1 s1 r1 q1 => ?_⟩
  cases v with
  | loc n =>
    cases q0 : S1[n]? with
    | none =>
      have : rcv S1 .append (.loc n) = false := by
        show (match S1[n]? with
          | some (.lst _) => true
          | _ => false) = false
        rw [q0]
      rw [this] at q1
      exact q1.elim
    | some ob =>
      cases ob with
      | lst ws =>
        have hr : rcv S1 .append (.loc n) = true := by
          show (match S1[n]? with
            | some (.lst _) => true
            | _ => false) = true
          rw [q0]
        rw [hr] at q1
        obtain ⟨a, xs, rfl, hm, h3, h4⟩ := Rep.locAt s1 r1 q0
        refine ⟨.inl ⟨rfl, xs, SqL.of h3⟩, Hf1, Fr, m1, S1, ρ, s1, er.mono e1 p1, QR.bind (f := fun vs S2 => mthV .append (.loc n) vs S2) q1 fun vs S2 ys H2 Hf2 m2 e2 p2 s2 r2 q2 => ?_⟩
        have hm2 : m2[n]? = some a := pre_get p2 hm
        cases vs with
        | nil => exact q2.elim
        | cons v t =>
          cases t with
          | cons _ _ => exact q2.elim
          | nil =>
            have q3 : QE X.K cl (Y σ) Hf2 Fr m2 Q (match S2[n]? with
              | some (.lst xs) => if xs.length < lim then .ok .non (S2.set n (.lst (xs ++ [v]))) else .bad
              | _ => .bad) := q2
            cases q4 : S2[n]? with
            | none => rw [q4] at q3; exact q3.elim
            | some ob =>
              cases ob with
              | lst us =>
                rw [q4] at q3
                have q5 : QE X.K cl (Y σ) Hf2 Fr m2 Q (if us.length < lim then .ok .non (S2.set n (.lst (us ++ [v]))) else .bad) := q3
                obtain ⟨zs, h5, h6⟩ := s2.obj n a _ hm2 q4
                obtain ⟨x1, t1, rfl, r3, r4⟩ := r2
                cases r4
                by_cases c : us.length < lim
                · rw [if_pos c] at q5
                  exact ⟨a, zs, x1, rfl, rfl, h5, sz' (by rw [← h6.length]; exact c), q5 _ _ Hf2 m2 (Evl.Ex.refl _) (List.prefix_refl _) (s2.write hm2 (h6.snoc r3)) rfl⟩
                · rw [if_neg c] at q5
                  exact q5.elim
              | dct _ _ _ _ => rw [q4] at q3; exact q3.elim
              | ins _ _ _ => rw [q4] at q3; exact q3.elim
      | ins _ _ _ =>
        have : rcv S1 .append (.loc n) = false := by
          show (match S1[n]? with
            | some (.lst _) => true
            | _ => false) = false
          rw [q0]
        rw [this] at q1
        exact q1.elim
      | dct _ _ _ _ =>
        have : rcv S1 .append (.loc n) = false := by
          show (match S1[n]? with
            | some (.lst _) => true
            | _ => false) = false
          rw [q0]
        rw [this] at q1
        exact q1.elim
  | lst _ => exact q1.elim
  | dct _ _ _ => exact q1.elim
  | exc _ => exact q1.elim
  | non => exact q1.elim
  | bl _ => exact q1.elim
  | int _ => exact q1.elim
  | str _ => exact q1.elim
  | tup _ => exact q1.elim
end
/-! ### targets -/
def gNames : List Nat → TGs
  | [] => gNil
  | i :: r => gCons (gName i) (gNames r)
def gI (K : PySem.W.Frag) : Tg → TG
  | .nm i => gName i
  | .tp is => gTup K is.length (gNames is)
def Tg.slots : Tg → List Nat
  | .nm i => [i]
  | .tp is => is
theorem gNames_ok {K : PySem.W.Frag} {Hf : Hp} {m : List Addr} {H : Hp} {Q : L2.St → Hp → Prop} : ∀ (is : List Nat) (vs : List Val) (xs : List V) (ρ : Env) (σ : L2.St), is.length = vs.length → EnvR K Hf m ρ σ → Reps K Hf m vs xs →
    (∀ σ', EnvR K Hf m ((is.zip vs).foldl (fun ρ p => ρ.set p.1 (some p.2)) ρ) σ' → (∀ j, j ∉ is → σ'[j]? = σ[j]?) → Q σ' H) → gNames is xs σ H Q
  | [], vs, xs, ρ, σ, hl, r, rs, k => by
    have e : vs = [] := List.eq_nil_of_length_eq_zero hl.symm
    subst e
    cases rs
    exact ⟨rfl, k σ r fun _ _ => rfl⟩
  | i :: is, vs, xs, ρ, σ, hl, r, rs, k => by
    cases vs with
    | nil => cases hl
    | cons v vs =>
      obtain ⟨x, t, rfl, r1, r2⟩ := rs
      refine ⟨x, t, rfl, ?_⟩
      refine gNames_ok is vs t (ρ.set i (some v)) (σ.set i (some x)) (Nat.succ.inj hl) (r.set i r1) r2 fun σ' h1 h2 => k σ' h1 fun j hj => ?_
      rw [h2 j fun z => hj (List.mem_cons_of_mem _ z)]
      exact List.getElem?_set_ne (fun z => hj (by rw [z]; exact List.mem_cons_self))
theorem gI_ok {K : PySem.W.Frag} {Hf Fr : Hp} {m : List Addr} {S : Store} {H : Hp} {Q : L2.St → Hp → Prop} {g : Tg} {ρ ρ' : Env} {σ : L2.St} {v : Val} {x : V} (h : setTg ρ g v = some ρ') (s : Sim K Hf Fr m S H) (r : EnvR K Hf m ρ σ) (rx : Rep K Hf m v x)
    (k : ∀ σ', EnvR K Hf m ρ' σ' → (∀ j, j ∉ g.slots → σ'[j]? = σ[j]?) → Q σ' H) : gI K g x σ H Q := by
  cases g with
  | nm i =>
    cases h
    exact k _ (r.set i rx) fun j hj => List.getElem?_set_ne (fun z => hj (by rw [z]; exact List.mem_singleton.mpr rfl))
  | tp is =>
    cases v with
    | tup vs =>
      have h' : (if is.length = vs.length then some ((is.zip vs).foldl (fun ρ p => ρ.set p.1 (some p.2)) ρ) else none) = some ρ' := h
      by_cases c : is.length = vs.length
      · rw [if_pos c] at h'
        cases h'
        obtain ⟨a, xs, rfl, h1, h2⟩ := Rep.tupAt s rx
        exact ⟨a, xs, rfl, h1, by rw [c, h2.length], gNames_ok is vs xs ρ σ c r h2 k⟩
      · rw [if_neg c] at h'
        cases h'
    | _ => cases h
/-! ### walks -/
theorem walkV_list {K : PySem.W.Frag} {Hf : Hp} {m : List Addr} {a : Addr} {vs : List Val} {xs : List V} (h : SqL K Hf a xs) (r : Reps K Hf m vs xs) : WalkV K Hf m (Itl K a) vs := by
  have w := walk_list (K := K) (a := a) (xs := xs)
  have hl := r.length
  refine ⟨fun i H hi e => w.goes i H (by omega) (ex_l e h), fun H e => by rw [hl]; exact w.stops H (ex_l e h), fun i H x H' hi e y => ?_⟩
  obtain ⟨h1, h2⟩ := w.yields i H x H' (by omega) (ex_l e h) y
  obtain ⟨v, h3, h4⟩ := r.get' h2
  exact ⟨v, h3, .inl ⟨h1, h4⟩⟩
theorem walkV_tup {K : PySem.W.Frag} {Hf : Hp} {m : List Addr} {a : Addr} {vs : List Val} {xs : List V} (h : SqT K Hf a xs) (r : Reps K Hf m vs xs) : WalkV K Hf m (Itt K a) vs := by
  have w := walk_tup (K := K) (a := a) (xs := xs)
  have hl := r.length
  refine ⟨fun i H hi e => w.goes i H (by omega) (ex_t e h), fun H e => by rw [hl]; exact w.stops H (ex_t e h), fun i H x H' hi e y => ?_⟩
  obtain ⟨h1, h2⟩ := w.yields i H x H' (by omega) (ex_t e h) y
  obtain ⟨v, h3, h4⟩ := r.get' h2
  exact ⟨v, h3, .inl ⟨h1, h4⟩⟩
theorem rangeV_len (lo : Int) : ∀ n, (rangeV lo n).length = n := by
  intro n
  induction n generalizing lo with
  | zero => rfl
  | succ n ih => show (rangeV (lo + 1) n).length + 1 = n + 1; rw [ih]
theorem rangeV_get (lo : Int) : ∀ (n i : Nat), i < n → (rangeV lo n)[i]? = some (.int (lo + i)) := by
  intro n
  induction n generalizing lo with
  | zero => intro i hi; omega
  | succ n ih =>
    intro i hi
    cases i with
    | zero => show some (Val.int lo) = some (Val.int (lo + ((0 : Nat) : Int))); rw [Int.natCast_zero, Int.add_zero]
    | succ i =>
      show (rangeV (lo + 1) n)[i]? = _
      rw [ih (lo + 1) i (by omega)]
      congr 2
      omega
theorem walkV_range {K : PySem.W.Frag} {Hf : Hp} {m : List Addr} {lo : Int} {n : Nat} : WalkV K Hf m (Itr lo n) (rangeV lo n) := by
  have w := walk_range (lo := lo) (n := n)
  have hl := rangeV_len lo n
  refine ⟨fun i H hi e => w.goes i H (by omega) trivial, fun H e => by rw [hl]; exact w.stops H trivial, fun i H x H' hi e y => ?_⟩
  obtain ⟨h1, h2⟩ := w.yields i H x H' (by omega) trivial y
  exact ⟨_, rangeV_get lo n i (by omega), .inl ⟨h1, h2⟩⟩
theorem pairs_len : ∀ (vs : List Val) (k : Nat), (pairs k vs).length = vs.length
  | [], _ => rfl
  | v :: vs, k => by show (pairs (k + 1) vs).length + 1 = vs.length + 1; rw [pairs_len vs (k + 1)]
theorem pairs_get : ∀ (vs : List Val) (k i : Nat) (v : Val), vs[i]? = some v → (pairs k vs)[i]? = some (.tup [.int ((k + i : Nat) : Int), v])
  | [], _, _, _, h => by simp at h
  | w :: vs, k, 0, v, h => by
    have e : w = v := by simpa using h
    subst e
    rfl
  | w :: vs, k, i + 1, v, h => by
    show (pairs (k + 1) vs)[i]? = _
    rw [pairs_get vs (k + 1) i v (by simpa using h)]
    congr 4
    omega
theorem zipV_len : ∀ (vs ws : List Val), (zipV vs ws).length = min vs.length ws.length
  | [], _ => by simp [zipV]
  | _ :: _, [] => by simp [zipV]
  | a :: vs, b :: ws => by
    show (zipV vs ws).length + 1 = _
    rw [zipV_len vs ws, List.length_cons, List.length_cons]
    omega
theorem zipV_get : ∀ (vs ws : List Val) (i : Nat) (v w : Val), vs[i]? = some v → ws[i]? = some w → (zipV vs ws)[i]? = some (.tup [v, w])
  | [], _, _, _, _, h, _ => by simp at h
  | _ :: _, [], _, _, _, _, h => by simp at h
  | a :: vs, b :: ws, 0, v, w, h, h2 => by
    have e : a = v := by simpa using h
    have e2 : b = w := by simpa using h2
    subst e e2
    rfl
  | a :: vs, b :: ws, i + 1, v, w, h, h2 => zipV_get vs ws i v w (by simpa using h) (by simpa using h2)
theorem walkV_enum {K : PySem.W.Frag} {Hf : Hp} {m : List Addr} {a : Addr} {vs : List Val} {xs : List V} (h : SqL K Hf a xs) (r : Reps K Hf m vs xs) : WalkV K Hf m (Ite K a) (pairs 0 vs) := by
  have w := walk_enum (K := K) (a := a) (xs := xs)
  have hl := r.length
  have hp := pairs_len vs 0
  refine ⟨fun i H hi e => w.goes i H (by omega) (ex_l e h), fun H e => by rw [hp, hl]; exact w.stops H (ex_l e h), fun i H x H' hi e y => ?_⟩
  obtain ⟨T, x1, x2, h1, h2, h3, h4, h5⟩ := w.yields i H x H' (by omega) (ex_l e h) y
  obtain ⟨v, h6, h7⟩ := r.get' h5
  have e1 : V.int (i : Nat) = x1 := Option.some.inj h4
  subst e1
  exact ⟨_, pairs_get vs 0 i v h6, .inr ⟨T, _, _, _, _, rfl, h1, h2, h3, (show V.int (i : Nat) = V.int ((0 + i : Nat) : Int) by rw [Nat.zero_add]), h7⟩⟩
theorem walkV_zip {K : PySem.W.Frag} {Hf : Hp} {m : List Addr} {a b : Addr} {vs ws : List Val} {xs ys : List V} (h : SqL K Hf a xs) (r : Reps K Hf m vs xs) (h' : SqL K Hf b ys) (r' : Reps K Hf m ws ys) : WalkV K Hf m (Itz K a b) (zipV vs ws) := by
  have hl := r.length
  have hl' := r'.length
  have hp := zipV_len vs ws
  have w := walk_zip (K := K) (a := a) (b := b) (xs := xs) (ys := ys) (n := (zipV vs ws).length) (by omega)
  refine ⟨fun i H hi e => w.goes i H hi ⟨ex_l e h, ex_l e h'⟩, fun H e => w.stops H ⟨ex_l e h, ex_l e h'⟩, fun i H x H' hi e y => ?_⟩
  obtain ⟨T, x1, x2, h1, h2, h3, h4, h5⟩ := w.yields i H x H' hi ⟨ex_l e h, ex_l e h'⟩ y
  obtain ⟨v, h6, h7⟩ := r.get' h4
  obtain ⟨v2, h8, h9⟩ := r'.get' h5
  exact ⟨_, zipV_get vs ws i v v2 h6 h8, .inr ⟨T, _, _, _, _, rfl, h1, h2, h3, h7, h9⟩⟩
theorem walkV_zipT {K : PySem.W.Frag} {Hf : Hp} {m : List Addr} {a b : Addr} {vs ws : List Val} {xs ys : List V} (h : SqT K Hf a xs) (r : Reps K Hf m vs xs) (h' : SqT K Hf b ys) (r' : Reps K Hf m ws ys) : WalkV K Hf m (RZ.ItzT K a b) (zipV vs ws) := by
  have hl := r.length
  have hl' := r'.length
  have hp := zipV_len vs ws
  refine ⟨fun i H hi e => ?_, fun H e => ⟨xs, ys, ex_t e h, ex_t e h', by omega⟩, fun i H x H' hi e y => ?_⟩
  · have h1 : i < xs.length := by omega
    have h2 : i < ys.length := by omega
    exact ⟨xs, ys, xs[i], ys[i], ex_t e h, ex_t e h', List.getElem?_eq_getElem h1, List.getElem?_eq_getElem h2⟩
  · obtain ⟨T, x1, x2, h1, h2, h3, h4, h5⟩ := y
    obtain ⟨v, h6, h7⟩ := r.get' (h4 xs (ex_t e h))
    obtain ⟨v2, h8, h9⟩ := r'.get' (h5 ys (ex_t e h'))
    exact ⟨_, zipV_get vs ws i v v2 h6 h8, .inr ⟨T, _, _, _, _, rfl, h1, h2, h3, h7, h9⟩⟩
/-- one turn of a walk -/
theorem WalkV.step {K : PySem.W.Frag} {Hf0 Hf Fr : Hp} {m0 m : List Addr} {S : Store} {J : It} {xs : List Val} (w : WalkV K Hf0 m0 J xs) (e0 : Ex Hf0 Hf) (p0 : m0 <+: m) {H H' : Hp} {i : Nat} {x : V} (s : Sim K Hf Fr m S H) (hi : i < xs.length) (y : J.yld i H x H') :
    ∃ v Hf', xs[i]? = some v ∧ Ex Hf Hf' ∧ Sim K Hf' Fr m S H' ∧ Rep K Hf' m v x := by
  obtain ⟨v, h1, h2⟩ := w.yields i H x H' hi (e0.trans s.exf) y
  rcases h2 with ⟨rfl, h2⟩ | ⟨T, a, b, xa, xb, rfl, rfl, h3, rfl, h4, h5⟩
  · exact ⟨v, Hf, h1, Evl.Ex.refl _, s, Rep.mono e0 p0 _ _ h2⟩
  · have ex := Evl.Ex.new (o := HO.tup [xa, xb]) (none_of s.exf h3)
    exact ⟨_, upd Hf T (.tup [xa, xb]), h1, ex, s.newF h3, T, [xa, xb], rfl, SqT.of upd_same, .cons (Rep.mono (e0.trans ex) p0 _ _ h4) (.cons (Rep.mono (e0.trans ex) p0 _ _ h5) .nil)⟩
end Iv
/-! Iv5z: zip of a list and a tuple, enumerate of a tuple (over the library's iterators of any kind). -/
namespace IvK
open PySem PySem.Spec PyProof.Rows L2
/-- lists (false) or tuples (true) -/
def SqK (k : Bool) (K : PySem.W.Frag) (H : Hp) (a : Addr) (xs : List V) : Prop := if k then SqT K H a xs else SqL K H a xs
def seqOf (k : Bool) (h : Heap) (a : Addr) (its : Array Value) : Prop := if k then h.IsTuple a its else h.IsList a its
def iterOf (k : Bool) (h : Heap) (it a : Addr) (i : Nat) : Prop := if k then h.IsTupleIter it a i else h.IsListIter it a i
def newIt (k : Bool) (a : Addr) : PySem.Obj := if k then { cls := .type "tuple_iterator", data := .fields #[.ref a, .int 0 0] } else { cls := .type "list_iterator", data := .fields #[.ref a, .int 0 0] }
theorem seq_inv {X : Cx} {pins : List (Addr × PySem.Obj)} {σ : L2.St} {H : Hp} {s : Shared} {k : Bool} {a : Addr} {xs : List V} (I : Inv X pins σ H s) (h : SqK k X.K H a xs) : ∃ its : List Value, Vals xs its ∧ seqOf k s.heap a its.toArray ∧ xs.length ≤ sizeLine ∧ a < s.heap.objs.size := by
  cases k with
  | false =>
    obtain ⟨its, rv, p, z⟩ := I.list h
    exact ⟨its, rv, p.isList, z, p.lt⟩
  | true =>
    obtain ⟨its, rv, p, z⟩ := I.tuple h
    obtain ⟨o, ho, _⟩ := id p
    exact ⟨its, rv, p, z, Heap.lt_size ho⟩
theorem seq_inj {X : Cx} {pins : List (Addr × PySem.Obj)} {σ : L2.St} {H : Hp} {s : Shared} {k : Bool} {a : Addr} {xs ys : List V} (I : Inv X pins σ H s) (h : SqK k X.K H a xs) (h' : SqK k X.K H a ys) : xs = ys := by
  cases k with
  | false => exact I.list_inj h h'
  | true => exact I.tuple_inj h h'
theorem draws_k {prog : Program} {w : World} {A : Around} (hh : A.handled = none) (k : Bool) (it l : Addr) (hne : l ≠ it) (items : Array Value) :
    Draws prog w A it [it, l] items.size (fun i v => items[i]? = some v) (fun i h => iterOf k h it l i ∧ seqOf k h l items) := by
  cases k with
  | false => exact Draws.list hh it l hne items
  | true => exact Draws.tuple hh it l hne items
theorem begins_k (k : Bool) (l : Addr) (items : Array Value) : Begins (.ref l) (newIt k l) fun h => seqOf k h l items := by
  cases k with
  | false => exact begins_list l items
  | true => exact begins_tuple l items
theorem iter_obj {k : Bool} {h : Heap} {it a : Addr} {i : Nat} (x : iterOf k h it a i) : ∃ o, h.get? it = some o ∧ ∃ fs, o.data = .fields fs := by
  cases k with
  | false => obtain ⟨o, e, _, d⟩ := x; exact ⟨o, e, _, d⟩
  | true => obtain ⟨o, e, _, d⟩ := x; exact ⟨o, e, _, d⟩
theorem iter_at {k : Bool} {h h' : Heap} {it a : Addr} {i : Nat} (x : iterOf k h it a i) (e : ∀ o, h.get? it = some o → h'.get? it = some o) : iterOf k h' it a i := by
  cases k with
  | false => exact Heap.IsListIter.at x e
  | true => exact Heap.IsTupleIter.at x e
theorem iter_new {k : Bool} {h : Heap} {it a : Addr} (e : h.get? it = some (newIt k a)) : iterOf k h it a 0 := by
  cases k with
  | false => exact ⟨_, e, rfl, rfl⟩
  | true => exact ⟨_, e, rfl, rfl⟩
/-! ### zip -/
def ItzK (K : PySem.W.Frag) (p q : Bool) (a b : Addr) : It :=
  ⟨fun i H => ∃ (xs ys : List V) (x y : V), SqK p K H a xs ∧ SqK q K H b ys ∧ xs[i]? = some x ∧ ys[i]? = some y,
    fun i H v H' => ∃ T x y, v = .ref T ∧ H T = none ∧ H' = upd H T (.tup [x, y]) ∧ (∀ xs, SqK p K H a xs → xs[i]? = some x) ∧ ∀ ys, SqK q K H b ys → ys[i]? = some y,
    fun i H => ∃ xs ys : List V, SqK p K H a xs ∧ SqK q K H b ys ∧ ((xs.length = i ∧ i ≤ ys.length) ∨ (ys.length = i ∧ i ≤ xs.length))⟩
theorem turn_zipK {P : Program} {w : World} {K : PySem.W.Frag} {elts : List Expr} {kk : Nat} {tpos : Pos} {p q : Bool} {a b z TI TO i1 i2 : Addr} (D : ZipApart z TI TO i1 i2 a b) :
    Turn P w K (.Tuple elts kk tpos) (ItzK K p q a b) [z, TI, TO, i1, i2] z (fun i h => IsZip h z TI TO .none ∧ IsTupOf2 h TI (.ref i1) (.ref i2) ∧ (∃ x y, IsTupOf2 h TO x y) ∧ iterOf p h i1 a i ∧ iterOf q h i2 b i) where
  mem := by simp
  obj := fun i h st c hc => by
    obtain ⟨hz, hTI, ⟨x, y, hTO⟩, h1, h2⟩ := st
    obtain ⟨o1, e1, f1, d1⟩ := iter_obj h1
    obtain ⟨o2, e2, f2, d2⟩ := iter_obj h2
    simp only [List.mem_cons, List.not_mem_nil, or_false] at hc
    rcases hc with rfl | rfl | rfl | rfl | rfl
    · exact ⟨_, hz, fun v q => nomatch q⟩
    · exact ⟨_, hTI, fun v q => nomatch q⟩
    · exact ⟨_, hTO, fun v q => nomatch q⟩
    · exact ⟨o1, e1, fun v q => by rw [d1] at q; cases q⟩
    · exact ⟨o2, e2, fun v q => by rw [d2] at q; cases q⟩
  keep := fun i h h' st k => by
    obtain ⟨hz, hTI, ⟨x, y, hTO⟩, h1, h2⟩ := st
    exact ⟨k z (by simp) _ hz, k TI (by simp) _ hTI, ⟨x, y, k TO (by simp) _ hTO⟩, iter_at h1 fun o q => k i1 (by simp) o q, iter_at h2 fun o q => k i2 (by simp) o q⟩
  item := by
    intro X hP hw hK hc i pins s σ H E I hf st hg
    subst hP hw hK
    obtain ⟨hz, hTI, ⟨x0, y0, hTO⟩, h1, h2⟩ := st
    obtain ⟨xs, ys, x, y, hqx, hqy, hx, hy⟩ := hg
    obtain ⟨its, rv, p1, _, _⟩ := seq_inv I hqx
    obtain ⟨its2, rv2, p2, _, _⟩ := seq_inv I hqy
    obtain ⟨u, hu, ru⟩ := rv.get hx
    obtain ⟨u2, hu2, ru2⟩ := rv2.get hy
    have lt1 : i < its.toArray.size := by rw [List.size_toArray]; exact (List.getElem?_eq_some_iff.mp hu).1
    have lt2 : i < its2.toArray.size := by rw [List.size_toArray]; exact (List.getElem?_eq_some_iff.mp hu2).1
    have hzl : z < s.heap.objs.size := Heap.lt_size hz
    have S : ZipSep2 z TI TO i1 i2 [i1, a] [i2, b] :=
      { TIz := D.TIz, TOz := D.TOz, TITO := D.TITO, TIi1 := D.TIi1, TIi2 := D.TIi2, mem1 := by simp, mem2 := by simp
        zf1 := by simp [D.i1z.symm, D.l1z.symm], Tf1 := by simp [D.TOi1, D.l1TO.symm], zf2 := by simp [D.i2z.symm, D.l2z.symm], Tf2 := by simp [D.TOi2, D.l2TO.symm]
        sep1_2 := by simp [D.i12, D.l2i1.symm], sep2_1 := by simp [D.i12.symm, D.l1i2.symm] }
    have hh : X.A.in1.handled = none := I.ok.hd hc
    refine wpAny_pyNext_zipD2_item S (draws_k hh p i1 a D.l1i1 its.toArray) (draws_k hh q i2 b D.l2i2 its2.toArray) hz hTI hTO ⟨h1, p1⟩ ⟨h2, p2⟩ lt1 lt2 fun x1 x2 h' tk g1 g2 z' TO' st1 st2 hT hsz hk => ?_
    have e1 : u = x1 := by
      have g : its.toArray[i]? = some x1 := g1
      rw [List.getElem?_toArray, hu] at g
      exact Option.some.inj g
    have e2 : u2 = x2 := by
      have g : its2.toArray[i]? = some x2 := g2
      rw [List.getElem?_toArray, hu2] at g
      exact Option.some.inj g
    subst e1
    subst e2
    refine ⟨_, rfl, wpAny_letOwnedTupleGo_zip (s := { s with heap := h', toks := tk }) z' fun h'' z'' sb => ?_⟩
    have hT2 : h''.get? s.heap.objs.size = some { cls := .type "tuple", data := .seq #[u, u2] } := (sb.2 _ (Nat.ne_of_gt hzl)).trans hT
    have new : ObjOk X.prog X.w (upd H s.heap.objs.size (.tup [x, y])) h'' s.heap.objs.size (.tup [x, y]) :=
      ⟨by show 2 ≤ sizeLine; decide, [u, u2], .cons ru (.cons ru2 .nil), ⟨_, hT2, rfl, _, rfl⟩⟩
    have I1 : Inv X pins σ (upd H s.heap.objs.size (.tup [x, y])) { s with heap := h'', toks := tk } :=
      I.turnedNew (t' := tk) (ch := [z, TI, TO, i1, i2]) (fun c o hb q => (sb.2 c (fun q' => hb (by simp [q']))).trans (hk c o (fun q' => hb (by simp [q'])) (fun q' => hb (by simp [q'])) (fun q' => hb (by simp [q'])) (fun q' => hb (by simp [q'])) q)) hf (Nat.le_refl _) new
    refine ⟨.ref s.heap.objs.size, _, I1, rfl, ⟨_, x, y, rfl, I.hok.fresh (Nat.le_refl _), rfl, fun l hl => by rw [seq_inj I hl hqx]; exact hx, fun l hl => by rw [seq_inj I hl hqy]; exact hy⟩, ⟨z'', ?_, ⟨u, u2, ?_⟩, ?_, ?_⟩, fun c hcm => ?_⟩
    · exact (sb.2 _ D.TIz).trans (hk _ _ D.TIz D.TITO D.TIi1 D.TIi2 hTI)
    · exact (sb.2 _ D.TOz).trans TO'
    · exact iter_at st1.1 fun o q => (sb.2 _ D.i1z).trans q
    · exact iter_at st2.1 fun o q => (sb.2 _ D.i2z).trans q
    · have hlt : c < s.heap.objs.size := by
        obtain ⟨o1, e1, _⟩ := iter_obj h1
        obtain ⟨o2, e2, _⟩ := iter_obj h2
        simp only [List.mem_cons, List.not_mem_nil, or_false] at hcm
        rcases hcm with rfl | rfl | rfl | rfl | rfl
        · exact hzl
        · exact Heap.lt_size hTI
        · exact Heap.lt_size hTO
        · exact Heap.lt_size e1
        · exact Heap.lt_size e2
      rw [upd_ne (Nat.ne_of_lt hlt)]
      exact (hf c hcm).1
  done := by
    intro X hP hw hK hc i pins s σ H E I hf st hg
    subst hP hw hK
    obtain ⟨hz, hTI, ⟨x0, y0, hTO⟩, h1, h2⟩ := st
    obtain ⟨xs, ys, hqx, hqy, hend⟩ := hg
    obtain ⟨its, rv, p1, _, _⟩ := seq_inv I hqx
    obtain ⟨its2, rv2, p2, _, _⟩ := seq_inv I hqy
    have l1 : xs.length = its.toArray.size := by rw [List.size_toArray]; exact rv.length
    have l2 : ys.length = its2.toArray.size := by rw [List.size_toArray]; exact rv2.length
    have S : ZipSep2 z TI TO i1 i2 [i1, a] [i2, b] :=
      { TIz := D.TIz, TOz := D.TOz, TITO := D.TITO, TIi1 := D.TIi1, TIi2 := D.TIi2, mem1 := by simp, mem2 := by simp
        zf1 := by simp [D.i1z.symm, D.l1z.symm], Tf1 := by simp [D.TOi1, D.l1TO.symm], zf2 := by simp [D.i2z.symm, D.l2z.symm], Tf2 := by simp [D.TOi2, D.l2TO.symm]
        sep1_2 := by simp [D.i12, D.l2i1.symm], sep2_1 := by simp [D.i12.symm, D.l1i2.symm] }
    have hh : X.A.in1.handled = none := I.ok.hd hc
    exact wpAny_pyNext_zipD2_end S (draws_k hh p i1 a D.l1i1 its.toArray) (draws_k hh q i2 b D.l2i2 its2.toArray) hz hTI hTO ⟨h1, p1⟩ ⟨h2, p2⟩ (by omega) (by omega) (by omega) fun h' tk hk => ⟨rfl, I.turnedL (t' := tk) (ch := [z, TI, TO, i1, i2]) (fun c o hb q =>
      hk c o (fun q' => hb (by simp [q'])) (fun q' => hb (by simp [q'])) (fun q' => hb (by simp [q'])) (fun q' => hb (by simp [q'])) q) hf⟩
  self := fun A i s Q E st h => wpAny_pyIter_zip st.1 h
def iZipK (K : PySem.W.Frag) (ta : TA) : TI := fun σ H R => ta σ H fun vs H1 => ∃ (p q : Bool) (a b : Addr) (xs ys : List V), vs = [.ref a, .ref b] ∧ SqK p K H1 a xs ∧ SqK q K H1 b ys ∧ R (ItzK K p q a b) H1
theorem pi_zipK {X : Cx} {e e2 : Expr} {ta : TA} {p pos tpos : Pos} {elts : List Expr} {kk : Nat} (hg : Gl X "zip") (hm : X.mg "zip" = none) (ha : PA X [e, e2] ta)
    (hs : starEach [e, e2] X.env = (false, eval e X.env) :: starEach [e2] X.env) (hpl : (backTo pos (starEach [e2] X.env)).any (·.1) = false) :
    PI X (.Tuple elts kk tpos) (.Call (.Name "zip" p) [e, e2] [] pos) (iZipK X.K ta) := by
  refine ⟨fun pins s σ H R I h => ?_⟩
  refine Call_ (ld_blt I hg hm PyProof.Rows.boot_zip (PyProof.Rows.callWith_type1 (thn (ha.run pos pins s σ H _ I h) fun us s1 ⟨vs, H1, I1, r1, q1⟩ => ?_) hs hpl))
  obtain ⟨kp, kq, a, b, xs, ys, rfl, hqx, hqy, q⟩ := q1
  obtain ⟨u1, u2, rfl, e1, e2⟩ := vals2 r1
  cases e1
  cases e2
  obtain ⟨its, rv, p1, _, la⟩ := seq_inv I1 hqx
  obtain ⟨its2, rv2, p2, _, lb⟩ := seq_inv I1 hqy
  refine zip_begins2 (begins_k kp a its.toArray) (begins_k kq b its2.toArray) p1 p2 fun h' hz hTI hTO h1 h2 hsz hk => wpAny_pyIter_zip hz ?_
  have I2 : Inv X pins σ H1 { s1 with heap := h' } := I1.kept (t' := s1.toks) hk
  refine ⟨s1.heap.objs.size + 4, [s1.heap.objs.size + 4, s1.heap.objs.size + 2, s1.heap.objs.size + 3, s1.heap.objs.size, s1.heap.objs.size + 1], _, _, H1, rfl, I2, turn_zipK (PySem.W.ktu_apart s1.heap.objs.size a b la lb), ⟨hz, hTI, ⟨_, _, hTO⟩, iter_new h1, iter_new h2⟩, fun c hcm => ?_, q⟩
  have hle : s1.heap.objs.size ≤ c := by
    simp only [List.mem_cons, List.not_mem_nil, or_false] at hcm
    rcases hcm with z | z | z | z | z <;> (rw [z]; first | exact Nat.le_refl _ | exact Nat.le_add_right _ _)
  exact I1.fpOk hle (I1.hok.fresh hle)
/-! ### enumerate -/
set_option maxHeartbeats 1000000 in
theorem meets_enum_new {v : Value} {o : PySem.Obj} {H : Heap → Prop} (B : Begins v o H) :
    Meets (Builtin.«enumerate.__new__» ⟨[.type "enumerate", v], []⟩) (fun _ R s => H s.heap ∧
      R (.ok (.ret (.ref (s.heap.push o).objs.size))) { s with heap := (s.heap.push o).push { cls := .type "enumerate", data := .fields #[.none, .bool false, .ref s.heap.objs.size, rawInt 0, .none, .none] } }) :=
  .of_wp fun prog w A R s h => by
    obtain ⟨hp, g, d, tk, os⟩ := s
    obtain ⟨h1, h⟩ := h
    have hsub := sub_enumerate
    have q1 : ∀ {A' : Around} {E : Value → Shared → Prop} {Q : Value → Shared → Prop}, Q (.ref hp.objs.size) ⟨hp.push o, g, d, tk, os⟩ → wpAny (model prog w) A' (pyIter v) Q E ⟨hp, g, d, tk, os⟩ :=
      fun q => B.iter prog w _ _ ⟨hp, g, d, tk, os⟩ _ h1 q
    wp_walk using q1
    refine wpAny_stack_any fun st => wpAny_pure ?_
    split
    · rename_i c _ _ _ _ _
      cases (c == Value.type "enumerate") <;> (wp_walk using q1; exact ⟨_, rfl, h⟩)
    · wp_walk using q1
      exact ⟨_, rfl, h⟩
theorem call_enum {prog : Program} {w : World} {A : Around} {E : Value → Shared → Prop} {s : Shared} {v : Value} {o : PySem.Obj} {H : Heap → Prop} {Q : Value → Shared → Prop} (B : Begins v o H) (h1 : H s.heap)
    (h : ∀ h', IsEnum h' (s.heap.objs.size + 1) s.heap.objs.size 0 .none → h'.get? s.heap.objs.size = some o → (∀ b o, s.heap.get? b = some o → h'.get? b = some o) → Q (.ref (s.heap.objs.size + 1)) { s with heap := h' }) :
    wpAny (model prog w) A (call (.type "enumerate") [v]) Q E s := by
  refine callType_new F.called_enumerate (by decide) (F.typeCall_enumerate_1 _) (F.newCall_enumerate_1 _) (fun obj => F.args_object_init_2 obj _) F.entry_enumerate_new (meets_enum_new B) ⟨h1, ?_⟩
  have hz : (s.heap.push o).objs.size = s.heap.objs.size + 1 := Heap.size_push ..
  have he := Heap.get?_push_size (s.heap.push o) (o := { cls := .type "enumerate", data := .fields #[.none, .bool false, .ref s.heap.objs.size, rawInt 0, .none, .none] }) rfl
  show _ ∧ _
  rw [hz] at he ⊢
  exact ⟨⟨_, he, rfl⟩, h _ he (Heap.get?_push_of_some _ (Heap.get?_push_size _ B.free)) fun b o x => Heap.get?_push_of_some _ (Heap.get?_push_of_some _ x)⟩
def IteK (K : PySem.W.Frag) (k : Bool) (a : Addr) : It :=
  ⟨fun i H => ∃ (xs : List V) (x : V), SqK k K H a xs ∧ xs[i]? = some x,
    fun i H v H' => ∃ T x, v = .ref T ∧ H T = none ∧ H' = upd H T (.tup [.int (i : Nat), x]) ∧ ∀ xs, SqK k K H a xs → xs[i]? = some x,
    fun i H => ∃ xs : List V, SqK k K H a xs ∧ xs.length = i⟩
theorem turn_enumK {P : Program} {w : World} {K : PySem.W.Frag} {elts : List Expr} {kk : Nat} {tpos : Pos} (k : Bool) (a e it : Addr) (hae : a ≠ e) (hai : a ≠ it) :
    Turn P w K (.Tuple elts kk tpos) (IteK K k a) [e, it] e (fun i h => (∃ old, IsEnum h e it ((i : Nat) : Int) old) ∧ iterOf k h it a i ∧ e ≠ it) where
  mem := by simp
  obj := fun i h st b hb => by
    obtain ⟨⟨old, he⟩, h1, _⟩ := st
    obtain ⟨o, ho, f, hd⟩ := iter_obj h1
    simp only [List.mem_cons, List.not_mem_nil, or_false] at hb
    rcases hb with rfl | rfl
    · exact ⟨_, he, fun v q => nomatch q⟩
    · exact ⟨o, ho, fun v q => by rw [hd] at q; cases q⟩
  keep := fun i h h' st k => let ⟨⟨old, he⟩, hi, hne⟩ := st; ⟨⟨old, k e (by simp) _ he⟩, iter_at hi fun o q => k it (by simp) o q, hne⟩
  item := by
    intro X hP hw hK hc i pins s σ H E I hf st hg
    subst hP hw hK
    obtain ⟨⟨old, he⟩, hit, hne⟩ := st
    obtain ⟨xs, x, hq, hx⟩ := hg
    obtain ⟨its, rv, p1, hz, _⟩ := seq_inv I hq
    obtain ⟨u, hu, ru⟩ := rv.get hx
    have lt1 : i < its.toArray.size := by rw [List.size_toArray]; exact (List.getElem?_eq_some_iff.mp hu).1
    have hel : e < s.heap.objs.size := Heap.lt_size he
    obtain ⟨o1, ho1, _⟩ := iter_obj hit
    have hil : it < s.heap.objs.size := Heap.lt_size ho1
    have hh : X.A.in1.handled = none := I.ok.hd hc
    refine wpAny_pyNext_enum_itemD (draws_k hh k it a hai its.toArray) he ⟨hit, p1⟩ lt1 hne (by simp [hne, hae.symm]) fun x1 h' tk g1 ho st1 hT hsz hk => ?_
    have e1 : u = x1 := by
      have g : its.toArray[i]? = some x1 := g1
      rw [List.getElem?_toArray, hu] at g
      exact Option.some.inj g
    subst e1
    refine ⟨_, rfl, wpAny_letOwnedTupleGo_enum (s := { s with heap := h', toks := tk + 1 }) ho fun h'' he' sb => ?_⟩
    have hT2 : h''.get? s.heap.objs.size = some { cls := .type "tuple", data := .seq #[.int i tk, u] } := (sb.2 _ (Nat.ne_of_gt hel)).trans hT
    have new : ObjOk X.prog X.w (upd H s.heap.objs.size (.tup [.int (i : Nat), x])) h'' s.heap.objs.size (.tup [.int (i : Nat), x]) :=
      ⟨by show 2 ≤ sizeLine; decide, [.int i tk, u], .cons ⟨_, rfl⟩ (.cons ru .nil), ⟨_, hT2, rfl, _, rfl⟩⟩
    have I1 : Inv X pins σ (upd H s.heap.objs.size (.tup [.int (i : Nat), x])) { s with heap := h'', toks := tk + 1 } :=
      I.turnedNew (ch := [e, it]) (fun b ob hb q => (sb.2 b (fun z => hb (by simp [z]))).trans (hk b ob (fun z => hb (by simp [z])) (fun z => hb (by simp [z])) q)) hf (Nat.le_refl _) new
    refine ⟨.ref s.heap.objs.size, _, I1, rfl, ⟨_, x, rfl, I.hok.fresh (Nat.le_refl _), rfl, fun ys hy => by rw [seq_inj I hy hq]; exact hx⟩, ⟨⟨u, ?_⟩, iter_at st1.1 fun o q => (sb.2 it (Ne.symm hne)).trans q, hne⟩, fun b hb => ?_⟩
    · have e1 : ((i + 1 : Nat) : Int) = (i : Int) + 1 := by omega
      rw [e1]
      exact he'
    · have hb' : b < s.heap.objs.size := by
        simp only [List.mem_cons, List.not_mem_nil, or_false] at hb
        rcases hb with rfl | rfl
        · exact hel
        · exact hil
      rw [upd_ne (Nat.ne_of_lt hb')]
      exact (hf b hb).1
  done := by
    intro X hP hw hK hc i pins s σ H E I hf st hg
    subst hP hw hK
    obtain ⟨⟨old, he⟩, hit, hne⟩ := st
    obtain ⟨xs, hq, hx⟩ := hg
    obtain ⟨its, rv, p1, hz, _⟩ := seq_inv I hq
    obtain ⟨f0, f1, f2, f3, f4, f5⟩ := hf it (by simp)
    have hl : its.toArray.size = i := by rw [List.size_toArray, ← rv.length]; exact hx
    have hh : X.A.in1.handled = none := I.ok.hd hc
    have st0 : iterOf k s.heap it a its.toArray.size ∧ seqOf k s.heap a its.toArray := ⟨by rw [hl]; exact hit, p1⟩
    exact wpAny_pyNext_enum_endD (draws_k hh k it a hai its.toArray) he st0 fun h' eb => ⟨rfl, I.turned (t' := s.toks) (fun b o hb q => eb b o hb q) f0 f1 f3 f4 f5⟩
  self := fun A i s Q E st h => let ⟨⟨_, he⟩, _⟩ := st; wpAny_pyIter_enum he h
def iEnumK (K : PySem.W.Frag) (ta : TA) : TI := fun σ H R => ta σ H fun vs H1 => ∃ (k : Bool) (a : Addr) (xs : List V), vs = [.ref a] ∧ SqK k K H1 a xs ∧ R (IteK K k a) H1
theorem pi_enumK {X : Cx} {e : Expr} {ta : TA} {p pos tpos : Pos} {elts : List Expr} {kk : Nat} (hg : Gl X "enumerate") (hm : X.mg "enumerate" = none) (ha : PA X [e] ta) (hs : starEach [e] X.env = [(false, eval e X.env)]) :
    PI X (.Tuple elts kk tpos) (.Call (.Name "enumerate" p) [e] [] pos) (iEnumK X.K ta) := by
  refine ⟨fun pins s σ H R I h => ?_⟩
  refine Call_ (ld_blt I hg hm boot_enumerate (PyProof.Rows.callWith_type1 (thn (ha.run pos pins s σ H _ I h) fun us s1 ⟨vs, H1, I1, r1, q1⟩ => ?_) hs rfl))
  obtain ⟨k, a, xs, rfl, hq, q⟩ := q1
  obtain rfl := Vals.ref1 r1
  obtain ⟨its, rv, p1, hz, la⟩ := seq_inv I1 hq
  refine call_enum (begins_k k a its.toArray) p1 fun h' he h1 hk => wpAny_pyIter_enum he ?_
  have I2 : Inv X pins σ H1 { s1 with heap := h' } := I1.kept (t' := s1.toks) hk
  refine ⟨s1.heap.objs.size + 1, [s1.heap.objs.size + 1, s1.heap.objs.size], _, _, H1, rfl, I2, turn_enumK k a (s1.heap.objs.size + 1) s1.heap.objs.size (Nat.ne_of_lt (Nat.lt_succ_of_lt la)) (Nat.ne_of_lt la), ⟨⟨.none, he⟩, iter_new h1, Nat.succ_ne_self _⟩, fun b hb => ?_, q⟩
  have hle : s1.heap.objs.size ≤ b := by
    simp only [List.mem_cons, List.not_mem_nil, or_false] at hb
    rcases hb with z | z <;> (rw [z]; first | exact Nat.le_refl _ | exact Nat.le_add_right _ _)
  exact I1.fpOk hle (I1.hok.fresh hle)
end IvK
/-! Iv6: iterators, comprehensions. -/
namespace Iv
open PySem PySem.Spec PyProof.Rows L2
open Evl (Ex ex_l ex_t)
section
variable {X : Cx} {cl : Str → Value} {Y : L2.St → XK} {Z : XK} {Φ : Option Bool → Nat → List Val → Store → R Val} {tg : Expr}
theorem kyV_rep {K : PySem.W.Frag} {Hf : Hp} {m : List Addr} (k : Key) : Rep K Hf m (kyV k) (kV k) := by
  cases k with
  | inl i => exact rfl
  | inr s => exact rfl
theorem walkV_keys {K : PySem.W.Frag} {Hf : Hp} {m : List Addr} {d : Addr} {ob : PySem.Obj} {kvs : List (Key × V)} (h : Hf d = some (.frz ob (.dK kvs))) : WalkV K Hf m (Itk d ob kvs) ((kvs.map fun p => [p.1]).map (keyV false)) := by
  have hl : ((kvs.map fun p => [p.1]).map (keyV false)).length = kvs.length := by rw [List.length_map, List.length_map]
  refine ⟨fun i H hi e => ⟨e d _ h, by omega⟩, fun H e => ⟨e d _ h, by omega⟩, fun i H x H' hi e y => ?_⟩
  obtain ⟨h1, k, v, h2, h3⟩ := y
  refine ⟨kyV k, ?_, .inl ⟨h1, by rw [h3]; exact kyV_rep k⟩⟩
  rw [List.getElem?_map, List.getElem?_map, h2]
  rfl
theorem walkV_str {K : PySem.W.Frag} {Hf : Hp} {m : List Addr} (t : Str) : WalkV K Hf m (Its t) (t.cps.toList.map fun c => Val.str ⟨#[c]⟩) := by
  have hl : (t.cps.toList.map fun c => Val.str ⟨#[c]⟩).length = t.cps.size := by rw [List.length_map, Array.length_toList]
  refine ⟨fun i H hi e => ?_, fun H e => ?_, fun i H x H' hi e y => ?_⟩
  · show i < t.cps.size
    omega
  · show t.cps.size ≤ _
    omega
  · obtain ⟨h1, c, h2, h3⟩ := y
    refine ⟨.str ⟨#[c]⟩, ?_, .inl ⟨h1, h3⟩⟩
    rw [List.getElem?_map, Array.getElem?_toList, h2]
    rfl
theorem si_vals {e : E} {x : Expr} (h : PE X x ((tI X.K cl Y Φ) e)) : PI X tg x ((tIt X.K cl Y Φ) (.vals e)) :=
  PI.of (PI.or (PI.or (pi_list h) (pi_tup h)) (PI.or (pi_keys h) (pi_str h))) fun σ H Q ⟨Hf, Fr, m, S, ρ, s, er, q⟩ => by
    have q' : QR X.K cl (Y σ) (fun Hf m xs J => WalkV X.K Hf m J xs) Hf Fr m Q ((evalE Φ e ρ S).bind fun v S1 => match v with
      | .tup vs => R.ok vs S1
      | .lst vs => R.ok vs S1
      | .dct false ks _ => R.ok (ks.map (keyV false)) S1
      | .str s => R.ok (s.cps.toList.map fun c => Val.str ⟨#[c]⟩) S1
      | _ => .bad) := q
    cases hE : evalE Φ e ρ S with
    | bad => rw [hE] at q'; exact q'.elim
    | ex c S1 =>
      refine .inl (.inl ⟨Hf, Fr, m, S, ρ, s, er, ?_⟩)
      rw [hE] at q' ⊢
      exact q'
    | ok v S1 =>
      rw [hE] at q'
      cases v with
      | tup ws =>
        refine .inl (.inr ⟨Hf, Fr, m, S, ρ, s, er, ?_⟩)
        rw [hE]
        intro y H1 Hf1 m1 e1 p1 s1 r1
        obtain ⟨a, xs, rfl, h1, h2⟩ := r1
        exact ⟨a, rfl, ⟨xs, ex_t s1.exf h1⟩, q' _ H1 Hf1 m1 e1 p1 s1 (walkV_tup h1 h2)⟩
      | lst ws =>
        refine .inl (.inl ⟨Hf, Fr, m, S, ρ, s, er, ?_⟩)
        rw [hE]
        intro y H1 Hf1 m1 e1 p1 s1 r1
        obtain ⟨a, xs, rfl, h1, h2⟩ := r1
        exact ⟨a, rfl, ⟨xs, ex_l s1.exf h1⟩, q' _ H1 Hf1 m1 e1 p1 s1 (walkV_list h1 h2)⟩
      | dct t ks ws =>
        cases t with
        | true => exact q'.elim
        | false =>
          refine .inr (.inl ⟨Hf, Fr, m, S, ρ, s, er, ?_⟩)
          rw [hE]
          intro y H1 Hf1 m1 e1 p1 s1 r1
          obtain ⟨a, ob, u, xs, rfl, h1, ⟨kvs, rfl, rfl, rfl⟩, h2⟩ := r1
          exact ⟨a, ob, rfl, .inl ⟨kvs, s1.exf a _ h1, q' _ H1 Hf1 m1 e1 p1 s1 (walkV_keys h1)⟩⟩
      | str t =>
        refine .inr (.inr ⟨Hf, Fr, m, S, ρ, s, er, ?_⟩)
        rw [hE]
        intro y H1 Hf1 m1 e1 p1 s1 r1
        cases r1
        exact ⟨t, rfl, q' _ H1 Hf1 m1 e1 p1 s1 (walkV_str t)⟩
      | _ => exact q'.elim
theorem si_rng {e : E} {x : Expr} {p pos : Pos} (hg : Gl X "range") (hm : X.mg "range" = none) (h : PE X x ((tI X.K cl Y Φ) e)) (hs : starEach [x] X.env = [(false, eval x X.env)]) : PI X tg (.Call (.Name "range" p) [x] [] pos) ((tIt X.K cl Y Φ) (.rng e)) :=
  PI.of (pi_range1 hg hm (pa_cons h pa_nil hs) hs) fun σ H Q ⟨Hf, Fr, m, S, ρ, s, er, q⟩ =>
    ⟨Hf, Fr, m, S, ρ, s, er, QR.bind (f := fun v S1 => match v with
      | Val.int n => if -(2 ^ 62) ≤ n ∧ n < 2 ^ 62 then R.ok (rangeV 0 n.toNat) S1 else .bad
      | _ => .bad) q fun v S1 y H1 Hf1 m1 e1 p1 s1 r1 q1 => by
        cases v with
        | int n =>
          cases r1
          have q2 : QR X.K cl (Y σ) (fun Hf m xs J => WalkV X.K Hf m J xs) Hf1 Fr m1 Q (if -(2 ^ 62) ≤ n ∧ n < 2 ^ 62 then R.ok (rangeV 0 n.toNat) S1 else .bad) := q1
          by_cases c : -(2 ^ 62) ≤ n ∧ n < 2 ^ 62
          · rw [if_pos c] at q2
            exact ⟨n, rfl, c.1, c.2, q2 _ H1 Hf1 m1 (Evl.Ex.refl _) (List.prefix_refl _) s1 walkV_range⟩
          · rw [if_neg c] at q2
            exact q2.elim
        | _ => exact q1.elim⟩
theorem si_rng2 {e f : E} {x y : Expr} {p pos : Pos} (hg : Gl X "range") (hm : X.mg "range" = none) (h : PE X x ((tI X.K cl Y Φ) e)) (h' : PE X y ((tI X.K cl Y Φ) f)) (hs : starEach [x, y] X.env = [(false, eval x X.env), (false, eval y X.env)]) (hs2 : starEach [y] X.env = [(false, eval y X.env)]) :
    PI X tg (.Call (.Name "range" p) [x, y] [] pos) ((tIt X.K cl Y Φ) (.rng2 e f)) :=
  PI.of (pi_range2 hg hm (pa_cons h (pa_cons h' pa_nil hs2) (by rw [hs, hs2])) hs hs2) fun σ H Q ⟨Hf, Fr, m, S, ρ, s, er, q⟩ =>
    ⟨Hf, Fr, m, S, ρ, s, er, QR.bind (f := fun v S1 => (evalE Φ f ρ S1).bind fun w S2 => rngR v w S2) q fun v S1 y H1 Hf1 m1 e1 p1 s1 r1 q1 =>
      ⟨Hf1, Fr, m1, S1, ρ, s1, er.mono e1 p1, QR.bind (f := fun w S2 => rngR v w S2) q1 fun w S2 y2 H2 Hf2 m2 e2 p2 s2 r2 q2 => by
        cases v with
        | int lo =>
          cases w with
          | int hi =>
            cases r1
            cases r2
            have q3 : QR X.K cl (Y σ) (fun Hf m xs J => WalkV X.K Hf m J xs) Hf2 Fr m2 Q (if -(2 ^ 62) ≤ lo ∧ lo < 2 ^ 62 ∧ -(2 ^ 62) ≤ hi ∧ hi < 2 ^ 62 then R.ok (rangeV lo (hi - lo).toNat) S2 else .bad) := q2
            by_cases c : -(2 ^ 62) ≤ lo ∧ lo < 2 ^ 62 ∧ -(2 ^ 62) ≤ hi ∧ hi < 2 ^ 62
            · rw [if_pos c] at q3
              exact ⟨lo, hi, rfl, c, q3 _ H2 Hf2 m2 (Evl.Ex.refl _) (List.prefix_refl _) s2 walkV_range⟩
            · rw [if_neg c] at q3
              exact q3.elim
          | _ => exact q2.elim
        | _ => exact q2.elim⟩⟩
open IvK in
theorem ex_k {k : Bool} {K : PySem.W.Frag} {Hf H : Hp} {a : Addr} {xs : List V} (e : Ex Hf H) (h : SqK k K Hf a xs) : SqK k K H a xs := by
  cases k with
  | false => exact ex_l e h
  | true => exact ex_t e h
open IvK in
theorem walkV_zipK {K : PySem.W.Frag} {Hf : Hp} {m : List Addr} {p q : Bool} {a b : Addr} {vs ws : List Val} {xs ys : List V} (h : SqK p K Hf a xs) (r : Reps K Hf m vs xs) (h' : SqK q K Hf b ys) (r' : Reps K Hf m ws ys) : WalkV K Hf m (ItzK K p q a b) (zipV vs ws) := by
  have hl := r.length
  have hl' := r'.length
  have hp := zipV_len vs ws
  refine ⟨fun i H hi e => ?_, fun H e => ⟨xs, ys, ex_k e h, ex_k e h', by omega⟩, fun i H x H' hi e y => ?_⟩
  · have h1 : i < xs.length := by omega
    have h2 : i < ys.length := by omega
    exact ⟨xs, ys, xs[i], ys[i], ex_k e h, ex_k e h', List.getElem?_eq_getElem h1, List.getElem?_eq_getElem h2⟩
  · obtain ⟨T, x1, x2, h1, h2, h3, h4, h5⟩ := y
    obtain ⟨v, h6, h7⟩ := r.get' (h4 xs (ex_k e h))
    obtain ⟨v2, h8, h9⟩ := r'.get' (h5 ys (ex_k e h'))
    exact ⟨_, zipV_get vs ws i v v2 h6 h8, .inr ⟨T, _, _, _, _, rfl, h1, h2, h3, h7, h9⟩⟩
open IvK in
theorem walkV_enumK {K : PySem.W.Frag} {Hf : Hp} {m : List Addr} {k : Bool} {a : Addr} {vs : List Val} {xs : List V} (h : SqK k K Hf a xs) (r : Reps K Hf m vs xs) : WalkV K Hf m (IteK K k a) (pairs 0 vs) := by
  have hl := r.length
  have hp := pairs_len vs 0
  refine ⟨fun i H hi e => ?_, fun H e => ⟨xs, ex_k e h, by omega⟩, fun i H x H' hi e y => ?_⟩
  · have h1 : i < xs.length := by omega
    exact ⟨xs, xs[i], ex_k e h, List.getElem?_eq_getElem h1⟩
  · obtain ⟨T, x1, h1, h2, h3, h4⟩ := y
    obtain ⟨v, h6, h7⟩ := r.get' (h4 xs (ex_k e h))
    exact ⟨_, pairs_get vs 0 i v h6, .inr ⟨T, _, _, _, _, rfl, h1, h2, h3, (show V.int (i : Nat) = V.int ((0 + i : Nat) : Int) by rw [Nat.zero_add]), h7⟩⟩
/-- a list or a tuple that nobody changes -/
theorem Rep.frozen {K : PySem.W.Frag} {Hf : Hp} {m : List Addr} {v : Val} {x : V} : Rep K Hf m v x → ∀ vs, v = .lst vs ∨ v = .tup vs → ∃ (k : Bool) (a : Addr) (xs : List V), x = .ref a ∧ IvK.SqK k K Hf a xs ∧ Reps K Hf m vs xs := fun r vs h => by
  rcases h with rfl | rfl
  · obtain ⟨a, xs, h1, h2, h3⟩ := r
    exact ⟨false, a, xs, h1, h2, h3⟩
  · obtain ⟨a, xs, h1, h2, h3⟩ := r
    exact ⟨true, a, xs, h1, h2, h3⟩
theorem si_enum {e : E} {x : Expr} {p pos tpos : Pos} {elts : List Expr} {kk : Nat} (hg : Gl X "enumerate") (hm : X.mg "enumerate" = none) (h : PE X x ((tI X.K cl Y Φ) e)) (hs : starEach [x] X.env = [(false, eval x X.env)]) :
    PI X (.Tuple elts kk tpos) (.Call (.Name "enumerate" p) [x] [] pos) ((tIt X.K cl Y Φ) (.enum e)) :=
  PI.of (IvK.pi_enumK hg hm (pa_cons h pa_nil hs) hs) fun σ H Q ⟨Hf, Fr, m, S, ρ, s, er, q⟩ =>
    ⟨Hf, Fr, m, S, ρ, s, er, QR.bind (f := fun v S1 => match v with
      | .lst vs => R.ok (pairs 0 vs) S1
      | .tup vs => R.ok (pairs 0 vs) S1
      | _ => .bad) q fun v S1 y H1 Hf1 m1 e1 p1 s1 r1 q1 => by
        have go : ∀ vs, (v = .lst vs ∨ v = .tup vs) → QR X.K cl (Y σ) (fun Hf m xs J => WalkV X.K Hf m J xs) Hf1 Fr m1 Q (R.ok (pairs 0 vs) S1) → ∃ (k : Bool) (a : Addr) (xs : List V), [y] = [V.ref a] ∧ IvK.SqK k X.K H1 a xs ∧ Q (IvK.IteK X.K k a) H1 := fun vs hv q2 => by
          obtain ⟨k, a, xs, rfl, h1, h2⟩ := Rep.frozen r1 vs hv
          exact ⟨k, a, xs, rfl, ex_k s1.exf h1, q2 _ H1 Hf1 m1 (Evl.Ex.refl _) (List.prefix_refl _) s1 (walkV_enumK h1 h2)⟩
        cases v with
        | lst vs => exact go vs (.inl rfl) q1
        | tup vs => exact go vs (.inr rfl) q1
        | _ => exact q1.elim⟩
theorem si_zip {e f : E} {x y : Expr} {p pos tpos : Pos} {elts : List Expr} {kk : Nat} (hg : Gl X "zip") (hm : X.mg "zip" = none) (h : PE X x ((tI X.K cl Y Φ) e)) (h' : PE X y ((tI X.K cl Y Φ) f)) (hs : starEach [x, y] X.env = (false, eval x X.env) :: starEach [y] X.env) (hs2 : starEach [y] X.env = [(false, eval y X.env)]) :
    PI X (.Tuple elts kk tpos) (.Call (.Name "zip" p) [x, y] [] pos) ((tIt X.K cl Y Φ) (.zip e f)) :=
  PI.of (IvK.pi_zipK hg hm (pa_cons h (pa_cons h' pa_nil hs2) hs) hs (by rw [hs2]; rfl)) fun σ H Q ⟨Hf, Fr, m, S, ρ, s, er, q⟩ =>
    ⟨Hf, Fr, m, S, ρ, s, er, QR.bind (f := fun v S1 => (evalE Φ f ρ S1).bind fun w S2 => zipR v w S2) q fun v S1 y H1 Hf1 m1 e1 p1 s1 r1 q1 =>
      ⟨Hf1, Fr, m1, S1, ρ, s1, er.mono e1 p1, QR.bind (f := fun w S2 => zipR v w S2) q1 fun w S2 y2 H2 Hf2 m2 e2 p2 s2 r2 q2 => by
        have go : ∀ vs ws, (v = .lst vs ∨ v = .tup vs) → (w = .lst ws ∨ w = .tup ws) → QR X.K cl (Y σ) (fun Hf m xs J => WalkV X.K Hf m J xs) Hf2 Fr m2 Q (R.ok (zipV vs ws) S2) → ∃ (p q : Bool) (a b : Addr) (xs ys : List V), [y, y2] = [V.ref a, V.ref b] ∧ IvK.SqK p X.K H2 a xs ∧ IvK.SqK q X.K H2 b ys ∧ Q (IvK.ItzK X.K p q a b) H2 := fun vs ws hv hw q3 => by
          obtain ⟨k, a, xs, rfl, h1, h2⟩ := Rep.frozen r1 vs hv
          obtain ⟨k2, b, ys, rfl, h3, h4⟩ := Rep.frozen r2 ws hw
          exact ⟨k, k2, a, b, xs, ys, rfl, ex_k (e2.trans s2.exf) h1, ex_k s2.exf h3, q3 _ H2 Hf2 m2 (Evl.Ex.refl _) (List.prefix_refl _) s2 (walkV_zipK (ex_k e2 h1) (Reps.mono e2 p2 _ _ h2) h3 h4)⟩
        cases v with
        | lst vs =>
          cases w with
          | lst ws => exact go vs ws (.inl rfl) (.inl rfl) q2
          | tup ws => exact go vs ws (.inl rfl) (.inr rfl) q2
          | _ => exact q2.elim
        | tup vs =>
          cases w with
          | lst ws => exact go vs ws (.inr rfl) (.inl rfl) q2
          | tup ws => exact go vs ws (.inr rfl) (.inr rfl) q2
          | _ => exact q2.elim
        | _ => exact q2.elim⟩⟩
end
/-! ### comprehensions -/
theorem wipe_get : ∀ (σ : L2.St) (vs : List Nat) (j : Nat), (wipe σ vs)[j]? = if j ∈ vs ∧ j < σ.length then some none else σ[j]?
  | σ, [], j => by simp [wipe]
  | σ, v :: vs, j => by
    unfold wipe
    by_cases hj : v = j
    · subst hj
      by_cases hl : v < σ.length
      · rw [List.getElem?_set_self (by rw [wipe_length]; exact hl), if_pos ⟨List.mem_cons_self, hl⟩]
      · rw [List.getElem?_eq_none (by rw [List.length_set, wipe_length]; omega), if_neg (fun z => hl z.2), List.getElem?_eq_none (by omega)]
    · rw [List.getElem?_set_ne hj, wipe_get σ vs j]
      by_cases c : j ∈ vs ∧ j < σ.length
      · rw [if_pos c, if_pos ⟨List.mem_cons_of_mem _ c.1, c.2⟩]
      · rw [if_neg c, if_neg]
        rintro ⟨h1, h2⟩
        rcases List.mem_cons.mp h1 with h3 | h3
        · exact hj h3.symm
        · exact c ⟨h3, h2⟩
theorem wipe_eq {σ σ' : L2.St} {vs : List Nat} (hl : σ'.length = σ.length) (h : ∀ j, j ∉ vs → σ'[j]? = σ[j]?) : wipe σ' vs = wipe σ vs := by
  apply List.ext_getElem?
  intro j
  rw [wipe_get, wipe_get, hl]
  by_cases c : j ∈ vs
  · by_cases d : j < σ.length
    · rw [if_pos ⟨c, d⟩, if_pos ⟨c, d⟩]
    · rw [if_neg (fun z => d z.2), if_neg (fun z => d z.2), h' _ d, List.getElem?_eq_none (by omega)]
  · rw [if_neg (fun z => c z.1), if_neg (fun z => c z.1), h j c]
where h' : ∀ j, ¬ j < σ.length → σ'[j]? = none := fun j d => List.getElem?_eq_none (by omega)
theorem fold_len : ∀ (l : List (Nat × Val)) (ρ : Env), (l.foldl (fun ρ p => ρ.set p.1 (some p.2)) ρ).length = ρ.length
  | [], _ => rfl
  | p :: l, ρ => by
    show (l.foldl (fun ρ p => ρ.set p.1 (some p.2)) (ρ.set p.1 (some p.2))).length = _
    rw [fold_len l, List.length_set]
theorem setTg_len {ρ ρ' : Env} {g : Tg} {v : Val} (h : setTg ρ g v = some ρ') : ρ'.length = ρ.length := by
  cases g with
  | nm i => cases h; exact List.length_set
  | tp is =>
    cases v with
    | tup vs =>
      have h' : (if is.length = vs.length then some ((is.zip vs).foldl (fun ρ p => ρ.set p.1 (some p.2)) ρ) else none) = some ρ' := h
      by_cases c : is.length = vs.length
      · rw [if_pos c] at h'; cases h'; exact fold_len _ _
      · rw [if_neg c] at h'; cases h'
    | _ => cases h
section
variable {X : Cx} {cl : Str → Value} {Y : L2.St → XK} {Z : XK} {Φ : Option Bool → Nat → List Val → Store → R Val}
/-- a comprehension's turn, told -/
def turnV (Φ : Option Bool → Nat → List Val → Store → R Val) (g : Tg) (own : List (Str × Nat)) (cond elt : E) (ρ : Env) (x : Val) (S2 : Store) : R (Option Val) :=
  match setTg (wipeE ρ (own.map (·.2))) g x with
  | some ρ' => ((evalE Φ cond ρ' S2).bind fun c S3 => asBool c fun k => if k then (evalE Φ elt ρ' S3).bind fun v S4 => .ok (some v) S4 else .ok none S3).mute
  | none => .bad
def noX : L2.St → XK := fun _ _ _ _ => False
theorem comp_of {wi : TI} {g : Tg} {own : List (Str × Nat)} {it cond elt : E} {mu : Bool} {tt : TT} {te : TE} (hw : ∀ σ H Q, tIt X.K cl Y Φ it σ H Q → wi σ H Q) (ht : ∀ σ H Q, tTs X.K cl noX Φ cond σ H Q → tt σ H Q) (he : ∀ σ H Q, tI X.K cl noX Φ elt σ H Q → te σ H Q)
    (hg : ∀ j ∈ g.slots, j ∈ own.map (·.2)) (σ : L2.St) (H : Hp) (Q : VK) (h : tI X.K cl Y Φ (.comp mu g own it cond elt) σ H Q) : tLc wi (gI X.K g) tt te (own.map (·.2)) σ H Q := by
  obtain ⟨Hf, Fr, m, S, ρ, s, er, q⟩ := h
  refine hw _ _ _ ⟨Hf, Fr, m, S, ρ, s, er, QR.bind (f := fun xs S1 => (compGo (turnV Φ g own cond elt ρ) xs [] S1).bind fun vs S2 => mk mu vs S2) q fun xs S1 J H1 Hf1 m1 e1 p1 s1 w q1 => ?_⟩
  intro D hD
  have hFD : Fr D = none := none_of s1.exr hD
  have wk : Walk J xs.length (fun H => Ex Hf1 H) (fun i H x H' => ∃ (Hf' : Hp), True ∧ J.yld i H x H') := ⟨fun i H hi e => w.goes i H hi e, fun H e => w.stops H e, fun i H x H' hi e y => ⟨Hf1, trivial, y⟩⟩
  refine lc_it wk (fun i H => ∃ Hf' m' S' acc ys, Sim X.K Hf' (upd Fr D (.lst ys)) m' S' H ∧ Ex Hf1 Hf' ∧ m1 <+: m' ∧ Reps X.K Hf' m' acc ys ∧
      QE X.K cl (Y σ) Hf' Fr m' Q ((compGo (turnV Φ g own cond elt ρ) (xs.drop i) acc S').bind fun vs S2 => mk mu vs S2)) ?_ ?_ ?_ ?_
  · exact ⟨Hf1, m1, S1, [], [], s1.hold hD, Evl.Ex.refl _, List.prefix_refl _, .nil, q1⟩
  · rintro i H2 _ ⟨Hf', m', S', acc, ys, s2, e2, _⟩
    exact e2.trans s2.exf
  · rintro i x H2 H3 hi ⟨Hf2, m2, S2, acc, ys, s2, e2, p2, r2, q2⟩ ⟨_, _, y⟩
    obtain ⟨v, Hf3, hv, e3, s3, r3⟩ := w.step e2 p2 s2 hi y
    have hdrop : xs.drop i = v :: xs.drop (i + 1) := by
      rw [List.drop_eq_getElem_cons hi]
      congr 1
      exact Option.some.inj ((List.getElem?_eq_getElem hi).symm.trans hv)
    rw [hdrop] at q2
    have erw : EnvR X.K Hf3 m2 (wipeE ρ (own.map (·.2))) (wipe σ (own.map (·.2))) := ((er.mono e1 p1).mono (e2.trans e3) p2).wipe _
    have q3 : QE X.K cl (Y σ) Hf2 Fr m2 Q ((match turnV Φ g own cond elt ρ v S2 with
      | .ok (some v) S1 => if acc.length < lim then compGo (turnV Φ g own cond elt ρ) (xs.drop (i + 1)) (acc ++ [v]) S1 else .bad
      | .ok none S1 => compGo (turnV Φ g own cond elt ρ) (xs.drop (i + 1)) acc S1
      | _ => .bad).bind fun vs S2 => mk mu vs S2) := q2
    cases hs : setTg (wipeE ρ (own.map (·.2))) g v with
    | none =>
      have ht : turnV Φ g own cond elt ρ v S2 = .bad := by unfold turnV; rw [hs]
      rw [ht] at q3
      exact q3.elim
    | some ρ' =>
      have htv : turnV Φ g own cond elt ρ v S2 = ((evalE Φ cond ρ' S2).bind fun c S3 => asBool c fun k => if k then (evalE Φ elt ρ' S3).bind fun v S4 => .ok (some v) S4 else .ok none S3).mute := by unfold turnV; rw [hs]
      rw [htv] at q3
      refine gI_ok hs s3 erw r3 fun σ' er' same => ⟨?_, ?_⟩
      · refine wipe_eq ?_ fun j hj => ?_
        · rw [← er'.len, ← wipe_length σ (own.map (·.2)), ← erw.len]
          exact setTg_len hs
        · rw [same j fun z => hj (hg j z), wipe_get, if_neg (fun z => hj z.1)]
      · refine ht _ _ _ ⟨Hf3, upd Fr D (.lst ys), m2, S2, ρ', s3, er', ?_⟩
        unfold evalT
        revert q3
        cases evalE Φ cond ρ' S2 with
        | bad => exact fun q => q.elim
        | ex c S3 => exact fun q => q.elim
        | ok c S3 =>
          cases c with
          | bl k =>
            intro q3 b H4 Hf4 m4 e4 p4 s4 r4
            cases r4
            cases k with
            | false =>
              rw [if_neg (by decide)]
              exact ⟨Hf4, m4, S3, acc, ys, s4, e2.trans (e3.trans e4), p2.trans p4, Reps.mono (e3.trans e4) p4 _ _ r2, QR.mono q3 (e3.trans e4) p4⟩
            | true =>
              rw [if_pos rfl]
              refine he _ _ _ ⟨Hf4, upd Fr D (.lst ys), m4, S3, ρ', s4, er'.mono e4 p4, ?_⟩
              have q4 : QE X.K cl (Y σ) Hf2 Fr m2 Q ((match ((evalE Φ elt ρ' S3).bind fun v S4 => R.ok (some v) S4).mute with
                | .ok (some v) S1 => if acc.length < lim then compGo (turnV Φ g own cond elt ρ) (xs.drop (i + 1)) (acc ++ [v]) S1 else .bad
                | .ok none S1 => compGo (turnV Φ g own cond elt ρ) (xs.drop (i + 1)) acc S1
                | _ => .bad).bind fun vs S2 => mk mu vs S2) := q3
              revert q4
              cases evalE Φ elt ρ' S3 with
              | bad => exact fun q => q.elim
              | ex c S4 => exact fun q => q.elim
              | ok z S4 =>
                intro q4 y H5 Hf5 m5 e5 p5 s5 r5
                have q5 : QE X.K cl (Y σ) Hf2 Fr m2 Q ((if acc.length < lim then compGo (turnV Φ g own cond elt ρ) (xs.drop (i + 1)) (acc ++ [z]) S4 else .bad).bind fun vs S2 => mk mu vs S2) := q4
                by_cases cl' : acc.length < lim
                · rw [if_pos cl'] at q5
                  have ex := e3.trans (e4.trans e5)
                  have px := p4.trans p5
                  exact ⟨ys, s5.heldAt, sz' (by rw [← r2.length]; exact cl'), Hf5, m5, S4, acc ++ [z], ys ++ [y], s5.held, e2.trans ex, p2.trans px, (Reps.mono ex px _ _ r2).snoc r5, QR.mono q5 ex px⟩
                · rw [if_neg cl'] at q5
                  exact q5.elim
          | _ => exact fun q => q.elim
  · rintro H2 ⟨Hf2, m2, S2, acc, ys, s2, e2, p2, r2, q2⟩
    have hd : xs.drop xs.length = [] := List.drop_length
    rw [hd] at q2
    have q3 : QE X.K cl (Y σ) Hf2 Fr m2 Q (mk mu acc S2) := q2
    cases mu with
    | false =>
      have ex := Evl.Ex.new (o := HO.lst ys) (s2.dis D _ upd_same)
      exact q3 _ H2 (upd Hf2 D (.lst ys)) m2 ex (List.prefix_refl _) (s2.thaw hFD) ⟨D, ys, rfl, SqL.of upd_same, Reps.mono ex (List.prefix_refl _) _ _ r2⟩
    | true =>
      exact q3 _ H2 Hf2 (m2 ++ [D]) (Evl.Ex.refl _) (List.prefix_append _ _) (s2.take hFD r2) ⟨D, rfl, by rw [← s2.len]; simp⟩
end
end Iv
/-! Iv7: calls. -/
namespace Iv
open PySem PySem.Spec PyProof.Rows L2
open Evl (Ex ex_l ex_t)
variable {K : PySem.W.Frag} {Hf Fr H : Hp} {m : List Addr} {S : Store}
theorem getAll_get : ∀ {ls : List Nat} {os : Store}, getAll S ls = some os → os.length = ls.length ∧ ∀ (j n : Nat), ls[j]? = some n → ∃ o, S[n]? = some o ∧ os[j]? = some o
  | [], os, h => by
    cases h
    exact ⟨rfl, fun j n e => by simp at e⟩
  | k :: r, os, h => by
    have h' : (match S[k]? with
      | some o => match getAll S r with
        | some os => some (o :: os)
        | none => none
      | none => none) = some os := h
    cases q : S[k]? with
    | none => rw [q] at h'; cases h'
    | some o =>
      rw [q] at h'
      have h2 : (match getAll S r with
        | some os => some (o :: os)
        | none => none) = some os := h'
      cases q2 : getAll S r with
      | none => rw [q2] at h2; cases h2
      | some os2 =>
        rw [q2] at h2
        cases h2
        obtain ⟨i1, i2⟩ := getAll_get q2
        refine ⟨by rw [List.length_cons, List.length_cons, i1], fun j n e => ?_⟩
        cases j with
        | zero =>
          have e' : k = n := by simpa using e
          subst e'
          exact ⟨o, q, rfl⟩
        | succ j =>
          obtain ⟨o', h3, h4⟩ := i2 j n (by simpa using e)
          exact ⟨o', h3, by simpa using h4⟩
theorem freeObjs_get : ∀ {os : Store} {j : Nat} {o : Obj}, freeObjs os = true → os[j]? = some o → o.free = true
  | [], j, o, _, e => by simp at e
  | o' :: r, 0, o, h, e => by
    have h' : (o'.free && freeObjs r) = true := h
    rw [Bool.and_eq_true] at h'
    have e' : o' = o := by simpa using e
    subst e'
    exact h'.1
  | o' :: r, j + 1, o, h, e => by
    have h' : (o'.free && freeObjs r) = true := h
    rw [Bool.and_eq_true] at h'
    exact freeObjs_get h'.2 (by simpa using e)
theorem ObjRep.free {m' : List Addr} : ∀ {o : Obj} {u : Option HO}, o.free = true → ObjRep K Hf m o u → ObjRep K Hf m' o u
  | .lst vs, _, f, ⟨xs, h1, h2⟩ => ⟨xs, h1, Reps.free vs xs f h2⟩
  | .dct t l ks vs, _, f, ⟨u, xs, h1, h2, h3⟩ => ⟨u, xs, h1, h2, Reps.free vs _ f h3⟩
  | .ins c ns vs, _, f, ⟨C, dx, fs, h0, h1, h2, h3⟩ => ⟨C, dx, fs, h0, h1, h2, Reps.free vs _ f h3⟩
theorem reArgs_rep {m2 : List Addr} : ∀ (args : List Val) (xs : List V) (k : Nat), argsOk args = true → (∀ (j n : Nat), (argLocs args)[j]? = some n → ∃ a, m[n]? = some a ∧ m2[k + j]? = some a) → Reps K Hf m args xs → Reps K Hf m2 (reArgs k args) xs
  | [], _, _, _, _, h => h
  | v :: r, _, k, f, hk, h => by
    obtain ⟨x, t, rfl, h1, h2⟩ := h
    have other : (∀ n, v ≠ .loc n) → (v.free && argsOk r) = true → reArgs k (v :: r) = v :: reArgs k r → argLocs (v :: r) = argLocs r → Reps K Hf m2 (reArgs k (v :: r)) (x :: t) := fun _ f' e1 e2 => by
      rw [e1]
      rw [e2] at hk
      rw [Bool.and_eq_true] at f'
      exact .cons (Rep.free v x f'.1 h1) (reArgs_rep r t k f'.2 hk h2)
    cases v with
    | loc n =>
      obtain ⟨a, rfl, h3⟩ := h1
      obtain ⟨b, h4, h5⟩ := hk 0 n rfl
      rw [h3] at h4
      cases h4
      refine .cons ⟨a, rfl, h5⟩ (reArgs_rep r t (k + 1) f (fun j n' e => ?_) h2)
      obtain ⟨b, h6, h7⟩ := hk (j + 1) n' (by
        show (n :: argLocs r)[j + 1]? = some n'
        simpa using e)
      exact ⟨b, h6, by rw [show k + 1 + j = k + (j + 1) by omega]; exact h7⟩
    | non => exact other (fun n => by intro z; cases z) f rfl rfl
    | bl _ => exact other (fun n => by intro z; cases z) f rfl rfl
    | int _ => exact other (fun n => by intro z; cases z) f rfl rfl
    | str _ => exact other (fun n => by intro z; cases z) f rfl rfl
    | tup _ => exact other (fun n => by intro z; cases z) f rfl rfl
    | lst _ => exact other (fun n => by intro z; cases z) f rfl rfl
    | dct _ _ _ => exact other (fun n => by intro z; cases z) f rfl rfl
    | exc _ => exact other (fun n => by intro z; cases z) f rfl rfl
/-! freezing -/
open Classical in
/-- what stands at the places from k on is changed no more -/
noncomputable def Hz (Hf H : Hp) (m : List Addr) (k : Nat → Bool) : Hp := fun a => if ∃ n, k n = false ∧ m[n]? = some a then H a else Hf a
theorem Hz_in {k : Nat → Bool} {n : Nat} {a : Addr} (hk : k n = false) (h : m[n]? = some a) : Hz Hf H m k a = H a := if_pos ⟨n, hk, h⟩
theorem Hz_out {k : Nat → Bool} {a : Addr} (h : ∀ n, k n = false → m[n]? ≠ some a) : Hz Hf H m k a = Hf a := if_neg fun ⟨n, h1, h2⟩ => h n h1 h2
/-- ds: the dicts at the places that are not kept and not locked -/
structure LkS (m : List Addr) (S : Store) (k : Nat → Bool) (ds : List Addr) : Prop where
  iff : ∀ (n : Nat) (a : Addr), m[n]? = some a → (a ∈ ds ↔ k n = false ∧ ∃ t ks vs, S[n]? = some (.dct t false ks vs))
  mem : ∀ a ∈ ds, a ∈ m
open Classical in
noncomputable def dsOf (m : List Addr) (S : Store) (k : Nat → Bool) : List Addr := m.filter fun a => decide (∃ n, m[n]? = some a ∧ k n = false ∧ ∃ t ks vs, S[n]? = some (.dct t false ks vs))
theorem nodup_at {α : Type} {l : List α} (nd : l.Nodup) {i j : Nat} {a : α} (h : l[i]? = some a) (h' : l[j]? = some a) : i = j := by
  obtain ⟨h1, q1⟩ := List.getElem?_eq_some_iff.mp h
  obtain ⟨h2, q2⟩ := List.getElem?_eq_some_iff.mp h'
  exact (List.getElem_inj nd).mp (q1.trans q2.symm)
open Classical in
theorem dsOf_ok (nd : m.Nodup) (S : Store) (k : Nat → Bool) : LkS m S k (dsOf m S k) ∧ (dsOf m S k).Nodup := by
  refine ⟨⟨fun n a h => ?_, fun a h => (List.mem_filter.mp h).1⟩, nd.sublist List.filter_sublist⟩
  unfold dsOf
  rw [List.mem_filter, decide_eq_true_eq]
  constructor
  · rintro ⟨_, n', h1, h2⟩
    have e := nodup_at nd h h1
    subst e
    exact h2
  · intro h2
    exact ⟨List.mem_of_getElem? h, n, h, h2⟩
theorem LkOn.out {ds : List Addr} {H H2 : Hp} (l : LkOn ds H H2) {a : Addr} (h : a ∉ ds) : H2 a = H a := (l a).2 h
theorem LkS.out (s : Sim K Hf Fr m S H) {ds : List Addr} {k : Nat → Bool} (lk : LkS m S k ds) {a : Addr} {o : HO} (h : Hf a = some o ∨ Fr a = some o) : a ∉ ds := fun z => by
  have := s.mf a (lk.mem a z)
  rcases h with h | h
  · rw [this.1] at h; cases h
  · rw [this.2] at h; cases h
theorem LkS.keep {ds : List Addr} {k : Nat → Bool} (lk : LkS m S k ds) {n : Nat} {a : Addr} (h : m[n]? = some a) (hk : k n = true) : a ∉ ds := fun z => by
  have := ((lk.iff n a h).mp z).1
  rw [hk] at this
  cases this
theorem Hz_ex (s : Sim K Hf Fr m S H) (k : Nat → Bool) {ds : List Addr} {H2 : Hp} (lk : LkS m S k ds) (lo : LkOn ds H H2) : Ex Hf (Hz Hf H2 m k) ∧ Ex (Hz Hf H2 m k) H2 := by
  refine ⟨fun a o e => ?_, fun a o e => ?_⟩
  · rw [Hz_out fun n _ h => ?_]
    · exact e
    · rw [(s.mf a (List.mem_of_getElem? h)).1] at e
      cases e
  · by_cases c : ∃ n, k n = false ∧ m[n]? = some a
    · obtain ⟨n, h1, h2⟩ := c
      rw [Hz_in h1 h2] at e
      exact e
    · rw [Hz_out fun n h1 h2 => c ⟨n, h1, h2⟩] at e
      rw [lo.out (lk.out s (.inl e))]
      exact s.exf a o e
mutual
theorem mapLoc_rep {Hg : Hp} {g : Nat → Option Val} (e : Ex Hf Hg) (hg : ∀ n w y, Rep K Hf m (.loc n) y → g n = some w → Rep K Hg [] w y) : ∀ (v w : Val) (x : V), Rep K Hf m v x → mapLoc g v = some w → Rep K Hg [] w x
  | .non, _, _, r, h => by cases h; exact r
  | .bl _, _, _, r, h => by cases h; exact r
  | .int _, _, _, r, h => by cases h; exact r
  | .str _, _, _, r, h => by cases h; exact r
  | .loc n, w, x, r, h => hg n w x r h
  | .tup vs, w, x, r, h => by
    obtain ⟨a, xs, rfl, h1, h2⟩ := r
    unfold mapLoc at h
    cases q : mapLocs g vs with
    | none => rw [q] at h; cases h
    | some ws =>
      rw [q] at h
      cases h
      exact ⟨a, xs, rfl, ex_t e h1, mapLocs_rep e hg vs ws xs h2 q⟩
  | .lst vs, w, x, r, h => by
    obtain ⟨a, xs, rfl, h1, h2⟩ := r
    unfold mapLoc at h
    cases q : mapLocs g vs with
    | none => rw [q] at h; cases h
    | some ws =>
      rw [q] at h
      cases h
      exact ⟨a, xs, rfl, ex_l e h1, mapLocs_rep e hg vs ws xs h2 q⟩
  | .exc c, _, _, r, h => by
    cases h
    obtain ⟨a, v, h1, h2, h3⟩ := r
    exact ⟨a, v, h1, h2, e a _ h3⟩
  | .dct t ks vs, w, x, r, h => by
    obtain ⟨a, ob, u, xs, rfl, h1, h0, h2⟩ := r
    unfold mapLoc at h
    cases q : mapLocs g vs with
    | none => rw [q] at h; cases h
    | some ws =>
      rw [q] at h
      cases h
      exact ⟨a, ob, u, xs, rfl, e a _ h1, h0, mapLocs_rep e hg vs ws _ h2 q⟩
theorem mapLocs_rep {Hg : Hp} {g : Nat → Option Val} (e : Ex Hf Hg) (hg : ∀ n w y, Rep K Hf m (.loc n) y → g n = some w → Rep K Hg [] w y) : ∀ (vs ws : List Val) (xs : List V), Reps K Hf m vs xs → mapLocs g vs = some ws → Reps K Hg [] ws xs
  | [], _, _, r, h => by cases h; exact r
  | v :: vs, ws, _, r, h => by
    obtain ⟨x, t, rfl, h1, h2⟩ := r
    unfold mapLocs at h
    cases q : mapLoc g v with
    | none => rw [q] at h; cases h
    | some w =>
      rw [q] at h
      cases q2 : mapLocs g vs with
      | none => rw [q2] at h; cases h
      | some ws2 =>
        rw [q2] at h
        cases h
        exact .cons (mapLoc_rep e hg v w x h1 q) (mapLocs_rep e hg vs ws2 t h2 q2)
end
theorem allSome_rep {Hg : Hp} {g : Val → Option Val} (hg : ∀ v w x, Rep K Hf m v x → g v = some w → Rep K Hg [] w x) : ∀ (vs ws : List Val) (xs : List V), Reps K Hf m vs xs → allSome g vs = some ws → Reps K Hg [] ws xs
  | [], _, _, r, h => by cases h; exact r
  | v :: vs, ws, _, r, h => by
    obtain ⟨x, t, rfl, h1, h2⟩ := r
    unfold allSome at h
    cases q : g v with
    | none => rw [q] at h; cases h
    | some w =>
      rw [q] at h
      cases q2 : allSome g vs with
      | none => rw [q2] at h; cases h
      | some ws2 =>
        rw [q2] at h
        cases h
        exact .cons (hg v w x h1 q) (allSome_rep hg vs ws2 t h2 q2)
theorem frz_rep (s : Sim K Hf Fr m S H) (k : Nat → Bool) {ds : List Addr} {H2 : Hp} (lk : LkS m S k ds) (lo : LkOn ds H H2) : ∀ (f : Nat) (v w : Val) (x : V), Rep K Hf m v x → frz S k f v = some w → Rep K (Hz Hf H2 m k) [] w x
  | 0, v, w, x, r, h => mapLoc_rep (Hz_ex s k lk lo).1 (fun _ _ _ _ z => by cases z) v w x r h
  | f + 1, v, w, x, r, h => mapLoc_rep (Hz_ex s k lk lo).1 (fun n w y r h => by
      have h' : (if k n = true then none else match S[n]? with
        | some (.lst vs) => match allSome (frz S k f) vs with
          | some ws => some (Val.lst ws)
          | none => none
        | some (.dct t _ ks vs) => match allSome (frz S k f) vs with
          | some ws => some (Val.dct t ks ws)
          | none => none
        | _ => none) = some w := h
      by_cases c : k n = true
      · rw [if_pos c] at h'
        cases h'
      · rw [if_neg c] at h'
        have kf : k n = false := by cases e : k n <;> first | rfl | exact absurd e c
        cases q : S[n]? with
        | none => rw [q] at h'; cases h'
        | some o =>
          cases o with
          | ins _ _ _ => rw [q] at h'; cases h'
          | lst vs =>
            rw [q] at h'
            have h2 : (match allSome (frz S k f) vs with
              | some ws => some (Val.lst ws)
              | none => none) = some w := h'
            cases q2 : allSome (frz S k f) vs with
            | none => rw [q2] at h2; cases h2
            | some ws =>
              rw [q2] at h2
              cases h2
              obtain ⟨a, rfl, h3⟩ := r
              obtain ⟨xs, h4, h5⟩ := s.obj n a _ h3 q
              have na : a ∉ ds := fun z => by
                obtain ⟨_, t, ks, us, h6⟩ := (lk.iff n a h3).mp z
                rw [q] at h6
                cases h6
              exact ⟨a, xs, rfl, SqL.of ((Hz_in kf h3).trans ((lo.out na).trans h4)), allSome_rep (fun v w x => frz_rep s k lk lo f v w x) vs ws xs h5 q2⟩
          | dct t l ks vs =>
            rw [q] at h'
            have h2 : (match allSome (frz S k f) vs with
              | some ws => some (Val.dct t ks ws)
              | none => none) = some w := h'
            cases q2 : allSome (frz S k f) vs with
            | none => rw [q2] at h2; cases h2
            | some ws =>
              rw [q2] at h2
              cases h2
              obtain ⟨a, rfl, h3⟩ := r
              obtain ⟨u, xs, h4, h0, h5⟩ := s.obj n a _ h3 q
              have h6 : ∃ ob, H2 a = some (.frz ob u) := by
                cases l with
                | false =>
                  obtain ⟨u', ob, e1, _, e2⟩ := (lo a).1 ((lk.iff n a h3).mpr ⟨kf, t, ks, vs, q⟩)
                  have h4 : H a = some u := h4
                  rw [h4] at e1
                  cases e1
                  exact ⟨ob, e2⟩
                | true =>
                  obtain ⟨ob, h4⟩ := h4
                  have na : a ∉ ds := fun z => by
                    obtain ⟨_, t, ks, us, h6⟩ := (lk.iff n a h3).mp z
                    rw [q] at h6
                    cases h6
                  exact ⟨ob, (lo.out na).trans h4⟩
              obtain ⟨ob, h6⟩ := h6
              exact ⟨a, ob, u, xs, rfl, (Hz_in kf h3).trans h6, h0, allSome_rep (fun v w x => frz_rep s k lk lo f v w x) vs ws xs h5 q2⟩) v w x r h
theorem frzO_rep (s : Sim K Hf Fr m S H) (k : Nat → Bool) {ds : List Addr} {H2 : Hp} (lk : LkS m S k ds) (lo : LkOn ds H H2) : ∀ {o o' : Obj} {u : Option HO}, ObjRep K Hf m o u → frzO S k o = some o' → ObjRep K (Hz Hf H2 m k) [] o' u
  | .lst vs, o', _, ⟨xs, h1, h2⟩, h => by
    have h' : (match allSome (frz S k 6) vs with
      | some ws => some (Obj.lst ws)
      | none => none) = some o' := h
    cases q2 : allSome (frz S k 6) vs with
    | none => rw [q2] at h'; cases h'
    | some ws =>
      rw [q2] at h'
      cases h'
      exact ⟨xs, h1, allSome_rep (fun v w x => frz_rep s k lk lo 6 v w x) vs ws xs h2 q2⟩
  | .dct t l ks vs, o', _, ⟨u, xs, h1, h0, h2⟩, h => by
    have h' : (match allSome (frz S k 6) vs with
      | some ws => some (Obj.dct t l ks ws)
      | none => none) = some o' := h
    cases q2 : allSome (frz S k 6) vs with
    | none => rw [q2] at h'; cases h'
    | some ws =>
      rw [q2] at h'
      cases h'
      exact ⟨u, xs, h1, h0, allSome_rep (fun v w x => frz_rep s k lk lo 6 v w x) vs ws xs h2 q2⟩
  | .ins c ns vs, o', _, ⟨C, dx, fs, h3, h1, h0, h2⟩, h => by
    have h' : (match allSome (frz S k 6) vs with
      | some ws => some (Obj.ins c ns ws)
      | none => none) = some o' := h
    cases q2 : allSome (frz S k 6) vs with
    | none => rw [q2] at h'; cases h'
    | some ws =>
      rw [q2] at h'
      cases h'
      exact ⟨C, dx, fs, h3, h1, h0, allSome_rep (fun v w x => frz_rep s k lk lo 6 v w x) vs ws _ h2 q2⟩
theorem backs_get {S' : Store} {k : Nat → Bool} : ∀ (ls : List Nat) (j : Nat) (S S2 : Store), ls.Nodup → backs S' k j ls S = some S2 → S2.length = S.length ∧ ∀ (i : Nat) (o : Obj), S2[i]? = some o → (i ∉ ls ∧ S[i]? = some o) ∨ ∃ (j' : Nat) (o' : Obj), ls[j']? = some i ∧ S'[j + j']? = some o' ∧ frzO S' k o' = some o
  | [], j, S, S2, _, h => by
    cases h
    exact ⟨rfl, fun i o e => .inl ⟨by simp, e⟩⟩
  | n :: r, j, S, S2, nd, h => by
    have h' : (match S'[j]? with
      | some o => match frzO S' k o with
        | some o' => backs S' k (j + 1) r (S.set n o')
        | none => none
      | none => none) = some S2 := h
    cases q : S'[j]? with
    | none => rw [q] at h'; cases h'
    | some o =>
      rw [q] at h'
      have h2 : (match frzO S' k o with
        | some o' => backs S' k (j + 1) r (S.set n o')
        | none => none) = some S2 := h'
      cases q2 : frzO S' k o with
      | none => rw [q2] at h2; cases h2
      | some o' =>
        rw [q2] at h2
        obtain ⟨nd1, nd2⟩ := List.nodup_cons.mp nd
        obtain ⟨i1, i2⟩ := backs_get r (j + 1) (S.set n o') S2 nd2 h2
        rw [List.length_set] at i1
        refine ⟨i1, fun i u e => ?_⟩
        rcases i2 i u e with ⟨h3, h4⟩ | ⟨j', u', h3, h4, h5⟩
        · by_cases hi : n = i
          · subst hi
            have hl : n < S.length := by
              have := (List.getElem?_eq_some_iff.mp h4).1
              rwa [List.length_set] at this
            rw [List.getElem?_set_self hl] at h4
            cases h4
            exact .inr ⟨0, o, rfl, q, q2⟩
          · rw [List.getElem?_set_ne hi] at h4
            refine .inl ⟨fun z => ?_, h4⟩
            rcases List.mem_cons.mp z with z | z
            · exact hi z.symm
            · exact h3 z
        · exact .inr ⟨j' + 1, u', by simpa using h3, by rw [show j + (j' + 1) = j + 1 + j' by omega]; exact h4, h5⟩
/-! a call as the callee sees it -/
open Classical in
/-- the caller's other lists are kept apart -/
noncomputable def frame (Fr H : Hp) (m m2 : List Addr) : Hp := fun a => if a ∈ m ∧ a ∉ m2 then H a else Fr a
theorem frame_in {m2 : List Addr} {a : Addr} (h : a ∈ m) (h' : a ∉ m2) : frame Fr H m m2 a = H a := if_pos ⟨h, h'⟩
theorem frame_out {m2 : List Addr} {a : Addr} (h : a ∉ m ∨ a ∈ m2) : frame Fr H m m2 a = Fr a := if_neg fun ⟨h1, h2⟩ => h.elim (fun z => z h1) h2
structure Sub (m m2 : List Addr) (ls : List Nat) : Prop where
  len : m2.length = ls.length
  ats : ∀ (j n : Nat), ls[j]? = some n → ∃ a, m[n]? = some a ∧ m2[j]? = some a
theorem Sub.back {m2 : List Addr} {ls : List Nat} (b : Sub m m2 ls) {j : Nat} {a : Addr} (h : m2[j]? = some a) : ∃ n, ls[j]? = some n ∧ m[n]? = some a := by
  have hj : j < ls.length := by rw [← b.len]; exact (List.getElem?_eq_some_iff.mp h).1
  obtain ⟨a', h1, h2⟩ := b.ats j _ (List.getElem?_eq_getElem hj)
  rw [h] at h2
  cases h2
  exact ⟨_, List.getElem?_eq_getElem hj, h1⟩
theorem Sub.nd {m2 : List Addr} {ls : List Nat} (b : Sub m m2 ls) (nm : m.Nodup) (nl : ls.Nodup) : m2.Nodup := by
  rw [List.nodup_iff_pairwise_ne, List.pairwise_iff_getElem]
  intro i j hi hj hij e
  obtain ⟨n1, h1, h2⟩ := b.back (List.getElem?_eq_getElem hi)
  obtain ⟨n2, h3, h4⟩ := b.back (List.getElem?_eq_getElem hj)
  rw [← e] at h4
  have e2 := nodup_at nm h2 h4
  subst e2
  have e3 := nodup_at nl h1 h3
  omega
theorem sub_make (hl : m.length = S.length) {ls : List Nat} {os : Store} (h : getAll S ls = some os) : Sub m (ls.map fun n => m.getD n 0) ls := by
  obtain ⟨_, i2⟩ := getAll_get h
  refine ⟨by rw [List.length_map], fun j n e => ?_⟩
  obtain ⟨o, h1, _⟩ := i2 j n e
  have hn : n < m.length := by rw [hl]; exact (List.getElem?_eq_some_iff.mp h1).1
  refine ⟨m[n], List.getElem?_eq_getElem hn, ?_⟩
  rw [List.getElem?_map, e]
  show some (m.getD n 0) = _
  rw [List.getD_eq_getElem?_getD, List.getElem?_eq_getElem hn]
  rfl
theorem sim_enter (s : Sim K Hf Fr m S H) {m2 : List Addr} {ls : List Nat} {os : Store} (b : Sub m m2 ls) (nl : ls.Nodup) (h : getAll S ls = some os) (f : freeObjs os = true) : Sim K Hf (frame Fr H m m2) m2 os H := by
  obtain ⟨i1, i2⟩ := getAll_get h
  have mem : ∀ a, a ∈ m2 → a ∈ m := fun a ha => by
    obtain ⟨j, hj⟩ := List.getElem?_of_mem ha
    obtain ⟨n, _, h2⟩ := b.back hj
    exact List.mem_of_getElem? h2
  refine ⟨s.exf, fun a o e => ?_, fun a o e => ?_, b.nd s.nd nl, by rw [b.len, i1], fun a ha => ?_, fun j a o e1 e2 => ?_⟩
  · by_cases c : a ∈ m ∧ a ∉ m2
    · rw [frame_in c.1 c.2] at e
      exact e
    · rw [frame_out (by
        by_cases h1 : a ∈ m
        · exact .inr (Classical.byContradiction fun h2 => c ⟨h1, h2⟩)
        · exact .inl h1)] at e
      exact s.exr a o e
  · by_cases c : a ∈ m ∧ a ∉ m2
    · exact (s.mf a c.1).1
    · rw [frame_out (by
        by_cases h1 : a ∈ m
        · exact .inr (Classical.byContradiction fun h2 => c ⟨h1, h2⟩)
        · exact .inl h1)] at e
      exact s.dis a o e
  · exact ⟨(s.mf a (mem a ha)).1, by rw [frame_out (.inr ha)]; exact (s.mf a (mem a ha)).2⟩
  · obtain ⟨n, h1, h2⟩ := b.back e1
    obtain ⟨o', h3, h4⟩ := i2 j n h1
    rw [e2] at h4
    cases h4
    exact (s.obj n a o h2 h3).free (freeObjs_get f e2)
/-- behind the call -/
theorem sim_leave (s : Sim K Hf Fr m S H) {m2 m' : List Addr} {ls : List Nat} {S' S2 : Store} {Hf' H' : Hp} {kp : Nat → Bool} (b : Sub m m2 ls) (nl : ls.Nodup) (hk : ∀ n, n < ls.length → kp n = true) (e : Ex Hf Hf') (p : m2 <+: m') (s' : Sim K Hf' (frame Fr H m m2) m' S' H') (h : backs S' kp 0 ls S = some S2) {ds : List Addr} {H2 : Hp} (lk : LkS m' S' kp ds) (lo : LkOn ds H' H2) :
    Ex Hf (Hz Hf' H2 m' kp) ∧ Sim K (Hz Hf' H2 m' kp) Fr m S2 H2 ∧ ∀ (j : Nat) (a : Addr), ls.length ≤ j → kp j = true → m'[j]? = some a → a ∉ m ∧ Fr a = none ∧ Hz Hf' H2 m' kp a = none := by
  obtain ⟨x1, x2⟩ := Hz_ex s' kp lk lo
  have ex := e.trans x1
  obtain ⟨i1, i2⟩ := backs_get ls 0 S S2 nl h
  -- the caller's lists are not among the callee's new ones
  have old : ∀ a ∈ m, ∀ n, ls.length ≤ n → m'[n]? ≠ some a := fun a ha n hn q => by
    by_cases c : a ∈ m2
    · obtain ⟨j, hj⟩ := List.getElem?_of_mem c
      have hj2 : j < ls.length := by rw [← b.len]; exact (List.getElem?_eq_some_iff.mp hj).1
      have := nodup_at s'.nd (pre_get p hj) q
      omega
    · have z := (s'.mf a (List.mem_of_getElem? q)).2
      rw [frame_in ha c] at z
      obtain ⟨w, hw, _⟩ := s.at ha
      rw [z] at hw
      cases hw
  have far : ∀ n, kp n = false → ls.length ≤ n := fun n hn => by
    by_cases c : n < ls.length
    · rw [hk n c] at hn
      cases hn
    · omega
  have hz : ∀ a ∈ m, Hz Hf' H2 m' kp a = none := fun a ha => by
    rw [Hz_out fun n hn => old a ha n (far n hn)]
    by_cases c : a ∈ m2
    · obtain ⟨j, hj⟩ := List.getElem?_of_mem c
      exact (s'.mf a (List.mem_of_getElem? (pre_get p hj))).1
    · obtain ⟨w, hw, _⟩ := s.at ha
      exact s'.dis a w (by rw [frame_in ha c]; exact hw)
  have memF : ∀ a o, Fr a = some o → a ∉ m := fun a o q ha => by
    rw [(s.mf a ha).2] at q
    cases q
  refine ⟨ex, ⟨x2, fun a o q => by
    have q' : frame Fr H m m2 a = some o := by rw [frame_out (.inl (memF a o q))]; exact q
    rw [lo.out (lk.out s' (.inr q'))]
    exact s'.exr a o q', fun a o q => ?_, s.nd, by rw [i1]; exact s.len, fun a ha => ⟨hz a ha, (s.mf a ha).2⟩, fun i a o e1 e2 => ?_⟩, fun j a h1 h2 h3 => ?_⟩
  · have q' : frame Fr H m m2 a = some o := by rw [frame_out (.inl (memF a o q))]; exact q
    rw [Hz_out fun n hn z => ?_]
    · exact s'.dis a o q'
    · rw [(s'.mf a (List.mem_of_getElem? z)).2] at q'
      cases q'
  · rcases i2 i o e2 with ⟨h1, h2⟩ | ⟨j, o', h1, h2, h3⟩
    · have c : a ∉ m2 := fun z => by
        obtain ⟨j, hj⟩ := List.getElem?_of_mem z
        obtain ⟨n, h4, h5⟩ := b.back hj
        have := nodup_at s.nd e1 h5
        subst this
        exact h1 (List.mem_of_getElem? h4)
      have hm := List.mem_of_getElem? e1
      obtain ⟨w, hw, _⟩ := s.at hm
      have fr : frame Fr H m m2 a = some w := by rw [frame_in hm c]; exact hw
      have same : H2 a = H a := by
        rw [hw, lo.out (lk.out s' (.inr fr))]
        exact s'.exr a w fr
      rw [same]
      exact (s.obj i a o e1 h2).mono ex (List.prefix_refl _)
    · rw [Nat.zero_add] at h2
      obtain ⟨a', h4, h5⟩ := b.ats j i h1
      rw [e1] at h4
      cases h4
      have hj : j < ls.length := (List.getElem?_eq_some_iff.mp h1).1
      rw [lo.out (lk.keep (pre_get p h5) (hk j hj))]
      exact ObjRep.mono (Evl.Ex.refl _) (List.nil_prefix) (frzO_rep s' kp lk lo (s'.obj j a o' (pre_get p h5) h2) h3)
  · have nm : a ∉ m := fun ha => old a ha j h1 h3
    have z := s'.mf a (List.mem_of_getElem? h3)
    refine ⟨nm, ?_, ?_⟩
    · have z2 := z.2
      rw [frame_out (.inl nm)] at z2
      exact z2
    · rw [Hz_out fun n hn q => ?_]
      · exact z.1
      · have := nodup_at s'.nd h3 q
        subst this
        rw [h2] at hn
        cases hn
theorem res_rep {m2 m' : List Addr} {ls : List Nat} {S' : Store} {Hf' H' : Hp} (b : Sub m m2 ls) (p : m2 <+: m') {Fr' : Hp} (s' : Sim K Hf' Fr' m' S' H') {v w : Val} {x : V} (r : Rep K Hf' m' v x) (h : resV S' ls v = some w) {ds : List Addr} {H2 : Hp} (lk : LkS m' S' (fun n => decide (n < ls.length)) ds) (lo : LkOn ds H' H2) : Rep K (Hz Hf' H2 m' fun n => decide (n < ls.length)) m w x := by
  have gen : frz S' (fun n => decide (n < ls.length)) 6 v = some w → Rep K (Hz Hf' H2 m' fun n => decide (n < ls.length)) m w x := fun q => Rep.mono (Evl.Ex.refl _) List.nil_prefix _ _ (frz_rep s' _ lk lo 6 v w x r q)
  cases v with
  | loc j =>
    have h' : (match ls[j]? with
      | some n => some (Val.loc n)
      | none => frz S' (fun n => decide (n < ls.length)) 6 (.loc j)) = some w := h
    cases q : ls[j]? with
    | none => rw [q] at h'; exact gen h'
    | some n =>
      rw [q] at h'
      cases h'
      obtain ⟨a, rfl, h1⟩ := r
      obtain ⟨a', h2, h3⟩ := b.ats j n q
      have h4 := pre_get p h3
      rw [h1] at h4
      cases h4
      exact ⟨a, rfl, h2⟩
  | non => exact gen h
  | bl _ => exact gen h
  | int _ => exact gen h
  | str _ => exact gen h
  | tup _ => exact gen h
  | lst _ => exact gen h
  | dct _ _ _ => exact gen h
  | exc _ => exact gen h
/-- a new list handed back, as a list of the caller's store -/
theorem sim_new (s : Sim K Hf Fr m S H) {a : Addr} {o : Obj} (hm : a ∉ m) (hr : Fr a = none) (hf : Hf a = none) (r : ObjRep K Hf [] o (H a)) : Sim K Hf Fr (m ++ [a]) (S ++ [o]) H := by
  refine ⟨s.exf, s.exr, s.dis, ?_, by rw [List.length_append, List.length_append, s.len]; rfl, fun b hb => ?_, fun i b u e1 e2 => ?_⟩
  · rw [List.nodup_append]
    refine ⟨s.nd, by simp, fun b hb c hc => ?_⟩
    have e : c = a := by simpa using hc
    subst e
    exact fun z => hm (z ▸ hb)
  · rcases List.mem_append.mp hb with hb | hb
    · exact s.mf b hb
    · have e : b = a := by simpa using hb
      subst e
      exact ⟨hf, hr⟩
  · by_cases hi : i < m.length
    · rw [List.getElem?_append_left hi] at e1
      rw [List.getElem?_append_left (by rw [← s.len]; exact hi)] at e2
      exact (s.obj i b u e1 e2).mono (Evl.Ex.refl _) (List.prefix_append _ _)
    · have hl : i = m.length := by
        have := (List.getElem?_eq_some_iff.mp e1).1
        rw [List.length_append] at this
        have h1 : ([a] : List Addr).length = 1 := rfl
        omega
      subst hl
      have e1' : a = b := by simpa using e1
      have e2' : o = u := by simpa [s.len] using e2
      subst e1' e2'
      exact r.mono (Evl.Ex.refl _) List.nil_prefix
/-- a def's promise: what the interpreter says -/
def spI (K : PySem.W.Frag) (cl : Str → Value) (P : Nat → Option Fn) (W n f : Nat) : Sp := fun vs H Q Y => ∃ Hf Fr m S args, Sim K Hf Fr m S H ∧ Reps K Hf m args vs ∧ QE K cl Y Hf Fr m Q (run P W n f args S)
theorem newLoc_eq {k j : Nat} {v : Val} (h : newLoc k v = some j) : v = .loc j ∧ k ≤ j := by
  cases v with
  | loc i =>
    have h' : (if k ≤ i then some i else none) = some j := h
    by_cases c : k ≤ i
    · rw [if_pos c] at h'
      cases h'
      exact ⟨rfl, c⟩
    · rw [if_neg c] at h'
      cases h'
  | _ => cases h
/-- .. behind it some dicts are locked -/
abbrev lkQ (Q : VK) : VK := fun v H1 => ∃ ds : List Addr, ds.Nodup ∧ (∀ a ∈ ds, ∃ u, H1 a = some u ∧ Mut (some u)) ∧ ∀ H2, LkOn ds H1 H2 → Q v H2
theorem LkS.muts (s : Sim K Hf Fr m S H) {ds : List Addr} {k : Nat → Bool} (lk : LkS m S k ds) : ∀ a ∈ ds, ∃ u, H a = some u ∧ Mut (some u) := fun a ha => by
  obtain ⟨n, hn⟩ := List.getElem?_of_mem (lk.mem a ha)
  obtain ⟨_, t, ks, vs, h⟩ := (lk.iff n a hn).mp ha
  obtain ⟨u, xs, h1, h2, _⟩ := s.obj n a _ hn h
  exact ⟨u, h1, dIs_mut h2⟩
theorem callJ_ok {cl : Str → Value} {P : Nat → Option Fn} {W n f : Nat} {mu : Bool} {args : List Val} {xs : List V} {Q : VK} {Y : XK} (s : Sim K Hf Fr m S H) (r : Reps K Hf m args xs) (q : QE K cl Y Hf Fr m Q (callJ (run P W n) mu f args S)) : spI K cl P W n f xs H (lkQ Q) Y := by
  unfold callJ at q
  by_cases c1 : (argsOk args && decide (argLocs args).Nodup) = true
  · rw [if_pos c1, ] at q
    rw [Bool.and_eq_true, decide_eq_true_eq] at c1
    obtain ⟨c1, nl⟩ := c1
    cases q1 : getAll S (argLocs args) with
    | none => rw [q1] at q; exact q.elim
    | some os =>
      rw [q1] at q
      by_cases c2 : freeObjs os = true
      · simp only [c2, if_true] at q
        have b := sub_make s.len q1
        refine ⟨Hf, _, _, os, reArgs 0 args, sim_enter s b nl q1 c2, reArgs_rep args xs 0 c1 (fun j k e => by rw [Nat.zero_add]; exact b.ats j k e) r, ?_⟩
        revert q
        cases run P W n f (reArgs 0 args) os with
        | bad => exact fun q => q
        | ex c S' =>
          intro q3 H' Hf' m' e p s'
          have q0 : QE K cl Y Hf Fr m Q (if (S'.drop (argLocs args).length).any Obj.isD = true then .bad else match backs S' (fun n => decide (n < (argLocs args).length)) 0 (argLocs args) S with
            | some S2 => .ex c S2
            | none => .bad) := q3
          by_cases cd : (S'.drop (argLocs args).length).any Obj.isD = true
          · rw [if_pos cd] at q0
            exact q0.elim
          rw [if_neg cd] at q0
          have q4 : QE K cl Y Hf Fr m Q (match backs S' (fun n => decide (n < (argLocs args).length)) 0 (argLocs args) S with
            | some S2 => .ex c S2
            | none => .bad) := q0
          have lk : LkS m' S' (fun n => decide (n < (argLocs args).length)) [] := ⟨fun n a h => ⟨fun z => by simp at z, fun ⟨h1, t, ks, vs, h2⟩ => by
            have hn : ¬ n < (argLocs args).length := of_decide_eq_false h1
            refine absurd (List.any_eq_true.mpr ⟨_, List.mem_of_getElem? (i := n - (argLocs args).length) (a := Obj.dct t false ks vs) ?_, rfl⟩) cd
            rw [List.getElem?_drop, show (argLocs args).length + (n - (argLocs args).length) = n by omega]
            exact h2⟩, fun a z => by simp at z⟩
          have lo : LkOn [] H' H' := fun a => ⟨fun z => by simp at z, fun _ => rfl⟩
          cases q5 : backs S' (fun n => decide (n < (argLocs args).length)) 0 (argLocs args) S with
          | none => rw [q5] at q4; exact q4.elim
          | some S2 =>
            rw [q5] at q4
            obtain ⟨h1, h2, _⟩ := sim_leave s b nl (fun n hn => decide_eq_true hn) e p s' q5 lk lo
            exact q4 H' _ m h1 (List.prefix_refl _) h2
        | ok v S' =>
          intro q3 x H' Hf' m' e p s' rx
          cases mu with
          | false =>
            have q4 : QE K cl Y Hf Fr m Q (match backs S' (fun n => decide (n < (argLocs args).length)) 0 (argLocs args) S with
              | some S2 => match resV S' (argLocs args) v with
                | some v' => .ok v' S2
                | none => .bad
              | none => .bad) := q3
            cases q5 : backs S' (fun n => decide (n < (argLocs args).length)) 0 (argLocs args) S with
            | none => rw [q5] at q4; exact q4.elim
            | some S2 =>
              rw [q5] at q4
              have q6 : QE K cl Y Hf Fr m Q (match resV S' (argLocs args) v with
                | some v' => .ok v' S2
                | none => .bad) := q4
              cases q7 : resV S' (argLocs args) v with
              | none => rw [q7] at q6; exact q6.elim
              | some v' =>
                rw [q7] at q6
                obtain ⟨lk, nd⟩ := dsOf_ok s'.nd S' (fun n => decide (n < (argLocs args).length))
                refine ⟨_, nd, lk.muts s', fun H2 lo => ?_⟩
                obtain ⟨h1, h2, _⟩ := sim_leave s b nl (fun n hn => decide_eq_true hn) e p s' q5 lk lo
                exact q6 x H2 _ m h1 (List.prefix_refl _) h2 (res_rep b p s' rx q7 lk lo)
          | true =>
            have q4 : QE K cl Y Hf Fr m Q (match newLoc (argLocs args).length v with
              | some j => match S'[j]? with
                | some o => match frzO S' (kpJ (argLocs args).length j) o with
                  | some o' => match backs S' (kpJ (argLocs args).length j) 0 (argLocs args) S with
                    | some S2 => .ok (.loc S2.length) (S2 ++ [o'])
                    | none => .bad
                  | none => .bad
                | none => .bad
              | none => .bad) := q3
            cases q5 : newLoc (argLocs args).length v with
            | none => rw [q5] at q4; exact q4.elim
            | some j =>
              rw [q5] at q4
              obtain ⟨rfl, hj⟩ := newLoc_eq q5
              have q6 : QE K cl Y Hf Fr m Q (match S'[j]? with
                | some o => match frzO S' (kpJ (argLocs args).length j) o with
                  | some o' => match backs S' (kpJ (argLocs args).length j) 0 (argLocs args) S with
                    | some S2 => .ok (.loc S2.length) (S2 ++ [o'])
                    | none => .bad
                  | none => .bad
                | none => .bad) := q4
              cases q7 : S'[j]? with
              | none => rw [q7] at q6; exact q6.elim
              | some o =>
                rw [q7] at q6
                have q8 : QE K cl Y Hf Fr m Q (match frzO S' (kpJ (argLocs args).length j) o with
                  | some o' => match backs S' (kpJ (argLocs args).length j) 0 (argLocs args) S with
                    | some S2 => .ok (.loc S2.length) (S2 ++ [o'])
                    | none => .bad
                  | none => .bad) := q6
                cases q9 : frzO S' (kpJ (argLocs args).length j) o with
                | none => rw [q9] at q8; exact q8.elim
                | some o' =>
                  rw [q9] at q8
                  have q10 : QE K cl Y Hf Fr m Q (match backs S' (kpJ (argLocs args).length j) 0 (argLocs args) S with
                    | some S2 => .ok (.loc S2.length) (S2 ++ [o'])
                    | none => .bad) := q8
                  cases q11 : backs S' (kpJ (argLocs args).length j) 0 (argLocs args) S with
                  | none => rw [q11] at q10; exact q10.elim
                  | some S2 =>
                    rw [q11] at q10
                    have hkj : kpJ (argLocs args).length j j = true := by unfold kpJ; rw [decide_eq_true (rfl : j = j), Bool.or_true]
                    obtain ⟨lk, nd⟩ := dsOf_ok s'.nd S' (kpJ (argLocs args).length j)
                    refine ⟨_, nd, lk.muts s', fun H2 lo => ?_⟩
                    obtain ⟨h1, h2, h3⟩ := sim_leave s b nl (fun n hn => by unfold kpJ; rw [decide_eq_true hn, Bool.true_or]) e p s' q11 lk lo
                    obtain ⟨a, rfl, ha⟩ := rx
                    obtain ⟨g1, g2, g3⟩ := h3 j a hj hkj ha
                    have s2 := sim_new h2 g1 g2 g3 (by rw [lo.out (lk.keep ha hkj)]; exact frzO_rep s' _ lk lo (s'.obj j a o ha q7) q9)
                    exact q10 _ H2 _ (m ++ [a]) h1 (List.prefix_append _ _) s2 ⟨a, rfl, by rw [← h2.len]; simp⟩
      · have c3 : freeObjs os = false := by cases e : freeObjs os <;> first | rfl | exact absurd e c2
        simp only [c3] at q
        exact q.elim
  · rw [if_neg c1] at q
    exact q.elim
theorem call_ok {cl : Str → Value} {P : Nat → Option Fn} {W n f : Nat} {md : Option Bool} {args : List Val} {xs : List V} {Q : VK} {Y : XK} (s : Sim K Hf Fr m S H) (r : Reps K Hf m args xs) (q : QE K cl Y Hf Fr m Q (callI (run P W n) md f args S)) : spI K cl P W n f xs H (lkQ Q) Y := by
  cases md with
  | some mu => exact callJ_ok s r q
  | none =>
    have q' : QE K cl Y Hf Fr m Q (run P W n f args S) := q
    refine ⟨Hf, Fr, m, S, args, s, r, ?_⟩
    revert q'
    cases run P W n f args S with
    | bad => exact fun q => q
    | ex c S' => exact fun q => q
    | ok v S' =>
      intro q x H' Hf' m' e p s' r'
      refine ⟨[], List.nodup_nil, fun a z => by simp at z, fun H2 lo => ?_⟩
      have eH : H2 = H' := by funext a; exact lo.out (by simp)
      subst eH
      exact q x H2 Hf' m' e p s' r'
/-! a call that only looks -/
open Classical in
noncomputable def Hl (Hf H : Hp) (m : List Addr) (S : Store) : Hp := fun a => if ∃ (n : Nat) (vs : List Val), m[n]? = some a ∧ S[n]? = some (Obj.lst vs) then H a else Hf a
theorem Hl_in {n : Nat} {a : Addr} {vs : List Val} (h : m[n]? = some a) (h2 : S[n]? = some (.lst vs)) : Hl Hf H m S a = H a := if_pos ⟨n, vs, h, h2⟩
theorem Hl_out {a : Addr} (h : ¬ ∃ (n : Nat) (vs : List Val), m[n]? = some a ∧ S[n]? = some (Obj.lst vs)) : Hl Hf H m S a = Hf a := if_neg h
theorem Hl_ex (s : Sim K Hf Fr m S H) : Ex Hf (Hl Hf H m S) ∧ Ex (Hl Hf H m S) H := by
  refine ⟨fun a o e => ?_, fun a o e => ?_⟩
  · rw [Hl_out fun ⟨n, vs, h, _⟩ => by rw [(s.mf a (List.mem_of_getElem? h)).1] at e; cases e]
    exact e
  · by_cases c : ∃ (n : Nat) (vs : List Val), m[n]? = some a ∧ S[n]? = some (Obj.lst vs)
    · obtain ⟨n, vs, h1, h2⟩ := c
      rw [Hl_in h1 h2] at e
      exact e
    · rw [Hl_out c] at e
      exact s.exf a o e
theorem frzL_rep (s : Sim K Hf Fr m S H) : ∀ (f : Nat) (v w : Val) (x : V), Rep K Hf m v x → frzL S f v = some w → Rep K (Hl Hf H m S) [] w x
  | 0, v, w, x, r, h => mapLoc_rep (Hl_ex s).1 (fun _ _ _ _ z => by cases z) v w x r h
  | f + 1, v, w, x, r, h => mapLoc_rep (Hl_ex s).1 (fun n w y r h => by
      have h' : (match S[n]? with
        | some (.lst vs) => match allSome (frzL S f) vs with
          | some ws => some (Val.lst ws)
          | none => none
        | _ => none) = some w := h
      cases q : S[n]? with
      | none => rw [q] at h'; cases h'
      | some o =>
        cases o with
        | ins _ _ _ => rw [q] at h'; cases h'
        | dct _ _ _ _ => rw [q] at h'; cases h'
        | lst vs =>
          rw [q] at h'
          have h2 : (match allSome (frzL S f) vs with
            | some ws => some (Val.lst ws)
            | none => none) = some w := h'
          cases q2 : allSome (frzL S f) vs with
          | none => rw [q2] at h2; cases h2
          | some ws =>
            rw [q2] at h2
            cases h2
            obtain ⟨a, rfl, h3⟩ := r
            obtain ⟨xs, h4, h5⟩ := s.obj n a _ h3 q
            exact ⟨a, xs, rfl, SqL.of ((Hl_in h3 q).trans h4), allSome_rep (fun v w x => frzL_rep s f v w x) vs ws xs h5 q2⟩) v w x r h
open Classical in
noncomputable def FrO (Fr H : Hp) (m : List Addr) (S : Store) : Hp := fun a => if a ∈ m ∧ ¬ ∃ (n : Nat) (vs : List Val), m[n]? = some a ∧ S[n]? = some (Obj.lst vs) then H a else Fr a
theorem ro_enter (s : Sim K Hf Fr m S H) : Sim K (Hl Hf H m S) (FrO Fr H m S) [] [] H := by
  refine ⟨(Hl_ex s).2, fun a o e => ?_, fun a o e => ?_, List.nodup_nil, rfl, fun a h => by simp at h, fun i a o h => by simp at h⟩
  · by_cases c : a ∈ m ∧ ¬ ∃ (n : Nat) (vs : List Val), m[n]? = some a ∧ S[n]? = some (Obj.lst vs)
    · rwa [FrO, if_pos c] at e
    · rw [FrO, if_neg c] at e
      exact s.exr a o e
  · by_cases c : a ∈ m ∧ ¬ ∃ (n : Nat) (vs : List Val), m[n]? = some a ∧ S[n]? = some (Obj.lst vs)
    · rw [Hl_out c.2]
      exact (s.mf a c.1).1
    · rw [FrO, if_neg c] at e
      have hm : a ∉ m := fun h => by rw [(s.mf a h).2] at e; cases e
      rw [Hl_out fun ⟨n, vs, h, _⟩ => hm (List.mem_of_getElem? h)]
      exact s.dis a o e
open Classical in
noncomputable def Hless (Hf : Hp) (m : List Addr) : Hp := fun a => if a ∈ m then none else Hf a
theorem ro_leave {m' : List Addr} {S' : Store} {Hf' H' : Hp} (s : Sim K Hf Fr m S H) (e : Ex (Hl Hf H m S) Hf') (s' : Sim K Hf' (FrO Fr H m S) m' S' H') : Ex Hf (Hless Hf' m) ∧ Sim K (Hless Hf' m) Fr m S H' := by
  have ex : Ex Hf (Hless Hf' m) := fun a o h => by
    have hm : a ∉ m := fun z => by rw [(s.mf a z).1] at h; cases h
    rw [Hless, if_neg hm]
    exact e a o ((Hl_ex s).1 a o h)
  have fr : ∀ a o, Fr a = some o → FrO Fr H m S a = some o ∧ a ∉ m := fun a o h => by
    have hm : a ∉ m := fun z => by rw [(s.mf a z).2] at h; cases h
    exact ⟨by rw [FrO, if_neg fun z => hm z.1]; exact h, hm⟩
  refine ⟨ex, fun a o h => ?_, fun a o h => s'.exr a o (fr a o h).1, fun a o h => ?_, s.nd, s.len, fun a h => ⟨by rw [Hless, if_pos h], (s.mf a h).2⟩, fun i a o h1 h2 => ?_⟩
  · by_cases c : a ∈ m
    · rw [Hless, if_pos c] at h; cases h
    · rw [Hless, if_neg c] at h
      exact s'.exf a o h
  · rw [Hless, if_neg (fr a o h).2]
    exact s'.dis a o (fr a o h).1
  · have hm := List.mem_of_getElem? h1
    obtain ⟨w, hw, _⟩ := s.at hm
    have same : H' a = H a := by
      rw [hw]
      by_cases c : ∃ (n : Nat) (vs : List Val), m[n]? = some a ∧ S[n]? = some (Obj.lst vs)
      · obtain ⟨n, vs, h3, h4⟩ := c
        exact s'.exf a w (e a w ((Hl_in h3 h4).trans hw))
      · exact s'.exr a w (by rw [FrO, if_pos ⟨hm, c⟩]; exact hw)
    rw [same]
    exact (s.obj i a o h1 h2).mono ex (List.prefix_refl _)
theorem atom_rep {Hf' : Hp} {m' : List Addr} {v : Val} {x : V} (h : v.atom = true) (r : Rep K Hf m v x) : Rep K Hf' m' v x := by
  cases v <;> first | exact r | cases h
theorem callR_ok {cl : Str → Value} {P : Nat → Option Fn} {W n f : Nat} {args : List Val} {xs : List V} {Q : VK} {Y : XK} (s : Sim K Hf Fr m S H) (r : Reps K Hf m args xs) (q : QE K cl Y Hf Fr m Q (roR (run P W n f) args S)) : spI K cl P W n f xs H Q Y := by
  unfold roR at q
  cases q1 : allSome (frzL S 6) args with
  | none => rw [q1] at q; exact q.elim
  | some ws =>
    rw [q1] at q
    refine ⟨_, _, [], [], ws, ro_enter s, allSome_rep (fun v w x => frzL_rep s 6 v w x) args ws xs r q1, ?_⟩
    have q2 : QE K cl Y Hf Fr m Q (match run P W n f ws [] with
      | .ok v _ => if v.atom then .ok v S else .bad
      | .ex c _ => .ex c S
      | .bad => .bad) := q
    revert q2
    cases run P W n f ws [] with
    | bad => exact fun q => q
    | ex c S' =>
      intro q3 H' Hf' m' e p s'
      obtain ⟨h1, h2⟩ := ro_leave s e s'
      exact q3 H' _ m h1 (List.prefix_refl _) h2
    | ok v S' =>
      intro q3 x H' Hf' m' e p s' rx
      have q4 : QE K cl Y Hf Fr m Q (if v.atom = true then .ok v S else .bad) := q3
      by_cases c : v.atom = true
      · rw [if_pos c] at q4
        obtain ⟨h1, h2⟩ := ro_leave s e s'
        exact q4 x H' _ m h1 (List.prefix_refl _) h2 (atom_rep c rx)
      · rw [if_neg c] at q4
        exact q4.elim
end Iv
/-! Iv8: statements. -/
namespace Iv
open PySem PySem.Spec PyProof.Rows L2
open Evl (Ex ex_l ex_t)
def QO (K : PySem.W.Frag) (cl : Str → Value) (Y : XK) (Hf Fr : Hp) (m : List Addr) (D : Ends) : Out → Prop
  | .nxt ρ S => ∀ σ H Hf' m', Ex Hf Hf' → m <+: m' → Sim K Hf' Fr m' S H → EnvR K Hf' m' ρ σ → D.nx σ H
  | .brk ρ S => ∀ σ H Hf' m', Ex Hf Hf' → m <+: m' → Sim K Hf' Fr m' S H → EnvR K Hf' m' ρ σ → D.bk σ H
  | .cnt ρ S => ∀ σ H Hf' m', Ex Hf Hf' → m <+: m' → Sim K Hf' Fr m' S H → EnvR K Hf' m' ρ σ → D.ct σ H
  | .ret v S => ∀ x H Hf' m', Ex Hf Hf' → m <+: m' → Sim K Hf' Fr m' S H → Rep K Hf' m' v x → D.rt x H
  | .ex c S => ∀ H Hf' m', Ex Hf Hf' → m <+: m' → Sim K Hf' Fr m' S H → Y (cl c) none H
  | .bad => False
section
variable {K : PySem.W.Frag} {cl : Str → Value} {Y : XK} {Hf Hf' Fr : Hp} {m m' : List Addr} {D : Ends}
theorem QO.mono : ∀ {o : Out}, QO K cl Y Hf Fr m D o → Ex Hf Hf' → m <+: m' → QO K cl Y Hf' Fr m' D o
  | .nxt _ _, h, e, p => fun x H Hf2 m2 e2 p2 s r => h x H Hf2 m2 (e.trans e2) (p.trans p2) s r
  | .brk _ _, h, e, p => fun x H Hf2 m2 e2 p2 s r => h x H Hf2 m2 (e.trans e2) (p.trans p2) s r
  | .cnt _ _, h, e, p => fun x H Hf2 m2 e2 p2 s r => h x H Hf2 m2 (e.trans e2) (p.trans p2) s r
  | .ret _ _, h, e, p => fun x H Hf2 m2 e2 p2 s r => h x H Hf2 m2 (e.trans e2) (p.trans p2) s r
  | .ex _ _, h, e, p => fun H Hf2 m2 e2 p2 s => h H Hf2 m2 (e.trans e2) (p.trans p2) s
  | .bad, h, _, _ => h
theorem QO.go {α γ : Type} {P : Hp → List Addr → α → γ → Prop} {Q' : γ → Hp → Prop} {f : α → Store → Out} : ∀ {r : R α}, QO K cl Y Hf Fr m D (r.go f) →
    (∀ a S x H Hf' m', Ex Hf Hf' → m <+: m' → Sim K Hf' Fr m' S H → P Hf' m' a x → QO K cl Y Hf' Fr m' D (f a S) → Q' x H) → QR K cl Y P Hf Fr m Q' r
  | .ok a S, h, k => fun x H Hf' m' e p s r => k a S x H Hf' m' e p s r (QO.mono (o := f a S) h e p)
  | .ex _ _, h, _ => h
  | .bad, h, _ => h
end
def tSt (K : PySem.W.Frag) (cl : Str → Value) (Y : XK) (Φ : Option Bool → Nat → List Val → Store → R Val) (W : Nat) (st : St) : TS := fun D σ H => ∃ Hf Fr m S ρ, Sim K Hf Fr m S H ∧ EnvR K Hf m ρ σ ∧ QO K cl Y Hf Fr m D (execS Φ W st ρ S)
section
variable {X : Cx} {cl : Str → Value} {Y : XK} {Φ : Option Bool → Nat → List Val → Store → R Val} {W : Nat}
theorem ss_nil : PSs X [] ((tSt X.K cl Y Φ W) .nil) := PSs.of pss_nil fun D σ H ⟨Hf, Fr, m, S, ρ, s, er, q⟩ => q σ H Hf m (Evl.Ex.refl _) (List.prefix_refl _) s er
theorem ss_seq {st : Stmt} {sts : List Stmt} {a b : St} (ha : PS X st ((tSt X.K cl Y Φ W) a)) (hb : PSs X sts ((tSt X.K cl Y Φ W) b)) : PSs X (st :: sts) ((tSt X.K cl Y Φ W) (.seq a b)) := PSs.of (pss_cons ha hb) fun D σ H ⟨Hf, Fr, m, S, ρ, s, er, q⟩ => by
  refine ⟨Hf, Fr, m, S, ρ, s, er, ?_⟩
  have q' : QO X.K cl Y Hf Fr m D ((execS Φ W a ρ S).then fun ρ1 S1 => execS Φ W b ρ1 S1) := q
  revert q'
  cases execS Φ W a ρ S with
  | nxt ρ1 S1 => exact fun q' σ1 H1 Hf1 m1 e1 p1 s1 r1 => ⟨Hf1, Fr, m1, S1, ρ1, s1, r1, QO.mono q' e1 p1⟩
  | brk ρ1 S1 => exact fun q' => q'
  | cnt ρ1 S1 => exact fun q' => q'
  | ret v S1 => exact fun q' => q'
  | ex c S1 => exact fun q' => q'
  | bad => exact fun q' => q'
theorem ss_asg {e : E} {i : Nat} {st : Stmt} (h : PS X st (tAsg ((tI X.K cl (fun _ => Y) Φ) e) (gName i))) : PS X st ((tSt X.K cl Y Φ W) (.asg i e)) := PS.of h fun D σ H ⟨Hf, Fr, m, S, ρ, s, er, q⟩ =>
  ⟨Hf, Fr, m, S, ρ, s, er, QO.go (f := fun v S1 => .nxt (ρ.set i (some v)) S1) q fun v S1 x H1 Hf1 m1 e1 p1 s1 r1 q1 => q1 _ H1 Hf1 m1 (Evl.Ex.refl _) (List.prefix_refl _) s1 ((er.mono e1 p1).set i r1)⟩
theorem ss_par {a b : E} {i j : Nat} {xa xb : Expr} {st : Stmt} (h : PS X st (tPar i j (tCons ((tI X.K cl (fun _ => Y) Φ) a) (tCons ((tI X.K cl (fun _ => Y) Φ) b) tNil)))) : PS X st ((tSt X.K cl Y Φ W) (.par i j a b)) := PS.of h fun D σ H ⟨Hf, Fr, m, S, ρ, s, er, q⟩ =>
  ⟨Hf, Fr, m, S, ρ, s, er, QO.go (f := fun v S1 => (evalE Φ b ρ S1).go fun w S2 => .nxt ((ρ.set i (some v)).set j (some w)) S2) q fun v S1 x H1 Hf1 m1 e1 p1 s1 r1 q1 =>
    ⟨Hf1, Fr, m1, S1, ρ, s1, er.mono e1 p1, QO.go (f := fun w S2 => .nxt ((ρ.set i (some v)).set j (some w)) S2) q1 fun w S2 y H2 Hf2 m2 e2 p2 s2 r2 q2 =>
      ⟨x, y, rfl, q2 _ H2 Hf2 m2 (Evl.Ex.refl _) (List.prefix_refl _) s2 ((((er.mono e1 p1).mono e2 p2).set i (Rep.mono e2 p2 _ _ r1)).set j r2)⟩⟩⟩
theorem ss_unp {e : E} {is : List Nat} {st : Stmt} (h : PS X st (tAsg ((tI X.K cl (fun _ => Y) Φ) e) (gI X.K (.tp is)))) : PS X st ((tSt X.K cl Y Φ W) (.unp is e)) := PS.of h fun D σ H ⟨Hf, Fr, m, S, ρ, s, er, q⟩ =>
  ⟨Hf, Fr, m, S, ρ, s, er, QO.go (f := fun v S1 => match setTg ρ (.tp is) v with
    | some ρ1 => .nxt ρ1 S1
    | none => .bad) q fun v S1 x H1 Hf1 m1 e1 p1 s1 r1 q1 => by
    cases hs : setTg ρ (.tp is) v with
    | none => rw [hs] at q1; exact q1.elim
    | some ρ1 =>
      rw [hs] at q1
      exact gI_ok hs s1 (er.mono e1 p1) r1 fun σ' er' _ => q1 _ H1 Hf1 m1 (Evl.Ex.refl _) (List.prefix_refl _) s1 er'⟩
theorem ixN_rep {n n' : Nat} {k : Int} {j : Nat} (h : n = n') (e : ixN n k = some j) : ixN n' k = some j := by rw [← h]; exact e
def rSetA : V → V → V → Hp → (Hp → Prop) → Prop := fun o i v H Q => rSetL o i v H Q ∨ rSetDict o i v H Q
theorem set_A {X : Cx} (hu : X.A.units + 1 < cLine) : PSet X rSetA := PSet.or set_list (set_dict hu)
theorem sub_ok {K : PySem.W.Frag} {Hf Fr H : Hp} {m : List Addr} {S S4 : Store} {ov iv v : Val} {y z x : V} {Q : Hp → Prop} (s : Sim K Hf Fr m S H) (r2 : Rep K Hf m ov y) (r3 : Rep K Hf m iv z) (rv : Rep K Hf m v x) (hs : storeSub S ov iv v = some S4)
    (k : ∀ H', Sim K Hf Fr m S4 H' → Q H') : rSetA y z x H Q := by
  cases ov with
  | loc n =>
    cases q4 : S[n]? with
    | none =>
      unfold storeSub at hs
      simp only [q4] at hs
      cases hs
    | some ob =>
      obtain ⟨a, rfl, hm⟩ := r2
      cases ob with
      | ins _ _ _ =>
        unfold storeSub at hs
        simp only [q4] at hs
        cases hs
      | lst vs =>
        cases iv with
        | int j0 =>
          have hs2 : (match ixN vs.length j0 with
            | some j => some (S.set n (.lst (vs.set j v)))
            | none => none) = some S4 := by
            unfold storeSub at hs
            simp only [q4] at hs
            exact hs
          cases q5 : ixN vs.length j0 with
          | none => rw [q5] at hs2; cases hs2
          | some j =>
            rw [q5] at hs2
            cases hs2
            obtain ⟨xs, h5, h6⟩ := s.obj n a _ hm q4
            cases r3
            exact .inl ⟨a, xs, j0, j, rfl, rfl, h5, ixN_rep h6.length q5, k _ (s.write hm (Reps.set rv j h6))⟩
        | _ =>
          unfold storeSub at hs
          simp only [q4] at hs
          cases hs
      | dct t l ks vs =>
        cases l with
        | true =>
          unfold storeSub at hs
          simp only [q4] at hs
          cases hs
        | false =>
          have hs2 : (match keyOf t iv with
            | some q => if ks.length < lim then some (S.set n (.dct t false (dKeys ks q) (dVals ks vs q v))) else none
            | none => none) = some S4 := by
            unfold storeSub at hs
            simp only [q4] at hs
            exact hs
          cases t with
          | true => cases hs2
          | false =>
            cases q5 : keyOf false iv with
            | none => rw [q5] at hs2; cases hs2
            | some q =>
              rw [q5] at hs2
              have hs3 : (if ks.length < lim then some (S.set n (.dct false false (dKeys ks q) (dVals ks vs q v))) else none) = some S4 := hs2
              by_cases c : ks.length < lim
              · rw [if_pos c] at hs3
                cases hs3
                obtain ⟨k', e3, rfl⟩ := keyOf_f q5
                obtain ⟨u, xs, h1, ⟨kvs, rfl, rfl, rfl⟩, h2⟩ := s.obj n a _ hm q4
                have h1 : H a = some (.dK kvs) := h1
                obtain ⟨g1, g2⟩ := put_reps (fun k : Key => [k]) sing_inj k' rv kvs vs h2
                have hl : kvs.length < sizeLine := sz' (by rw [List.length_map] at c; exact c)
                exact .inr ⟨a, _, rfl, .inl ⟨kvs, k', h1, kyOf_rep e3 r3, hl, rfl⟩, k _ (s.writeO hm ⟨.dK (putK kvs k' x), _, rfl, ⟨_, rfl, g1, rfl⟩, g2⟩)⟩
              · rw [if_neg c] at hs3
                cases hs3
  | _ => cases hs
theorem ss_sub {o i e : E} {st : Stmt} (h : PS X st (tAsg ((tI X.K cl (fun _ => Y) Φ) e) (gSub ((tI X.K cl (fun _ => Y) Φ) o) ((tI X.K cl (fun _ => Y) Φ) i) rSetA))) : PS X st ((tSt X.K cl Y Φ W) (.sub o i e)) := PS.of h fun D σ H ⟨Hf, Fr, m, S, ρ, s, er, q⟩ =>
  ⟨Hf, Fr, m, S, ρ, s, er, QO.go (f := fun v S1 => (evalE Φ o ρ S1).go fun ov S2 => (evalE Φ i ρ S2).go fun iv S3 => match storeSub S3 ov iv v with
    | some S4 => .nxt ρ S4
    | none => .bad) q fun v S1 x H1 Hf1 m1 e1 p1 s1 r1 q1 =>
    ⟨Hf1, Fr, m1, S1, ρ, s1, er.mono e1 p1, QO.go (f := fun ov S2 => (evalE Φ i ρ S2).go fun iv S3 => match storeSub S3 ov iv v with
      | some S4 => .nxt ρ S4
      | none => .bad) q1 fun ov S2 y H2 Hf2 m2 e2 p2 s2 r2 q2 =>
      ⟨Hf2, Fr, m2, S2, ρ, s2, (er.mono e1 p1).mono e2 p2, QO.go (f := fun iv S3 => match storeSub S3 ov iv v with
        | some S4 => .nxt ρ S4
        | none => .bad) q2 fun iv S3 z H3 Hf3 m3 e3 p3 s3 r3 q3 => by
        cases hs : storeSub S3 ov iv v with
        | none => rw [hs] at q3; exact q3.elim
        | some S4 =>
          rw [hs] at q3
          exact sub_ok s3 (Rep.mono e3 p3 _ _ r2) r3 (Rep.mono e3 p3 _ _ (Rep.mono e2 p2 _ _ r1)) hs fun H4 s4 => q3 _ _ Hf3 m3 (Evl.Ex.refl _) (List.prefix_refl _) s4 (((er.mono e1 p1).mono e2 p2).mono e3 p3)⟩⟩⟩
theorem ss_pas {e o j : E} {i : Nat} {st : Stmt} (h : PS X st (tAsg ((tI X.K cl (fun _ => Y) Φ) e) (gTup X.K 2 (gCons (gName i) (gCons (gSub ((tI X.K cl (fun _ => Y) Φ) o) ((tI X.K cl (fun _ => Y) Φ) j) rSetA) gNil))))) : PS X st ((tSt X.K cl Y Φ W) (.pas i o j e)) := PS.of h fun D σ H ⟨Hf, Fr, m, S, ρ, s, er, q⟩ =>
  ⟨Hf, Fr, m, S, ρ, s, er, QO.go (f := fun v S1 => match v with
    | .tup [x, w] => (evalE Φ o (ρ.set i (some x)) S1).go fun ov S2 => (evalE Φ j (ρ.set i (some x)) S2).go fun jv S3 => match storeSub S3 ov jv w with
      | some S4 => .nxt (ρ.set i (some x)) S4
      | none => .bad
    | _ => .bad) q fun v S1 xv H1 Hf1 m1 e1 p1 s1 r1 q1 => by
    obtain ⟨x, w, rfl⟩ : ∃ x w, v = .tup [x, w] := by
      cases v with
      | tup vs =>
        match vs, q1 with
        | [x, w], _ => exact ⟨x, w, rfl⟩
        | [], q1 => exact q1.elim
        | [_], q1 => exact q1.elim
        | _ :: _ :: _ :: _, q1 => exact q1.elim
      | _ => exact q1.elim
    obtain ⟨a, xs, rfl, ht, hx⟩ := r1
    obtain ⟨y, r, rfl, ry, hr⟩ := hx
    obtain ⟨z, r', rfl, rz, hr'⟩ := hr
    cases hr'
    refine ⟨a, [y, z], rfl, ex_t s1.exf ht, rfl, y, [z], rfl, z, [], rfl, ?_⟩
    have er1 := (er.mono e1 p1).set i ry
    have q1 : QO X.K cl Y Hf1 Fr m1 D ((evalE Φ o (ρ.set i (some x)) S1).go fun ov S2 => (evalE Φ j (ρ.set i (some x)) S2).go fun jv S3 => match storeSub S3 ov jv w with
      | some S4 => .nxt (ρ.set i (some x)) S4
      | none => .bad) := q1
    refine ⟨Hf1, Fr, m1, S1, ρ.set i (some x), s1, er1, QO.go (f := fun ov S2 => (evalE Φ j (ρ.set i (some x)) S2).go fun jv S3 => match storeSub S3 ov jv w with
      | some S4 => .nxt (ρ.set i (some x)) S4
      | none => .bad) q1 fun ov S2 y2 H2 Hf2 m2 e2 p2 s2 r2 q2 => ?_⟩
    exact ⟨Hf2, Fr, m2, S2, ρ.set i (some x), s2, er1.mono e2 p2, QO.go (f := fun jv S3 => match storeSub S3 ov jv w with
        | some S4 => .nxt (ρ.set i (some x)) S4
        | none => .bad) q2 fun jv S3 y3 H3 Hf3 m3 e3 p3 s3 r3 q3 => by
        cases hs : storeSub S3 ov jv w with
        | none => rw [hs] at q3; exact q3.elim
        | some S4 =>
          rw [hs] at q3
          exact sub_ok s3 (Rep.mono e3 p3 _ _ r2) r3 (Rep.mono e3 p3 _ _ (Rep.mono e2 p2 _ _ rz)) hs fun H4 s4 => ⟨rfl, q3 _ _ Hf3 m3 (Evl.Ex.refl _) (List.prefix_refl _) s4 ((er1.mono e2 p2).mono e3 p3)⟩⟩⟩
theorem ss_expr {e : E} {x : Expr} {pos : Pos} (h : PE X x ((tI X.K cl (fun _ => Y) Φ) e)) (hs : swapsWith x none pos.line X.env = pure false) : PS X (.Expr x pos) ((tSt X.K cl Y Φ W) (.expr e)) := PS.of (ps_expr h hs) fun D σ H ⟨Hf, Fr, m, S, ρ, s, er, q⟩ =>
  ⟨Hf, Fr, m, S, ρ, s, er, QO.go (f := fun _ S1 => .nxt ρ S1) q fun v S1 x H1 Hf1 m1 e1 p1 s1 r1 q1 => q1 _ H1 Hf1 m1 (Evl.Ex.refl _) (List.prefix_refl _) s1 (er.mono e1 p1)⟩
theorem ss_ret {e : E} {x : Expr} {pos : Pos} (h : PE X x ((tI X.K cl (fun _ => Y) Φ) e)) : PS X (.Return (some x) pos) ((tSt X.K cl Y Φ W) (.ret e)) := PS.of (ps_ret h) fun D σ H ⟨Hf, Fr, m, S, ρ, s, er, q⟩ =>
  ⟨Hf, Fr, m, S, ρ, s, er, QO.go (f := fun v S1 => .ret v S1) q fun v S1 x H1 Hf1 m1 e1 p1 s1 r1 q1 => q1 _ H1 Hf1 m1 (Evl.Ex.refl _) (List.prefix_refl _) s1 r1⟩
theorem ss_retN {pos : Pos} : PS X (.Return none pos) ((tSt X.K cl Y Φ W) .retN) := PS.of ps_retN fun D σ H ⟨Hf, Fr, m, S, ρ, s, er, q⟩ => q .non H Hf m (Evl.Ex.refl _) (List.prefix_refl _) s rfl
theorem ss_pass {pos : Pos} : PS X (.Pass pos) ((tSt X.K cl Y Φ W) .pass) := PS.of ps_pass fun D σ H ⟨Hf, Fr, m, S, ρ, s, er, q⟩ => q σ H Hf m (Evl.Ex.refl _) (List.prefix_refl _) s er
theorem ss_brk {pos : Pos} : PS X (.Break pos) ((tSt X.K cl Y Φ W) .brk) := PS.of ps_break fun D σ H ⟨Hf, Fr, m, S, ρ, s, er, q⟩ => q σ H Hf m (Evl.Ex.refl _) (List.prefix_refl _) s er
theorem ss_cnt {pos : Pos} : PS X (.Continue pos) ((tSt X.K cl Y Φ W) .cnt) := PS.of ps_continue fun D σ H ⟨Hf, Fr, m, S, ρ, s, er, q⟩ => q σ H Hf m (Evl.Ex.refl _) (List.prefix_refl _) s er
theorem asB_inv {K : PySem.W.Frag} {Hf Fr : Hp} {m : List Addr} {D : Ends} {v : Val} {f : Bool → Out} (h : QO K cl Y Hf Fr m D (asB v f)) : ∃ b, v = .bl b ∧ QO K cl Y Hf Fr m D (f b) := by
  cases v with
  | bl b => exact ⟨b, rfl, h⟩
  | _ => exact h.elim
/-- a test ahead of what follows -/
theorem goT {K : PySem.W.Frag} {Hf Fr : Hp} {m : List Addr} {D : Ends} {t : E} {ρ : Env} {S : Store} {f : Bool → Store → Out} {Q' : Bool → Hp → Prop} (q : QO K cl Y Hf Fr m D ((evalE Φ t ρ S).go fun v S1 => asB v fun b => f b S1))
    (k : ∀ b S1 H Hf' m', Ex Hf Hf' → m <+: m' → Sim K Hf' Fr m' S1 H → QO K cl Y Hf' Fr m' D (f b S1) → Q' b H) : QR K cl Y (fun _ _ (a x : Bool) => a = x) Hf Fr m Q' (evalT Φ t ρ S) := by
  unfold evalT
  revert q
  cases evalE Φ t ρ S with
  | bad => exact fun q => q
  | ex c S1 => exact fun q => q
  | ok v S1 =>
    intro q
    obtain ⟨b, rfl, q2⟩ := asB_inv q
    intro x H Hf' m' e p s r
    cases r
    exact k b S1 H Hf' m' e p s (QO.mono q2 e p)
theorem ss_if {t : E} {a b : St} {xt : Expr} {sa sb : List Stmt} {pos : Pos} (ht : PT X xt ((tTs X.K cl (fun _ => Y) Φ) t)) (ha : PSs X sa ((tSt X.K cl Y Φ W) a)) (hb : PSs X sb ((tSt X.K cl Y Φ W) b)) : PS X (.If xt sa sb pos) ((tSt X.K cl Y Φ W) (.ite t a b)) := PS.of (ps_if ht ha hb) fun D σ H ⟨Hf, Fr, m, S, ρ, s, er, q⟩ =>
  ⟨Hf, Fr, m, S, ρ, s, er, goT (f := fun k S1 => if k then execS Φ W a ρ S1 else execS Φ W b ρ S1) q fun k S1 H1 Hf1 m1 e1 p1 s1 q1 => by
    cases k with
    | true => exact ⟨Hf1, Fr, m1, S1, ρ, s1, er.mono e1 p1, q1⟩
    | false => exact ⟨Hf1, Fr, m1, S1, ρ, s1, er.mono e1 p1, q1⟩⟩
theorem ss_while {t : E} {b : St} {xt : Expr} {sb : List Stmt} {pos : Pos} (hp : PassesOwn (model X.prog X.w) X.A X.env X.xe) (ht : PT X xt ((tTs X.K cl (fun _ => Y) Φ) t)) (hb : PSs X sb ((tSt X.K cl Y Φ W) b)) : PS X (.While xt sb [] pos) ((tSt X.K cl Y Φ W) (.while_ t b)) := PS.of (ps_while hp ht hb) fun D σ H ⟨Hf, Fr, m, S, ρ, s, er, q⟩ => by
  refine ⟨fun k σ H => ∃ Hf Fr m S ρ, Sim X.K Hf Fr m S H ∧ EnvR X.K Hf m ρ σ ∧ QO X.K cl Y Hf Fr m D (whileGo (fun ρ1 S1 => evalE Φ t ρ1 S1) (fun ρ1 S1 => execS Φ W b ρ1 S1) k ρ S), ⟨W, Hf, Fr, m, S, ρ, s, er, q⟩, ?_⟩
  rintro k σ1 H1 ⟨Hf1, Fr1, m1, S1, ρ1, s1, r1, q1⟩
  cases k with
  | zero => exact q1.elim
  | succ k =>
    refine ⟨Hf1, Fr1, m1, S1, ρ1, s1, r1, goT (f := fun b' S2 => if b' then match execS Φ W b ρ1 S2 with
      | .nxt ρ2 S2 => whileGo (fun ρ1 S1 => evalE Φ t ρ1 S1) (fun ρ1 S1 => execS Φ W b ρ1 S1) k ρ2 S2
      | .cnt ρ2 S2 => whileGo (fun ρ1 S1 => evalE Φ t ρ1 S1) (fun ρ1 S1 => execS Φ W b ρ1 S1) k ρ2 S2
      | .brk ρ2 S2 => .nxt ρ2 S2
      | .ret v S2 => .ret v S2
      | .ex c S2 => .ex c S2
      | .bad => .bad
    else .nxt ρ1 S2) q1 fun b' S2 H2 Hf2 m2 e2 p2 s2 q2 => ?_⟩
    cases b' with
    | false =>
      rw [if_neg (by decide)]
      exact q2 σ1 H2 Hf2 m2 (Evl.Ex.refl _) (List.prefix_refl _) s2 (r1.mono e2 p2)
    | true =>
      rw [if_pos rfl]
      refine ⟨fun σ' H' => ∃ Hf Fr m S ρ, Sim X.K Hf Fr m S H' ∧ EnvR X.K Hf m ρ σ' ∧ QO X.K cl Y Hf Fr m D (whileGo (fun ρ1 S1 => evalE Φ t ρ1 S1) (fun ρ1 S1 => execS Φ W b ρ1 S1) k ρ S), fun σ' H' h => ⟨k, Nat.lt_succ_self k, h⟩, Hf2, Fr1, m2, S2, ρ1, s2, r1.mono e2 p2, ?_⟩
      have q3 : QO X.K cl Y Hf2 Fr1 m2 D (match execS Φ W b ρ1 S2 with
        | .nxt ρ2 S2 => whileGo (fun ρ1 S1 => evalE Φ t ρ1 S1) (fun ρ1 S1 => execS Φ W b ρ1 S1) k ρ2 S2
        | .cnt ρ2 S2 => whileGo (fun ρ1 S1 => evalE Φ t ρ1 S1) (fun ρ1 S1 => execS Φ W b ρ1 S1) k ρ2 S2
        | .brk ρ2 S2 => .nxt ρ2 S2
        | .ret v S2 => .ret v S2
        | .ex c S2 => .ex c S2
        | .bad => .bad) := q2
      revert q3
      cases execS Φ W b ρ1 S2 with
      | nxt ρ3 S3 => exact fun q3 σ' H' Hf3 m3 e3 p3 s3 r3 => ⟨Hf3, Fr1, m3, S3, ρ3, s3, r3, QO.mono q3 e3 p3⟩
      | cnt ρ3 S3 => exact fun q3 σ' H' Hf3 m3 e3 p3 s3 r3 => ⟨Hf3, Fr1, m3, S3, ρ3, s3, r3, QO.mono q3 e3 p3⟩
      | brk ρ3 S3 => exact fun q3 => q3
      | ret v S3 => exact fun q3 => q3
      | ex c S3 => exact fun q3 => q3
      | bad => exact fun q3 => q3
theorem ss_for {g : Tg} {it : E} {b : St} {tg xi : Expr} {sb : List Stmt} {pos : Pos} (hp : PassesOwn (model X.prog X.w) X.A X.env X.xe) (hc : X.calm = true) (hi : PI X tg xi ((tIt X.K cl (fun _ => Y) Φ) it)) (hg : PG X tg (gI X.K g)) (hb : PSs X sb ((tSt X.K cl Y Φ W) b)) (hs : ∀ x, foldedSetIterable xi X.env x = pure x) :
    PS X (.For tg xi sb [] pos) ((tSt X.K cl Y Φ W) (.for_ g it b)) := PS.of (ps_for hp hc hi hg hb hs) fun D σ H ⟨Hf, Fr, m, S, ρ, s, er, q⟩ => by
  refine ⟨Hf, Fr, m, S, ρ, s, er, QO.go (f := fun xs S1 => forGo g (fun ρ1 S2 => execS Φ W b ρ1 S2) xs ρ S1) q fun xs S1 J H1 Hf1 m1 e1 p1 s1 w q1 => ?_⟩
  have wk : Walk J xs.length (fun H => Ex Hf1 H) (fun i H x H' => J.yld i H x H') := ⟨fun i H hi e => w.goes i H hi e, fun H e => w.stops H e, fun i H x H' hi e y => y⟩
  refine for_it wk (fun i σ H => ∃ Hf' m' S' ρ', Sim X.K Hf' Fr m' S' H ∧ Ex Hf1 Hf' ∧ m1 <+: m' ∧ EnvR X.K Hf' m' ρ' σ ∧ QO X.K cl Y Hf' Fr m' D (forGo g (fun ρ1 S2 => execS Φ W b ρ1 S2) (xs.drop i) ρ' S')) ?_ ?_ ?_ ?_
  · exact ⟨Hf1, m1, S1, ρ, s1, Evl.Ex.refl _, List.prefix_refl _, er.mono e1 p1, q1⟩
  · rintro i σ2 H2 _ ⟨Hf', m', S', ρ', s2, e2, _⟩
    exact e2.trans s2.exf
  · rintro i x σ2 H2 H3 hi ⟨Hf2, m2, S2, ρ2, s2, e2, p2, r2, q2⟩ y
    obtain ⟨v, Hf3, hv, e3, s3, r3⟩ := w.step e2 p2 s2 hi y
    have hdrop : xs.drop i = v :: xs.drop (i + 1) := by
      rw [List.drop_eq_getElem_cons hi]
      congr 1
      exact Option.some.inj ((List.getElem?_eq_getElem hi).symm.trans hv)
    rw [hdrop] at q2
    have q3 : QO X.K cl Y Hf2 Fr m2 D (match setTg ρ2 g v with
      | some ρ1 => match execS Φ W b ρ1 S2 with
        | .nxt ρ2 S2 => forGo g (fun ρ1 S2 => execS Φ W b ρ1 S2) (xs.drop (i + 1)) ρ2 S2
        | .cnt ρ2 S2 => forGo g (fun ρ1 S2 => execS Φ W b ρ1 S2) (xs.drop (i + 1)) ρ2 S2
        | .brk ρ2 S2 => .nxt ρ2 S2
        | .ret v S2 => .ret v S2
        | .ex c S2 => .ex c S2
        | .bad => .bad
      | none => .bad) := q2
    cases hs : setTg ρ2 g v with
    | none => rw [hs] at q3; exact q3.elim
    | some ρ3 =>
      rw [hs] at q3
      refine gI_ok hs s3 (r2.mono e3 (List.prefix_refl _)) r3 fun σ' er' _ => ⟨Hf3, Fr, m2, S2, ρ3, s3, er', ?_⟩
      have q4 : QO X.K cl Y Hf2 Fr m2 D (match execS Φ W b ρ3 S2 with
        | .nxt ρ2 S2 => forGo g (fun ρ1 S2 => execS Φ W b ρ1 S2) (xs.drop (i + 1)) ρ2 S2
        | .cnt ρ2 S2 => forGo g (fun ρ1 S2 => execS Φ W b ρ1 S2) (xs.drop (i + 1)) ρ2 S2
        | .brk ρ2 S2 => .nxt ρ2 S2
        | .ret v S2 => .ret v S2
        | .ex c S2 => .ex c S2
        | .bad => .bad) := q3
      revert q4
      cases execS Φ W b ρ3 S2 with
      | nxt ρ4 S4 => exact fun q4 σ4 H4 Hf4 m4 e4 p4 s4 r4 => ⟨Hf4, m4, S4, ρ4, s4, e2.trans (e3.trans e4), p2.trans p4, r4, QO.mono q4 (e3.trans e4) p4⟩
      | cnt ρ4 S4 => exact fun q4 σ4 H4 Hf4 m4 e4 p4 s4 r4 => ⟨Hf4, m4, S4, ρ4, s4, e2.trans (e3.trans e4), p2.trans p4, r4, QO.mono q4 (e3.trans e4) p4⟩
      | brk ρ4 S4 => exact fun q4 => QO.mono (o := .nxt ρ4 S4) q4 e3 (List.prefix_refl _)
      | ret v S4 => exact fun q4 => QO.mono (o := .ret v S4) q4 e3 (List.prefix_refl _)
      | ex c S4 => exact fun q4 => QO.mono (o := .ex c S4) q4 e3 (List.prefix_refl _)
      | bad => exact fun q4 => q4
  · rintro σ2 H2 ⟨Hf2, m2, S2, ρ2, s2, e2, p2, r2, q2⟩
    have hd : xs.drop xs.length = [] := List.drop_length
    rw [hd] at q2
    exact q2 σ2 H2 Hf2 m2 (Evl.Ex.refl _) (List.prefix_refl _) s2 r2
end
end Iv
set_option maxHeartbeats 8000000
/-! Iv8s: set(xs) of a list of ints; sorted(set(xs)), len(set(xs)). -/
namespace Iv
open PySem PySem.Spec PyProof.Rows L2
/-- a set that is new at w -/
abbrev newSet (w : World) : PySem.Obj := { cls := .type "set", dict := none, data := .set #[] 0 (.fresh 0 0 (!w.params.followText "set-order")) }
section
variable {P : Program} {w : World} {A : Around} {E : Value → Shared → Prop} {s : Shared}
theorem set_of_list {l : Addr} {its : Array Value} (ns : List Int) {Q : Value → Shared → Prop} (hA : A.handled = none) (hL : s.heap.IsList l its) (hi : IntsAre its.toList ns) (few : ns.length + 1 < scanBound)
    (k : ∀ (h2 : Heap) (t2 c : Nat), SetR w h2 s.heap.objs.size (fun j => decide (j ∈ ns)) c → c ≤ ns.length → (∀ b o, s.heap.get? b = some o → h2.get? b = some o) → Q (.ref s.heap.objs.size) { s with heap := h2, toks := t2 }) : wpAny (model P w) A (call (.type "set") [.ref l]) Q E s := by
  have size : its.size = ns.length := by have q := IntsAre.length hi; rw [Array.length_toList] at q; exact q
  obtain ⟨c0, tl, mro⟩ := F.called_set.mro
  have made := F.called_set.made; have sub := F.called_set.sub
  refine wpAny_call (codeAny_of_tree (show wpAny _ _ (callAny (.type "set") _) _ _ _ from wpAny_pure ⟨Code.quiet_builtin _ (by decide +kernel), codeAny_builtin F.entry_type_call ?_⟩))
  rw [Around.under_plain (weight_type_call_type "set" [.ref l] []) rfl]
  have n1 := F.called_set.notType; have n2 := F.called_set.canCreate; have n3 := F.typeCall_set_1 (.ref l)
  repeat (any_goals (first | assumption | wp_step))
  refine codeAny_mono (code_set_led1 (.ref l) (E := E) (Q₁ := fun v t => v = .ref s.heap.objs.size ∧ t = { s with heap := s.heap.push (newSet w) }) ⟨rfl, rfl⟩) fun r t hr => ?_
  cases r with
  | error e => exact hr
  | ok fl =>
    cases fl with
    | ret v =>
      obtain ⟨rfl, rfl⟩ := hr
      have g0 : (s.heap.push (newSet w)).get? s.heap.objs.size = some (newSet w) := Heap.get?_push_size _ rfl
      have ty : Shared.TypeIs { s with heap := s.heap.push (newSet w) } (.ref s.heap.objs.size) "set" := ⟨_, g0, rfl⟩
      have n4 := F.called_set.init.lookup; have n5 := F.called_set.init.bind (.ref s.heap.objs.size)
      repeat (any_goals (first | assumption | wp_step))
      refine codeAny_mono (codeAny_call_builtin (R := wants (fun r t => r = .none ∧ ∃ h2 t2 c, t = { s with heap := h2, toks := t2 } ∧ SetR w h2 s.heap.objs.size (fun j => decide (j ∈ ns)) c ∧ c ≤ ns.length ∧ (∀ b o, s.heap.get? b = some o → h2.get? b = some o)) E)
        F.called_set.init.plain F.entry_set_init (check_set_init_1 ty ?_)) fun r2 t2 hr2 => ?_
      · obtain ⟨⟨lc, ld, lda, lsl⟩, hol, hcl, nl, hdl⟩ := hL
        simp only at hcl hdl
        subst hcl; subst hdl
        have hol2 : (s.heap.push (newSet w)).get? l = some { cls := .type "list", dict := ld, data := .seq its nl, slots := lsl } := Heap.get?_push_of_some _ hol
        have n6 := F.sub_list_set; have n7 := F.sub_list_frozenset
        have n8 : (Value.type "list" == Value.type "dict") = false := by decide
        have hL1 : (s.heap.push (newSet w)).IsList l its := ⟨_, hol2, rfl, nl, rfl⟩
        unfold Builtin.«set.__init__» noKeywords Builtin.Frozenset.updateFrom
        generalize hPI : pyIter = PI
        wp_walk
        subst hPI
        refine wpAny_pyIter_list hL1 (wpAny_bind (wpAny_runValue ?_))
        have ll : l < s.heap.objs.size := Heap.lt_size hol
        have hA3 : A.in1.in1.in1.handled = none := by simp [hA]
        have far : l ≠ (s.heap.push (newSet w)).objs.size := by rw [Heap.size_push]; exact Nat.ne_of_lt (Nat.lt_succ_of_lt ll)
        have out : s.heap.objs.size ∉ [(s.heap.push (newSet w)).objs.size, l] := by
          rw [Heap.size_push]; simp only [List.mem_cons, List.mem_singleton, List.not_mem_nil, or_false, not_or]; exact ⟨Nat.ne_of_lt (Nat.lt_succ_self _), Nat.ne_of_gt ll⟩
        have val : ∀ (i : Nat) (v : Value), its[i]? = some v → ∃ k t, ns[i]? = some k ∧ v = .int k t := fun i v hv => by
          have lt : i < ns.length := by rw [← size]; exact (Array.getElem?_eq_some_iff.mp hv).1
          obtain ⟨t, e⟩ := PyProof.Rows.IntsAre.int_at hi i v (by rw [Array.getElem?_toList]; exact hv)
          exact ⟨ns[i], t, List.getElem?_eq_getElem lt, by rw [e, List.getD_eq_getElem?_getD, List.getElem?_eq_getElem lt]; rfl⟩
        refine set_update_ints ((Walks.list hA3 _ l far its).toS) s.heap.objs.size out ns size few val (its.size - 0) 0 _ (by omega) (Nat.zero_le _) ⟨⟨_, Heap.get?_push_size _ rfl, rfl, rfl⟩, (hL1.push _)⟩ ?iv0 ?ivR
        case iv0 =>
          have g1 : ((s.heap.push (newSet w)).push { cls := .type "list_iterator", data := .fields #[.ref l, .int 0 0] }).get? s.heap.objs.size = some (newSet w) := Heap.get?_push_of_some _ g0
          exact ⟨0, Nat.le_refl 0, setR_new_at g1⟩
        case ivR =>
          intro t c mv hc hS
          obtain ⟨h2, g2, d2, t2, o2⟩ := t
          have eg : g2 = s.gens := mv.gens
          have ed : d2 = s.drawn := mv.drawn
          have eo : o2 = s.os := mv.os
          subst eg; subst ed; subst eo
          rw [size] at hc
          refine wpAny_pure (show wpAny _ _ (ret Value.none) _ _ _ from wpAny_pure ⟨rfl, h2, t2, c, rfl, hS, hc, fun b o e => ?_⟩)
          have b0 : b < s.heap.objs.size := Heap.lt_size e
          exact mv.heap b o (by
            simp only [List.mem_cons, List.mem_singleton, List.not_mem_nil, or_false, not_or]
            exact ⟨Nat.ne_of_lt b0, by rw [Heap.size_push]; exact Nat.ne_of_lt (Nat.lt_succ_of_lt b0)⟩) (Heap.get?_push_of_some _ (Heap.get?_push_of_some _ e))
      · cases r2 with
        | error e => exact hr2
        | ok f2 =>
          cases f2 with
          | ret r =>
            obtain ⟨rfl, h2, t2, c, rfl, hS, hc, kp⟩ := hr2
            repeat (any_goals (first | assumption | wp_step))
            exact k _ _ _ hS hc kp
          | _ => exact hr2.elim
    | _ => exact hr.elim
end
end Iv
/-! Iv8t: sorted of a list or a tuple of ints; repr of data. -/
namespace IvK
open PySem PyProof.Rows Srt SrtO SrtR
section
variable {prog : Program} {w : World} {A : Around} {E : Value → Shared → Prop} {s : Shared}
theorem sorted_seq {l : Addr} {T : String} {o : PySem.Obj} {its : Array Value} {n : Nat} {b : Bool} {kw : List (Str × Value)} {ltv : Value → Value → Bool} {Q : Value → Shared → Prop} (hT : T = "list" ∨ T = "tuple") (ho : s.heap.get? l = some o) (hc : o.cls = .type T) (hd : o.data = .seq its n)
    (hk : ∀ a, Builtin.«list.sort» ⟨[.ref a], kw⟩ = Builtin.«list.sort» ⟨[.ref a], [(Str.ofString "reverse", .bool b)]⟩)
    (ha1 : argsOk "sorted" ⟨[.ref l], kw⟩) (ha2 : ∀ a, argsOk "list.sort" ⟨[a], kw⟩) (O : Swo ltv) (hz : its.toList.length ≤ sizeLine)
    (hS : 2 ≤ its.toList.length → ∀ (h₁ : Heap) (a : Addr), h₁.get? a = some (seqObj "list" its.toList.toArray 0) → SortableO prog w A.in1.in1 { s with heap := h₁ } a its.toList ltv)
    (h : ∀ (h' : Heap) (out : List Value), (∀ c o', s.heap.get? c = some o' → h'.get? c = some o') → Srtd ltv out → Stb ltv out (if b = true then its.toList.reverse else its.toList) →
      Q (.ref h'.objs.size) { s with heap := sortedHeap (h'.push (seqObj "list" its.toList.toArray 0)) h'.objs.size its.toList (if b = true then out.toArray.reverse else out.toArray) }) :
    wpAny (model prog w) A (call (.builtin "sorted") [.ref l] kw) Q E s := by
  refine call_function_entry_kw kind_sorted plain_sorted entry_sorted ha1 ?_
  unfold Builtin.«sorted»
  refine wpAny_bind (m := checkCount "sorted" 1 1 _) (wpAny_pure ?_)
  refine wpAny_bind (wpAny_collect_seq l hT ho hc hd (fun h' kp => ?_) (by rw [← Array.length_toList]; exact hz))
  refine wpAny_bind (wpAny_newList ?_ hz)
  have hoL : (h'.push (seqObj "list" its.toList.toArray 0)).get? h'.objs.size = some (seqObj "list" its.toList.toArray 0) := Heap.get?_push_size _ rfl
  show wpAny _ _ _ _ _ { s with heap := h'.push (seqObj "list" its.toList.toArray 0) }
  refine wpAny_bind (wpAny_holding (wpAny_call_entry_kw slot_list_sort ⟨_, hoL, rfl⟩ entry_list_sort ?_ (ha2 _)))
  rw [hk]
  refine list_sort_ordR O hoL hz (fun h2 => hS h2 _ _ hoL) fun out hs hb => ⟨_, rfl, ?_⟩
  exact wpAny_pure ⟨_, rfl, h h' out kp hs hb⟩
theorem key_nil (a : Addr) : Builtin.«list.sort» ⟨[.ref a], []⟩ = Builtin.«list.sort» ⟨[.ref a], [(Str.ofString "reverse", .bool false)]⟩ := by
  rw [list_sort_rev]
  first | rfl | kernel_rfl
end
end IvK
namespace Iv
open PySem PySem.Spec PyProof.Rows L2
section
variable {X : Cx}
def rSortedQ (K : PySem.W.Frag) (b : Bool) : List V → Hp → VK → Prop := fun vs H Q => ∃ (a : Addr) (ns : List Int), vs = [V.ref a] ∧ (SqL K H a (ns.map V.int) ∨ SqT K H a (ns.map V.int)) ∧
  ∀ (ns' : List Int) (p : Addr), ns'.Perm ns → OrdB b ns' → H p = none → Q (.ref p) (upd H p (.lst (ns'.map V.int)))
def rSortedQR (K : PySem.W.Frag) (b : Bool) : List V → List V → Hp → VK → Prop := fun vs zs H Q => zs = [.bl b] ∧ rSortedQ K b vs H Q
theorem sortedQ_run {b : Bool} {kw : List (Str × Value)} {pins : List (Addr × PySem.Obj)} {s : Shared} {σ : L2.St} {H : Hp} {a : Addr} {ns : List Int} {Q : VK} (I : Inv X pins σ H s) (hs : SqL X.K H a (ns.map V.int) ∨ SqT X.K H a (ns.map V.int))
    (hk : ∀ a, Builtin.«list.sort» ⟨[.ref a], kw⟩ = Builtin.«list.sort» ⟨[.ref a], [(Str.ofString "reverse", .bool b)]⟩) (ha1 : PySem.argsOk "sorted" ⟨[.ref a], kw⟩) (ha2 : ∀ a, PySem.argsOk "list.sort" ⟨[a], kw⟩)
    (q : ∀ (ns' : List Int) (p : Addr), ns'.Perm ns → OrdB b ns' → H p = none → Q (.ref p) (upd H p (.lst (ns'.map V.int)))) : wpAny (model X.prog X.w) X.A (call (.builtin "sorted") [.ref a] kw) (EP X pins σ Q) X.xe s := by
  obtain ⟨its, T, o, n, rv, hT, ho, hc, hd, hz⟩ : ∃ (its : List Value) (T : String) (o : PySem.Obj) (n : Nat), Vals (ns.map V.int) its ∧ (T = "list" ∨ T = "tuple") ∧ s.heap.get? a = some o ∧ o.cls = .type T ∧ o.data = .seq its.toArray n ∧ (ns.map V.int).length ≤ sizeLine := by
    rcases hs with h | h
    · obtain ⟨its, rv, hl, hz⟩ := I.list h
      obtain ⟨o, ho, hc, n, hd⟩ := hl.isList
      exact ⟨its, "list", o, n, rv, .inl rfl, ho, hc, hd, hz⟩
    · obtain ⟨its, rv, hl, hz⟩ := I.tuple h
      obtain ⟨o, ho, hc, n, hd⟩ := hl
      exact ⟨its, "tuple", o, n, rv, .inr rfl, ho, hc, hd, hz⟩
  have hi := rv.ints
  refine IvK.sorted_seq hT ho hc hd hk ha1 ha2 SrtO.swo_int (by rw [← rv.length]; exact hz) (fun h2 h₁ a' _ => SrtO.ints_sortable hi h2) fun h' out kp h1 h2 => ?_
  obtain ⟨ns', k1, k2, k3⟩ := SrtR.ints_outR hi h1 h2
  have hoL : (h'.push (seqObj "list" its.toArray.toList.toArray 0)).get? h'.objs.size = some (seqObj "list" its.toArray.toList.toArray 0) := Heap.get?_push_size _ rfl
  obtain ⟨ep, he'⟩ := PyProof.Rows.sortedHeap_at (vs := its.toArray.toList) (out := if b = true then out.toArray.reverse else out.toArray) hoL
  have hlen : (ns'.map V.int).length ≤ sizeLine := by
    rw [List.length_map, k2.length_eq]
    rw [List.length_map] at hz
    exact hz
  have e0 : ((if b = true then out.toArray.reverse else out.toArray).toList).toArray = (if b = true then out.toArray.reverse else out.toArray) := by rw [Array.toArray_toList]
  have lt : ∀ c u, s.heap.get? c = some u → c < h'.objs.size := fun c u e => Heap.lt_size (kp c u e)
  have hp : s.heap.get? h'.objs.size = none := by
    cases e : s.heap.get? h'.objs.size with
    | none => rfl
    | some u => exact absurd (lt _ _ e) (Nat.lt_irrefl _)
  have kp2 : ∀ c u, s.heap.get? c = some u → (sortedHeap (h'.push (seqObj "list" its.toArray.toList.toArray 0)) h'.objs.size its.toArray.toList (if b = true then out.toArray.reverse else out.toArray)).get? c = some u := fun c u e => by
    have l := lt c u e
    rw [PyProof.Rows.sortedHeap_old (Nat.ne_of_lt l) (by rw [size_push']; exact Nat.lt_succ_of_lt l)]
    exact Heap.get?_push_of_some _ (kp c u e)
  have hn : H h'.objs.size = none := I.hok.gone hp
  exact ⟨.ref _, upd H h'.objs.size (.lst (ns'.map V.int)), I.laidN (t' := s.toks) kp2 hp hn ⟨hlen, _, ep, vals_of_ints k1, by rw [e0]; exact he'⟩, rfl, q _ _ k2 k3 hn⟩
theorem cr_sortedQ : CallR X (.builtin "sorted") (rSortedQ X.K false) := by
  intro pins s σ H vs us Q I r h
  obtain ⟨a, ns, rfl, hs, q⟩ := h
  rw [Vals.ref1 r]
  exact sortedQ_run (b := false) I hs IvK.key_nil (PyProof.Rows.args_sorted1 _) (fun _ => PyProof.Rows.args_list_sort _) q
theorem cr_sortedQRev {b : Bool} : CallRK X (.builtin "sorted") [Str.ofString "reverse"] (rSortedQR X.K b) := by
  intro pins s σ H vs zs us ws Q I r rz h
  obtain ⟨rfl, a, ns, rfl, hs, q⟩ := h
  obtain rfl := Vals.ref1 r
  obtain ⟨w1, rfl, e1⟩ := vals1 rz
  obtain rfl : w1 = Value.bool b := e1
  exact sortedQ_run I hs (fun _ => rfl) (PyProof.Rows.args_sorted_rev _ _) (fun _ => PyProof.Rows.args_list_sort_rev _ _) q
def rRepr (K : PySem.W.Frag) : List V → Hp → VK → Prop := fun vs H Q => ∃ (a : Addr) (d : PyData), vs = [V.ref a] ∧ Dp K H (.ref a) d ∧ d.showable = true ∧ d.hasDict = false ∧ d.depth ≤ 32 ∧ d.shown.length ≤ 1000000 ∧ Q (.str d.shown) H
theorem cr_repr (hg : X.A.guards = some []) (hu : X.A.units + 65 < cLine) : CallR X (.builtin "repr") (rRepr X.K) := by
  intro pins s σ H vs us Q I r h
  obtain ⟨a, d, rfl, hd, h1, h2, h3, h4, q⟩ := h
  rw [Vals.ref1 r]
  obtain ⟨as, rd⟩ := Dp.reads I d _ (.ref a) hd rfl
  refine PySem.repr_of_reads' rd h1 (fun e => by rw [h2] at e; cases e) hg (by omega) (fun _ _ e => e) (fun h' u tk hk => ⟨.str d.shown, H, I.kept hk, ⟨_, rfl⟩, q⟩) ?_
  have : (1000000 : Nat) ≤ sizeLine := by decide
  omega
mutual
/-- data without lists, perhaps with empty dicts -/
inductive Dq (K : PySem.W.Frag) (H : Hp) : V → PyData → Prop
  | non : Dq K H .non .none
  | bl (b : Bool) : Dq K H (.bl b) (.bool b)
  | int (i : Int) : Dq K H (.int i) (.int i)
  | str (x : Str) : Dq K H (.str x) (.str x)
  | tup {a : Addr} {xs : List V} {ds : List PyData} : SqT K H a xs → DqAll K H xs ds → Dq K H (.ref a) (.tuple ds)
  | emp {a : Addr} {ob : PySem.Obj} : H a = some (.frz ob (.dK [])) → Dq K H (.ref a) (.dict [])
inductive DqAll (K : PySem.W.Frag) (H : Hp) : List V → List PyData → Prop
  | nil : DqAll K H [] []
  | cons {v : V} {vs : List V} {d : PyData} {ds : List PyData} : Dq K H v d → DqAll K H vs ds → DqAll K H (v :: vs) (d :: ds)
end
mutual
theorem Dq.reads {pins : List (Addr × PySem.Obj)} {σ : L2.St} {H : Hp} {s : Shared} (I : Inv X pins σ H s) : ∀ (d : PyData) (v : V) (u : Value), Dq X.K H v d → RelV v u → ∃ as, Reads s.heap u d as ∧ sysModules ∉ as
  | .none, _, _, h, r => by
    cases h
    cases r
    exact ⟨_, Reads.none, by simp⟩
  | .bool b, _, _, h, r => by
    cases h
    cases r
    exact ⟨_, Reads.bool b, by simp⟩
  | .int i, _, _, h, r => by
    cases h
    obtain ⟨t, rfl⟩ := r
    exact ⟨_, Reads.int i t, by simp⟩
  | .str x, _, _, h, r => by
    cases h
    obtain ⟨t, rfl⟩ := r
    exact ⟨_, Reads.str x t, by simp⟩
  | .list ds, _, _, h, r => by cases h
  | .tuple ds, _, _, h, r => by
    cases h with
    | tup hs ha =>
      cases r
      obtain ⟨its, rv, ⟨o, ho, hc, n, hd⟩, _⟩ := I.tuple hs
      obtain ⟨as, hr, hn⟩ := Dq.readsAll I ds _ its ha rv
      exact ⟨_, Reads.tuple ho hc hd hr, hn⟩
  | .dict kvs, _, _, h, r => by
    cases h with
    | emp e =>
      cases r
      obtain ⟨_, _, hs, vs, kv, o, es, ep, ho, hx, hd, _, hp, _⟩ := I.hok _ _ e
      cases kv
      have hz : es.toList = [] := by
        have := PySem.Pairs.length hp
        exact List.length_eq_zero_iff.mp this
      refine ⟨_, Reads.dict (as := []) (bs := []) (kvs := []) ho hx.1 hd (by rw [hz]; exact .nil) (by rw [hz]; exact .nil), ?_⟩
      simp only [List.append_nil, List.mem_singleton]
      exact fun e => absurd (e ▸ hs) (by simp)
theorem Dq.readsAll {pins : List (Addr × PySem.Obj)} {σ : L2.St} {H : Hp} {s : Shared} (I : Inv X pins σ H s) : ∀ (ds : List PyData) (vs : List V) (us : List Value), DqAll X.K H vs ds → Vals vs us → ∃ as, ReadsAll s.heap us ds as ∧ sysModules ∉ as
  | [], _, _, h, r => by
    cases h
    cases r
    exact ⟨_, ReadsAll.nil, by simp⟩
  | d :: ds, _, _, h, r => by
    cases h with
    | cons h1 h2 =>
      cases r with
      | cons r1 r2 =>
        obtain ⟨as, q1, n1⟩ := Dq.reads I d _ _ h1 r1
        obtain ⟨bs, q2, n2⟩ := Dq.readsAll I ds _ _ h2 r2
        exact ⟨_, ReadsAll.cons q1 q2, fun hm => (List.mem_append.mp hm).elim n1 n2⟩
end
def rReprQ (K : PySem.W.Frag) : List V → Hp → VK → Prop := fun vs H Q => ∃ (a : Addr) (d : PyData), vs = [V.ref a] ∧ Dq K H (.ref a) d ∧ d.showable = true ∧ d.depth ≤ 32 ∧ d.shown.length ≤ 1000000 ∧ Q (.str d.shown) H
theorem cr_reprQ (hg : X.A.guards = some []) (hu : X.A.units + 65 < cLine) : CallR X (.builtin "repr") (rReprQ X.K) := by
  intro pins s σ H vs us Q I r h
  obtain ⟨a, d, rfl, hd, h1, h3, h4, q⟩ := h
  rw [Vals.ref1 r]
  obtain ⟨as, rd, hn⟩ := Dq.reads I d _ (.ref a) hd rfl
  refine PySem.repr_of_reads' rd h1 (fun _ => hn) hg (by omega) (fun _ _ e => e) (fun h' u tk hk => ⟨.str d.shown, H, I.kept hk, ⟨_, rfl⟩, q⟩) ?_
  have : (1000000 : Nat) ≤ sizeLine := by decide
  omega
/-- repr of an atom -/
def rReprO : List V → Hp → VK → Prop := fun vs H Q => (vs = [V.non] ∧ Q (.str "None") H) ∨ (∃ b, vs = [V.bl b] ∧ Q (.str (if b then "True" else "False")) H) ∨ (∃ i, vs = [V.int i] ∧ i.natAbs.log2 < 1920 ∧ Q (.str (toString i)) H) ∨ ∃ t, vs = [V.str t] ∧ (reprText t).length ≤ sizeLine ∧ Q (.str (reprText t)) H
theorem cr_reprO : CallR X (.builtin "repr") rReprO := by
  intro pins s σ H vs us Q I r h
  rcases h with ⟨rfl, q⟩ | ⟨b, rfl, q⟩ | ⟨i, rfl, hz, q⟩ | ⟨t, rfl, hz, q⟩
  · obtain ⟨u, rfl, e⟩ := vals1 r
    obtain rfl : u = Value.none := e
    exact PySem.P.repr_of_none ⟨.str _, H, I.tok _, ⟨_, rfl⟩, q⟩
  · obtain ⟨u, rfl, e⟩ := vals1 r
    obtain rfl : u = Value.bool b := e
    exact PySem.P.repr_of_bool ⟨.str _, H, I.tok _, ⟨_, rfl⟩, q⟩
  · obtain ⟨u, rfl, k, rfl⟩ := vals1 r
    exact PySem.P.repr_of_int hz ⟨.str _, H, I.tok _, ⟨_, rfl⟩, q⟩
  · obtain ⟨u, rfl, k, rfl⟩ := vals1 r
    exact PySem.P.repr_of_str ⟨.str _, H, I.tok _, ⟨_, rfl⟩, q⟩ hz
end
end Iv
/-! Iv8u: functions of one value, list + list, list(range(..)), live walks. -/
namespace Iv
open PySem PySem.Spec PyProof.Rows L2
open Evl (Ex ex_l ex_t)
/-! ### numbers in a row -/
theorem mem_insS {x z : Int} : ∀ {l : List Int}, z ∈ insS x l ↔ z = x ∨ z ∈ l
  | [] => by unfold insS; simp
  | y :: r => by
    unfold insS
    by_cases h1 : x < y
    · rw [if_pos h1]; simp
    · rw [if_neg h1]
      by_cases h2 : x = y
      · rw [if_pos h2]; subst h2; simp
      · rw [if_neg h2, List.mem_cons, mem_insS, List.mem_cons]
        constructor
        · rintro (h | h | h)
          · exact .inr (.inl h)
          · exact .inl h
          · exact .inr (.inr h)
        · rintro (h | h | h)
          · exact .inr (.inl h)
          · exact .inl h
          · exact .inr (.inr h)
theorem insS_srt {x : Int} : ∀ {l : List Int}, l.Pairwise (· < ·) → (insS x l).Pairwise (· < ·)
  | [], _ => by unfold insS; exact List.pairwise_singleton _ _
  | y :: r, h => by
    obtain ⟨h1, h2⟩ := List.pairwise_cons.mp h
    unfold insS
    by_cases c1 : x < y
    · rw [if_pos c1]
      refine List.pairwise_cons.mpr ⟨fun z hz => ?_, h⟩
      rcases List.mem_cons.mp hz with e | hz
      · rw [e]; exact c1
      · exact Int.lt_trans c1 (h1 z hz)
    · rw [if_neg c1]
      by_cases c2 : x = y
      · rw [if_pos c2]; exact h
      · rw [if_neg c2]
        refine List.pairwise_cons.mpr ⟨fun z hz => ?_, insS_srt h2⟩
        rcases mem_insS.mp hz with e | hz
        · rw [e]; omega
        · exact h1 z hz
theorem mem_setS {z : Int} : ∀ {l : List Int}, z ∈ setS l ↔ z ∈ l
  | [] => Iff.rfl
  | y :: r => by
    show z ∈ insS y (setS r) ↔ _
    rw [mem_insS, mem_setS, List.mem_cons]
theorem setS_srt : ∀ l : List Int, (setS l).Pairwise (· < ·)
  | [] => List.Pairwise.nil
  | y :: r => insS_srt (setS_srt r)
theorem nodup_lt {l : List Int} (h : l.Pairwise (· < ·)) : l.Nodup := h.imp fun {a b} q e => by subst e; exact Int.lt_irrefl _ q
theorem setS_uniq {l ns : List Int} (h : l.Pairwise (· < ·)) (hm : ∀ k, k ∈ l ↔ k ∈ ns) : l = setS ns := by
  have p : l.Perm (setS ns) := (List.perm_ext_iff_of_nodup (nodup_lt h) (nodup_lt (setS_srt ns))).mpr fun k => by rw [hm, mem_setS]
  exact p.eq_of_pairwise (fun a b _ _ h1 h2 => absurd (Int.lt_trans h1 h2) (Int.lt_irrefl _)) h (setS_srt ns)
theorem setS_len {l ns : List Int} (h : l.Nodup) (hm : ∀ k, k ∈ l ↔ k ∈ ns) : l.length = (setS ns).length :=
  ((List.perm_ext_iff_of_nodup h (nodup_lt (setS_srt ns))).mpr fun k => by rw [hm, mem_setS]).length_eq
theorem insS_few (x : Int) : ∀ l : List Int, (insS x l).length ≤ l.length + 1
  | [] => Nat.le_refl _
  | y :: r => by
    unfold insS
    split
    · exact Nat.le_refl _
    · split
      · exact Nat.le_succ _
      · have := insS_few x r
        simp only [List.length_cons]
        omega
theorem setS_few : ∀ l : List Int, (setS l).length ≤ l.length
  | [] => Nat.le_refl _
  | y :: r => by
    have h1 := insS_few y (setS r)
    have h2 := setS_few r
    show (insS y (setS r)).length ≤ r.length + 1
    omega
theorem insI_perm {x : Int} : ∀ l : List Int, (insI x l).Perm (x :: l)
  | [] => List.Perm.refl _
  | y :: r => by
    unfold insI
    by_cases h : x ≤ y
    · rw [if_pos h]
    · rw [if_neg h]
      exact ((insI_perm r).cons y).trans (List.Perm.swap x y r)
theorem srtI_perm : ∀ l : List Int, (srtI l).Perm l
  | [] => List.Perm.refl _
  | y :: r => (insI_perm (srtI r)).trans ((srtI_perm r).cons y)
theorem insI_srt {x : Int} : ∀ {l : List Int}, l.Pairwise (· ≤ ·) → (insI x l).Pairwise (· ≤ ·)
  | [], _ => by unfold insI; exact List.pairwise_singleton _ _
  | y :: r, h => by
    obtain ⟨h1, h2⟩ := List.pairwise_cons.mp h
    unfold insI
    by_cases c1 : x ≤ y
    · rw [if_pos c1]
      refine List.pairwise_cons.mpr ⟨fun z hz => ?_, h⟩
      rcases List.mem_cons.mp hz with e | hz
      · rw [e]; exact c1
      · exact Int.le_trans c1 (h1 z hz)
    · rw [if_neg c1]
      refine List.pairwise_cons.mpr ⟨fun z hz => ?_, insI_srt h2⟩
      rcases List.mem_cons.mp ((insI_perm r).mem_iff.mp hz) with e | hz
      · rw [e]; omega
      · exact h1 z hz
theorem srtI_srt : ∀ l : List Int, (srtI l).Pairwise (· ≤ ·)
  | [] => List.Pairwise.nil
  | y :: r => insI_srt (srtI_srt r)
theorem srtI_uniq {l ns : List Int} (p : l.Perm ns) (h : l.Pairwise (· ≤ ·)) : l = srtI ns :=
  (p.trans (srtI_perm ns).symm).eq_of_pairwise (fun a b _ _ h1 h2 => Int.le_antisymm h1 h2) h (srtI_srt ns)
theorem maxI_ge : ∀ (l : List Int) (m : Int), m ≤ maxI m l ∧ ∀ y ∈ l, y ≤ maxI m l
  | [], m => ⟨Int.le_refl _, fun y h => by cases h⟩
  | x :: r, m => by
    have i := maxI_ge r (if m < x then x else m)
    show m ≤ maxI (if m < x then x else m) r ∧ _
    have e : m ≤ (if m < x then x else m) ∧ x ≤ (if m < x then x else m) := by split <;> omega
    refine ⟨Int.le_trans e.1 i.1, fun y hy => ?_⟩
    rcases List.mem_cons.mp hy with h | h
    · rw [h]; exact Int.le_trans e.2 i.1
    · exact i.2 y h
theorem maxI_mem : ∀ (l : List Int) (m : Int), maxI m l ∈ m :: l
  | [], m => List.mem_cons_self
  | x :: r, m => by
    show maxI (if m < x then x else m) r ∈ _
    have i := maxI_mem r (if m < x then x else m)
    rcases List.mem_cons.mp i with h | h
    · rw [h]
      split
      · exact List.mem_cons_of_mem _ List.mem_cons_self
      · exact List.mem_cons_self
    · exact List.mem_cons_of_mem _ (List.mem_cons_of_mem _ h)
theorem minI_le : ∀ (l : List Int) (m : Int), minI m l ≤ m ∧ ∀ y ∈ l, minI m l ≤ y
  | [], m => ⟨Int.le_refl _, fun y h => by cases h⟩
  | x :: r, m => by
    have i := minI_le r (if x < m then x else m)
    show minI (if x < m then x else m) r ≤ m ∧ _
    have e : (if x < m then x else m) ≤ m ∧ (if x < m then x else m) ≤ x := by split <;> omega
    refine ⟨Int.le_trans i.1 e.1, fun y hy => ?_⟩
    rcases List.mem_cons.mp hy with h | h
    · rw [h]; exact Int.le_trans i.1 e.2
    · exact i.2 y h
theorem minI_mem : ∀ (l : List Int) (m : Int), minI m l ∈ m :: l
  | [], m => List.mem_cons_self
  | x :: r, m => by
    show minI (if x < m then x else m) r ∈ _
    have i := minI_mem r (if x < m then x else m)
    rcases List.mem_cons.mp i with h | h
    · rw [h]
      split
      · exact List.mem_cons_of_mem _ List.mem_cons_self
      · exact List.mem_cons_self
    · exact List.mem_cons_of_mem _ (List.mem_cons_of_mem _ h)
/-! ### rules -/
section
variable {X : Cx}
def rSetL (K : PySem.W.Frag) (w : World) : List V → Hp → VK → Prop := fun xs H Q => ∃ l ns, xs = [.ref l] ∧ SqL K H l (ns.map V.int) ∧ ns.length < 1000 ∧ ∀ p, H p = none → Q (.ref p) (upd H p (SetO w p (fun j => decide (j ∈ ns)) (setS ns).length))
theorem cr_setL (hc : X.calm = true) : CallR X (.type "set") (rSetL X.K X.w) := by
  intro pins s σ H xs us Q I r h
  obtain ⟨l, ns, rfl, hq, few, q⟩ := h
  rw [Vals.ref1 r]
  obtain ⟨its, rv, hl, hz⟩ := I.list hq
  refine set_of_list ns (I.ok.hd hc) hl.isList (by simpa using rv.ints) (by unfold scanBound; omega) fun h2 t2 c R hcl kp => ?_
  have hlen : c = (setS ns).length := by
    obtain ⟨o, es, ep, t, ho, hx, hd, g, nd, hm, hb, hf, hn, _⟩ := id R
    have e := setS_len (ns := ns) nd fun k => by rw [← hm k]; simp
    rw [List.length_map, Array.length_toList, hn] at e
    exact e
  subst hlen
  exact ⟨.ref s.heap.objs.size, upd H s.heap.objs.size (SetO X.w s.heap.objs.size (fun j => decide (j ∈ ns)) (setS ns).length), I.laid (t' := t2) (fun b u e => kp b u e) (Nat.le_refl _) (setO_new R), rfl, q _ (I.hok.fresh (Nat.le_refl _))⟩
def rSetU (K : PySem.W.Frag) (w : World) : List V → Hp → VK → Prop := fun xs H Q => ∃ l ns, xs = [.ref l] ∧ SqT K H l (ns.map V.int) ∧ ns.length < 1000 ∧ ∀ p, H p = none → Q (.ref p) (upd H p (SetO w p (fun j => decide (j ∈ ns)) (setS ns).length))
theorem cr_setU (hc : X.calm = true) : CallR X (.type "set") (rSetU X.K X.w) := by
  intro pins s σ H xs us Q I r h
  obtain ⟨l, ns, rfl, hq, few, q⟩ := h
  rw [Vals.ref1 r]
  obtain ⟨its, rv, hl, hz⟩ := I.tuple hq
  have hi : IntsAre its.toArray.toList ns := ints_of_vals rv
  refine call_set_tupI ns (I.ok.hd hc) (show s.heap.IsTuple l its.toArray from hl) hi (by unfold scanBound; omega) fun h2 t2 c R hcl kp => ?_
  have hlen : c = (setS ns).length := by
    obtain ⟨o, es, ep, t, ho, hx, hd, g, nd, hm, hb, hf, hn, _⟩ := id R
    have e := setS_len (ns := ns) nd fun k => by rw [← hm k]; simp
    rw [List.length_map, Array.length_toList, hn] at e
    exact e
  subst hlen
  exact ⟨.ref s.heap.objs.size, upd H s.heap.objs.size (SetO X.w s.heap.objs.size (fun j => decide (j ∈ ns)) (setS ns).length), I.laid (t' := t2) (fun b u e => kp b u e) (Nat.le_refl _) (setO_new R), rfl, q _ (I.hok.fresh (Nat.le_refl _))⟩
def rLenS (w : World) : List V → Hp → VK → Prop := fun xs H Q => ∃ a S n, xs = [.ref a] ∧ H a = some (SetO w a S n) ∧ Q (.int (n : Nat)) H
theorem cr_lenS : CallR X (.builtin "len") (rLenS X.w) := by
  intro pins s σ H xs us Q I r h
  obtain ⟨a, S, n, rfl, ha, q⟩ := h
  rw [Vals.ref1 r]
  obtain ⟨o, es, ep, t, ho, hx, hd, g, nd, hm, hb, hf, hn, _⟩ := setO_get I ha
  have hsz : ((es.size : Nat) : Int) < 2 ^ 63 := by unfold scanBound at hb; omega
  refine call_len_set ho hx hd hf hsz ⟨.int (n : Nat), H, I.tok _, ⟨_, by rw [hn]⟩, q⟩
end
/-! ### t[::-1] -/
section
variable {prog : Program} {w : World} {A : Around} {E : Value → Shared → Prop} {s : Shared}
theorem adj_rev (n : Nat) : Builtin.Slice.sliceAdjust none none (-1) (n : Int) = ((n : Int) - 1, -1) := by
  unfold Builtin.Slice.sliceAdjust
  simp
theorem plc_rev (n : Nat) : Builtin.Slice.slicePlaces ((n : Int) - 1) (-1) (-1) = n := by
  unfold Builtin.Slice.slicePlaces
  rw [if_neg (by decide)]
  by_cases h : (n : Int) - 1 > -1
  · rw [if_pos h]
    rw [show (- -1 : Int) = 1 by decide, Int.ediv_one]
    omega
  · rw [if_neg h]
    omega
theorem pick_rev (xs : Array Value) : ((List.range xs.size).filterMap fun (k : Nat) => xs[((xs.size : Int) - 1 + (k : Int) * -1).toNat]?).toArray = xs.toList.reverse.toArray := by
  congr 1
  apply List.ext_getElem?
  intro i
  have all : ∀ m : Nat, m ≤ xs.size → (List.range m).filterMap (fun (k : Nat) => xs[((xs.size : Int) - 1 + (k : Int) * -1).toNat]?) = xs.toList.reverse.take m := by
    intro m
    induction m with
    | zero => intro _; rfl
    | succ m ih =>
      intro hm
      rw [List.range_succ, List.filterMap_append, ih (by omega)]
      have hk : ((xs.size : Int) - 1 + (m : Int) * -1).toNat = xs.size - 1 - m := by omega
      have hlt : xs.size - 1 - m < xs.size := by omega
      have e1 : List.filterMap (fun (k : Nat) => xs[((xs.size : Int) - 1 + (k : Int) * -1).toNat]?) [m] = [xs[xs.size - 1 - m]] := by
        simp only [List.filterMap_cons, List.filterMap_nil, hk, Array.getElem?_eq_getElem hlt]
      rw [e1, List.take_add_one, List.getElem?_reverse (by rw [Array.length_toList]; omega), Array.length_toList, Array.getElem?_toList, Array.getElem?_eq_getElem hlt]
      rfl
  rw [all xs.size (Nat.le_refl _), List.take_of_length_le (by rw [List.length_reverse, Array.length_toList]; exact Nat.le_refl _)]
theorem rev_tuple {t sl : Addr} {items : Array Value} {vl vu vs : Value} {Q : Value → Shared → Prop} (ht : PyProof.Rows.IsTup s.heap t items) (hs : s.heap.IsSliceOf sl vl vu vs) (pl : IsPart vl none) (pu : IsPart vu none) (ps : IsPart vs (some (-1)))
    (h : Q (.ref s.heap.objs.size) { s with heap := s.heap.push { cls := .type "tuple", data := .seq items.toList.reverse.toArray } }) (hsz : items.size ≤ sizeLine) : wpAny (model prog w) A (getItem (.ref t) (.ref sl)) Q E s := by
  have ok : sizeOk (.seq items.toList.reverse.toArray) := by
    show items.toList.reverse.toArray.size ≤ sizeLine
    rw [List.size_toArray, List.length_reverse, Array.length_toList]
    exact hsz
  obtain ⟨os, hos, hcs, hds⟩ := id hs
  have tys : s.TypeIs (.ref sl) "slice" := ⟨os, hos, hcs⟩
  cases pl
  cases pu
  cases ps
  unfold getItem
  try with_reducible refine wpAny_holding ?_
  first | refine wpAny_bind (wpAny_pure ?_) | skip
  refine wpAny_bind (wpAny_sequenceKey ht.typeIs (by decide) ?_)
  refine wpAny_bind (wpAny_callSpecial?_slot (name := Str.ofString "__getitem__") ht.typeIs PyProof.Rows.slot_tuple_getitem (wpAny_call_entry PyProof.Rows.slot_tuple_getitem ht.typeIs entry_tuple_getitem ?_ (args_tuple_getitem _ _)))
  show wpAny _ _ (Builtin.Tuple.tupleItemsOf (.ref t) >>= _) _ _ s
  refine wpAny_bind (PyProof.Rows.tupleItemsOf_ ht (wpAny_bind (wpAny_typeOf tys ?_)))
  rw [if_pos (by decide)]
  refine wpAny_bind ?_
  unfold Builtin.Slice.sliceApplied Builtin.Slice.sliceFields
  refine wpAny_bind (wpAny_bind (wpAny_field hos hds (x := .none) rfl (wpAny_bind (wpAny_field hos hds (x := .none) rfl (wpAny_bind (wpAny_field hos hds rfl (wpAny_pure ?_)))))))
  refine wpAny_bind (HT.slicePart_ (IsPart.int (-1) _) ?_)
  show wpAny _ _ (if ((-1 : Int) == 0) = true then _ else _) _ _ s
  rw [if_neg (by decide)]
  refine wpAny_bind (HT.slicePart_ IsPart.none (wpAny_bind (HT.slicePart_ IsPart.none (wpAny_bind (wpAny_pure ?_)))))
  show wpAny _ _ (match Builtin.Slice.sliceAdjust none none (-1) (items.size : Int) with | (lo, hi) => pure (lo, (-1 : Int), Builtin.Slice.slicePlaces lo hi (-1))) _ _ s
  rw [adj_rev]
  show wpAny _ _ (pure ((items.size : Int) - 1, (-1 : Int), Builtin.Slice.slicePlaces ((items.size : Int) - 1) (-1) (-1))) _ _ s
  rw [plc_rev]
  refine wpAny_pure ?_
  have no : ¬ ((((items.size : Int) - 1) == 0 && ((-1 : Int) == 1) && (items.size == items.size)) = true) := by
    intro q
    rw [Bool.and_eq_true, Bool.and_eq_true] at q
    exact absurd q.1.2 (by decide)
  show wpAny _ _ (if ((((items.size : Int) - 1) == 0 && ((-1 : Int) == 1) && (items.size == items.size)) = true) then _ else _) _ _ s
  rw [if_neg no, pick_rev]
  first
    | exact wpAny_bind (m := Builtin.Tuple.tupleExact _) (wpAny_newObj_type (wpAny_pure ⟨_, rfl, wpAny_pure h⟩) ok)
    | exact wpAny_bind (m := Builtin.Tuple.tupleExact _) (wpAny_newObj_type (wpAny_bind (wpAny_pure (wpAny_pure ⟨_, rfl, wpAny_pure h⟩))) ok)
    | exact wpAny_bind (wpAny_bind (m := Builtin.Tuple.tupleExact _) (wpAny_newObj_type (wpAny_pure (wpAny_pure ⟨_, rfl, wpAny_pure h⟩)) ok))
    | exact wpAny_bind (wpAny_bind (m := Builtin.Tuple.tupleExact _) (wpAny_newObj_type (wpAny_pure ⟨_, rfl, wpAny_pure h⟩) ok))
end
def kRev (K : PySem.W.Frag) (x : V) (H : Hp) (Q : VK) : Prop := ∃ a xs, x = .ref a ∧ ((SqL K H a xs ∧ ∀ p, H p = none → Q (.ref p) (upd H p (.lst xs.reverse))) ∨ (SqT K H a xs ∧ ∀ p, H p = none → Q (.ref p) (upd H p (.tup xs.reverse))))
theorem pe_rev {X : Cx} {e : Expr} {te : TE} {k : Nat} {p1 p2 p3 pos : Pos} (he : PE X e te) : PE X (.Subscript e (.Slice none none (some (.UnaryOp .USub (.Constant (.int 1) k p1) p2)) p3) pos) (fun σ H Q => te σ H fun x H1 => kRev X.K x H1 Q) := by
  refine ⟨fun pins s σ H Q I h => Subscript_ (thn (he.run pins s σ H _ I h) fun v s1 ⟨x, H1, I1, r1, q1⟩ => ?_)⟩
  obtain ⟨a, xs, ex, hx⟩ := q1
  subst ex
  cases r1
  have st : PO X (some (.UnaryOp .USub (.Constant (.int 1) k p1) p2)) (tPart (tUn (rU fun i => .int (-i)) (tC (.int 1)))) := po_some (pe_un un_neg pe_int)
  refine wpAny_Slice (thn (po_none.run pins s1 σ H1 (fun o H2 => o = none ∧ H2 = H1) I1 ⟨rfl, rfl⟩) fun vl s2 ⟨l, H2, I2, pl, el, e2⟩ => ?_)
  subst el e2
  refine thn (po_none.run pins s2 σ H2 (fun o H3 => o = none ∧ H3 = H2) I2 ⟨rfl, rfl⟩) fun vu s3 ⟨u, H3, I3, pu, eu, e3⟩ => ?_
  subst eu e3
  refine thn (st.run pins s3 σ H3 (fun o H4 => o = some (-1) ∧ H4 = H3) I3 ⟨1, rfl, -1, rfl, rfl, rfl⟩) fun vs s4 ⟨o, H4, I4, ps, eo, e4⟩ => ?_
  subst eo e4
  have I5 : Inv X pins σ H4 { s4 with heap := s4.heap.push { cls := .type "slice", data := .fields #[vl, vu, vs] } } := I4.kept (t' := s4.toks) fun b ob q => Heap.get?_push_of_some _ q
  show wpAny (model X.prog X.w) X.A (subscriptTail e (.Slice none none (some (.UnaryOp .USub (.Constant (.int 1) k p1) p2)) p3) (.ref a) (.ref s4.heap.objs.size)) (EP X pins σ Q) X.xe _
  rcases hx with ⟨hx, q⟩ | ⟨hx, q⟩
  · obtain ⟨its, r, ht, hz⟩ := I5.list hx
    have hlen := r.length
    refine tail_any (ops := [.ref a, .ref s4.heap.objs.size]) ht.isList.typeIs (PySem.slot_list_getitem.lookup) ?_ (by with_unfolding_all rfl)
    refine wpAny_getItem_list_slice ht.isList (Heap.IsSliceOf.new _ vl vu vs) pl pu ps (by decide) ?_ (by rw [List.size_toArray]; omega)
    rw [PySem.W.krv_pick]
    exact ⟨.ref _, _, I5.laid (t' := s4.toks) (o := .lst xs.reverse) (fun b ob q => Heap.get?_push_of_some _ q) (Nat.le_refl _) ⟨by rw [List.length_reverse]; exact hz, _, 0, r.reverse, Heap.get?_push_size _ rfl⟩, rfl, q _ (I5.hok.fresh (Nat.le_refl _))⟩
  · obtain ⟨its, r, ht, hz⟩ := I5.tuple hx
    have hlen := r.length
    refine tail_any (ops := [.ref a, .ref s4.heap.objs.size]) ht.typeIs PyProof.Rows.slot_tuple_getitem.lookup ?_ (by with_unfolding_all rfl)
    refine rev_tuple ht (Heap.IsSliceOf.new _ vl vu vs) pl pu ps ?_ (by rw [List.size_toArray]; omega)
    exact ⟨.ref _, _, I5.laid (t' := s4.toks) (o := .tup xs.reverse) (fun b ob q => Heap.get?_push_of_some _ q) (Nat.le_refl _) ⟨by rw [List.length_reverse]; exact hz, _, r.reverse, PyProof.Rows.IsTup.new _ _⟩, rfl, q _ (I5.hok.fresh (Nat.le_refl _))⟩
end Iv
/-! Iv8v: readings of functions of one value, list + list, list(range(..)), live walks. -/
namespace Iv
open PySem PySem.Spec PyProof.Rows L2
open Evl (Ex ex_l ex_t)
section
variable {K : PySem.W.Frag} {Hf Fr H : Hp} {m : List Addr} {S : Store}
theorem reps_ints : ∀ {vs : List Val} {ns : List Int} {xs : List V}, intsOf vs = some ns → Reps K Hf m vs xs → xs = ns.map V.int
  | [], _, _, e, r => by cases e; cases r; rfl
  | v :: vs, ns, _, e, r => by
    obtain ⟨x, t, rfl, h1, h2⟩ := r
    cases v with
    | int i =>
      have e' : (match intsOf vs with
        | some is => some (i :: is)
        | none => none) = some ns := e
      cases q : intsOf vs with
      | none => rw [q] at e'; cases e'
      | some is =>
        rw [q] at e'
        cases e'
        cases h1
        rw [reps_ints q h2]
        rfl
    | _ => cases e
theorem reps_bols : ∀ {vs : List Val} {ns : List Bool} {xs : List V}, bolsOf vs = some ns → Reps K Hf m vs xs → xs = ns.map V.bl
  | [], _, _, e, r => by cases e; cases r; rfl
  | v :: vs, ns, _, e, r => by
    obtain ⟨x, t, rfl, h1, h2⟩ := r
    cases v with
    | bl i =>
      have e' : (match bolsOf vs with
        | some is => some (i :: is)
        | none => none) = some ns := e
      cases q : bolsOf vs with
      | none => rw [q] at e'; cases e'
      | some is =>
        rw [q] at e'
        cases e'
        cases h1
        rw [reps_bols q h2]
        rfl
    | _ => cases e
theorem ints_reps : ∀ (ns : List Int), Reps K Hf m (ns.map Val.int) (ns.map V.int)
  | [] => .nil
  | n :: ns => .cons rfl (ints_reps ns)
theorem Reps.rev : ∀ {vs : List Val} {xs : List V}, Reps K Hf m vs xs → Reps K Hf m vs.reverse xs.reverse
  | [], _, h => by cases h; exact .nil
  | v :: vs, _, h => by
    obtain ⟨x, r, rfl, h2, h3⟩ := h
    rw [List.reverse_cons, List.reverse_cons]
    exact (Reps.rev h3).snoc h2
/-- the items of a list -/
theorem Rep.litAt (s : Sim K Hf Fr m S H) {v : Val} {vs : List Val} {x : V} (r : Rep K Hf m v x) (e : litems S v = some vs) : ∃ a xs, x = .ref a ∧ SqL K H a xs ∧ Reps K Hf m vs xs := by
  cases v with
  | lst ws =>
    have e' : some ws = some vs := e
    cases e'
    exact Rep.lstAt s r
  | loc n =>
    have e' : (match S[n]? with
      | some (.lst vs) => some vs
      | _ => none) = some vs := e
    cases q : S[n]? with
    | none => rw [q] at e'; cases e'
    | some o =>
      cases o with
      | lst ws =>
        rw [q] at e'
        cases e'
        obtain ⟨a, xs, h1, _, h3, h4⟩ := Rep.locAt s r q
        exact ⟨a, xs, h1, SqL.of h3, h4⟩
      | dct _ _ _ _ => rw [q] at e'; cases e'
      | ins _ _ _ => rw [q] at e'; cases e'
  | _ => cases e
theorem Rep.intsAt (s : Sim K Hf Fr m S H) {v : Val} {ns : List Int} {x : V} (r : Rep K Hf m v x) (e : lints S v = some ns) : ∃ a, x = .ref a ∧ SqL K H a (ns.map V.int) := by
  unfold lints at e
  cases q : litems S v with
  | none => rw [q] at e; cases e
  | some vs =>
    rw [q] at e
    obtain ⟨a, xs, h1, h2, h3⟩ := Rep.litAt s r q
    rw [reps_ints e h3] at h2
    exact ⟨a, h1, h2⟩
theorem Rep.sintsAt (s : Sim K Hf Fr m S H) {v : Val} {ns : List Int} {x : V} (r : Rep K Hf m v x) (e : sints S v = some ns) : ∃ a, x = .ref a ∧ (SqL K H a (ns.map V.int) ∨ SqT K H a (ns.map V.int)) := by
  unfold sints at e
  cases q : items S v with
  | none => rw [q] at e; cases e
  | some vs =>
    rw [q] at e
    obtain ⟨a, xs, h1, h2, h3⟩ := Rep.seqAt s r q
    rw [reps_ints e h3] at h2
    exact ⟨a, h1, h2⟩
theorem Reps.derefDp (s : Sim K Hf Fr m S H) : ∀ {vs : List Val} {xs : List V} {ds : List PyData}, Reps K Hf m vs xs → toDs (vs.map (deref S)) = some ds → DpAll K H xs ds
  | [], _, _, r, e => by cases r; cases e; exact .nil
  | v :: vs, _, ds, r, e => by
    obtain ⟨x, t, rfl, h2, h3⟩ := r
    have e' : (match toD (deref S v) with
      | some d => match toDs (vs.map (deref S)) with
        | some ds => some (d :: ds)
        | none => none
      | none => none) = some ds := e
    cases q1 : toD (deref S v) with
    | none => rw [q1] at e'; cases e'
    | some d =>
      rw [q1] at e'
      cases q2 : toDs (vs.map (deref S)) with
      | none => rw [q2] at e'; cases e'
      | some ds' =>
        rw [q2] at e'
        cases e'
        exact .cons (Rep.derefDp s h2 q1) (Reps.derefDp s h3 q2)
theorem Rep.dataAt (s : Sim K Hf Fr m S H) {v : Val} {d : PyData} {x : V} (r : Rep K Hf m v x) (e : dataOf S v = some d) : ∃ a, x = .ref a ∧ Dp K H (.ref a) d := by
  have gen : (∀ ws, v ≠ .tup ws) → ∃ a, x = .ref a ∧ Dp K H (.ref a) d := fun hv => by
    have e' : (match litems S v with
      | some vs => match toDs (vs.map (deref S)) with
        | some ds => some (PyData.list ds)
        | none => none
      | none => none) = some d := by
      cases v with
      | tup ws => exact absurd rfl (hv ws)
      | _ => exact e
    cases q : litems S v with
    | none => rw [q] at e'; cases e'
    | some vs =>
      rw [q] at e'
      have e2 : (match toDs (vs.map (deref S)) with
        | some ds => some (PyData.list ds)
        | none => none) = some d := e'
      cases q2 : toDs (vs.map (deref S)) with
      | none => rw [q2] at e2; cases e2
      | some ds =>
        rw [q2] at e2
        cases e2
        obtain ⟨a, xs, h1, h2, h3⟩ := Rep.litAt s r q
        exact ⟨a, h1, .lst h2 (Reps.derefDp s h3 q2)⟩
  cases v with
  | tup ws =>
    have e2 : (match toDs (ws.map (deref S)) with
      | some ds => some (PyData.tuple ds)
      | none => none) = some d := e
    cases q2 : toDs (ws.map (deref S)) with
    | none => rw [q2] at e2; cases e2
    | some ds =>
      rw [q2] at e2
      cases e2
      obtain ⟨a, xs, h1, h2, h3⟩ := Rep.tupAt s r
      exact ⟨a, h1, .tup h2 (Reps.derefDp s h3 q2)⟩
  | _ => exact gen (by intro ws z; cases z)
theorem Rep.bolsAt (s : Sim K Hf Fr m S H) {v : Val} {ns : List Bool} {x : V} (r : Rep K Hf m v x) (e : lbols S v = some ns) : ∃ a, x = .ref a ∧ SqL K H a (ns.map V.bl) := by
  unfold lbols at e
  cases q : litems S v with
  | none => rw [q] at e; cases e
  | some vs =>
    rw [q] at e
    obtain ⟨a, xs, h1, h2, h3⟩ := Rep.litAt s r q
    rw [reps_bols e h3] at h2
    exact ⟨a, h1, h2⟩
end
def isStarX : Expr → Bool | .Starred .. => true | _ => false
theorem starX {x : Expr} (h : isStarX x = false) (xs : List Expr) (env : PySem.Env) : starEach (x :: xs) env = (false, eval x env) :: starEach xs env := by
  cases x <;> first | rfl | cases h
section
variable {X : Cx} {cl : Str → Value} {Y : L2.St → XK} {Z : XK} {Φ : Option Bool → Nat → List Val → Store → R Val}
/-- a rule of one value for a word of one value -/
def UpS (K : PySem.W.Frag) (cl : Str → Value) (o : Uop) (r : V → Hp → VK → Prop) : Prop := ∀ (Y : XK) (Hf Fr : Hp) (m : List Addr) (S : Store) (H : Hp) (v : Val) (x : V) (Q : VK), Sim K Hf Fr m S H → Rep K Hf m v x → QE K cl Y Hf Fr m Q (uV o v S) → r x H Q
theorem u_of {o : Uop} {a : E} {r : V → Hp → VK → Prop} (hs : UpS X.K cl o r) (σ : L2.St) (H : Hp) (Q : VK) (h : tI X.K cl Y Φ (.u o a) σ H Q) : tI X.K cl Y Φ a σ H fun x H1 => r x H1 Q := by
  obtain ⟨Hf, Fr, m, S, ρ, s, er, q⟩ := h
  exact ⟨Hf, Fr, m, S, ρ, s, er, QR.bind (f := fun v S1 => uV o v S1) q fun v S1 y H1 Hf1 m1 e1 p1 s1 r1 q1 => hs (Y σ) Hf1 Fr m1 S1 H1 v y Q s1 r1 q1⟩
theorem u_bols {o : Uop} {g : List Bool → Bool} (ho : ∀ v S, uV o v S = match lbols S v with
    | some bs => .ok (.bl (g bs)) S
    | none => .bad) {K : PySem.W.Frag} : UpS K cl o (fun x H Q => ∃ (a : Addr) (bs : List Bool), x = .ref a ∧ SqL K H a (bs.map V.bl) ∧ Q (.bl (g bs)) H) := by
  intro Y Hf Fr m S H v x Q s r q
  rw [ho] at q
  cases e : lbols S v with
  | none => rw [e] at q; exact q.elim
  | some bs =>
    rw [e] at q
    obtain ⟨a, h1, h2⟩ := Rep.bolsAt s r e
    exact ⟨a, bs, h1, h2, Give.at q s rfl⟩
theorem u_ints {o : Uop} {g : List Int → Option Int} (ho : ∀ v S, uV o v S = match lints S v with
    | some ns => match g ns with
      | some i => .ok (.int i) S
      | none => .bad
    | none => .bad) {K : PySem.W.Frag} : UpS K cl o (fun x H Q => ∃ (a : Addr) (ns : List Int) (i : Int), x = .ref a ∧ SqL K H a (ns.map V.int) ∧ g ns = some i ∧ Q (.int i) H) := by
  intro Y Hf Fr m S H v x Q s r q
  rw [ho] at q
  cases e : lints S v with
  | none => rw [e] at q; exact q.elim
  | some ns =>
    rw [e] at q
    have q2 : QE K cl Y Hf Fr m Q (match g ns with
      | some i => .ok (.int i) S
      | none => .bad) := q
    cases e2 : g ns with
    | none => rw [e2] at q2; exact q2.elim
    | some i =>
      rw [e2] at q2
      obtain ⟨a, h1, h2⟩ := Rep.intsAt s r e
      exact ⟨a, ns, i, h1, h2, e2, Give.at q2 s rfl⟩
variable {xa : Expr} {a : E} {p pos p2 pos2 : Pos} {g g2 : Str}
theorem boot_all' : bootBuiltins "all" = some (.builtin "all") := by decide +kernel
theorem boot_any' : bootBuiltins "any" = some (.builtin "any") := by decide +kernel
theorem boot_sum' : bootBuiltins "sum" = some (.builtin "sum") := by decide +kernel
theorem boot_sorted' : bootBuiltins "sorted" = some (.builtin "sorted") := by decide +kernel
theorem boot_repr' : bootBuiltins "repr" = some (.builtin "repr") := by decide +kernel
theorem boot_maxB : bootBuiltins "max" = some (.builtin "max") := by decide +kernel
theorem boot_minB : bootBuiltins "min" = some (.builtin "min") := by decide +kernel
theorem boot_lenB : bootBuiltins "len" = some (.builtin "len") := by decide +kernel
theorem boot_setT : bootBuiltins "set" = some (.type "set") := by decide +kernel
theorem boot_tupT : bootBuiltins "tuple" = some (.type "tuple") := by decide +kernel
theorem boot_lstT : bootBuiltins "list" = some (.type "list") := by decide +kernel
theorem boot_intT : bootBuiltins "int" = some (.type "int") := by decide +kernel
theorem boot_strT : bootBuiltins "str" = some (.type "str") := by decide +kernel
theorem boot_boolT : bootBuiltins "bool" = some (.type "bool") := by decide +kernel
/-- f(a), f a built-in function -/
theorem sn_uB {o : Uop} {id : String} {r : List V → Hp → VK → Prop} (hr : CallR X (.builtin id) r) (hs : UpS X.K cl o fun x H Q => r [x] H Q) (hv : bootBuiltins g = some (.builtin id)) (hn : g ≠ "__name__") (hd : (g == ("__debug__" : Str)) = false)
    (hg : Gl X g) (hm : X.mg g = none) (ha : PE X xa (tI X.K cl Y Φ a)) (hst : isStarX xa = false) : PE X (.Call (.Name g p) [xa] [] pos) (tI X.K cl Y Φ (.u o a)) :=
  PE.of (pe_callB hr hg hm hv (pa_cons ha pa_nil (starX hst _ _)) hn hd (starX hst _ _) rfl) fun σ H Q h => u_of hs σ H Q h
theorem sn_uT {o : Uop} {id : String} {r : List V → Hp → VK → Prop} (hr : CallR X (.type id) r) (hs : UpS X.K cl o fun x H Q => r [x] H Q) (hv : bootBuiltins g = some (.type id)) (hn : g ≠ "__name__") (hd : (g == ("__debug__" : Str)) = false)
    (hg : Gl X g) (hm : X.mg g = none) (ha : PE X xa (tI X.K cl Y Φ a)) (hst : isStarX xa = false) : PE X (.Call (.Name g p) [xa] [] pos) (tI X.K cl Y Φ (.u o a)) :=
  PE.of (pe_callTy hr hg hm hv (pa_cons ha pa_nil (starX hst _ _)) hn hd (starX hst _ _) rfl) fun σ H Q h => u_of hs σ H Q h
theorem us_all : UpS X.K cl .all fun x H Q => rAll X.K [x] H Q := fun Y Hf Fr m S H v x Q s r q =>
  let ⟨a, bs, h1, h2, h3⟩ := u_bols (g := fun bs => bs.all id) (fun _ _ => rfl) Y Hf Fr m S H v x Q s r q
  ⟨a, bs, by rw [h1], h2, h3⟩
theorem us_any : UpS X.K cl .any fun x H Q => rAny X.K [x] H Q := fun Y Hf Fr m S H v x Q s r q =>
  let ⟨a, bs, h1, h2, h3⟩ := u_bols (g := fun bs => bs.any id) (fun _ _ => rfl) Y Hf Fr m S H v x Q s r q
  ⟨a, bs, by rw [h1], h2, h3⟩
/-- sum of a tuple of ints -/
def rSumU (K : PySem.W.Frag) : List V → Hp → VK → Prop := fun vs H Q => ∃ (a : Addr) (ns : List Int), vs = [V.ref a] ∧ SqT K H a (ns.map V.int) ∧ Q (.int ns.sum) H
theorem sum_tup {prog : Program} {w : World} {A : Around} {E : Value → Shared → Prop} {s : Shared} {l : Addr} {ts : Array (Int × Tok)} {Q : Value → Shared → Prop} (hh : A.handled = none) (hl : s.heap.IsTuple l (intItems ts))
    (h : ∀ h' tk t', (∀ b o, s.heap.get? b = some o → h'.get? b = some o) → Q (.int (preSum (numAt ts) ts.size) t') { s with heap := h', toks := tk }) : wpAny (model prog w) A (call (.builtin "sum") [.ref l]) Q E s := by
  have hlt : l < s.heap.objs.size := by obtain ⟨_, e, _⟩ := hl; exact Heap.lt_size e
  refine call_sum_walkG (wpAny_pyIter_tuple hl ?_)
  refine ⟨_, [_, l], [_], _, _, _, numAt ts, rfl, Walks.tuple (A := A.in1) hh _ l (Nat.ne_of_lt hlt) (intItems ts), ⟨⟨_, Heap.get?_push_size _ rfl, rfl, rfl⟩, hl.push _⟩, fun c hc => ?_, (fun _ _ => intItems_at), fun h' tk t' hk => ?_⟩
  · show c < (s.heap.push _).objs.size
    rw [Heap.size_push]
    rcases List.mem_cons.mp hc with rfl | hc
    · exact Nat.lt_succ_self _
    · rw [List.mem_singleton.mp hc]
      exact Nat.lt_succ_of_lt hlt
  · have := h h' tk t' fun c o e => hk c o (fun hm => absurd ((List.mem_singleton.mp hm) ▸ Heap.lt_size e) (Nat.lt_irrefl _)) (Heap.get?_push_of_some _ e)
    simpa [intItems] using this
theorem cr_sumU {X : Cx} (hc : X.calm = true) : CallR X (.builtin "sum") (rSumU X.K) := by
  intro pins s σ H vs us Q I r h
  obtain ⟨a, ns, rfl, hs, q⟩ := h
  obtain ⟨its, rv, hl, _⟩ := I.tuple hs
  rw [Vals.ref1 r]
  have hi := rv.ints
  obtain ⟨ts, e⟩ := hi.allInts.items
  have hn : numsOf (intItems ts).toList = ns := by rw [← e]; exact hi.numsOf
  rw [nums_intItems] at hn
  have hl' : s.heap.IsTuple a its.toArray := hl
  rw [e] at hl'
  refine sum_tup (I.ok.hd hc) hl' fun h' tk t' hk => ?_
  rw [preSum_eq, List.take_of_length_le (by simp), hn]
  exact ⟨.int _, H, I.kept hk, ⟨_, rfl⟩, q⟩
theorem us_sum : UpS X.K cl .sum fun x H Q => rSum X.K [x] H Q ∨ rSumU X.K [x] H Q := fun Y Hf Fr m S H v x Q s r q => by
  have q1 : QE X.K cl Y Hf Fr m Q (match sints S v with
    | some ns => .ok (.int ns.sum) S
    | none => .bad) := q
  cases e : sints S v with
  | none => rw [e] at q1; exact q1.elim
  | some ns =>
    rw [e] at q1
    obtain ⟨a, h1, h2⟩ := Rep.sintsAt s r e
    rcases h2 with h2 | h2
    · exact .inl ⟨a, ns, by rw [h1], h2, Give.at q1 s rfl⟩
    · exact .inr ⟨a, ns, by rw [h1], h2, Give.at q1 s rfl⟩
theorem us_max : UpS X.K cl .max1 fun x H Q => rMax X.K [x] H Q := fun Y Hf Fr m S H v x Q s r q => by
  obtain ⟨a, ns, i, h1, h2, h3, h4⟩ := u_ints (K := X.K) (cl := cl) (o := .max1) (g := fun ns => match ns with
    | n :: ns => some (maxI n ns)
    | [] => none) (fun v S => by
      show (match lints S v with
        | some (n :: ns) => R.ok (Val.int (maxI n ns)) S
        | _ => .bad) = _
      cases lints S v with
      | none => rfl
      | some ns => cases ns <;> rfl) Y Hf Fr m S H v x Q s r q
  cases ns with
  | nil => cases h3
  | cons n ns =>
    cases h3
    refine ⟨a, n :: ns, by rw [h1], h2, Nat.succ_pos _, fun k hk hy => ?_⟩
    have e : k = maxI n ns := by
      have i1 := maxI_ge ns n
      have i2 := hy _ (maxI_mem ns n)
      rcases List.mem_cons.mp hk with e | hk
      · rw [e] at i2 ⊢; exact Int.le_antisymm i1.1 i2
      · exact Int.le_antisymm (i1.2 k hk) i2
    rw [e]
    exact h4
theorem us_min : UpS X.K cl .min1 fun x H Q => rMin X.K [x] H Q := fun Y Hf Fr m S H v x Q s r q => by
  obtain ⟨a, ns, i, h1, h2, h3, h4⟩ := u_ints (K := X.K) (cl := cl) (o := .min1) (g := fun ns => match ns with
    | n :: ns => some (minI n ns)
    | [] => none) (fun v S => by
      show (match lints S v with
        | some (n :: ns) => R.ok (Val.int (minI n ns)) S
        | _ => .bad) = _
      cases lints S v with
      | none => rfl
      | some ns => cases ns <;> rfl) Y Hf Fr m S H v x Q s r q
  cases ns with
  | nil => cases h3
  | cons n ns =>
    cases h3
    refine ⟨a, n :: ns, by rw [h1], h2, Nat.succ_pos _, fun k hk hy => ?_⟩
    have e : k = minI n ns := by
      have i1 := minI_le ns n
      have i2 := hy _ (minI_mem ns n)
      rcases List.mem_cons.mp hk with e | hk
      · rw [e] at i2 ⊢; exact Int.le_antisymm i2 i1.1
      · exact Int.le_antisymm i2 (i1.2 k hk)
    rw [e]
    exact h4
theorem us_int : UpS X.K cl .int fun x H Q => ((∃ i, [x] = [.int i] ∧ Q (.int i) H) ∨ ∃ k, [x] = [.bl k] ∧ Q (.int (if k then 1 else 0)) H) ∨ ∃ a n, [x] = [.str a] ∧ PySem.intText? a = some n ∧ a.length ≤ 640 ∧ Q (.int n) H := fun Y Hf Fr m S H v x Q s r q => by
  cases v with
  | int i => cases r; exact .inl (.inl ⟨i, rfl, Give.at q s rfl⟩)
  | bl k => cases r; exact .inl (.inr ⟨k, rfl, Give.at q s rfl⟩)
  | str t =>
    cases r
    have q' : QE X.K cl Y Hf Fr m Q (match PySem.intText? t with
      | some n => if t.length ≤ 640 then .ok (.int n) S else .bad
      | none => .bad) := q
    cases e : PySem.intText? t with
    | none => rw [e] at q'; exact q'.elim
    | some n =>
      rw [e] at q'
      have q2 : QE X.K cl Y Hf Fr m Q (if t.length ≤ 640 then .ok (.int n) S else .bad) := q'
      by_cases c : t.length ≤ 640
      · rw [if_pos c] at q2
        exact .inr ⟨t, n, rfl, e, c, Give.at q2 s rfl⟩
      · rw [if_neg c] at q2
        exact q2.elim
  | _ => exact q.elim
theorem us_str : UpS X.K cl .str fun x H Q => ∃ i : Int, [x] = [.int i] ∧ i.natAbs.log2 < 1920 ∧ Q (.str (toString i)) H := fun Y Hf Fr m S H v x Q s r q => by
  cases v with
  | int i =>
    cases r
    have q2 : QE X.K cl Y Hf Fr m Q (if i.natAbs.log2 < 1920 then .ok (.str (toString i)) S else .bad) := q
    by_cases c : i.natAbs.log2 < 1920
    · rw [if_pos c] at q2
      exact ⟨i, rfl, c, Give.at q2 s rfl⟩
    · rw [if_neg c] at q2
      exact q2.elim
  | _ => exact q.elim
theorem us_bool : UpS X.K cl .bool fun x H Q => (∃ i, [x] = [.int i] ∧ Q (.bl (i != 0)) H) ∨ ∃ k, [x] = [.bl k] ∧ Q (.bl k) H := fun Y Hf Fr m S H v x Q s r q => by
  cases v with
  | int i => cases r; exact .inl ⟨i, rfl, Give.at q s rfl⟩
  | bl k => cases r; exact .inr ⟨k, rfl, Give.at q s rfl⟩
  | _ => exact q.elim
theorem us_tuple : UpS X.K cl .tuple fun x H Q => ∃ p ys, [x] = [.ref p] ∧ ((SqL X.K H p ys ∧ ∀ l, H l = none → Q (.ref l) (upd H l (.tup ys))) ∨ (SqT X.K H p ys ∧ Q (.ref p) H)) := fun Y Hf Fr m S H v x Q s r q => by
  have q' : QE X.K cl Y Hf Fr m Q (match items S v with
    | some vs => .ok (.tup vs) S
    | none => .bad) := q
  cases e : items S v with
  | none => rw [e] at q'; exact q'.elim
  | some vs =>
    rw [e] at q'
    cases v with
    | tup ws =>
      cases e
      obtain ⟨b, zs, rfl, h4, h5⟩ := Rep.tupAt s r
      exact ⟨b, zs, rfl, .inr ⟨h4, Give.at q' s r⟩⟩
    | lst ws =>
      cases e
      obtain ⟨b, zs, rfl, h4, h5⟩ := Rep.lstAt s r
      exact ⟨b, zs, rfl, .inl ⟨h4, fun l hl => Give.tup q' s h5 hl⟩⟩
    | loc n =>
      have li : litems S (.loc n) = some vs := e
      obtain ⟨b, zs, rfl, h4, h5⟩ := Rep.litAt s r li
      exact ⟨b, zs, rfl, .inl ⟨h4, fun l hl => Give.tup q' s h5 hl⟩⟩
    | _ => cases e
def rListD : List V → Hp → VK → Prop := fun xs H Q => ∃ (a : Addr) (kvs : List (Key × V)), xs = [.ref a] ∧ Rd H a (.dK kvs) ∧ ∀ p, H p = none → Q (.ref p) (upd H p (.lst (kvs.map fun kv => kV kv.1)))
def rListA (K : PySem.W.Frag) : List V → Hp → VK → Prop := fun xs H Q => (∃ p ys, xs = [.ref p] ∧ (SqL K H p ys ∨ SqT K H p ys) ∧ ∀ l, H l = none → Q (.ref l) (upd H l (.lst ys))) ∨ rListD xs H Q
theorem cr_listA (hc : X.calm = true) : CallR X (.type "list") (rListA X.K) := call_list_of.or (call_listD hc)
theorem keys_reps {K : PySem.W.Frag} {Hf : Hp} {m : List Addr} : ∀ kvs : List (Key × V), Reps K Hf m ((kvs.map fun p => [p.1]).map (keyV false)) (kvs.map fun kv => kV kv.1)
  | [] => .nil
  | p :: kvs => .cons (kyV_rep p.1) (keys_reps kvs)
theorem us_list {mu : Bool} : UpS X.K cl (.list mu) fun x H Q => rListA X.K [x] H Q := fun Y Hf Fr m S H v x Q s r q => by
  have q' : QE X.K cl Y Hf Fr m Q (match items S v with
    | some vs => mk mu vs S
    | none => match dctAt S v with
      | some (false, ks, _) => mk mu (ks.map (keyV false)) S
      | _ => .bad) := q
  cases e : items S v with
  | none =>
    rw [e] at q'
    have q2 : QE X.K cl Y Hf Fr m Q (match dctAt S v with
      | some (false, ks, _) => mk mu (ks.map (keyV false)) S
      | _ => .bad) := q'
    cases e2 : dctAt S v with
    | none => rw [e2] at q2; exact q2.elim
    | some p =>
      obtain ⟨t, ks, vs⟩ := p
      rw [e2] at q2
      cases t with
      | true => exact q2.elim
      | false =>
        obtain ⟨a, u, xs, rfl, h1, ⟨kvs, rfl, rfl, rfl⟩, h3⟩ := Rep.dctAt s r e2
        exact .inr ⟨a, kvs, rfl, h1, fun p hp => mk_give q2 s (keys_reps kvs) hp⟩
  | some vs =>
    rw [e] at q'
    obtain ⟨a, xs, rfl, h1, h2⟩ := Rep.seqAt s r e
    exact .inl ⟨a, xs, rfl, h1, fun l hl => mk_give q' s h2 hl⟩
theorem us_rvs : UpS X.K cl .rvs fun x H Q => kRev X.K x H Q := fun Y Hf Fr m S H v x Q s r q => by
  have gen : (∀ ws, v ≠ .tup ws) → kRev X.K x H Q := fun hv => by
    have q' : QE X.K cl Y Hf Fr m Q (match litems S v with
      | some vs => .ok (.lst vs.reverse) S
      | none => .bad) := by
      cases v with
      | tup ws => exact absurd rfl (hv ws)
      | _ => exact q
    cases e : litems S v with
    | none => rw [e] at q'; exact q'.elim
    | some vs =>
      rw [e] at q'
      obtain ⟨a, xs, rfl, h1, h2⟩ := Rep.litAt s r e
      exact ⟨a, xs, rfl, .inl ⟨h1, fun l hl => Give.lst q' s h2.rev hl⟩⟩
  cases v with
  | tup ws =>
    obtain ⟨b, zs, rfl, h4, h5⟩ := Rep.tupAt s r
    exact ⟨b, zs, rfl, .inr ⟨h4, fun l hl => Give.tup q s h5.rev hl⟩⟩
  | _ => exact gen (by intro ws z; cases z)
theorem ints_out {Hf Fr H : Hp} {m : List Addr} {S : Store} {ns : List Int} {Q : VK} (q : QE X.K cl Z Hf Fr m Q (.ok (.lst (ns.map .int)) S)) (s : Sim X.K Hf Fr m S H) {p : Addr} (hp : H p = none) : Q (.ref p) (upd H p (.lst (ns.map V.int))) := Give.lst q s (ints_reps ns) hp
theorem keys_ints : ∀ (kvs : List (Key × V)) (ns : List Int), intsOf ((kvs.map fun p => [p.1]).map (keyV false)) = some ns → kvs.map (·.1) = ns.map Sum.inl
  | [], ns, h => by cases h; rfl
  | p :: kvs, ns, h => by
    obtain ⟨k, v⟩ := p
    cases k with
    | inl i =>
      have h' : (match intsOf ((kvs.map fun p => [p.1]).map (keyV false)) with
        | some is => some (i :: is)
        | none => none) = some ns := h
      cases q : intsOf ((kvs.map fun p => [p.1]).map (keyV false)) with
      | none => rw [q] at h'; cases h'
      | some is =>
        rw [q] at h'
        cases h'
        show Sum.inl i :: kvs.map (·.1) = Sum.inl i :: is.map Sum.inl
        rw [keys_ints kvs is q]
    | inr s => cases h
theorem Rep.dintsAt {Hf Fr H : Hp} {m : List Addr} {S : Store} (s : Sim X.K Hf Fr m S H) {v : Val} {ns : List Int} {x : V} (r : Rep X.K Hf m v x) (e : dints S v = some ns) : ∃ a kvs, x = .ref a ∧ Rd H a (.dK kvs) ∧ kvs.map (·.1) = ns.map Sum.inl := by
  unfold dints at e
  cases q : Iv.dctAt S v with
  | none => rw [q] at e; cases e
  | some p =>
    obtain ⟨t, ks, vs⟩ := p
    rw [q] at e
    cases t with
    | true => cases e
    | false =>
      obtain ⟨a, u, xs, rfl, h1, ⟨kvs, rfl, rfl, rfl⟩, h3⟩ := Rep.dctAt s r q
      exact ⟨a, kvs, rfl, h1, keys_ints kvs ns e⟩
def rSortD : List V → Hp → VK → Prop := fun xs H Q => ∃ (a : Addr) (kvs : List (Key × V)) (ks : List Int), xs = [.ref a] ∧ Rd H a (.dK kvs) ∧ kvs.map (·.1) = ks.map Sum.inl ∧ ks.length < 64 ∧
    ∀ (ys : List Int) (p : Addr), ys.Perm ks → ys.Pairwise (· ≤ ·) → H p = none → Q (.ref p) (upd H p (.lst (ys.map V.int)))
def rSortA (K : PySem.W.Frag) : List V → Hp → VK → Prop := fun vs H Q => rSortedQ K false vs H Q ∨ rSortD vs H Q
theorem cr_sortA (hc : X.calm = true) : CallR X (.builtin "sorted") (rSortA X.K) := cr_sortedQ.or (call_sortedDI hc)
theorem us_srtG {rev mu : Bool} {Hf Fr H : Hp} {m : List Addr} {S : Store} {v : Val} {x : V} {Q : VK} {ns : List Int} (s : Sim X.K Hf Fr m S H) (r : Rep X.K Hf m v x) (e : sints S v = some ns) (q' : QE X.K cl Z Hf Fr m Q (mk mu ((if rev then (srtI ns).reverse else srtI ns).map .int) S)) : rSortedQ X.K rev [x] H Q := by
    obtain ⟨a, rfl, h1⟩ := Rep.sintsAt s r e
    refine ⟨a, ns, rfl, h1, fun ns' p hp hs hn => ?_⟩
    have e3 : ns' = if rev then (srtI ns).reverse else srtI ns := by
      cases rev with
      | false =>
        exact srtI_uniq hp hs
      | true =>
        have hs' : ns'.Pairwise (· ≥ ·) := hs
        have e2 : ns'.reverse = srtI ns := srtI_uniq ((List.reverse_perm ns').trans hp) (List.pairwise_reverse.mpr (hs'.imp fun h => h))
        show ns' = (srtI ns).reverse
        rw [← e2, List.reverse_reverse]
    rw [e3]
    exact mk_give q' s (ints_reps _) hn
theorem srt_inv {K : PySem.W.Frag} {Y : XK} {Hf Fr : Hp} {m : List Addr} {S : Store} {v : Val} {Q : VK} {rev mu : Bool} (q : QE K cl Y Hf Fr m Q (uV (.srt rev mu) v S)) : (∃ ns, sints S v = some ns ∧ QE K cl Y Hf Fr m Q (mk mu ((if rev then (srtI ns).reverse else srtI ns).map .int) S)) ∨
    ∃ ns, dints S v = some ns ∧ ns.length < 64 ∧ rev = false ∧ QE K cl Y Hf Fr m Q (mk mu ((srtI ns).map .int) S) := by
  have q' : QE K cl Y Hf Fr m Q (match sints S v with
    | some ns => mk mu ((if rev then (srtI ns).reverse else srtI ns).map .int) S
    | none => match dints S v with
      | some ns => if ns.length < 64 ∧ rev = false then mk mu ((srtI ns).map .int) S else .bad
      | none => .bad) := q
  cases e : sints S v with
  | some ns => rw [e] at q'; exact .inl ⟨ns, rfl, q'⟩
  | none =>
    rw [e] at q'
    have q2 : QE K cl Y Hf Fr m Q (match dints S v with
      | some ns => if ns.length < 64 ∧ rev = false then mk mu ((srtI ns).map .int) S else .bad
      | none => .bad) := q'
    cases e2 : dints S v with
    | none => rw [e2] at q2; exact q2.elim
    | some ns =>
      rw [e2] at q2
      have q3 : QE K cl Y Hf Fr m Q (if ns.length < 64 ∧ rev = false then mk mu ((srtI ns).map .int) S else .bad) := q2
      by_cases c : ns.length < 64 ∧ rev = false
      · rw [if_pos c] at q3
        exact .inr ⟨ns, rfl, c.1, c.2, q3⟩
      · rw [if_neg c] at q3
        exact q3.elim
theorem us_srt {mu : Bool} : UpS X.K cl (.srt false mu) fun x H Q => rSortA X.K [x] H Q := fun Y Hf Fr m S H v x Q s r q => by
  rcases srt_inv q with ⟨ns, e, q1⟩ | ⟨ns, e, hl, _, q1⟩
  · exact .inl (us_srtG (rev := false) s r e q1)
  · obtain ⟨a, kvs, rfl, h1, h2⟩ := Rep.dintsAt s r e
    refine .inr ⟨a, kvs, ns, rfl, h1, h2, hl, fun ys p hp hs hn => ?_⟩
    rw [srtI_uniq hp hs]
    exact mk_give q1 s (ints_reps _) hn
theorem us_srtR {mu : Bool} : UpS X.K cl (.srt true mu) fun x H Q => rSortedQR X.K true [x] [.bl true] H Q := fun Y Hf Fr m S H v x Q s r q => by
  rcases srt_inv q with ⟨ns, e, q1⟩ | ⟨ns, e, hl, hr, q1⟩
  · exact ⟨rfl, us_srtG (rev := true) s r e q1⟩
  · cases hr
mutual
theorem Rep.dq {K : PySem.W.Frag} {Hf H : Hp} {m : List Addr} (s : Evl.Ex Hf H) : ∀ (v : Val) (x : V) (d : PyData), Rep K Hf m v x → toQ v = some d → Dq K H x d
  | .non, _, _, r, e => by cases r; cases e; exact .non
  | .bl b, _, _, r, e => by cases r; cases e; exact .bl b
  | .int b, _, _, r, e => by cases r; cases e; exact .int b
  | .str b, _, _, r, e => by cases r; cases e; exact .str b
  | .tup vs, _, _, r, e => by
    obtain ⟨a, xs, rfl, h2, h3⟩ := r
    unfold toQ at e
    cases q : toQs vs with
    | none => rw [q] at e; cases e
    | some ds =>
      rw [q] at e
      cases e
      exact .tup (Evl.ex_t s h2) (Reps.dq s vs xs ds h3 q)
  | .dct false [] [], _, _, r, e => by
    cases e
    obtain ⟨a, ob, u, xs, rfl, h2, ⟨kvs, rfl, h3, h4⟩, _⟩ := r
    have : kvs = [] := List.map_eq_nil_iff.mp h3
    subst this
    exact .emp (s a _ h2)
  | .dct true _ _, _, _, _, e => by cases e
  | .dct false (_ :: _) _, _, _, _, e => by cases e
  | .dct false [] (_ :: _), _, _, _, e => by cases e
  | .lst _, _, _, _, e => by cases e
  | .loc _, _, _, _, e => by cases e
  | .exc _, _, _, _, e => by cases e
theorem Reps.dq {K : PySem.W.Frag} {Hf H : Hp} {m : List Addr} (s : Evl.Ex Hf H) : ∀ (vs : List Val) (xs : List V) (ds : List PyData), Reps K Hf m vs xs → toQs vs = some ds → DqAll K H xs ds
  | [], _, _, r, e => by cases r; cases e; exact .nil
  | v :: vs, _, _, r, e => by
    obtain ⟨x, t, rfl, h2, h3⟩ := r
    unfold toQs at e
    cases q : toQ v with
    | none => rw [q] at e; cases e
    | some d =>
      rw [q] at e
      cases q2 : toQs vs with
      | none => rw [q2] at e; cases e
      | some ds =>
        rw [q2] at e
        cases e
        exact .cons (Rep.dq s v x d h2 q) (Reps.dq s vs t ds h3 q2)
end
theorem Rep.qref {K : PySem.W.Frag} {Hf : Hp} {m : List Addr} {v : Val} {x : V} {d : PyData} (e0 : reprA v = none) (e : toQ v = some d) (r : Rep K Hf m v x) (hs : ∀ t, v ≠ .str t) (hi : ∀ i, v ≠ .int i) : ∃ a, x = .ref a := by
  cases v with
  | non => cases e0
  | bl b => cases e0
  | int i => exact absurd rfl (hi i)
  | str t => exact absurd rfl (hs t)
  | tup vs => obtain ⟨a, xs, rfl, _⟩ := r; exact ⟨a, rfl⟩
  | lst vs => cases e
  | loc n => cases e
  | exc c => cases e
  | dct t ks vs => obtain ⟨a, ob, u, xs, rfl, _⟩ := r; exact ⟨a, rfl⟩
theorem us_repr : UpS X.K cl .repr fun x H Q => rReprO [x] H Q ∨ rRepr X.K [x] H Q ∨ rReprQ X.K [x] H Q := fun Y Hf Fr m S H v x Q s r q => by
  have q0 : QE X.K cl Y Hf Fr m Q (match reprA v with
    | some s => .ok (.str s) S
    | none => match dataOf S v with
      | some d => if showD d then .ok (.str d.shown) S else .bad
      | none => reprQ v S) := q
  cases e0 : reprA v with
  | some t =>
    rw [e0] at q0
    left
    cases v with
    | non =>
      cases e0
      cases r
      exact .inl ⟨rfl, Give.at q0 s rfl⟩
    | bl b =>
      cases e0
      cases r
      exact .inr (.inl ⟨b, rfl, Give.at q0 s rfl⟩)
    | int i =>
      have e1 : (if i.natAbs.log2 < 1920 then some (toString i : Str) else none) = some t := e0
      by_cases c : i.natAbs.log2 < 1920
      · rw [if_pos c] at e1
        cases e1
        cases r
        exact .inr (.inr (.inl ⟨i, rfl, c, Give.at q0 s rfl⟩))
      · rw [if_neg c] at e1
        cases e1
    | str u =>
      have e1 : (if (reprText u).length ≤ lim then some (reprText u) else none) = some t := e0
      by_cases c : (reprText u).length ≤ lim
      · rw [if_pos c] at e1
        cases e1
        cases r
        exact .inr (.inr (.inr ⟨u, rfl, sz c, Give.at q0 s rfl⟩))
      · rw [if_neg c] at e1
        cases e1
    | _ => cases e0
  | none =>
  rw [e0] at q0
  right
  have q' : QE X.K cl Y Hf Fr m Q (match dataOf S v with
    | some d => if showD d then .ok (.str d.shown) S else .bad
    | none => reprQ v S) := q0
  cases e : dataOf S v with
  | none =>
    rw [e] at q'
    right
    have q1 : QE X.K cl Y Hf Fr m Q (match toQ v with
      | some d => if showQ d then .ok (.str d.shown) S else .bad
      | none => .bad) := by
      cases v with
      | int i => exact q'.elim
      | str t => exact q'.elim
      | _ => exact q'
    have hi : ∀ i, v ≠ .int i := fun i e => by
      subst e
      exact q'.elim
    have ht : ∀ t, v ≠ .str t := fun t e => by
      subst e
      exact q'.elim
    cases e2 : toQ v with
    | none => rw [e2] at q1; exact q1.elim
    | some d =>
      rw [e2] at q1
      have h1 := Rep.dq s.exf v x d r e2
      have q2 : QE X.K cl Y Hf Fr m Q (if showQ d then .ok (.str d.shown) S else .bad) := q1
      obtain ⟨a, rfl⟩ := Rep.qref e0 e2 r ht hi
      cases c : showQ d with
      | false => rw [c] at q2; exact q2.elim
      | true =>
        rw [c] at q2
        unfold showQ at c
        simp only [Bool.and_eq_true, decide_eq_true_eq] at c
        exact ⟨a, d, rfl, h1, c.1.1, c.1.2, c.2, Give.at q2 s rfl⟩
  | some d =>
    left
    rw [e] at q'
    obtain ⟨a, rfl, h1⟩ := Rep.dataAt s r e
    have q2 : QE X.K cl Y Hf Fr m Q (if showD d then .ok (.str d.shown) S else .bad) := q'
    cases c : showD d with
    | false => rw [c] at q2; exact q2.elim
    | true =>
      rw [c] at q2
      unfold showD at c
      simp only [Bool.and_eq_true, Bool.not_eq_true', decide_eq_true_eq] at c
      exact ⟨a, d, rfl, h1, c.1.1.1, c.1.1.2, c.1.2, c.2, Give.at q2 s rfl⟩
/-- sorted(set(xs)), len(set(xs)) -/
def kSset (K : PySem.W.Frag) (w : World) (x : V) (H : Hp) (Q : VK) : Prop := rSetL K w [x] H (fun y H1 => rSortedSet w [y] H1 Q) ∨ rSetU K w [x] H (fun y H1 => rSortedSet w [y] H1 Q)
def kLset (K : PySem.W.Frag) (w : World) (x : V) (H : Hp) (Q : VK) : Prop := rSetL K w [x] H fun y H1 => rLenS w [y] H1 Q
theorem us_sset {w : World} : UpS X.K cl .sset fun x H Q => kSset X.K w x H Q := fun Y Hf Fr m S H v x Q s r q => by
  have q' : QE X.K cl Y Hf Fr m Q (match sints S v with
    | some ns => if ns.length < 64 then .ok (.lst ((setS ns).map .int)) S else .bad
    | none => .bad) := q
  cases e : sints S v with
  | none => rw [e] at q'; exact q'.elim
  | some ns =>
    rw [e] at q'
    obtain ⟨a, rfl, h1⟩ := Rep.sintsAt s r e
    by_cases c : ns.length < 64
    · have q2 : QE X.K cl Y Hf Fr m Q (if ns.length < 64 then .ok (.lst ((setS ns).map .int)) S else .bad) := q'
      rw [if_pos c] at q2
      have key : ∀ p, H p = none → rSortedSet w [.ref p] (upd H p (SetO w p (fun j => decide (j ∈ ns)) (setS ns).length)) Q := fun p hp => ⟨p, _, _, rfl, upd_same, by
        have : (setS ns).length ≤ ns.length := setS_few ns
        omega, fun ns' p' hs hm hl hn => by
        have e2 : ns' = setS ns := setS_uniq hs fun k => by rw [hm k]; simp
        rw [e2]
        have ex := Evl.Ex.new (o := SetO w p (fun j => decide (j ∈ ns)) (setS ns).length) (none_of s.exf hp)
        exact ints_out (QR.mono q2 ex (List.prefix_refl _)) (s.newF hp) hn⟩
      rcases h1 with h1 | h1
      · exact .inl ⟨a, ns, rfl, h1, by omega, key⟩
      · exact .inr ⟨a, ns, rfl, h1, by omega, key⟩
    · have q2 : QE X.K cl Y Hf Fr m Q (if ns.length < 64 then .ok (.lst ((setS ns).map .int)) S else .bad) := q'
      rw [if_neg c] at q2
      exact q2.elim
theorem us_lset {w : World} : UpS X.K cl .lset fun x H Q => kLset X.K w x H Q := fun Y Hf Fr m S H v x Q s r q => by
  have q' : QE X.K cl Y Hf Fr m Q (match lints S v with
    | some ns => if ns.length < 1000 then .ok (.int (setS ns).length) S else .bad
    | none => .bad) := q
  cases e : lints S v with
  | none => rw [e] at q'; exact q'.elim
  | some ns =>
    rw [e] at q'
    obtain ⟨a, rfl, h1⟩ := Rep.intsAt s r e
    by_cases c : ns.length < 1000
    · have q2 : QE X.K cl Y Hf Fr m Q (if ns.length < 1000 then .ok (.int (setS ns).length) S else .bad) := q'
      rw [if_pos c] at q2
      refine ⟨a, ns, rfl, h1, c, fun p hp => ⟨p, _, _, rfl, upd_same, ?_⟩⟩
      have ex := Evl.Ex.new (o := SetO w p (fun j => decide (j ∈ ns)) (setS ns).length) (none_of s.exf hp)
      exact Give.at (QR.mono q2 ex (List.prefix_refl _)) (s.newF hp) rfl
    · have q2 : QE X.K cl Y Hf Fr m Q (if ns.length < 1000 then .ok (.int (setS ns).length) S else .bad) := q'
      rw [if_neg c] at q2
      exact q2.elim
/-! ### list + list -/
theorem sn_cat {mu : Bool} {b : E} {xb : Expr} (ha : PE X xa (tI X.K cl Y Φ a)) (hb : PE X xb (tI X.K cl Y Φ b)) : PE X (.BinOp xa .Add xb pos) (tI X.K cl Y Φ (.cat mu a b)) :=
  PE.of (pe_op op_catR ha hb) fun σ H Q ⟨Hf, Fr, m, S, ρ, s, er, q⟩ =>
    ⟨Hf, Fr, m, S, ρ, s, er, QR.bind (f := fun v S1 => (evalE Φ b ρ S1).bind fun w S2 => catV mu v w S2) q fun v S1 y H1 Hf1 m1 e1 p1 s1 r1 q1 =>
      ⟨Hf1, Fr, m1, S1, ρ, s1, er.mono e1 p1, QR.bind (f := fun w S2 => catV mu v w S2) q1 fun w S2 y2 H2 Hf2 m2 e2 p2 s2 r2 q2 => by
        have q3 : QE X.K cl (Y σ) Hf2 Fr m2 Q (match litems S2 v, litems S2 w with
          | some vs, some ws => if vs.length + ws.length ≤ lim then mk mu (vs ++ ws) S2 else .bad
          | _, _ => .bad) := q2
        cases h1 : litems S2 v with
        | none => rw [h1] at q3; exact q3.elim
        | some vs =>
          cases h2 : litems S2 w with
          | none => rw [h1, h2] at q3; exact q3.elim
          | some ws =>
            rw [h1, h2] at q3
            have q4 : QE X.K cl (Y σ) Hf2 Fr m2 Q (if vs.length + ws.length ≤ lim then mk mu (vs ++ ws) S2 else .bad) := q3
            by_cases c : vs.length + ws.length ≤ lim
            · rw [if_pos c] at q4
              obtain ⟨l, xs, rfl, h3, h4⟩ := Rep.litAt s2 (Rep.mono e2 p2 _ _ r1) h1
              obtain ⟨l2, ys, rfl, h5, h6⟩ := Rep.litAt s2 r2 h2
              have l1 := h4.length
              have l2 := h6.length
              exact ⟨_, _, xs, ys, rfl, rfl, h3, h5, sz (by omega), fun p hp => mk_give q4 s2 (h4.append h6) hp⟩
            · rw [if_neg c] at q4
              exact q4.elim⟩⟩
/-! ### list(range(..)), tuple(range(..)) -/
theorem range_reps {K : PySem.W.Frag} {Hf : Hp} {m : List Addr} (lo : Int) : ∀ (n k : Nat), Reps K Hf m (rangeV (lo + k) n) ((List.range' k n).map fun (i : Nat) => V.int (lo + i))
  | 0, _ => .nil
  | n + 1, k => by
    show Reps K Hf m (.int (lo + k) :: rangeV (lo + k + 1) n) _
    rw [List.range'_succ, List.map_cons]
    have e : lo + (k : Int) + 1 = lo + ((k + 1 : Nat) : Int) := by omega
    rw [e]
    exact .cons rfl (range_reps lo n (k + 1))
theorem rgV_reps {K : PySem.W.Frag} {Hf : Hp} {m : List Addr} (lo hi : Int) : Reps K Hf m (rangeV lo (hi - lo).toNat) (rgV lo hi) := by
  have h := range_reps (K := K) (Hf := Hf) (m := m) lo (hi - lo).toNat 0
  have e : lo + ((0 : Nat) : Int) = lo := by omega
  rw [e, ← List.range_eq_range'] at h
  exact h
theorem rl_give {k : Option Bool} {Hf Fr H : Hp} {m : List Addr} {S : Store} {Q : VK} {vs : List Val} {xs : List V} (q : QE X.K cl Z Hf Fr m Q (rlV k vs S)) (s : Sim X.K Hf Fr m S H) (r : Reps X.K Hf m vs xs) {p : Addr} (hp : H p = none) :
    Q (.ref p) (upd H p (match k with
      | none => .tup xs
      | some _ => .lst xs)) := by
  cases k with
  | none => exact Give.tup q s r hp
  | some mu => exact mk_give q s r hp
theorem sn_rl1 {k : Option Bool} (hc : X.calm = true) (hv : g = match k with
    | none => "tuple"
    | some _ => "list") (hg : Gl X g) (hm : X.mg g = none) (hg2 : Gl X "range") (hm2 : X.mg "range" = none) (ha : PE X xa (tI X.K cl Y Φ a)) (hst : isStarX xa = false) :
    PE X (.Call (.Name g p) [.Call (.Name "range" p2) [xa] [] pos2] [] pos) (tI X.K cl Y Φ (.rl1 k a)) := by
  have pr := prg_1 (p := p2) (pos := pos2) hg2 hm2 ha (starX hst _ _)
  have fin : ∀ (σ : L2.St) (H : Hp) (Q : VK), tI X.K cl Y Φ (.rl1 k a) σ H Q → tRg1 (tI X.K cl Y Φ a) σ H fun lo hi H1 => RgOk lo hi ∧ ∀ q, H1 q = none → Q (.ref q) (upd H1 q (match k with
      | none => .tup (rgV lo hi)
      | some _ => .lst (rgV lo hi))) := fun σ H Q ⟨Hf, Fr, m, S, ρ, s, er, q⟩ =>
    ⟨Hf, Fr, m, S, ρ, s, er, QR.bind (f := fun v S1 => match v with
      | Val.int n => if -(2 ^ 62) ≤ n ∧ n < 2 ^ 62 ∧ n.toNat ≤ lim then rlV k (rangeV 0 n.toNat) S1 else .bad
      | _ => .bad) q fun v S1 y H1 Hf1 m1 e1 p1 s1 r1 q1 => by
        cases v with
        | int n =>
          cases r1
          have q2 : QE X.K cl (Y σ) Hf1 Fr m1 Q (if -(2 ^ 62) ≤ n ∧ n < 2 ^ 62 ∧ n.toNat ≤ lim then rlV k (rangeV 0 n.toNat) S1 else .bad) := q1
          by_cases c : -(2 ^ 62) ≤ n ∧ n < 2 ^ 62 ∧ n.toNat ≤ lim
          · rw [if_pos c] at q2
            have hl : n.toNat ≤ 100000 := c.2.2
            refine ⟨n, rfl, ⟨by omega, by omega, c.1, c.2.1, by omega⟩, fun q hq => ?_⟩
            have rr := rgV_reps (K := X.K) (Hf := Hf1) (m := m1) 0 n
            have e0 : (n - 0).toNat = n.toNat := by omega
            rw [e0] at rr
            have := rl_give q2 s1 rr hq
            cases k <;> exact this
          · rw [if_neg c] at q2
            exact q2.elim
        | _ => exact q1.elim⟩
  cases k with
  | none => subst hv; exact PE.of (pe_tupRg hc hg hm pr rfl) fin
  | some mu => subst hv; exact PE.of (pe_listRg hc hg hm pr rfl) fin
theorem sn_rl2 {k : Option Bool} {b : E} {xb : Expr} (hc : X.calm = true) (hv : g = match k with
    | none => "tuple"
    | some _ => "list") (hg : Gl X g) (hm : X.mg g = none) (hg2 : Gl X "range") (hm2 : X.mg "range" = none) (ha : PE X xa (tI X.K cl Y Φ a)) (hb : PE X xb (tI X.K cl Y Φ b)) (hst : isStarX xa = false) (hst2 : isStarX xb = false) :
    PE X (.Call (.Name g p) [.Call (.Name "range" p2) [xa, xb] [] pos2] [] pos) (tI X.K cl Y Φ (.rl2 k a b)) := by
  have pr := prg_2 (p := p2) (pos := pos2) hg2 hm2 ha hb (starX hst _ _) (starX hst2 _ _) (by rw [starX hst2]; rfl)
  have fin : ∀ (σ : L2.St) (H : Hp) (Q : VK), tI X.K cl Y Φ (.rl2 k a b) σ H Q → tRg2 (tI X.K cl Y Φ a) (tI X.K cl Y Φ b) σ H fun lo hi H1 => RgOk lo hi ∧ ∀ q, H1 q = none → Q (.ref q) (upd H1 q (match k with
      | none => .tup (rgV lo hi)
      | some _ => .lst (rgV lo hi))) := fun σ H Q ⟨Hf, Fr, m, S, ρ, s, er, q⟩ =>
    ⟨Hf, Fr, m, S, ρ, s, er, QR.bind (f := fun v S1 => (evalE Φ b ρ S1).bind fun w S2 => rlR k v w S2) q fun v S1 y H1 Hf1 m1 e1 p1 s1 r1 q1 =>
      ⟨Hf1, Fr, m1, S1, ρ, s1, er.mono e1 p1, QR.bind (f := fun w S2 => rlR k v w S2) q1 fun w S2 y2 H2 Hf2 m2 e2 p2 s2 r2 q2 => by
        cases v with
        | int lo =>
          cases w with
          | int hi =>
            cases r1
            cases r2
            have q3 : QE X.K cl (Y σ) Hf2 Fr m2 Q (if -(2 ^ 62) ≤ lo ∧ lo < 2 ^ 62 ∧ -(2 ^ 62) ≤ hi ∧ hi < 2 ^ 62 ∧ (hi - lo).toNat ≤ lim then rlV k (rangeV lo (hi - lo).toNat) S2 else .bad) := q2
            by_cases c : -(2 ^ 62) ≤ lo ∧ lo < 2 ^ 62 ∧ -(2 ^ 62) ≤ hi ∧ hi < 2 ^ 62 ∧ (hi - lo).toNat ≤ lim
            · rw [if_pos c] at q3
              have hl : (hi - lo).toNat ≤ 100000 := c.2.2.2.2
              refine ⟨lo, hi, rfl, rfl, ⟨c.1, c.2.1, c.2.2.1, c.2.2.2.1, by omega⟩, fun q hq => ?_⟩
              have := rl_give q3 s2 (rgV_reps (K := X.K) (Hf := Hf2) (m := m2) lo hi) hq
              cases k <;> exact this
            · rw [if_neg c] at q3
              exact q3.elim
          | _ => exact q2.elim
        | _ => exact q2.elim⟩⟩
  cases k with
  | none => subst hv; exact PE.of (pe_tupRg hc hg hm pr rfl) fin
  | some mu => subst hv; exact PE.of (pe_listRg hc hg hm pr rfl) fin
/-- {} -/
theorem sn_edc {mu t : Bool} (ht : t = false) : PE X (.Dict [] [] pos) (tI X.K cl Y Φ (.edc mu t)) := PE.of (pe_lockP pe_dnewK) fun σ H Q ⟨Hf, Fr, m, S, ρ, s, er, q⟩ => by
  subst ht
  intro p hp
  cases mu with
  | false =>
    refine ⟨[p], by simp, fun a ha => ?_, fun H2 lo => ?_⟩
    · have e : a = p := by simpa using ha
      subst e
      exact ⟨_, upd_same, trivial⟩
    · have q' : Give X.K Hf Fr m S (.dct false [] []) Q := q
      obtain ⟨u, ob, e1, _, e2⟩ := (lo p).1 (by simp)
      rw [upd_same] at e1
      cases e1
      have eH : H2 = upd H p (.frz ob (.dK [])) := by
        funext a
        by_cases h : a = p
        · subst h; rw [e2, upd_same]
        · rw [(lo a).2 (by simpa using h), upd_ne h, upd_ne h]
      subst eH
      exact q' _ _ _ m (Evl.Ex.new (none_of s.exf hp)) (List.prefix_refl _) (s.newF hp) ⟨p, ob, .dK [], [], rfl, upd_same, ⟨[], rfl, rfl, rfl⟩, .nil⟩
  | true =>
    refine ⟨[], by simp, fun a ha => by simp at ha, fun H2 lo => ?_⟩
    have eH : H2 = upd H p (.dK []) := by funext a; exact lo.out (by simp)
    subst eH
    have q' : Give X.K Hf Fr m (S ++ [.dct false false [] []]) (.loc S.length) Q := q
    exact q' _ _ Hf (m ++ [p]) (Evl.Ex.refl _) (List.prefix_append _ _) (s.newO hp ⟨.dK [], [], rfl, ⟨[], rfl, rfl, rfl⟩, .nil⟩) ⟨p, rfl, by rw [← s.len]; simp⟩
end
end Iv
/-! Iv8w: walks over a list of the store, item by item. -/
namespace Iv
open PySem PySem.Spec PyProof.Rows L2
open Evl (Ex ex_l ex_t)
/-- what a live walk asks of the heap -/
def LiveH (K : PySem.W.Frag) (a : Addr) (len : Nat) (H : Hp) : Prop := ∃ xs, SqL K H a xs ∧ xs.length = len
def LiveY (K : PySem.W.Frag) (a : Addr) (i : Nat) (H : Hp) (x : V) (H' : Hp) : Prop := H' = H ∧ ∀ xs, SqL K H a xs → xs[i]? = some x
theorem walk_live {K : PySem.W.Frag} {a : Addr} {len : Nat} : Walk (Itl K a) len (LiveH K a len) (LiveY K a) :=
  ⟨fun i H hi ⟨xs, q, e⟩ => ⟨xs, xs[i]'(by omega), q, List.getElem?_eq_getElem (by omega)⟩, fun H ⟨xs, q, e⟩ => ⟨xs, q, by omega⟩, fun _ _ _ _ _ _ y => y⟩
theorem liveAt_some {S : Store} {n len : Nat} {vs : List Val} (h : liveAt S n len = some vs) : S[n]? = some (.lst vs) ∧ vs.length = len := by
  unfold liveAt at h
  cases q : S[n]? with
  | none => rw [q] at h; cases h
  | some o =>
    cases o with
    | dct _ _ _ _ => rw [q] at h; cases h
    | ins _ _ _ => rw [q] at h; cases h
    | lst ws =>
      rw [q] at h
      have h' : (if ws.length = len then some ws else none) = some vs := h
      by_cases c : ws.length = len
      · rw [if_pos c] at h'; cases h'; exact ⟨rfl, c⟩
      · rw [if_neg c] at h'; cases h'
section
variable {X : Cx} {cl : Str → Value} {Y : L2.St → XK} {Z : XK} {Φ : Option Bool → Nat → List Val → Store → R Val} {W : Nat}
theorem Sim.liveH {K : PySem.W.Frag} {Hf Fr H : Hp} {m : List Addr} {S : Store} (s : Sim K Hf Fr m S H) {n len : Nat} {a : Addr} {vs : List Val} (hm : m[n]? = some a) (h : liveAt S n len = some vs) : LiveH K a len H := by
  obtain ⟨h1, h2⟩ := liveAt_some h
  obtain ⟨xs, h3, h4⟩ := s.obj n a _ hm h1
  exact ⟨xs, SqL.of h3, by rw [← h4.length]; exact h2⟩
theorem Sim.liveX {K : PySem.W.Frag} {Hf Fr H H' : Hp} {m : List Addr} {S : Store} (s : Sim K Hf Fr m S H) {n len i : Nat} {a : Addr} {vs : List Val} {v : Val} {x : V} (hm : m[n]? = some a) (h : liveAt S n len = some vs) (hv : vs[i]? = some v) (y : LiveY K a i H x H') : H' = H ∧ Rep K Hf m v x := by
  obtain ⟨h1, h2⟩ := liveAt_some h
  obtain ⟨xs, h3, h4⟩ := s.obj n a _ hm h1
  obtain ⟨z, h5, h6⟩ := h4.get hv
  have := y.2 xs (SqL.of h3)
  rw [h5] at this
  cases this
  exact ⟨y.1, h6⟩
theorem compLive_zero (f : Val → Store → R (Option Val)) (n len i : Nat) (acc : List Val) (S : Store) : compLive f n len i 0 acc S = match liveAt S n len with
    | some _ => .ok acc S
    | none => .bad := rfl
theorem compLive_succ (f : Val → Store → R (Option Val)) (n len i k : Nat) (acc : List Val) (S : Store) : compLive f n len i (k + 1) acc S = match liveAt S n len with
    | some xs => match xs[i]? with
      | some x => match f x S with
        | .ok (some v) S1 => if acc.length < lim then compLive f n len (i + 1) k (acc ++ [v]) S1 else .bad
        | .ok none S1 => compLive f n len (i + 1) k acc S1
        | _ => .bad
      | none => .bad
    | none => .bad := rfl
theorem compL_of {g : Tg} {own : List (Str × Nat)} {o cond elt : E} {mu : Bool} {tt : TT} {te : TE} (ht : ∀ σ H Q, tTs X.K cl noX Φ cond σ H Q → tt σ H Q) (he : ∀ σ H Q, tI X.K cl noX Φ elt σ H Q → te σ H Q)
    (hg : ∀ j ∈ g.slots, j ∈ own.map (·.2)) (σ : L2.St) (H : Hp) (Q : VK) (h : tI X.K cl Y Φ (.compL mu g own o cond elt) σ H Q) : tLc (iList X.K (tI X.K cl Y Φ o)) (gI X.K g) tt te (own.map (·.2)) σ H Q := by
  obtain ⟨Hf, Fr, m, S, ρ, s, er, q⟩ := h
  refine ⟨Hf, Fr, m, S, ρ, s, er, QR.bind (f := fun v S0 => match v with
    | .loc n => (compLive (turnV Φ g own cond elt ρ) n (lenAt S0 n) 0 (lenAt S0 n) [] S0).bind fun vs S2 => mk mu vs S2
    | _ => .bad) q fun v S1 y H1 Hf1 m1 e1 p1 s1 r1 q1 => ?_⟩
  cases v with
  | loc n =>
    obtain ⟨a, rfl, hm⟩ := r1
    replace q1 : QE X.K cl (Y σ) Hf1 Fr m1 Q ((compLive (turnV Φ g own cond elt ρ) n (lenAt S1 n) 0 (lenAt S1 n) [] S1).bind fun vs S2 => mk mu vs S2) := q1
    generalize hlen : lenAt S1 n = len at q1
    have first : ∃ vs0, liveAt S1 n len = some vs0 := by
      cases e : liveAt S1 n len with
      | some vs => exact ⟨vs, rfl⟩
      | none =>
        exfalso
        cases len with
        | zero => rw [compLive_zero, e] at q1; exact q1
        | succ k => rw [compLive_succ, e] at q1; exact q1
    obtain ⟨vs0, hv0⟩ := first
    obtain ⟨xs0, hx0, _⟩ := s1.liveH hm hv0
    refine ⟨a, rfl, ⟨xs0, hx0⟩, ?_⟩
    intro D hD
    have hFD : Fr D = none := none_of s1.exr hD
    refine lc_it (walk_live (K := X.K) (a := a) (len := len)) (fun i H => i ≤ len ∧ ∃ Hf' m' S' acc ys, Sim X.K Hf' (upd Fr D (.lst ys)) m' S' H ∧ Ex Hf1 Hf' ∧ m1 <+: m' ∧ Reps X.K Hf' m' acc ys ∧
        QE X.K cl (Y σ) Hf' Fr m' Q ((compLive (turnV Φ g own cond elt ρ) n len i (len - i) acc S').bind fun vs S2 => mk mu vs S2)) ?_ ?_ ?_ ?_
    · exact ⟨Nat.zero_le _, Hf1, m1, S1, [], [], s1.hold hD, Evl.Ex.refl _, List.prefix_refl _, .nil, q1⟩
    · rintro i H2 _ ⟨hi, Hf2, m2, S2, acc, ys, s2, e2, p2, r2, q2⟩
      have : ∃ vs, liveAt S2 n len = some vs := by
        cases e : liveAt S2 n len with
        | some vs => exact ⟨vs, rfl⟩
        | none =>
          exfalso
          cases hk : len - i with
          | zero => rw [hk, compLive_zero, e] at q2; exact q2
          | succ k => rw [hk, compLive_succ, e] at q2; exact q2
      obtain ⟨vs, hv⟩ := this
      exact s2.liveH (pre_get p2 hm) hv
    · rintro i x H2 H3 hi ⟨_, Hf2, m2, S2, acc, ys, s2, e2, p2, r2, q2⟩ y
      have hm2 := pre_get p2 hm
      have hk : len - i = (len - (i + 1)) + 1 := by omega
      rw [hk, compLive_succ] at q2
      cases hl : liveAt S2 n len with
      | none => rw [hl] at q2; exact q2.elim
      | some vs =>
        rw [hl] at q2
        have q2' : QE X.K cl (Y σ) Hf2 Fr m2 Q ((match vs[i]? with
          | some x => match turnV Φ g own cond elt ρ x S2 with
            | .ok (some v) S1 => if acc.length < lim then compLive (turnV Φ g own cond elt ρ) n len (i + 1) (len - (i + 1)) (acc ++ [v]) S1 else .bad
            | .ok none S1 => compLive (turnV Φ g own cond elt ρ) n len (i + 1) (len - (i + 1)) acc S1
            | _ => .bad
          | none => .bad).bind fun vs S2 => mk mu vs S2) := q2
        cases hv : vs[i]? with
        | none => rw [hv] at q2'; exact q2'.elim
        | some v =>
          rw [hv] at q2'
          obtain ⟨eH, r3⟩ := s2.liveX hm2 hl hv y
          subst eH
          have erw : EnvR X.K Hf2 m2 (wipeE ρ (own.map (·.2))) (wipe σ (own.map (·.2))) := ((er.mono e1 p1).mono e2 p2).wipe _
          have q3 : QE X.K cl (Y σ) Hf2 Fr m2 Q ((match turnV Φ g own cond elt ρ v S2 with
            | .ok (some v) S1 => if acc.length < lim then compLive (turnV Φ g own cond elt ρ) n len (i + 1) (len - (i + 1)) (acc ++ [v]) S1 else .bad
            | .ok none S1 => compLive (turnV Φ g own cond elt ρ) n len (i + 1) (len - (i + 1)) acc S1
            | _ => .bad).bind fun vs S2 => mk mu vs S2) := q2'
          cases hs : setTg (wipeE ρ (own.map (·.2))) g v with
          | none =>
            have ht : turnV Φ g own cond elt ρ v S2 = .bad := by unfold turnV; rw [hs]
            rw [ht] at q3
            exact q3.elim
          | some ρ' =>
            have htv : turnV Φ g own cond elt ρ v S2 = ((evalE Φ cond ρ' S2).bind fun c S3 => asBool c fun k => if k then (evalE Φ elt ρ' S3).bind fun v S4 => .ok (some v) S4 else .ok none S3).mute := by unfold turnV; rw [hs]
            rw [htv] at q3
            refine gI_ok hs s2 erw r3 fun σ' er' same => ⟨?_, ?_⟩
            · refine wipe_eq ?_ fun j hj => ?_
              · rw [← er'.len, ← wipe_length σ (own.map (·.2)), ← erw.len]
                exact setTg_len hs
              · rw [same j fun z => hj (hg j z), wipe_get, if_neg (fun z => hj z.1)]
            · refine ht _ _ _ ⟨Hf2, upd Fr D (.lst ys), m2, S2, ρ', s2, er', ?_⟩
              unfold evalT
              revert q3
              cases evalE Φ cond ρ' S2 with
              | bad => exact fun q => q.elim
              | ex c S3 => exact fun q => q.elim
              | ok c S3 =>
                cases c with
                | bl k =>
                  intro q3 b H4 Hf4 m4 e4 p4 s4 r4
                  cases r4
                  cases k with
                  | false =>
                    rw [if_neg (by decide)]
                    exact ⟨hi, Hf4, m4, S3, acc, ys, s4, e2.trans e4, p2.trans p4, Reps.mono e4 p4 _ _ r2, QR.mono q3 e4 p4⟩
                  | true =>
                    rw [if_pos rfl]
                    refine he _ _ _ ⟨Hf4, upd Fr D (.lst ys), m4, S3, ρ', s4, er'.mono e4 p4, ?_⟩
                    have q4 : QE X.K cl (Y σ) Hf2 Fr m2 Q ((match ((evalE Φ elt ρ' S3).bind fun v S4 => R.ok (some v) S4).mute with
                      | .ok (some v) S1 => if acc.length < lim then compLive (turnV Φ g own cond elt ρ) n len (i + 1) (len - (i + 1)) (acc ++ [v]) S1 else .bad
                      | .ok none S1 => compLive (turnV Φ g own cond elt ρ) n len (i + 1) (len - (i + 1)) acc S1
                      | _ => .bad).bind fun vs S2 => mk mu vs S2) := q3
                    revert q4
                    cases evalE Φ elt ρ' S3 with
                    | bad => exact fun q => q.elim
                    | ex c S4 => exact fun q => q.elim
                    | ok z S4 =>
                      intro q4 y H5 Hf5 m5 e5 p5 s5 r5
                      have q5 : QE X.K cl (Y σ) Hf2 Fr m2 Q ((if acc.length < lim then compLive (turnV Φ g own cond elt ρ) n len (i + 1) (len - (i + 1)) (acc ++ [z]) S4 else .bad).bind fun vs S2 => mk mu vs S2) := q4
                      by_cases cl' : acc.length < lim
                      · rw [if_pos cl'] at q5
                        have ex := e4.trans e5
                        have px := p4.trans p5
                        exact ⟨ys, s5.heldAt, sz' (by rw [← r2.length]; exact cl'), hi, Hf5, m5, S4, acc ++ [z], ys ++ [y], s5.held, e2.trans ex, p2.trans px, (Reps.mono ex px _ _ r2).snoc r5, QR.mono q5 ex px⟩
                      · rw [if_neg cl'] at q5
                        exact q5.elim
                | _ => exact fun q => q.elim
    · rintro H2 ⟨_, Hf2, m2, S2, acc, ys, s2, e2, p2, r2, q2⟩
      rw [Nat.sub_self, compLive_zero] at q2
      cases hl : liveAt S2 n len with
      | none => rw [hl] at q2; exact q2.elim
      | some vs =>
        rw [hl] at q2
        have q3 : QE X.K cl (Y σ) Hf2 Fr m2 Q (mk mu acc S2) := q2
        cases mu with
        | false =>
          have ex := Evl.Ex.new (o := HO.lst ys) (s2.dis D _ upd_same)
          exact q3 _ H2 (upd Hf2 D (.lst ys)) m2 ex (List.prefix_refl _) (s2.thaw hFD) ⟨D, ys, rfl, SqL.of upd_same, Reps.mono ex (List.prefix_refl _) _ _ r2⟩
        | true =>
          exact q3 _ H2 Hf2 (m2 ++ [D]) (Evl.Ex.refl _) (List.prefix_append _ _) (s2.take hFD r2) ⟨D, rfl, by rw [← s2.len]; simp⟩
  | _ => exact q1.elim
theorem forLive_succ (g : Tg) (f : Env → Store → Out) (n len i k : Nat) (ρ : Env) (S : Store) : forLive g f n len i (k + 1) ρ S = match liveAt S n len with
    | some xs => match xs[i]? with
      | some x => match setTg ρ g x with
        | some ρ1 => match f ρ1 S with
          | .nxt ρ2 S2 => forLive g f n len (i + 1) k ρ2 S2
          | .cnt ρ2 S2 => forLive g f n len (i + 1) k ρ2 S2
          | .brk ρ2 S2 => .nxt ρ2 S2
          | .ret v S2 => .ret v S2
          | .ex c S2 => .ex c S2
          | .bad => .bad
        | none => .bad
      | none => .bad
    | none => .bad := rfl
theorem forLive_zero (g : Tg) (f : Env → Store → Out) (n len i : Nat) (ρ : Env) (S : Store) : forLive g f n len i 0 ρ S = match liveAt S n len with
    | some _ => .nxt ρ S
    | none => .bad := rfl
theorem ss_forL0 {g : Tg} {o : E} {b : St} {tg xo : Expr} {sb : List Stmt} {pos : Pos} (hp : PassesOwn (model X.prog X.w) X.A X.env X.xe) (hc : X.calm = true) (ho : PE X xo (tI X.K cl (fun _ => Z) Φ o)) (hg : PG X tg (gI X.K g)) (hb : PSs X sb ((tSt X.K cl Z Φ W) b)) (hs : ∀ x, foldedSetIterable xo X.env x = pure x) :
    PS X (.For tg xo sb [] pos) (fun D σ H => ∃ Hf Fr m S ρ, Sim X.K Hf Fr m S H ∧ EnvR X.K Hf m ρ σ ∧ QO X.K cl Z Hf Fr m D ((evalE Φ o ρ S).go fun v S0 => match v with
    | .loc n => forLive g (fun ρ1 S2 => execS Φ W b ρ1 S2) n (lenAt S0 n) 0 (lenAt S0 n) ρ S0
    | _ => .bad)) := PS.of (ps_for hp hc (pi_list ho) hg hb hs) fun D σ H ⟨Hf, Fr, m, S, ρ, s, er, q⟩ => by
  refine ⟨Hf, Fr, m, S, ρ, s, er, QO.go (f := fun v S0 => match v with
    | .loc n => forLive g (fun ρ1 S2 => execS Φ W b ρ1 S2) n (lenAt S0 n) 0 (lenAt S0 n) ρ S0
    | _ => .bad) q fun v S1 y H1 Hf1 m1 e1 p1 s1 r1 q1 => ?_⟩
  cases v with
  | loc n =>
    obtain ⟨a, rfl, hm⟩ := r1
    replace q1 : QO X.K cl Z Hf1 Fr m1 D (forLive g (fun ρ1 S2 => execS Φ W b ρ1 S2) n (lenAt S1 n) 0 (lenAt S1 n) ρ S1) := q1
    generalize hlen : lenAt S1 n = len at q1
    have first : ∃ vs0, liveAt S1 n len = some vs0 := by
      cases e : liveAt S1 n len with
      | some vs => exact ⟨vs, rfl⟩
      | none =>
        exfalso
        cases len with
        | zero => rw [forLive_zero, e] at q1; exact q1
        | succ k => rw [forLive_succ, e] at q1; exact q1
    obtain ⟨vs0, hv0⟩ := first
    obtain ⟨xs0, hx0, _⟩ := s1.liveH hm hv0
    refine ⟨a, rfl, ⟨xs0, hx0⟩, ?_⟩
    refine for_it (walk_live (K := X.K) (a := a) (len := len)) (fun i σ H => i ≤ len ∧ ∃ Hf' m' S' ρ', Sim X.K Hf' Fr m' S' H ∧ Ex Hf1 Hf' ∧ m1 <+: m' ∧ EnvR X.K Hf' m' ρ' σ ∧ QO X.K cl Z Hf' Fr m' D (forLive g (fun ρ1 S2 => execS Φ W b ρ1 S2) n len i (len - i) ρ' S')) ?_ ?_ ?_ ?_
    · exact ⟨Nat.zero_le _, Hf1, m1, S1, ρ, s1, Evl.Ex.refl _, List.prefix_refl _, er.mono e1 p1, q1⟩
    · rintro i σ2 H2 _ ⟨hi, Hf2, m2, S2, ρ2, s2, e2, p2, r2, q2⟩
      have : ∃ vs, liveAt S2 n len = some vs := by
        cases e : liveAt S2 n len with
        | some vs => exact ⟨vs, rfl⟩
        | none =>
          exfalso
          cases hk : len - i with
          | zero => rw [hk, forLive_zero, e] at q2; exact q2
          | succ k => rw [hk, forLive_succ, e] at q2; exact q2
      obtain ⟨vs, hv⟩ := this
      exact s2.liveH (pre_get p2 hm) hv
    · rintro i x σ2 H2 H3 hi ⟨_, Hf2, m2, S2, ρ2, s2, e2, p2, r2, q2⟩ y
      have hm2 := pre_get p2 hm
      have hk : len - i = (len - (i + 1)) + 1 := by omega
      rw [hk, forLive_succ] at q2
      cases hl : liveAt S2 n len with
      | none => rw [hl] at q2; exact q2.elim
      | some vs =>
        rw [hl] at q2
        have q2' : QO X.K cl Z Hf2 Fr m2 D (match vs[i]? with
          | some x => match setTg ρ2 g x with
            | some ρ1 => match execS Φ W b ρ1 S2 with
              | .nxt ρ2 S2 => forLive g (fun ρ1 S2 => execS Φ W b ρ1 S2) n len (i + 1) (len - (i + 1)) ρ2 S2
              | .cnt ρ2 S2 => forLive g (fun ρ1 S2 => execS Φ W b ρ1 S2) n len (i + 1) (len - (i + 1)) ρ2 S2
              | .brk ρ2 S2 => .nxt ρ2 S2
              | .ret v S2 => .ret v S2
              | .ex c S2 => .ex c S2
              | .bad => .bad
            | none => .bad
          | none => .bad) := q2
        cases hv : vs[i]? with
        | none => rw [hv] at q2'; exact q2'.elim
        | some v =>
          rw [hv] at q2'
          obtain ⟨eH, r3⟩ := s2.liveX hm2 hl hv y
          subst eH
          have q3 : QO X.K cl Z Hf2 Fr m2 D (match setTg ρ2 g v with
            | some ρ1 => match execS Φ W b ρ1 S2 with
              | .nxt ρ2 S2 => forLive g (fun ρ1 S2 => execS Φ W b ρ1 S2) n len (i + 1) (len - (i + 1)) ρ2 S2
              | .cnt ρ2 S2 => forLive g (fun ρ1 S2 => execS Φ W b ρ1 S2) n len (i + 1) (len - (i + 1)) ρ2 S2
              | .brk ρ2 S2 => .nxt ρ2 S2
              | .ret v S2 => .ret v S2
              | .ex c S2 => .ex c S2
              | .bad => .bad
            | none => .bad) := q2'
          cases hs : setTg ρ2 g v with
          | none => rw [hs] at q3; exact q3.elim
          | some ρ3 =>
            rw [hs] at q3
            refine gI_ok hs s2 r2 r3 fun σ' er' _ => ⟨Hf2, Fr, m2, S2, ρ3, s2, er', ?_⟩
            have q4 : QO X.K cl Z Hf2 Fr m2 D (match execS Φ W b ρ3 S2 with
              | .nxt ρ2 S2 => forLive g (fun ρ1 S2 => execS Φ W b ρ1 S2) n len (i + 1) (len - (i + 1)) ρ2 S2
              | .cnt ρ2 S2 => forLive g (fun ρ1 S2 => execS Φ W b ρ1 S2) n len (i + 1) (len - (i + 1)) ρ2 S2
              | .brk ρ2 S2 => .nxt ρ2 S2
              | .ret v S2 => .ret v S2
              | .ex c S2 => .ex c S2
              | .bad => .bad) := q3
            revert q4
            cases execS Φ W b ρ3 S2 with
            | nxt ρ4 S4 => exact fun q4 σ4 H4 Hf4 m4 e4 p4 s4 r4 => ⟨hi, Hf4, m4, S4, ρ4, s4, e2.trans e4, p2.trans p4, r4, QO.mono q4 e4 p4⟩
            | cnt ρ4 S4 => exact fun q4 σ4 H4 Hf4 m4 e4 p4 s4 r4 => ⟨hi, Hf4, m4, S4, ρ4, s4, e2.trans e4, p2.trans p4, r4, QO.mono q4 e4 p4⟩
            | brk ρ4 S4 => exact fun q4 => q4
            | ret v S4 => exact fun q4 => q4
            | ex c S4 => exact fun q4 => q4
            | bad => exact fun q4 => q4
    · rintro σ2 H2 ⟨_, Hf2, m2, S2, ρ2, s2, e2, p2, r2, q2⟩
      rw [Nat.sub_self, forLive_zero] at q2
      cases hl : liveAt S2 n len with
      | none => rw [hl] at q2; exact q2.elim
      | some vs =>
        rw [hl] at q2
        exact q2 σ2 H2 Hf2 m2 (Evl.Ex.refl _) (List.prefix_refl _) s2 r2
  | _ => exact q1.elim
theorem PS.or {X : Cx} {st : Stmt} {t t' : TS} (h : PS X st t) (h' : PS X st t') : PS X st (fun D σ H => t D σ H ∨ t' D σ H) := ⟨fun pins s σ H D I hq => hq.elim (h.run pins s σ H D I) (h'.run pins s σ H D I)⟩
theorem ss_forL {g : Tg} {o : E} {b : St} {tg xo : Expr} {sb : List Stmt} {pos : Pos} (hp : PassesOwn (model X.prog X.w) X.A X.env X.xe) (hc : X.calm = true) (ho : PE X xo (tI X.K cl (fun _ => Z) Φ o)) (hg : PG X tg (gI X.K g)) (hb : PSs X sb ((tSt X.K cl Z Φ W) b)) (hs : ∀ x, foldedSetIterable xo X.env x = pure x) :
    PS X (.For tg xo sb [] pos) ((tSt X.K cl Z Φ W) (.forL g o b)) := PS.of (PS.or (ss_forL0 hp hc ho hg hb hs) (ss_for hp hc (si_vals ho) hg hb hs)) fun D σ H ⟨Hf, Fr, m, S, ρ, s, er, q⟩ => by
  have q' : QO X.K cl Z Hf Fr m D ((evalE Φ o ρ S).go fun v S0 => match v with
    | .loc n => forLive g (fun ρ1 S2 => execS Φ W b ρ1 S2) n (lenAt S0 n) 0 (lenAt S0 n) ρ S0
    | .tup xs => forGo g (fun ρ1 S2 => execS Φ W b ρ1 S2) xs ρ S0
    | .lst xs => forGo g (fun ρ1 S2 => execS Φ W b ρ1 S2) xs ρ S0
    | _ => .bad) := q
  have e2 : execS Φ W (.for_ g (.vals o) b) ρ S = ((evalE Φ o ρ S).bind fun v S1 => match v with
    | .tup vs => R.ok vs S1
    | .lst vs => R.ok vs S1
    | .dct false ks _ => R.ok (ks.map (keyV false)) S1
    | .str s => R.ok (s.cps.toList.map fun c => Val.str ⟨#[c]⟩) S1
    | _ => .bad).go fun xs S1 => forGo g (fun ρ1 S2 => execS Φ W b ρ1 S2) xs ρ S1 := rfl
  by_cases hL : ∃ n S0, evalE Φ o ρ S = .ok (.loc n) S0
  · obtain ⟨n, S0, hL⟩ := hL
    refine .inl ⟨Hf, Fr, m, S, ρ, s, er, ?_⟩
    rw [hL] at q' ⊢
    exact q'
  · refine .inr ⟨Hf, Fr, m, S, ρ, s, er, ?_⟩
    rw [e2]
    cases hE : evalE Φ o ρ S with
    | bad => rw [hE] at q'; exact q'.elim
    | ex c S0 => rw [hE] at q'; exact q'
    | ok v S0 =>
      rw [hE] at q'
      cases v with
      | loc n => exact absurd ⟨n, S0, hE⟩ hL
      | tup vs => exact q'
      | lst vs => exact q'
      | _ => exact q'.elim
end
end Iv
/-! Iv8x: [..] * n, xs.index(n). -/
namespace Iv
open PySem PySem.Spec PyProof.Rows L2
open Evl (Ex ex_l ex_t)
theorem Reps.rep {K : PySem.W.Frag} {Hf : Hp} {m : List Addr} {vs : List Val} {xs : List V} (r : Reps K Hf m vs xs) : ∀ n : Nat, Reps K Hf m (List.replicate n vs).flatten (List.replicate n xs).flatten
  | 0 => .nil
  | n + 1 => by
    rw [List.replicate_succ, List.replicate_succ, List.flatten_cons, List.flatten_cons]
    exact r.append (Reps.rep r n)
theorem rcv_lit {S : Store} {v : Val} (h : rcv S .index v = true) : ∃ ws, litems S v = some ws := by
  cases v with
  | lst ws => exact ⟨ws, rfl⟩
  | loc n =>
    have h' : (match S[n]? with
      | some (.lst _) => true
      | _ => false) = true := h
    show ∃ ws, (match S[n]? with
      | some (.lst vs) => some vs
      | _ => none) = some ws
    cases q : S[n]? with
    | none => rw [q] at h'; cases h'
    | some o =>
      cases o with
      | lst ws => exact ⟨ws, rfl⟩
      | dct _ _ _ _ => rw [q] at h'; cases h'
      | ins _ _ _ => rw [q] at h'; cases h'
  | _ => cases h
theorem idx_get {α : Type} [BEq α] [LawfulBEq α] {i : α} : ∀ {ns : List α}, i ∈ ns → ns[ns.idxOf i]? = some i := fun {ns} h => by
  rw [List.getElem?_eq_getElem (List.idxOf_lt_length_of_mem h), List.getElem_idxOf]
theorem idx_lt {α : Type} [BEq α] [LawfulBEq α] {i z : α} {ns : List α} {j : Nat} (h : j < ns.idxOf i) (e : ns[j]? = some z) : z ≠ i := fun q => by
  subst q
  obtain ⟨hj, e2⟩ := List.getElem?_eq_some_iff.mp e
  have h2 : z ∈ ns.take (j + 1) := by
    rw [List.mem_take_iff_getElem]
    exact ⟨j, by omega, e2⟩
  have h3 : (ns.take (j + 1)).idxOf z < (ns.take (j + 1)).length := List.idxOf_lt_length_of_mem h2
  have h4 : ns.idxOf z = (ns.take (j + 1)).idxOf z := by
    conv => lhs; rw [← List.take_append_drop (j + 1) ns]
    rw [List.idxOf_append, if_pos h2]
  rw [List.length_take] at h3
  omega
section
variable {X : Cx} {cl : Str → Value} {Y : L2.St → XK} {Z : XK} {Φ : Option Bool → Nat → List Val → Store → R Val}
theorem sn_rep {es : List Expr} {xb : Expr} {p pos : Pos} {e b : E} {mu : Bool} (h : PA X es (tAs X.K cl Y Φ e)) (hb : PE X xb (tI X.K cl Y Φ b)) : PE X (.BinOp (.List es p) .Mult xb pos) (tI X.K cl Y Φ (.rep mu e b)) :=
  PE.of (pe_op op_rep (pe_lst h) hb) fun σ H Q ⟨Hf, Fr, m, S, ρ, s, er, q⟩ =>
    ⟨Hf, Fr, m, S, ρ, s, er, QR.bind (f := fun vs S1 => if vs.length ≤ lim then (evalE Φ b ρ S1).mute.bind fun w S2 => repV mu vs w S2 else .bad) q fun vs S1 xs H1 Hf1 m1 e1 p1 s1 r1 q1 => by
      by_cases c : vs.length ≤ lim
      · rw [if_pos c] at q1
        refine ⟨sz (by rw [← r1.length]; exact c), fun D hD => ⟨Hf1, upd Fr D (.lst xs), m1, S1, ρ, s1.hold hD, er.mono e1 p1, ?_⟩⟩
        have hFD : Fr D = none := none_of s1.exr hD
        revert q1
        cases evalE Φ b ρ S1 with
        | bad => exact fun q => q.elim
        | ex c S3 => exact fun q => q.elim
        | ok w S2 =>
          intro q1 y H2 Hf2 m2 e2 p2 s2 r2
          have q2 : QE X.K cl (Y σ) Hf1 Fr m1 Q (repV mu vs w S2) := q1
          cases w with
          | int n =>
            have q3 : QE X.K cl (Y σ) Hf1 Fr m1 Q (if -(2 ^ 62) ≤ n ∧ n < 2 ^ 62 ∧ vs.length * n.toNat ≤ lim then mk mu (List.replicate n.toNat vs).flatten S2 else .bad) := q2
            cases r2
            by_cases c2 : -(2 ^ 62) ≤ n ∧ n < 2 ^ 62 ∧ vs.length * n.toNat ≤ lim
            · rw [if_pos c2] at q3
              have ex := e2.trans (Evl.Ex.new (o := HO.lst xs) (s2.dis D _ upd_same))
              have s3 := s2.thaw hFD
              have r3 : Reps X.K (upd Hf2 D (.lst xs)) m2 vs xs := Reps.mono ex p2 _ _ r1
              exact ⟨D, n, xs, rfl, rfl, s2.heldAt, by omega, by omega, sz (by rw [← r1.length]; exact c2.2.2), fun p hp => mk_give (QR.mono q3 ex p2) s3 (r3.rep _) hp⟩
            · rw [if_neg c2] at q3
              exact q3.elim
          | _ => exact q2.elim
      · rw [if_neg c] at q1
        exact q1.elim⟩
theorem idx_step {Hf2 Fr H2 : Hp} {m2 : List Addr} {S2 : Store} {v : Val} {a : Addr} {i : Int} {ys : List V} {Q : VK} (s2 : Sim X.K Hf2 Fr m2 S2 H2) (r1 : Rep X.K Hf2 m2 v (.ref a)) (r2 : Reps X.K Hf2 m2 [.int i] ys) (q2 : QE X.K cl Z Hf2 Fr m2 Q (mthV .index v [.int i] S2)) : rIndex X.K (.ref a) ys H2 Q := by
  have q3 : QE X.K cl Z Hf2 Fr m2 Q (match lints S2 v with
    | some ns => if i ∈ ns then .ok (.int (ns.idxOf i : Nat)) S2 else .bad
    | none => .bad) := q2
  cases hn : lints S2 v with
  | none => rw [hn] at q3; exact q3.elim
  | some ns =>
    rw [hn] at q3
    have q4 : QE X.K cl Z Hf2 Fr m2 Q (if i ∈ ns then .ok (.int (ns.idxOf i : Nat)) S2 else .bad) := q3
    obtain ⟨x1, t1, rfl, r3, r4⟩ := r2
    cases r3
    cases r4
    by_cases c : i ∈ ns
    · rw [if_pos c] at q4
      obtain ⟨a', ea, h5⟩ := Rep.intsAt s2 r1 hn
      cases ea
      refine ⟨a, ns.map V.int, .int i, ns.idxOf i, .int i, rfl, rfl, h5, rfl, ?_, ?_, ?_, ?_, Give.at q4 s2 rfl⟩
      · rw [List.all_map, List.all_eq_true]
        exact fun _ _ => rfl
      · rw [List.getElem?_map, idx_get c]
        rfl
      · simp [L2.eqV]
      · intro j z hj hz
        rw [List.getElem?_map] at hz
        cases e : ns[j]? with
        | none => rw [e] at hz; cases hz
        | some z' =>
          rw [e] at hz
          cases hz
          have := idx_lt hj e
          simp [L2.eqV, this]
    · rw [if_neg c] at q4
      exact q4.elim
theorem idx_stepB {Hf2 Fr H2 : Hp} {m2 : List Addr} {S2 : Store} {v : Val} {a : Addr} {i : Bool} {ys : List V} {Q : VK} (s2 : Sim X.K Hf2 Fr m2 S2 H2) (r1 : Rep X.K Hf2 m2 v (.ref a)) (r2 : Reps X.K Hf2 m2 [.bl i] ys) (q2 : QE X.K cl Z Hf2 Fr m2 Q (mthV .index v [.bl i] S2)) : rIndex X.K (.ref a) ys H2 Q := by
  have q3 : QE X.K cl Z Hf2 Fr m2 Q (match lbols S2 v with
    | some ns => if i ∈ ns then .ok (.int (ns.idxOf i : Nat)) S2 else .bad
    | none => .bad) := q2
  cases hn : lbols S2 v with
  | none => rw [hn] at q3; exact q3.elim
  | some ns =>
    rw [hn] at q3
    have q4 : QE X.K cl Z Hf2 Fr m2 Q (if i ∈ ns then .ok (.int (ns.idxOf i : Nat)) S2 else .bad) := q3
    obtain ⟨x1, t1, rfl, r3, r4⟩ := r2
    cases r3
    cases r4
    by_cases c : i ∈ ns
    · rw [if_pos c] at q4
      obtain ⟨a', ea, h5⟩ := Rep.bolsAt s2 r1 hn
      cases ea
      refine ⟨a, ns.map V.bl, .bl i, ns.idxOf i, .bl i, rfl, rfl, h5, rfl, ?_, ?_, ?_, ?_, Give.at q4 s2 rfl⟩
      · rw [List.all_map, List.all_eq_true]
        exact fun _ _ => rfl
      · rw [List.getElem?_map, idx_get c]
        rfl
      · simp [L2.eqV]
      · intro j z hj hz
        rw [List.getElem?_map] at hz
        cases e : ns[j]? with
        | none => rw [e] at hz; cases hz
        | some z' =>
          rw [e] at hz
          cases hz
          have := idx_lt hj e
          simp [L2.eqV, this]
    · rw [if_neg c] at q4
      exact q4.elim
/-! xs.count(y), flat items -/
def rCntF (K : PySem.W.Frag) : V → List V → Hp → VK → Prop := fun x xs H Q => ∃ (a : Addr) (ys : List V) (y : V), x = .ref a ∧ xs = [y] ∧ SqL K H a ys ∧ flatV y = true ∧ ys.all flatV = true ∧ Q (.int ((ys.countP fun z => L2.eqV z y : Nat))) H
theorem cnt_flat {y : V} : ∀ {ys : List V} {us : List Value}, Vals ys us → ys.all flatV = true → us.countP (eqU y) = ys.countP fun z => L2.eqV z y
  | _, _, .nil, _ => rfl
  | z :: ys, u :: us, .cons r t, f => by
    rw [List.all_cons, Bool.and_eq_true] at f
    rw [List.countP_cons, List.countP_cons, cnt_flat t f.2, eqU_of r f.1]
theorem mt_countF : MtR X "list.count" (rCntF X.K) := by
  intro pins s σ H x xs v us Q I rx rv h
  obtain ⟨a, ys, y, rfl, rfl, hs, fy, fys, q⟩ := h
  cases rx
  obtain ⟨uy, rfl, ry⟩ := rv.one
  obtain ⟨its, r, ⟨⟨cls, dd, data, sl⟩, n, ho, hc, hdn, hd⟩, hlen⟩ := I.list hs
  dsimp only at hc hd
  subst hc hd
  refine call_meets PySem.F.slot_list_count ⟨_, ho, rfl⟩ PySem.F.entry_list_count (PySem.F.args_list_count_2 _ _)
    (SeqAt.list_countAt a its.toArray n dd sl uy (eqU y)) ⟨ho, fun u hu => mem_eqAt ry fy r fys u (by simpa using hu), ?_⟩
  refine ⟨.int ((ys.countP fun z => L2.eqV z y : Nat)), H, I.tok _, ⟨s.toks, ?_⟩, q⟩
  show Value.int ((its.toArray.toList.countP (eqU y) : Nat) : Int) s.toks = _
  rw [show its.toArray.toList = its from rfl, cnt_flat r fys]
theorem cnt_stepB {Hf2 Fr H2 : Hp} {m2 : List Addr} {S2 : Store} {v : Val} {a : Addr} {i : Bool} {ys : List V} {Q : VK} (s2 : Sim X.K Hf2 Fr m2 S2 H2) (r1 : Rep X.K Hf2 m2 v (.ref a)) (r2 : Reps X.K Hf2 m2 [.bl i] ys) (q2 : QE X.K cl Z Hf2 Fr m2 Q (mthV .count v [.bl i] S2)) : rCntF X.K (.ref a) ys H2 Q := by
  have q3 : QE X.K cl Z Hf2 Fr m2 Q (match lbols S2 v with
    | some ns => .ok (.int (ns.count i : Nat)) S2
    | none => .bad) := q2
  cases hn : lbols S2 v with
  | none => rw [hn] at q3; exact q3.elim
  | some ns =>
    rw [hn] at q3
    obtain ⟨x1, t1, rfl, r3, r4⟩ := r2
    cases r3
    cases r4
    obtain ⟨a', ea, h5⟩ := Rep.bolsAt s2 r1 hn
    cases ea
    have e : (ns.map V.bl).countP (fun z => L2.eqV z (.bl i)) = ns.count i := by
      rw [List.countP_map]
      rfl
    refine ⟨a, ns.map V.bl, .bl i, rfl, rfl, h5, rfl, ?_, ?_⟩
    · rw [List.all_map, List.all_eq_true]
      exact fun _ _ => rfl
    · rw [e]
      exact Give.at q3 s2 rfl
/-- xs.count(e) -/
theorem sn_count {o e : E} {xo xe : Expr} {apos cpos : Pos} (ho : PE X xo ((tI X.K cl Y Φ) o)) (he : PE X xe ((tI X.K cl Y Φ) e)) (hbase : attributeBase xo "count" X.env (eval xo X.env) = eval xo X.env)
    (hs : starEach (xe :: []) X.env = (false, eval xe X.env) :: starEach [] X.env) (hline : (apos.endLine == cpos.line) = true) :
    PE X (.Call (.Attribute xo "count" apos) [xe] [] cpos) ((tI X.K cl Y Φ) (.mth .count o (.cons e .nil))) := by
  refine PE.of (pe_bm PySem.F.plainAttrs_list PySem.F.slot_list_count PySem.F.type_list_count mt_countF ho (sa_cons (r := .nil) he sa_nil hs) hbase (by rw [hs]; rfl) hline hs rfl) fun σ H Q ⟨Hf, Fr, m, S, ρ, s, er, q⟩ => ?_
  refine ⟨Hf, Fr, m, S, ρ, s, er, QR.bind (f := fun v S1 => if rcv S1 .count v then (evalA Φ (.cons e .nil) ρ S1).bind fun vs S2 => mthV .count v vs S2 else .bad) q fun v S1 y H1 Hf1 m1 e1 p1 s1 r1 q1 => ?_⟩
  cases hr : rcv S1 .count v with
  | false => rw [hr] at q1; exact q1.elim
  | true =>
    rw [hr] at q1
    obtain ⟨ws, hw⟩ : ∃ ws, litems S1 v = some ws := rcv_lit (by
      rw [← hr]
      cases v with
      | loc n => rfl
      | lst ws => rfl
      | _ => rfl)
    obtain ⟨a, xs, rfl, h3, h4⟩ := Rep.litAt s1 r1 hw
    refine ⟨.inl ⟨rfl, xs, h3⟩, Hf1, Fr, m1, S1, ρ, s1, er.mono e1 p1, QR.bind (f := fun vs S2 => mthV .count v vs S2) q1 fun vs S2 ys H2 Hf2 m2 e2 p2 s2 r2 q2 => ?_⟩
    cases vs with
    | nil => exact q2.elim
    | cons u t =>
      cases t with
      | cons _ _ => cases u <;> exact q2.elim
      | nil =>
        cases u with
        | bl i => exact cnt_stepB s2 (Rep.mono e2 p2 _ _ r1) r2 q2
        | _ => exact q2.elim
/-- xs.index(e) -/
theorem sn_index {o e : E} {xo xe : Expr} {apos cpos : Pos} (ho : PE X xo ((tI X.K cl Y Φ) o)) (he : PE X xe ((tI X.K cl Y Φ) e)) (hbase : attributeBase xo "index" X.env (eval xo X.env) = eval xo X.env)
    (hs : starEach (xe :: []) X.env = (false, eval xe X.env) :: starEach [] X.env) (hline : (apos.endLine == cpos.line) = true) :
    PE X (.Call (.Attribute xo "index" apos) [xe] [] cpos) ((tI X.K cl Y Φ) (.mth .index o (.cons e .nil))) := by
  refine PE.of (pe_bm PySem.F.plainAttrs_list PySem.F.slot_list_index PySem.F.type_list_index mt_index ho (sa_cons (r := .nil) he sa_nil hs) hbase (by rw [hs]; rfl) hline hs rfl) fun σ H Q ⟨Hf, Fr, m, S, ρ, s, er, q⟩ => ?_
  refine ⟨Hf, Fr, m, S, ρ, s, er, QR.bind (f := fun v S1 => if rcv S1 .index v then (evalA Φ (.cons e .nil) ρ S1).bind fun vs S2 => mthV .index v vs S2 else .bad) q fun v S1 y H1 Hf1 m1 e1 p1 s1 r1 q1 => ?_⟩
  cases hr : rcv S1 .index v with
  | false => rw [hr] at q1; exact q1.elim
  | true =>
    rw [hr] at q1
    obtain ⟨ws, hw⟩ := rcv_lit hr
    obtain ⟨a, xs, rfl, h3, h4⟩ := Rep.litAt s1 r1 hw
    refine ⟨.inl ⟨rfl, xs, h3⟩, Hf1, Fr, m1, S1, ρ, s1, er.mono e1 p1, QR.bind (f := fun vs S2 => mthV .index v vs S2) q1 fun vs S2 ys H2 Hf2 m2 e2 p2 s2 r2 q2 => ?_⟩
    cases vs with
    | nil => exact q2.elim
    | cons u t =>
      cases t with
      | cons _ _ => cases u <;> exact q2.elim
      | nil =>
        cases u with
        | int i => exact idx_step s2 (Rep.mono e2 p2 _ _ r1) r2 q2
        | bl i => exact idx_stepB s2 (Rep.mono e2 p2 _ _ r1) r2 q2
        | _ => exact q2.elim
end
end Iv
/-! Iv8y: {k: v}. -/
namespace Iv
open PySem PySem.Spec PyProof.Rows L2
open Evl (Ex ex_l ex_t)
section
variable {X : Cx} {cl : Str → Value} {Y : L2.St → XK} {Z : XK} {Φ : Option Bool → Nat → List Val → Store → R Val}
theorem lk_one {H H2 : Hp} {p : Addr} {u : HO} (lo : LkOn [p] (upd H p u) H2) : ∃ ob, H2 = upd H p (.frz ob u) := by
  obtain ⟨u', ob, e1, _, e2⟩ := (lo p).1 (by simp)
  rw [upd_same] at e1
  cases e1
  refine ⟨ob, ?_⟩
  funext a
  by_cases h : a = p
  · subst h; rw [e2, upd_same]
  · rw [(lo a).2 (by simpa using h), upd_ne h, upd_ne h]
theorem lk_nil {H H2 : Hp} (lo : LkOn [] H H2) : H2 = H := by funext a; exact lo.out (by simp)
theorem sn_dsp {xk xv : Expr} {k v : E} {mu : Bool} {pos : Pos} (hk : PE X xk (tI X.K cl Y Φ k)) (hv : PE X xv (tI X.K cl Y Φ v)) : PE X (.Dict [some xk] [xv] pos) (tI X.K cl Y Φ (.dsp mu k v)) :=
  PE.of (pe_lockP (pe_disp (pps_cons hk hv pps_nil) rfl rfl (by simp) (by show 1 ≤ 15; decide))) fun σ H Q ⟨Hf, Fr, m, S, ρ, s, er, q⟩ => by
  intro p hp
  have hFp : Fr p = none := none_of s.exr hp
  refine ⟨Hf, upd Fr p (.dK []), m, S, ρ, s.hold hp, er, ?_⟩
  have q' : QE X.K cl (Y σ) Hf Fr m Q ((evalE Φ k ρ S).mute.bind fun q S1 => (evalE Φ v ρ S1).mute.bind fun w S2 => dspR mu q w S2) := q
  revert q'
  cases evalE Φ k ρ S with
  | bad => exact fun q => q.elim
  | ex c S1 => exact fun q => q.elim
  | ok qv S1 =>
    intro q' x H1 Hf1 m1 e1 p1 s1 r1
    refine ⟨Hf1, upd Fr p (.dK []), m1, S1, ρ, s1, er.mono e1 p1, ?_⟩
    have q2 : QE X.K cl (Y σ) Hf Fr m Q ((evalE Φ v ρ S1).mute.bind fun w S2 => dspR mu qv w S2) := q'
    revert q2
    cases evalE Φ v ρ S1 with
    | bad => exact fun q => q.elim
    | ex c S2 => exact fun q => q.elim
    | ok w S2 =>
      intro q2 y H2 Hf2 m2 e2 p2 s2 r2
      have q3 : QE X.K cl (Y σ) Hf Fr m Q (match keyOf false qv with
        | some k => if mu then .ok (.loc S2.length) (S2 ++ [.dct false false [k] [w]]) else .ok (.dct false [k] [w]) S2
        | none => .bad) := q2
      cases e : keyOf false qv with
      | none => rw [e] at q3; exact q3.elim
      | some kk =>
        rw [e] at q3
        obtain ⟨k', e3, rfl⟩ := keyOf_f e
        have ex := kyOf_rep e3 r1
        refine ⟨s2.heldAt, [(k', y)], by rw [ex]; rfl, (by show 1 ≤ 15; decide), ?_⟩
        show lkQ Q (.ref p) (upd H2 p (.dK [(k', y)]))
        cases mu with
        | false =>
          refine ⟨[p], by simp, fun a ha => ?_, fun H3 lo => ?_⟩
          · have e : a = p := by simpa using ha
            subst e
            exact ⟨_, upd_same, trivial⟩
          · obtain ⟨ob, rfl⟩ := lk_one lo
            have q4 : Give X.K Hf Fr m S2 (.dct false [[k']] [w]) Q := q3
            have s3 := (s2.held (o' := .frz ob (.dK [(k', y)]))).thaw hFp
            have ex2 := Evl.Ex.new (o := HO.frz ob (.dK [(k', y)])) (s2.dis p _ upd_same)
            exact q4 _ _ _ m2 (e1.trans (e2.trans ex2)) (p1.trans p2) s3 ⟨p, ob, .dK [(k', y)], [y], rfl, upd_same, ⟨_, rfl, rfl, rfl⟩, .cons (Rep.mono ex2 (List.prefix_refl _) _ _ r2) .nil⟩
        | true =>
          refine ⟨[], by simp, fun a ha => by simp at ha, fun H3 lo => ?_⟩
          rw [lk_nil lo]
          have q4 : Give X.K Hf Fr m (S2 ++ [.dct false false [[k']] [w]]) (.loc S2.length) Q := q3
          have s3 := (s2.held (o' := .dK [(k', y)])).takeO (o := .dct false false [[k']] [w]) hFp ⟨.dK [(k', y)], [y], rfl, ⟨_, rfl, rfl, rfl⟩, .cons r2 .nil⟩
          exact q4 _ _ Hf2 (m2 ++ [p]) (e1.trans e2) (p1.trans (p2.trans (List.prefix_append _ _))) s3 ⟨p, rfl, by rw [← s2.len]; simp⟩
/-! xs.extend(ys), a list turned about -/
theorem ext_list (l : Addr) (items : Array Value) (n : Nat) (b : Addr) (items2 : Array Value) (n2 : Nat) (sl2 : Array (Option Value)) (hc0 : ¬(!items.isEmpty && Builtin.List.listTooLong (items.size + items2.size)) = true) (hc1 : items.size ≤ sizeLine) (hs2 : items.size + items2.size ≤ sizeLine + 1) :
    Meets (Builtin.«list.extend» ⟨[.ref l, .ref b], []⟩) (fun _ R s => s.heap.get? l = some { cls := .type "list", dict := none, data := .seq items n, slots := #[] } ∧ s.heap.get? b = some { cls := .type "list", dict := none, data := .seq items2 n2, slots := sl2 } ∧ R (.ok (.ret Value.none)) { s with heap := s.heap.update l (Obj.mapSeq fun x => x ++ items2), toks := s.toks }) :=
  .of_wp fun prog w A R s h => by
    obtain ⟨hp, g, d, tk, os⟩ := s; obtain ⟨hl, hb, h⟩ := h; have f1 := PySem.AutoSeq1.idx_int; have f2 := PySem.AutoSeq1.sub_tuple_tuple; have f3 := PySem.AutoSeq1.sub_list_list; have f4 := PySem.AutoSeq1.sub_tuple_list; have f5 := PySem.AutoSeq1.sub_list_tuple;
    have hz' : (items ++ items2).size ≤ sizeLine + 1 := by rw [Array.size_append]; exact hs2
    wp_walk using (wpAny_updateSeq hl rfl (hz := hc1) (_hz' := hz')), PySem.AutoSeq1.wpAny_loadPart' hl, PySem.AutoSeq1.wpAny_loadPart' hb; exact ⟨_, rfl, h⟩
def rExtR (K : PySem.W.Frag) : V → List V → Hp → VK → Prop := fun x vs H Q => ∃ l b xs zs, x = .ref l ∧ vs = [.ref b] ∧ H l = some (.lst xs) ∧ SqL K H b zs ∧ xs.length + zs.length ≤ sizeLine ∧ Q .non (upd H l (.lst (xs ++ zs)))
theorem mt_extR : MtR X "list.extend" (rExtR X.K) := by
  intro pins s σ H x vs v us Q I rx rv h
  obtain ⟨l, b, xs, zs, rfl, rfl, hH, hB, hz, q⟩ := h
  cases rx
  obtain ⟨u, rfl, ru⟩ := rv.one
  cases ru
  obtain ⟨z, its, n, r, hl, e⟩ := I.lstM hH
  obtain ⟨its2, r2, pl2, hl2⟩ := I.list hB
  obtain ⟨n2, sl2, e2⟩ := plain_get pl2
  have z2 := r2.length
  have hsz : its.toArray.size + its2.toArray.size ≤ sizeLine := by rw [List.size_toArray, List.size_toArray]; omega
  have hlong : ¬ (!its.toArray.isEmpty && Builtin.List.listTooLong (its.toArray.size + its2.toArray.size)) = true := by
    rw [notLongL hsz, Bool.and_false]
    exact Bool.false_ne_true
  refine call_meets PySem.F.slot_list_extend ⟨_, e, rfl⟩ PySem.F.entry_list_extend (PySem.F.args_list_extend_2 _ _)
    (ext_list l its.toArray n b its2.toArray n2 sl2 hlong (by rw [List.size_toArray]; omega) (by omega)) ⟨e, e2, ?_⟩
  refine ⟨.non, _, I.lset (its' := its ++ its2) hH e (by simp) (r.append r2) ?_, rfl, q⟩
  rw [List.length_append]
  omega
/-- xs.extend(e) -/
theorem sn_extend {o e : E} {xo xe : Expr} {apos cpos : Pos} (ho : PE X xo ((tI X.K cl Y Φ) o)) (he : PE X xe ((tI X.K cl Y Φ) e)) (hbase : attributeBase xo "extend" X.env (eval xo X.env) = eval xo X.env)
    (hs : starEach (xe :: []) X.env = (false, eval xe X.env) :: starEach [] X.env) (hline : (apos.endLine == cpos.line) = true) :
    PE X (.Call (.Attribute xo "extend" apos) [xe] [] cpos) ((tI X.K cl Y Φ) (.mth .extend o (.cons e .nil))) := by
  refine PE.of (pe_bm PySem.F.plainAttrs_list PySem.F.slot_list_extend PySem.F.type_list_extend mt_extR ho (sa_cons (r := .nil) he sa_nil hs) hbase (by rw [hs]; rfl) hline hs rfl) fun σ H Q ⟨Hf, Fr, m, S, ρ, s, er, q⟩ => ?_
  refine ⟨Hf, Fr, m, S, ρ, s, er, QR.bind (f := fun v S1 => if rcv S1 .extend v then (evalA Φ (.cons e .nil) ρ S1).bind fun vs S2 => mthV .extend v vs S2 else .bad) q fun v S1 y H1 Hf1 m1 e1 p1 s1 r1 q1 => ?_⟩
  cases hr : rcv S1 .extend v with
  | false => rw [hr] at q1; exact q1.elim
  | true =>
    rw [hr] at q1
    obtain ⟨n, ws0, rfl, hw⟩ : ∃ n ws, v = .loc n ∧ S1[n]? = some (.lst ws) := by
      cases v with
      | loc n =>
        have h' : (match S1[n]? with
          | some (.lst _) => true
          | _ => false) = true := hr
        cases q : S1[n]? with
        | none => rw [q] at h'; cases h'
        | some o =>
          cases o with
          | lst ws => exact ⟨n, ws, rfl, q⟩
          | dct _ _ _ _ => rw [q] at h'; cases h'
          | ins _ _ _ => rw [q] at h'; cases h'
      | _ => cases hr
    obtain ⟨a, xs, rfl, hm, h3, h4⟩ := Rep.locAt s1 r1 hw
    refine ⟨.inl ⟨rfl, xs, SqL.of h3⟩, Hf1, Fr, m1, S1, ρ, s1, er.mono e1 p1, QR.bind (f := fun vs S2 => mthV .extend (.loc n) vs S2) q1 fun vs S2 ys H2 Hf2 m2 e2 p2 s2 r2 q2 => ?_⟩
    have hm2 : m2[n]? = some a := pre_get p2 hm
    cases vs with
    | nil => exact q2.elim
    | cons v t =>
      cases t with
      | cons _ _ => exact q2.elim
      | nil =>
        have q3 : QE X.K cl (Y σ) Hf2 Fr m2 Q (match S2[n]? with
          | some (.lst xs) => match litems S2 v with
            | some ys => if xs.length + ys.length ≤ lim then .ok .non (S2.set n (.lst (xs ++ ys))) else .bad
            | none => .bad
          | _ => .bad) := q2
        cases q4 : S2[n]? with
        | none => rw [q4] at q3; exact q3.elim
        | some ob =>
          cases ob with
          | dct _ _ _ _ => rw [q4] at q3; exact q3.elim
          | ins _ _ _ => rw [q4] at q3; exact q3.elim
          | lst us =>
            rw [q4] at q3
            have q5 : QE X.K cl (Y σ) Hf2 Fr m2 Q (match litems S2 v with
              | some ys => if us.length + ys.length ≤ lim then .ok .non (S2.set n (.lst (us ++ ys))) else .bad
              | none => .bad) := q3
            cases q6 : litems S2 v with
            | none => rw [q6] at q5; exact q5.elim
            | some ws =>
              rw [q6] at q5
              have q7 : QE X.K cl (Y σ) Hf2 Fr m2 Q (if us.length + ws.length ≤ lim then .ok .non (S2.set n (.lst (us ++ ws))) else .bad) := q5
              obtain ⟨zs, h5, h6⟩ := s2.obj n a _ hm2 q4
              obtain ⟨x1, t1, rfl, r3, r4⟩ := r2
              cases r4
              obtain ⟨b, us2, rfl, h7, h8⟩ := Rep.litAt s2 r3 q6
              by_cases c : us.length + ws.length ≤ lim
              · rw [if_pos c] at q7
                exact ⟨a, b, zs, us2, rfl, rfl, h5, h7, sz (by rw [← h6.length, ← h8.length]; exact c), q7 _ _ Hf2 m2 (Evl.Ex.refl _) (List.prefix_refl _) (s2.write hm2 (h6.append h8)) rfl⟩
              · rw [if_neg c] at q7
                exact q7.elim
/-- xs.insert(e1, e2) -/
theorem sn_insert {o e1 e2 : E} {xo x1 x2 : Expr} {apos cpos : Pos} (ho : PE X xo ((tI X.K cl Y Φ) o)) (he : PA X [x1, x2] ((tAs X.K cl Y Φ) (.cons e1 (.cons e2 .nil)))) (hbase : attributeBase xo "insert" X.env (eval xo X.env) = eval xo X.env)
    (hs : starEach (x1 :: [x2]) X.env = (false, eval x1 X.env) :: starEach [x2] X.env) (hs2 : starEach (x2 :: []) X.env = (false, eval x2 X.env) :: starEach [] X.env) (hline : (apos.endLine == cpos.line) = true) :
    PE X (.Call (.Attribute xo "insert" apos) [x1, x2] [] cpos) ((tI X.K cl Y Φ) (.mth .insert o (.cons e1 (.cons e2 .nil)))) := by
  refine PE.of (pe_bm PySem.F.plainAttrs_list PySem.F.slot_list_insert PySem.F.type_list_insert mt_insert ho he hbase (by rw [hs, hs2]; rfl) hline hs (by rw [hs2]; rfl)) fun σ H Q ⟨Hf, Fr, m, S, ρ, s, er, q⟩ => ?_
  refine ⟨Hf, Fr, m, S, ρ, s, er, QR.bind (f := fun v S1 => if rcv S1 .insert v then (evalA Φ (.cons e1 (.cons e2 .nil)) ρ S1).bind fun vs S2 => mthV .insert v vs S2 else .bad) q fun v S1 y H1 Hf1 m1 e1 p1 s1 r1 q1 => ?_⟩
  cases hr : rcv S1 .insert v with
  | false => rw [hr] at q1; exact q1.elim
  | true =>
    rw [hr] at q1
    obtain ⟨n, ws0, rfl, hw⟩ : ∃ n ws, v = .loc n ∧ S1[n]? = some (.lst ws) := by
      cases v with
      | loc n =>
        have h' : (match S1[n]? with
          | some (.lst _) => true
          | _ => false) = true := hr
        cases q : S1[n]? with
        | none => rw [q] at h'; cases h'
        | some o =>
          cases o with
          | lst ws => exact ⟨n, ws, rfl, q⟩
          | dct _ _ _ _ => rw [q] at h'; cases h'
          | ins _ _ _ => rw [q] at h'; cases h'
      | _ => cases hr
    obtain ⟨a, xs, rfl, hm, h3, h4⟩ := Rep.locAt s1 r1 hw
    refine ⟨.inl ⟨rfl, xs, SqL.of h3⟩, Hf1, Fr, m1, S1, ρ, s1, er.mono e1 p1, QR.bind (f := fun vs S2 => mthV .insert (.loc n) vs S2) q1 fun vs S2 ys H2 Hf2 m2 e2 p2 s2 r2 q2 => ?_⟩
    have hm2 : m2[n]? = some a := pre_get p2 hm
    cases vs with
    | nil => exact q2.elim
    | cons u t =>
      cases u with
      | int i =>
        cases t with
        | nil => exact q2.elim
        | cons v t =>
          cases t with
          | cons _ _ => exact q2.elim
          | nil =>
            have q3 : QE X.K cl (Y σ) Hf2 Fr m2 Q (match S2[n]? with
              | some (.lst xs) => if (0 ≤ i ∧ i < 2 ^ 62) ∧ xs.length < lim then .ok .non (S2.set n (.lst (xs.take i.toNat ++ [v] ++ xs.drop i.toNat))) else .bad
              | _ => .bad) := q2
            cases q4 : S2[n]? with
            | none => rw [q4] at q3; exact q3.elim
            | some ob =>
              cases ob with
              | dct _ _ _ _ => rw [q4] at q3; exact q3.elim
              | ins _ _ _ => rw [q4] at q3; exact q3.elim
              | lst us =>
                rw [q4] at q3
                have q5 : QE X.K cl (Y σ) Hf2 Fr m2 Q (if (0 ≤ i ∧ i < 2 ^ 62) ∧ us.length < lim then .ok .non (S2.set n (.lst (us.take i.toNat ++ [v] ++ us.drop i.toNat))) else .bad) := q3
                obtain ⟨zs, h5, h6⟩ := s2.obj n a _ hm2 q4
                obtain ⟨x1, t1, rfl, r3, r4⟩ := r2
                obtain ⟨x2, t2, rfl, r5, r6⟩ := r4
                cases r6
                cases r3
                by_cases c : (0 ≤ i ∧ i < 2 ^ 62) ∧ us.length < lim
                · rw [if_pos c] at q5
                  have hz : zs.length < sizeLine := by rw [← h6.length]; exact sz' c.2
                  exact ⟨a, zs, i, x2, rfl, rfl, h5, hz, c.1.1, Int.lt_trans c.1.2 (by decide), q5 _ _ Hf2 m2 (Evl.Ex.refl _) (List.prefix_refl _) (s2.write hm2 (((h6.take _).append (Reps.cons r5 .nil)).append (h6.drop _))) rfl⟩
                · rw [if_neg c] at q5
                  exact q5.elim
      | _ => exact q2.elim
theorem idx_le {i : Int} : ∀ (l : List Int) (k : Nat), l[k]? = some i → l.idxOf i ≤ k
  | [], _, h => by simp at h
  | a :: l, 0, h => by
    have e : a = i := by simpa using h
    subst e
    rw [List.idxOf_cons_self]
    exact Nat.le_refl _
  | a :: l, k + 1, h => by
    by_cases c : a = i
    · subst c
      rw [List.idxOf_cons_self]
      exact Nat.zero_le _
    · have := idx_le l k (by simpa using h)
      have e : (a :: l).idxOf i = l.idxOf i + 1 := by
        rw [List.idxOf_cons, beq_eq_false_iff_ne.mpr c]
        rfl
      omega
/-- xs.remove(e) -/
theorem sn_remove {o e : E} {xo xe : Expr} {apos cpos : Pos} (ho : PE X xo ((tI X.K cl Y Φ) o)) (he : PE X xe ((tI X.K cl Y Φ) e)) (hbase : attributeBase xo "remove" X.env (eval xo X.env) = eval xo X.env)
    (hs : starEach (xe :: []) X.env = (false, eval xe X.env) :: starEach [] X.env) (hline : (apos.endLine == cpos.line) = true) :
    PE X (.Call (.Attribute xo "remove" apos) [xe] [] cpos) ((tI X.K cl Y Φ) (.mth .remove o (.cons e .nil))) := by
  refine PE.of (pe_bm PySem.F.plainAttrs_list PySem.F.slot_list_remove PySem.F.type_list_remove mt_remove ho (sa_cons (r := .nil) he sa_nil hs) hbase (by rw [hs]; rfl) hline hs rfl) fun σ H Q ⟨Hf, Fr, m, S, ρ, s, er, q⟩ => ?_
  refine ⟨Hf, Fr, m, S, ρ, s, er, QR.bind (f := fun v S1 => if rcv S1 .remove v then (evalA Φ (.cons e .nil) ρ S1).bind fun vs S2 => mthV .remove v vs S2 else .bad) q fun v S1 y H1 Hf1 m1 e1 p1 s1 r1 q1 => ?_⟩
  cases hr : rcv S1 .remove v with
  | false => rw [hr] at q1; exact q1.elim
  | true =>
    rw [hr] at q1
    obtain ⟨n, ws0, rfl, hw⟩ : ∃ n ws, v = .loc n ∧ S1[n]? = some (.lst ws) := by
      cases v with
      | loc n =>
        have h' : (match S1[n]? with
          | some (.lst _) => true
          | _ => false) = true := hr
        cases q : S1[n]? with
        | none => rw [q] at h'; cases h'
        | some o =>
          cases o with
          | lst ws => exact ⟨n, ws, rfl, q⟩
          | dct _ _ _ _ => rw [q] at h'; cases h'
          | ins _ _ _ => rw [q] at h'; cases h'
      | _ => cases hr
    obtain ⟨a, xs, rfl, hm, h3, h4⟩ := Rep.locAt s1 r1 hw
    refine ⟨.inl ⟨rfl, xs, SqL.of h3⟩, Hf1, Fr, m1, S1, ρ, s1, er.mono e1 p1, QR.bind (f := fun vs S2 => mthV .remove (.loc n) vs S2) q1 fun vs S2 ys H2 Hf2 m2 e2 p2 s2 r2 q2 => ?_⟩
    have hm2 : m2[n]? = some a := pre_get p2 hm
    cases vs with
    | nil => exact q2.elim
    | cons u t =>
      cases t with
      | cons _ _ => cases u <;> exact q2.elim
      | nil =>
        cases u with
        | int i =>
          have q3 : QE X.K cl (Y σ) Hf2 Fr m2 Q (match S2[n]? with
            | some (.lst xs) => match intsOf xs with
              | some ns => if i ∈ ns then .ok .non (S2.set n (.lst ((ns.eraseIdx (ns.idxOf i)).map .int))) else .bad
              | none => .bad
            | _ => .bad) := q2
          cases q4 : S2[n]? with
          | none => rw [q4] at q3; exact q3.elim
          | some ob =>
            cases ob with
            | dct _ _ _ _ => rw [q4] at q3; exact q3.elim
            | ins _ _ _ => rw [q4] at q3; exact q3.elim
            | lst us =>
              rw [q4] at q3
              have q5 : QE X.K cl (Y σ) Hf2 Fr m2 Q (match intsOf us with
                | some ns => if i ∈ ns then .ok .non (S2.set n (.lst ((ns.eraseIdx (ns.idxOf i)).map .int))) else .bad
                | none => .bad) := q3
              cases q6 : intsOf us with
              | none => rw [q6] at q5; exact q5.elim
              | some ns =>
                rw [q6] at q5
                have q7 : QE X.K cl (Y σ) Hf2 Fr m2 Q (if i ∈ ns then .ok .non (S2.set n (.lst ((ns.eraseIdx (ns.idxOf i)).map .int))) else .bad) := q5
                obtain ⟨zs, h5, h6⟩ := s2.obj n a _ hm2 q4
                rw [reps_ints q6 h6] at h5
                obtain ⟨x1, t1, rfl, r3, r4⟩ := r2
                cases r4
                cases r3
                by_cases c : i ∈ ns
                · rw [if_pos c] at q7
                  have hi := List.idxOf_lt_length_of_mem c
                  have hg : ns[ns.idxOf i]? = some i := by rw [List.getElem?_eq_getElem hi, List.getElem_idxOf]
                  have hn : ∀ k : Nat, k < ns.idxOf i → ns[k]? ≠ some i := fun k hk z => by
                    have hkl : k < ns.length := Nat.lt_trans hk hi
                    have hle := idx_le ns k z
                    omega
                  exact ⟨a, ns, i, ns.idxOf i, rfl, rfl, h5, hg, hn, q7 _ _ Hf2 m2 (Evl.Ex.refl _) (List.prefix_refl _) (s2.write hm2 (ints_reps _)) rfl⟩
                · rw [if_neg c] at q7
                  exact q7.elim
        | _ => exact q2.elim
theorem us_rvsM : UpS X.K cl .rvsM fun x H Q => kRev X.K x H Q := fun Y Hf Fr m S H v x Q s r q => by
  have q' : QE X.K cl Y Hf Fr m Q (match litems S v with
    | some vs => mk true vs.reverse S
    | none => .bad) := q
  cases e : litems S v with
  | none => rw [e] at q'; exact q'.elim
  | some vs =>
    rw [e] at q'
    obtain ⟨a, xs, rfl, h1, h2⟩ := Rep.litAt s r e
    exact ⟨a, xs, rfl, .inl ⟨h1, fun p hp => mk_give q' s h2.rev hp⟩⟩
end
end Iv
/-! Iv8z: refusals: raise C("text"), isinstance of what was caught, try with one call inside. -/
namespace Iv
open PySem PySem.Spec PyProof.Rows L2
open Evl (Ex ex_l ex_t)
theorem cg_ok {Pr : Program} {wo : World} {HH : Hp} {hh : Heap} {q : Addr} {cv : Value} {ob : PySem.Obj} {fl : Array Value} (hg : hh.get? q = some ob) (hz : Zc cv none ob) (hd : ob.data = .fields fl) : ObjOk Pr wo HH hh q (CgO cv q) :=
  ⟨⟨ob, fl, hg, hz, hd⟩, ⟨ob, hg⟩, fun _ _ ⟨o, v, x1, x2⟩ y => ⟨o, v, y o x1, x2⟩⟩
section
variable {X : Cx} {pn : List (Addr × PySem.Obj)} {τ : L2.St} {HH : Hp} {sh : Shared}
/-- an object of fields that nobody tracked is tracked from here on -/
theorem track_it (J : Inv X pn τ HH sh) {q : Addr} {ob : PySem.Obj} {fl : Array Value} {cv : Value} (hg : sh.heap.get? q = some ob) (hz : Zc cv none ob) (hd : ob.data = .fields fl) (hn : HH q = none)
    (h0 : X.s_0.heap.get? q = none) (hl : q ≠ X.env.locals) (hp : ∀ z ∈ X.pn ++ pn, z.1 ≠ q) : Inv X pn τ (upd HH q (CgO cv q)) sh := by
  have far : ∀ b u, X.s_0.heap.get? b = some u → b ≠ q := fun b u hb z => by
    subst z
    rw [h0] at hb
    cases hb
  have oth : ∀ b u, HH b = some u → b ≠ q := fun b u hb z => by
    subst z
    rw [hn] at hb
    cases hb
  have B := J.base
  refine ⟨J.ok, J.os, J.bare, ⟨B.keep, B.slot, ?_, B.there, ?_, ?_, ?_⟩, J.loc, J.cell, ?_, ?_, ?_, ?_, J.len⟩
  · intro b u hb hN hx
    rw [upd_ne (far b u hb)]
    exact B.free b u hb hN hx
  · intro b xs hb
    have z := B.tups b xs hb
    rw [upd_ne (oth b _ z)]
    exact z
  · intro b u v hb
    have z := B.frzs b u v hb
    rw [upd_ne (oth b _ z)]
    exact z
  · intro b ps hb
    obtain ⟨mo, z⟩ := B.tbls b ps hb
    refine ⟨mo, ?_⟩
    rw [upd_ne (oth b _ z)]
    exact z
  · rw [upd_ne hl.symm]
    exact J.free
  · intro x c hx
    have ne : c ≠ q := fun z => by
      subst z
      obtain ⟨v, u, hu, hv⟩ := J.cell x c hx
      rw [hg] at hu
      cases hu
      rw [hd] at hv
      cases hv
    rw [upd_ne ne]
    exact J.freeC x c hx
  · intro z hz
    obtain ⟨y1, y2, y3, y4, y5⟩ := J.pin z hz
    refine ⟨y1, ?_, y3, y4, y5⟩
    rw [upd_ne (hp z hz)]
    exact y2
  · intro b u hb
    by_cases hbq : b = q
    · subst hbq
      rw [upd_same] at hb
      cases hb
      exact cg_ok hg hz hd
    · rw [upd_ne hbq] at hb
      refine (J.hok b u hb).stay (fun _ _ _ z => z) (fun c z => ?_) fun c xs z => ?_
      · rw [upd_ne (oth c _ z)]; exact z
      · rw [upd_ne (oth c _ z)]; exact z
/-- what 'except D as e: c = e' wishes of an exception: it is one of D's, and behind the suite it is tracked -/
def wKeep (K : PySem.W.Frag) (D : Value) (i : Nat) (ts : Addr → TS) (En : Ends) : WX := fun cv dd τ HH =>
  dd = none ∧ PySem.W.exmOne K cv D = some true ∧ ∀ q, HH q = none → ts q { nx := fun τ' H' => H' = HH ∧ En.nx (τ'.set i none) (upd HH q (CgO cv q)), rt := fun _ _ => False, bk := fun _ _ => False, ct := fun _ _ => False } (τ.set i (some (.ref q))) HH
theorem ps_try_keep {dn en : Str} {D : Value} {i : Nat} {body su : List Stmt} {s0 : Stmt} {p1 p2 p3 : Pos} {tb : WX → TS} {ts : Addr → TS} (hst : X.stack = X.env :: X.outer) (hfr : X.env.frame = some X.env.locals) (hex : X.ex = []) (hN : X.N.Nodup) (hi : X.N[i]? = some en) (hlo : X.env.kindOf en = some .local) (hD : Names X dn D)
    (hb : ∀ (W : WX) (q : List (Addr × PySem.Obj)) (xe : Value → Shared → Prop), Takes (X.tr q xe) W → PassesOwn (model X.prog X.w) X.A X.env xe → PSs (X.tr q xe) body (tb W))
    (hs : ∀ (q : Addr) (ob : PySem.Obj) (r : List (Addr × PySem.Obj)), PSs (X.suite q ((q, ob) :: r)) (s0 :: su) (ts q)) :
    PS X (.Try body [.ExceptHandler (some (.Name dn p1)) (some en) (s0 :: su) p2] [] [] p3) (fun En τ HH => tb (wKeep X.K D i ts En) En τ HH) := by
  constructor
  intro pn sh τ HH En J hq
  have good := J.ok
  have hfs : X.A.frames = some (X.env :: X.outer) := by rw [good.frames, hst]
  have hlc : L2.Loc X.env.scope en := Or.inl hlo
  apply wpAny_Try_except
  have run := (hb (wKeep X.K D i ts En) (X.pn ++ pn) (fun e s1 => wpAny (model X.prog X.w) X.A (noteFrame e X.env) (fun _ s2 => wpAny (model X.prog X.w) X.A (setFlight e none) (fun _ s3 =>
    wpAny (model X.prog X.w) X.A (handleBy e X.env [.ExceptHandler (some (.Name dn p1)) (some en) (s0 :: su) p2]) (SP X pn En) X.xe s3) X.xe s2) X.xe s1) ?tk PassesOwn.looking).run [] sh τ HH En (J.toTry _) hq
  case tk =>
    rintro u sx ⟨q, B, sI, pn1, τ1, H1, cv, dd, rfl, K0, nb, up, sky, na, os, ag, ⟨rfl, hm, hy⟩⟩
    have K1 : Inv X pn τ1 H1 sI := K0.ofTry good
    rw [hst] at sky
    show wpAny (model X.prog X.w) X.A (noteFrame (.ref q) X.env) _ _ _
    apply Sky.land Zc.steady hfs hfr sky
    intro h3 fl3 up3
    have K3 : Inv X pn τ1 H1 { sx with heap := h3 } := K1.landed nb fl3.1 (up.trans up3) os ag
    obtain ⟨ob3, fv3, hg3, hz3, hd3⟩ := fl3.there
    have nfr : q ∉ frs (X.env :: X.outer) := fun hm => by
      obtain ⟨_, o', e', hnf⟩ := Heap.FunFrames.mem fl3.2.2.1 hm
      rw [hg3] at e'
      cases e'
      exact hnf fv3 hd3
    have nL : q ≠ X.env.locals := fun z => nfr (List.mem_filterMap.mpr ⟨X.env, List.mem_cons_self, by rw [hfr, z]⟩)
    have nF : q ∉ X.fs := fun hm => by
      obtain ⟨e1, he, z⟩ := List.mem_filterMap.mp hm
      exact nfr (List.mem_filterMap.mpr ⟨e1, List.mem_cons_of_mem _ he, z⟩)
    have nB : B.get? q = none := fl3.2.1
    have n0 : X.s_0.heap.get? q = none := by
      cases e : X.s_0.heap.get? q with
      | none => rfl
      | some u =>
        obtain ⟨u', e'⟩ := K1.base.there q u e (by rw [hex]; exact List.not_mem_nil)
        have z := nb q u' e' (by rw [hst]; exact nfr)
        rw [nB] at z
        cases z
    have nP : ∀ z ∈ X.pn ++ pn, z.1 ≠ q := fun z hz e => by
      obtain ⟨y1, _, y3, y4, _⟩ := K1.pin z hz
      have w := nb z.1 z.2 y1 fun hm => by
        rcases List.mem_cons.mp (K1.stkSub z.1 hm) with k | k
        · exact y3 k
        · exact y4 k
      rw [e, nB] at w
      cases w
    have S3 := K3.suite hg3 hd3 na nL nF
    refine wpAny_handleBy_cons (codeAny_handlers_test ?_) (fun z => (by cases z))
    have LT : PySem.W.Looks (model X.prog X.w) h3 (typeOf (.ref q)) cv := fun A1 Q1 E1 s1 k1 q1 => wpAny_typeOf_ref (k1 _ _ hg3) (by rw [hz3.1]; exact q1)
    have LM := PySem.W.exm_one (M := model X.prog X.w) K3.kIn LT hm
    have ask : ∀ {Q1 : Value → Shared → Prop} {E1 : Value → Shared → Prop}, Q1 D { sx with heap := h3 } → wpAny (model X.prog X.w) (X.A.mark (some (.ref q))) (eval (.Name dn p1) X.env) Q1 E1 { sx with heap := h3 } := fun {Q1 E1} z => by
      obtain ⟨g1, g2, g3⟩ := hD
      rcases g3 with g3 | ⟨g3, g4, g5⟩
      · exact ld_glob (X := X.suite q ((q, ob3) :: (X.pn ++ pn))) S3 g1 g3 z g2
      · exact ld_blt (X := X.suite q ((q, ob3) :: (X.pn ++ pn))) S3 g1 g3 g4 z g5 g2
    apply ask
    apply LM.here
    apply codeAny_handlers_suite_as
    apply HandSPX.lands_againZ fl3
    intro h4 fl4 up4
    have K4 : Inv X pn τ1 H1 { sx with heap := h4 } := K1.landed nb fl4.1 ((up.trans up3).trans up4) os ag
    obtain ⟨ob4, fv4, hg4, hz4, hd4⟩ := fl4.there
    have S4 := K4.suite hg4 hd4 na nL nF
    refine store_ok (X := X.suite q ((q, ob4) :: (X.pn ++ pn))) (v := .ref q) S4 hN hi hlc rfl (fun s5 S5 => ?_) (Or.inr hlo)
    refine wpAny_mono ((hs q ob4 (X.pn ++ pn)).run [] s5 _ H1 _ S5 (hy q na)) (fun f s6 hsp => ?_) (fun _ _ z => False.elim z)
    cases f with
    | next =>
      obtain ⟨τ6, H6, S6, rfl, q6⟩ := hsp
      obtain ⟨hg6, _⟩ := S6.pin (q, ob4) (List.mem_append.mpr (Or.inl List.mem_cons_self))
      have T6 := track_it (S6.unsuite good) hg6 hz4 hd4 na n0 nL nP
      exact gone_ok T6 hN hi hlo fun s7 K7 => ⟨_, _, K7, q6⟩
    | brk => obtain ⟨_, _, _, z⟩ := hsp; exact z.elim
    | cont => obtain ⟨_, _, _, z⟩ := hsp; exact z.elim
    | ret u => obtain ⟨_, _, _, _, _, z⟩ := hsp; exact z.elim
  refine wpAny_mono run (fun f s1 hsp => ?_) (fun _ _ z => z)
  cases f with
  | next => obtain ⟨τ1, H1, K1, z⟩ := hsp; exact wpAny_execs_nil ⟨τ1, H1, K1.ofTry good, z⟩
  | brk => obtain ⟨τ1, H1, K1, z⟩ := hsp; exact ⟨τ1, H1, K1.ofTry good, z⟩
  | cont => obtain ⟨τ1, H1, K1, z⟩ := hsp; exact ⟨τ1, H1, K1.ofTry good, z⟩
  | ret u => obtain ⟨v, τ1, H1, K1, r, z⟩ := hsp; exact ⟨v, τ1, H1, K1.ofTry good, r, z⟩
/-- isinstance(e, c), e what was caught -/
def rIsX (K : PySem.W.Frag) : List V → Hp → VK → Prop := fun xs HH Q => ∃ (q D : Addr) (c : V) (cv : Value) (b : Bool), xs = [.ref q, c] ∧ HH q = some (CgO (.ref D) q) ∧ ExcC K D ∧ (∀ u, RelV c u → u = cv) ∧ PySem.W.kitOne K (.ref D) cv = some b ∧ Q (.bl b) HH
theorem call_isX : CallR X (.builtin "isinstance") (rIsX X.K) := by
  intro pins s σ H xs us Q I r h
  obtain ⟨q, D, c, cv, b, rfl, hq, C, hcv, e, hQ⟩ := h
  cases r with
  | cons rx rr =>
    cases rr with
    | cons rt rr =>
      cases rr
      cases rx
      have ec := hcv _ rt
      subst ec
      obtain ⟨⟨ob, fv, hg, hz, hd⟩, _⟩ := I.hok q _ hq
      have J : PySem.W.InstAt s.heap q ob D none := by
        obtain ⟨oc, od, oda, osl⟩ := ob
        obtain ⟨h1, h2⟩ := hz
        dsimp only at h1 h2 hd
        subst h1 h2 hd
        exact ⟨hg, rfl, rfl, trivial⟩
      exact PySem.W.kia_one (PySem.W.handS_kitx_exc C.hg C.hk C.hs C.hd C.ha C.hn C.ht C.hm) I.kIn J e (fun z => nomatch z) fun tk => ⟨.bl b, H, I.kept (t' := tk) fun _ _ z => z, rfl, hQ⟩
end
/-- the facts of a refusal's class -/
structure ExcF (K : PySem.W.Frag) (mg : Str → Option Value) (c : Str) (C : Addr) : Prop where
  ns : clsK K c = some (.ref C)
  g : mg c = some (.ref C)
  x : PySem.W.excIn K C [.type "ValueError", .type "Exception", .type "BaseException", .type "object"] "ValueError.__new__" = true
  k : PySem.W.keepIn K (.ref C) = true
  b : PySem.W.subIn K (.ref C) (.type "BaseException") = some true
  t : PySem.W.typeIn K (.ref C) = some (.type "type")
  e : ExcC K C
  m : ∃ D, mg "DealError" = some (.ref D) ∧ PySem.W.exmOne K (.ref C) (.ref D) = some true
  is : ∀ T b, excIs c T = some b → (∃ D, mg T = some (.ref D) ∧ PySem.W.kitOne K (.ref C) (.ref D) = some b) ∨ (T = "ValueError" ∧ mg T = none ∧ PySem.W.kitOne K (.ref C) (.type "ValueError") = some b)
section
variable {X : Cx} {cl : Str → Value} {Y : L2.St → XK} {Z : XK} {Φ : Option Bool → Nat → List Val → Store → R Val} {W : Nat}
theorem ss_raise {Y : XK} {c : Str} {C : Addr} {m : Str} {j : Nat} {p p2 pos pos2 : Pos} (hc : X.calm = true) (tk : Takes X (fun cv d _ H => Y cv d H)) (F : ExcF X.K X.mg c C) (hcl : cl c = .ref C) (hg : Gl X c) (hdb : (c == ("__debug__" : Str)) = false) :
    PS X (.Raise (some (.Call (.Name c p) [.Constant (.str m) j p2] [] pos)) none pos2) (tSt X.K cl Y Φ W (.raise_ c)) :=
  PS.of (ps_raise hc tk (pmk_own PySem.F.excBase_ValueError F.x F.g F.k (raises_own F.b F.t) hg hdb)) fun D σ H ⟨Hf, Fr, mm, S, ρ, s, er, q⟩ => by
    have q' : QO X.K cl Y Hf Fr mm D (.ex c S) := q
    have := q' H Hf mm (Evl.Ex.refl _) (List.prefix_refl _) s
    rw [hcl] at this
    exact this
theorem sn_isx {cs : List Str} {a : E} {T : Str} {xa : Expr} {p p2 pos : Pos} (hF : ∀ c ∈ cs, ∃ C, ExcF X.K X.mg c C) (ha : PE X xa (tI X.K cl Y Φ a)) (hg : Gl X "isinstance") (hm : X.mg "isinstance" = none)
    (hs : starEach (xa :: [.Name T p2]) X.env = (false, eval xa X.env) :: starEach [.Name T p2] X.env) (w : V) (tv : Value) (hv : PE X (.Name T p2) (tC w)) (hw : ∀ u, RelV w u → u = tv) (hk : ∀ c b C, c ∈ cs → excIs c T = some b → ExcF X.K X.mg c C → PySem.W.kitOne X.K (.ref C) tv = some b) :
    PE X (.Call (.Name "isinstance" p) [xa, .Name T p2] [] pos) (tI X.K cl Y Φ (.isx cs a T)) := by
  refine PE.of (pe_callB call_isX hg hm (by decide +kernel) (pa_cons ha (pa_cons hv pa_nil) hs) (by decide) (by decide) hs rfl) fun σ H Q ⟨Hf, Fr, m, S, ρ, s, er, q⟩ => ?_
  refine ⟨Hf, Fr, m, S, ρ, s, er, QR.bind (f := fun v S1 => match v with
    | .exc c => if c ∈ cs then R.of ((excIs c T).map Val.bl) S1 else .bad
    | _ => .bad) q fun v S1 y H1 Hf1 m1 e1 p1 s1 r1 q1 => ?_⟩
  cases v with
  | exc c =>
    have q2 : QE X.K cl (Y σ) Hf1 Fr m1 Q (if c ∈ cs then R.of ((excIs c T).map Val.bl) S1 else .bad) := q1
    by_cases hc0 : c ∈ cs
    · rw [if_pos hc0] at q2
      obtain ⟨z, hz, g⟩ := QE.ofS q2
      obtain ⟨k, hk0, rfl⟩ := map_bl hz
      obtain ⟨a0, v0, rfl, hc, hH⟩ := r1
      obtain ⟨C, F⟩ := hF c hc0
      have e0 : v0 = .ref C := by
        have := F.ns
        rw [hc] at this
        cases this
        rfl
      subst e0
      exact ⟨a0, C, w, tv, k, rfl, s1.exf _ _ hH, F.e, hw, hk c k C hc0 hk0 F, g.at s1 rfl⟩
    · rw [if_neg hc0] at q2
      exact q2.elim
  | _ => exact q1.elim
/-! a try's body: one statement, or tests ahead of one -/
def tSy (K : PySem.W.Frag) (cl : Str → Value) (Y : L2.St → XK) (Φ : Option Bool → Nat → List Val → Store → R Val) (W : Nat) (st : St) : TS := fun D σ H => tSt K cl (Y σ) Φ W st D σ H
theorem sy_expr {e : E} {x : Expr} {pos : Pos} (h : PE X x (tI X.K cl Y Φ e)) (hs : swapsWith x none pos.line X.env = pure false) : PS X (.Expr x pos) (tSy X.K cl Y Φ W (.expr e)) := PS.of (ps_expr h hs) fun D σ H ⟨Hf, Fr, m, S, ρ, s, er, q⟩ =>
  ⟨Hf, Fr, m, S, ρ, s, er, QO.go (f := fun _ S1 => .nxt ρ S1) q fun v S1 x H1 Hf1 m1 e1 p1 s1 r1 q1 => q1 _ H1 Hf1 m1 (Evl.Ex.refl _) (List.prefix_refl _) s1 (er.mono e1 p1)⟩
theorem sy_asg {e : E} {i : Nat} {st : Stmt} (h : PS X st (tAsg (tI X.K cl Y Φ e) (gName i))) : PS X st (tSy X.K cl Y Φ W (.asg i e)) := PS.of h fun D σ H ⟨Hf, Fr, m, S, ρ, s, er, q⟩ =>
  ⟨Hf, Fr, m, S, ρ, s, er, QO.go (f := fun v S1 => .nxt (ρ.set i (some v)) S1) q fun v S1 x H1 Hf1 m1 e1 p1 s1 r1 q1 => q1 _ H1 Hf1 m1 (Evl.Ex.refl _) (List.prefix_refl _) s1 ((er.mono e1 p1).set i r1)⟩
theorem sy_if {t : E} {a b : St} {xt : Expr} {sa sb : List Stmt} {pos : Pos} (ht : PT X xt (tTs X.K cl Y Φ t)) (ha : PSs X sa (tSy X.K cl Y Φ W a)) (hb : PSs X sb (tSy X.K cl Y Φ W b)) : PS X (.If xt sa sb pos) (tSy X.K cl Y Φ W (.ite t a b)) := PS.of (ps_if ht ha hb) fun D σ H ⟨Hf, Fr, m, S, ρ, s, er, q⟩ =>
  ⟨Hf, Fr, m, S, ρ, s, er, goT (f := fun k S1 => if k then execS Φ W a ρ S1 else execS Φ W b ρ S1) q fun k S1 H1 Hf1 m1 e1 p1 s1 q1 => by
    cases k with
    | true => exact ⟨Hf1, Fr, m1, S1, ρ, s1, er.mono e1 p1, q1⟩
    | false => exact ⟨Hf1, Fr, m1, S1, ρ, s1, er.mono e1 p1, q1⟩⟩
theorem sy_nil : PSs X [] (tSy X.K cl Y Φ W .nil) := PSs.of (ss_nil (cl := cl) (Y := fun _ _ _ => False) (Φ := Φ) (W := W)) fun D σ H ⟨Hf, Fr, m, S, ρ, s, er, q⟩ => ⟨Hf, Fr, m, S, ρ, s, er, q⟩
theorem sy_one {st : Stmt} {a : St} (ha : PS X st (tSy X.K cl Y Φ W a)) : PSs X [st] (tSy X.K cl Y Φ W (.seq a .nil)) := PSs.of (pss_cons ha (ss_nil (cl := cl) (Y := fun _ _ _ => False) (Φ := Φ) (W := W))) fun D σ H ⟨Hf, Fr, m, S, ρ, s, er, q⟩ => by
  refine ⟨Hf, Fr, m, S, ρ, s, er, ?_⟩
  have q' : QO X.K cl (Y σ) Hf Fr m D ((execS Φ W a ρ S).then fun ρ1 S1 => execS Φ W .nil ρ1 S1) := q
  revert q'
  cases execS Φ W a ρ S with
  | nxt ρ1 S1 => exact fun q' σ1 H1 Hf1 m1 e1 p1 s1 r1 => ⟨Hf1, Fr, m1, S1, ρ1, s1, r1, QO.mono (o := .nxt ρ1 S1) q' e1 p1⟩
  | brk ρ1 S1 => exact fun q' => q'
  | cnt ρ1 S1 => exact fun q' => q'
  | ret v S1 => exact fun q' => q'
  | ex c S1 => exact fun q' => q'
  | bad => exact fun q' => q'
theorem ss_try {Y : XK} {j i : Nat} {cs : List Str} {b : St} {body : List Stmt} {dn en y : Str} {D : Addr} {p1 p2 p3 p4 p5 p6 : Pos} (hst : X.stack = X.env :: X.outer) (hfr : X.env.frame = some X.env.locals) (hex : X.ex = []) (hN : X.N.Nodup) (hi : X.N[i]? = some en) (hlo : X.env.kindOf en = some .local) (hj : X.N[j]? = some y) (hly : X.env.scope.names.lookup y = some .local)
    (hD : Gl X dn) (hdb : (dn == ("__debug__" : Str)) = false) (hmg : X.mg dn = some (.ref D)) (hen : (en == ("__debug__" : Str)) = false) (hec : (en == ("__classdict__" : Str)) = false) (hF : ∀ c ∈ cs, clsK X.K c = some (cl c) ∧ PySem.W.exmOne X.K (cl c) (.ref D) = some true)
    (hb : ∀ (W' : WX) (q : List (Addr × PySem.Obj)) (xe : Value → Shared → Prop), Takes (X.tr q xe) W' → PassesOwn (model X.prog X.w) X.A X.env xe → PSs (X.tr q xe) body (tSy X.K cl (WE W') Φ W b)) :
    PS X (.Try body [.ExceptHandler (some (.Name dn p1)) (some en) [.Assign [.Name y p4] (.Name en p5) p6] p2] [] [] p3) (tSt X.K cl Y Φ W (.try_ j i cs b)) := by
  have su : ∀ (q : Addr) (ob : PySem.Obj) (r : List (Addr × PySem.Obj)), PSs (X.suite q ((q, ob) :: r)) [.Assign [.Name y p4] (.Name en p5) p6] (fun E σ H => tAsg (tVar i) (gName j) E σ H) := fun q ob r =>
    PSs.of (pss_cons (ps_set (X := X.suite q ((q, ob) :: r)) (i := j) hN hj (.inl hly) (pe_var (X := X.suite q ((q, ob) :: r)) hi (.inl hlo) hen hec) rfl (.inr hly)) pss_nil) fun E σ H h => h
  refine PS.of (ps_try_keep (D := .ref D) hst hfr hex hN hi hlo ⟨hD, hdb, .inl hmg⟩ hb su) fun En σ H ⟨Hf, Fr, m, S, ρ, s, er, q⟩ => ?_
  refine ⟨Hf, Fr, m, S, ρ, s, er, ?_⟩
  have q' : QO X.K cl Y Hf Fr m En (match execS Φ W b ρ S with
    | .ex c S1 => if c ∈ cs ∧ i < ρ.length then .nxt ((ρ.set j (some (.exc c))).set i none) S1 else .bad
    | o => o) := q
  revert q'
  cases execS Φ W b ρ S with
  | nxt ρ1 S1 => exact fun q' => q'
  | brk ρ1 S1 => exact fun q' => q'
  | cnt ρ1 S1 => exact fun q' => q'
  | ret v S1 => exact fun q' => q'
  | bad => exact fun q' => q'
  | ex c S1 =>
    intro q'
    have q2 : QO X.K cl Y Hf Fr m En (if c ∈ cs ∧ i < ρ.length then .nxt ((ρ.set j (some (.exc c))).set i none) S1 else .bad) := q'
    by_cases h : c ∈ cs ∧ i < ρ.length
    · rw [if_pos h] at q2
      obtain ⟨f1, f2⟩ := hF c h.1
      intro H1 Hf1 m1 e1 p1 s1
      refine ⟨rfl, f2, fun a ha => ?_⟩
      have hil : i < σ.length := by rw [← er.len]; exact h.2
      refine ⟨.ref a, List.getElem?_set_self hil, rfl, ?_⟩
      have s2 := s1.newF (o := CgO (cl c) a) ha
      have ex2 := Evl.Ex.new (o := CgO (cl c) a) (none_of s1.exf ha)
      have rp : Rep X.K (upd Hf1 a (CgO (cl c) a)) m1 (.exc c) (.ref a) := ⟨a, cl c, rfl, f1, upd_same⟩
      have er2 := (((er.mono e1 p1).mono ex2 (List.prefix_refl _)).set j rp).unset i
      have eσ : (((σ.set i (some (.ref a))).set j (some (.ref a))).set i none : L2.St) = (σ.set j (some (.ref a))).set i none := by
        apply List.ext_getElem?
        intro k
        simp only [List.getElem?_set, List.length_set]
        by_cases k1 : i = k
        · subst k1
          simp
        · simp [k1]
      rw [eσ]
      exact q2 _ _ _ m1 (e1.trans ex2) p1 s2 er2
    · rw [if_neg h] at q2
      exact q2.elim
end
/-! sep.join(texts), text.split(sep) -/
section
variable {X : Cx} {cl : Str → Value} {Y : L2.St → XK} {Z : XK} {Φ : Option Bool → Nat → List Val → Store → R Val}
theorem strs_rep {K : PySem.W.Frag} {Hf : Hp} {m : List Addr} : ∀ {vs : List Val} {xs : List V} {ys : List Str}, strsOf vs = some ys → Reps K Hf m vs xs → xs = ys.map V.str
  | [], xs, ys, h, r => by cases h; cases r; rfl
  | v :: vs, xs, ys, h, r => by
    cases v with
    | str s =>
      have h' : (match strsOf vs with
        | some ss => some (s :: ss)
        | none => none) = some ys := h
      cases e : strsOf vs with
      | none => rw [e] at h'; cases h'
      | some ss =>
        rw [e] at h'
        cases h'
        obtain ⟨x, t, rfl, r1, r2⟩ := r
        cases r1
        rw [strs_rep e r2]
        rfl
    | _ => cases h
theorem strs_reps {K : PySem.W.Frag} {Hf : Hp} {m : List Addr} : ∀ ys : List Str, Reps K Hf m (ys.map .str) (ys.map V.str)
  | [] => .nil
  | y :: ys => .cons rfl (strs_reps ys)
theorem sn_join {o e : E} {xo xe : Expr} {apos cpos : Pos} (ho : PE X xo ((tI X.K cl Y Φ) o)) (he : PE X xe ((tI X.K cl Y Φ) e)) (hbase : attributeBase xo "join" X.env (eval xo X.env) = eval xo X.env)
    (hs : starEach [xe] X.env = [(false, eval xe X.env)]) (hline : (apos.endLine == cpos.line) = true) :
    PE X (.Call (.Attribute xo "join" apos) [xe] [] cpos) ((tI X.K cl Y Φ) (.tx true o e)) := by
  refine PE.of (pe_join ho he hs hbase hline) fun σ H Q ⟨Hf, Fr, m, S, ρ, s, er, q⟩ => ?_
  refine ⟨Hf, Fr, m, S, ρ, s, er, QR.bind (f := fun v S1 => match v with
    | .str s => (evalE Φ e ρ S1).bind fun w S2 => txR true s w S2
    | _ => .bad) q fun v S1 y H1 Hf1 m1 e1 p1 s1 r1 q1 => ?_⟩
  cases v with
  | str a =>
    cases r1
    refine ⟨⟨a, rfl⟩, Hf1, Fr, m1, S1, ρ, s1, er.mono e1 p1, QR.bind (f := fun w S2 => txR true a w S2) q1 fun w S2 z H2 Hf2 m2 e2 p2 s2 r2 q2 => ?_⟩
    have q3 : QE X.K cl (Y σ) Hf2 Fr m2 Q (match items S2 w with
      | some vs => match strsOf vs with
        | some ys => if (ys.map (·.length)).sum + ys.length * a.length ≤ 1000000 then .ok (.str (Txt.join a ys)) S2 else .bad
        | none => .bad
      | none => .bad) := q2
    cases h1 : items S2 w with
    | none => rw [h1] at q3; exact q3.elim
    | some vs =>
      rw [h1] at q3
      have q4 : QE X.K cl (Y σ) Hf2 Fr m2 Q (match strsOf vs with
        | some ys => if (ys.map (·.length)).sum + ys.length * a.length ≤ 1000000 then .ok (.str (Txt.join a ys)) S2 else .bad
        | none => .bad) := q3
      cases h2 : strsOf vs with
      | none => rw [h2] at q4; exact q4.elim
      | some ys =>
        rw [h2] at q4
        have q5 : QE X.K cl (Y σ) Hf2 Fr m2 Q (if (ys.map (·.length)).sum + ys.length * a.length ≤ 1000000 then .ok (.str (Txt.join a ys)) S2 else .bad) := q4
        by_cases c : (ys.map (·.length)).sum + ys.length * a.length ≤ 1000000
        · rw [if_pos c] at q5
          obtain ⟨p, xs, rfl, h3, h4⟩ := Rep.seqAt s2 r2 h1
          have e3 := strs_rep h2 h4
          subst e3
          exact ⟨a, p, ys, rfl, rfl, h3, by omega, Give.at q5 s2 rfl⟩
        · rw [if_neg c] at q5
          exact q5.elim
  | _ => exact q1.elim
theorem sn_split {o e : E} {xo xe : Expr} {apos cpos : Pos} (ho : PE X xo ((tI X.K cl Y Φ) o)) (he : PE X xe ((tI X.K cl Y Φ) e)) (hbase : attributeBase xo "split" X.env (eval xo X.env) = eval xo X.env)
    (hs : starEach [xe] X.env = [(false, eval xe X.env)]) (hline : (apos.endLine == cpos.line) = true) :
    PE X (.Call (.Attribute xo "split" apos) [xe] [] cpos) ((tI X.K cl Y Φ) (.tx false o e)) := by
  refine PE.of (pe_split ho he hs hbase hline) fun σ H Q ⟨Hf, Fr, m, S, ρ, s, er, q⟩ => ?_
  refine ⟨Hf, Fr, m, S, ρ, s, er, QR.bind (f := fun v S1 => match v with
    | .str s => (evalE Φ e ρ S1).bind fun w S2 => txR false s w S2
    | _ => .bad) q fun v S1 y H1 Hf1 m1 e1 p1 s1 r1 q1 => ?_⟩
  cases v with
  | str a =>
    cases r1
    refine ⟨⟨a, rfl⟩, Hf1, Fr, m1, S1, ρ, s1, er.mono e1 p1, QR.bind (f := fun w S2 => txR false a w S2) q1 fun w S2 z H2 Hf2 m2 e2 p2 s2 r2 q2 => ?_⟩
    cases w with
    | str b =>
      cases r2
      have q3 : QE X.K cl (Y σ) Hf2 Fr m2 Q (if (b.length == 0) = false ∧ a.length ≤ lim then .ok (.lst ((Txt.split a b).map .str)) S2 else .bad) := q2
      by_cases c : (b.length == 0) = false ∧ a.length ≤ lim
      · rw [if_pos c] at q3
        have hz : a.length + 2 ≤ sizeLine := Nat.le_trans (Nat.add_le_add_right c.2 2) (by decide)
        exact ⟨a, b, rfl, rfl, c.1, hz, fun p hp => Give.lst q3 s2 (strs_reps _) hp⟩
      · rw [if_neg c] at q3
        exact q3.elim
    | _ => exact q2.elim
  | _ => exact q1.elim
end
end Iv
/-! Iv9: which text an expression or statement stands for; the interpreter's word is the text's. -/
namespace Iv
open PySem PySem.Spec PyProof.Rows L2
open Evl (Ex ex_l ex_t)
/-! ### looks at the text -/
abbrev isStar : Expr → Bool := isStarX
def isSet : Expr → Bool | .Set .. => true | _ => false
def isComp : Expr → Bool | .ListComp .. => true | .SetComp .. => true | .DictComp .. => true | _ => false
def isSlice : Expr → Bool | .Slice .. => true | _ => false
def isTupE : Expr → Bool | .Tuple .. => true | _ => false
def isCall0 : Expr → Bool | .Call (.Name _ _) [] [] _ => true | _ => false
def isIte : Expr → Bool | .IfExp .. => true | _ => false
/-- its test is its value's truth -/
def plainT : Expr → Bool | .UnaryOp .Not _ _ => false | .BoolOp .. => false | .IfExp .. => false | .Compare .. => false | _ => true
def name? : Expr → Option Str | .Name x _ => some x | _ => none
def tup? : Expr → Option (List Expr) | .Tuple es _ _ => some es | _ => none
def lst? : Expr → Option (List Expr) | .List es _ => some es | _ => none
def bin? : Expr → Option (Expr × Operator × Expr) | .BinOp a o b _ => some (a, o, b) | _ => none
def usub? : Expr → Option Expr | .UnaryOp .USub a _ => some a | _ => none
def not? : Expr → Option Expr | .UnaryOp .Not a _ => some a | _ => none
def cmp1? : Expr → Option (Expr × CmpOp × Expr) | .Compare a [o] [b] _ => some (a, o, b) | _ => none
def cmp2? : Expr → Option (Expr × CmpOp × Expr × CmpOp × Expr) | .Compare a [o, o'] [b, c] _ => some (a, o, b, o', c) | _ => none
def bool? (op : BoolOp) : Expr → Option (Expr × Expr × List Expr × Pos) | .BoolOp o (a :: b :: r) pos => if o = op then some (a, b, r, pos) else none | _ => none
def ite? : Expr → Option (Expr × Expr × Expr) | .IfExp a b c _ => some (a, b, c) | _ => none
def call? : Expr → Option (Str × List Expr) | .Call (.Name f _) as [] _ => some (f, as) | _ => none
def sub? : Expr → Option (Expr × Expr) | .Subscript a b _ => some (a, b) | _ => none
def slice? : Expr → Option (Option Expr × Option Expr) | .Slice l h none _ => some (l, h) | _ => none
def comp? : Expr → Option (Expr × Expr × Expr × List Expr × Scope) | .ListComp e [⟨tg, it, ifs, 0⟩] sc _ => some (e, tg, it, ifs, sc) | _ => none
def mth? : Expr → Option (Expr × Str × List Expr) | .Call (.Attribute o m apos) as [] cpos => if apos.endLine = cpos.line then some (o, m, as) else none | _ => none
def const? : Expr → Option Const | .Constant c _ _ => some c | _ => none
theorem name?_eq {x : Expr} {a : Str} (h : name? x = some a) : ∃ p, x = .Name a p := by
  unfold name? at h; split at h <;> cases h; exact ⟨_, rfl⟩
theorem tup?_eq {x : Expr} {a : List Expr} (h : tup? x = some a) : ∃ j p, x = .Tuple a j p := by
  unfold tup? at h; split at h <;> cases h; exact ⟨_, _, rfl⟩
theorem lst?_eq {x : Expr} {a : List Expr} (h : lst? x = some a) : ∃ p, x = .List a p := by
  unfold lst? at h; split at h <;> cases h; exact ⟨_, rfl⟩
theorem bin?_eq {x a b : Expr} {o : Operator} (h : bin? x = some (a, o, b)) : ∃ p, x = .BinOp a o b p := by
  unfold bin? at h; split at h <;> cases h; exact ⟨_, rfl⟩
theorem usub?_eq {x a : Expr} (h : usub? x = some a) : ∃ p, x = .UnaryOp .USub a p := by
  unfold usub? at h; split at h <;> cases h; exact ⟨_, rfl⟩
theorem not?_eq {x a : Expr} (h : not? x = some a) : ∃ p, x = .UnaryOp .Not a p := by
  unfold not? at h; split at h <;> cases h; exact ⟨_, rfl⟩
theorem cmp1?_eq {x a b : Expr} {o : CmpOp} (h : cmp1? x = some (a, o, b)) : ∃ p, x = .Compare a [o] [b] p := by
  unfold cmp1? at h; split at h <;> cases h; exact ⟨_, rfl⟩
theorem cmp2?_eq {x a b c : Expr} {o o' : CmpOp} (h : cmp2? x = some (a, o, b, o', c)) : ∃ p, x = .Compare a [o, o'] [b, c] p := by
  unfold cmp2? at h; split at h <;> cases h; exact ⟨_, rfl⟩
theorem bool?_eq {x a b : Expr} {op : BoolOp} {r : List Expr} {p : Pos} (h : bool? op x = some (a, b, r, p)) : x = .BoolOp op (a :: b :: r) p := by
  unfold bool? at h
  split at h
  · rename_i o _ _ _ _
    by_cases c : o = op
    · rw [if_pos c] at h; subst c; cases h; rfl
    · rw [if_neg c] at h; cases h
  · cases h
theorem ite?_eq {x a b c : Expr} (h : ite? x = some (a, b, c)) : ∃ p, x = .IfExp a b c p := by
  unfold ite? at h; split at h <;> cases h; exact ⟨_, rfl⟩
theorem call?_eq {x : Expr} {f : Str} {as : List Expr} (h : call? x = some (f, as)) : ∃ p q, x = .Call (.Name f p) as [] q := by
  unfold call? at h; split at h <;> cases h; exact ⟨_, _, rfl⟩
theorem sub?_eq {x a b : Expr} (h : sub? x = some (a, b)) : ∃ p, x = .Subscript a b p := by
  unfold sub? at h; split at h <;> cases h; exact ⟨_, rfl⟩
theorem slice?_eq {x : Expr} {a b : Option Expr} (h : slice? x = some (a, b)) : ∃ p, x = .Slice a b none p := by
  unfold slice? at h; split at h <;> cases h; exact ⟨_, rfl⟩
theorem comp?_eq {x e tg it : Expr} {ifs : List Expr} {sc : Scope} (h : comp? x = some (e, tg, it, ifs, sc)) : ∃ p, x = .ListComp e [⟨tg, it, ifs, 0⟩] sc p := by
  unfold comp? at h; split at h <;> cases h; exact ⟨_, rfl⟩
theorem mth?_eq {x o : Expr} {m : Str} {as : List Expr} (h : mth? x = some (o, m, as)) : ∃ p q, x = .Call (.Attribute o m p) as [] q ∧ (p.endLine == q.line) = true := by
  unfold mth? at h
  split at h
  · rename_i _ _ apos _ cpos
    by_cases c : apos.endLine = cpos.line
    · rw [if_pos c] at h; cases h; exact ⟨_, _, rfl, by rw [c]; exact beq_self_eq_true _⟩
    · rw [if_neg c] at h; cases h
  · cases h
theorem const?_eq {x : Expr} {c : Const} (h : const? x = some c) : ∃ j p, x = .Constant c j p := by
  unfold const? at h; split at h <;> cases h; exact ⟨_, _, rfl⟩
theorem star_cons {x : Expr} (h : isStar x = false) (xs : List Expr) (env : PySem.Env) : starEach (x :: xs) env = (false, eval x env) :: starEach xs env := starX h xs env
theorem back_star {pos : Pos} {env : PySem.Env} : ∀ {xs : List Expr}, xs.all (fun x => !isStar x) = true → (backTo pos (starEach xs env)).any (·.1) = false
  | [], _ => rfl
  | x :: xs, h => by
    rw [List.all_cons, Bool.and_eq_true] at h
    have h1 : isStar x = false := by
      have := h.1
      cases e : isStar x with
      | false => rfl
      | true => rw [e] at this; cases this
    rw [star_cons h1]
    show (false || (backTo pos (starEach xs env)).any (·.1)) = false
    rw [back_star h.2]
    rfl
theorem true_of {x : Expr} (h : plainT x = true) (env : PySem.Env) : ∀ whole, isTrue x env whole = (do let v ← whole; standAt x.pos; holding [v] (truthy v)) := fun whole => by
  cases x with
  | UnaryOp op a p => cases op <;> first | rfl | cases h
  | BoolOp _ _ _ => cases h
  | IfExp _ _ _ _ => cases h
  | Compare _ _ _ _ => cases h
  | _ => rfl
theorem plainIx_of {x : Expr} (h : isSlice x = false) : PlainIx x := fun o i => by
  cases x <;> first | rfl | cases h
theorem base_of {x : Expr} (h : isCall0 x = false) (name : Str) (env : PySem.Env) (whole : Sem Value) : attributeBase x name env whole = whole := by
  unfold attributeBase
  split
  · cases h
  · rfl
theorem mark_of {x : Expr} (h : isSet x = false) (op : CmpOp) : behindInMarks op x = false := by
  cases x <;> first | rfl | cases h
theorem folded_of {x : Expr} (h : isSet x = false) (env : PySem.Env) (v : Value) : foldedSetIterable x env v = pure v := by
  cases x <;> first | rfl | cases h
theorem swaps_of {x : Expr} (h : isComp x = false) (t : Option Expr) (l : Nat) (env : PySem.Env) : swapsWith x t l env = pure false := by
  cases x <;> first | rfl | cases h
def rev? : Expr → Option Expr | .Subscript e (.Slice none none (some (.UnaryOp .USub (.Constant (.int 1) _ _) _)) _) _ => some e | _ => none
def call2? : Expr → Option (Str × Str × List Expr) | .Call (.Name f _) [.Call (.Name g _) as [] _] [] _ => some (f, g, as) | _ => none
def srtR? : Expr → Option (Str × Str × Expr) | .Call (.Name f _) [a] [⟨some k, .Constant (.bool true) _ _, _⟩] _ => some (f, k, a) | _ => none
def dict1? : Expr → Option (Expr × Expr) | .Dict [some k] [v] _ => some (k, v) | _ => none
theorem dict1?_eq {x k v : Expr} (h : dict1? x = some (k, v)) : ∃ p, x = .Dict [some k] [v] p := by
  unfold dict1? at h; split at h <;> cases h; exact ⟨_, rfl⟩
def isDict0 : Expr → Bool | .Dict [] [] _ => true | _ => false
theorem rev?_eq {x e : Expr} (h : rev? x = some e) : ∃ k p1 p2 p3 p4, x = .Subscript e (.Slice none none (some (.UnaryOp .USub (.Constant (.int 1) k p1) p2)) p3) p4 := by
  unfold rev? at h; split at h <;> cases h; exact ⟨_, _, _, _, _, rfl⟩
theorem call2?_eq {x : Expr} {f g : Str} {as : List Expr} (h : call2? x = some (f, g, as)) : ∃ p p2 p3 p4, x = .Call (.Name f p) [.Call (.Name g p2) as [] p3] [] p4 := by
  unfold call2? at h; split at h <;> cases h; exact ⟨_, _, _, _, rfl⟩
theorem srtR?_eq {x a : Expr} {f k : Str} (h : srtR? x = some (f, k, a)) : ∃ p j p2 p3 p4, x = .Call (.Name f p) [a] [⟨some k, .Constant (.bool true) j p2, p3⟩] p4 := by
  unfold srtR? at h; split at h <;> cases h; exact ⟨_, _, _, _, _, rfl⟩
theorem isDict0_eq {x : Expr} (h : isDict0 x = true) : ∃ p, x = .Dict [] [] p := by
  unfold isDict0 at h; split at h <;> first | exact ⟨_, rfl⟩ | cases h
/-! ### names -/
def visB (sc : Scope) (x : Str) : Bool := match sc.names.lookup x with
  | some .local => true | some .cell => true | some .free => true | _ => false
def glB (sc : Scope) (x : Str) : Bool := match sc.names.lookup x with
  | some .globalImplicit => true | _ => false
def locB (sc : Scope) (fb : Str → Bool) (x : Str) : Bool := match sc.names.lookup x with
  | some .local => true | some .cell => fb x | _ => false
theorem visB_ok {sc : Scope} {x : Str} (h : visB sc x = true) : Vis sc x := by
  unfold visB at h; unfold Vis
  split at h <;> first | exact .inl (by assumption) | exact .inr (.inl (by assumption)) | exact .inr (.inr (by assumption)) | cases h
theorem glB_ok {X : Cx} {x : Str} (h : glB X.env.scope x = true) : Gl X x := by
  unfold glB at h; unfold Gl
  split at h <;> first | assumption | cases h
theorem locB_ok {sc : Scope} {fb : Str → Bool} {x : Str} (h : locB sc fb x = true) : L2.Loc sc x ∧ (fb x = true ∨ sc.names.lookup x = some .local) := by
  unfold locB at h; unfold L2.Loc
  split at h
  · exact ⟨.inl (by assumption), .inr (by assumption)⟩
  · exact ⟨.inr (by assumption), .inl h⟩
  · cases h
/-! ### a text's meaning -/
def bltName : Blt → Option (Str × Nat)
  | .len => some ("len", 1) | .abs => some ("abs", 1) | .max2 => some ("max", 2) | .min2 => some ("min", 2) | _ => none
def tyOk (T : String) : Bool := T == "int" || T == "bool" || T == "str" || T == "tuple" || T == "list" || T == "dict"
def optB {α : Type} (o : Option α) (f : α → Bool) : Bool := match o with
  | some a => f a
  | none => false
theorem optB_true {α : Type} {o : Option α} {f : α → Bool} (h : optB o f = true) : ∃ a, o = some a ∧ f a = true := by
  cases o with
  | none => cases h
  | some a => exact ⟨a, rfl, h⟩
def one? {α : Type} : List α → Option α | [a] => some a | _ => none
def two? {α : Type} : List α → Option (α × α) | [a, b] => some (a, b) | _ => none
def cons? {α : Type} : List α → Option (α × List α) | a :: r => some (a, r) | _ => none
theorem one?_eq {α : Type} {xs : List α} {a : α} (h : one? xs = some a) : xs = [a] := by
  unfold one? at h; split at h <;> cases h; rfl
theorem two?_eq {α : Type} {xs : List α} {a b : α} (h : two? xs = some (a, b)) : xs = [a, b] := by
  unfold two? at h; split at h <;> cases h; rfl
theorem cons?_eq {α : Type} {xs r : List α} {a : α} (h : cons? xs = some (a, r)) : xs = a :: r := by
  unfold cons? at h; split at h <;> cases h; rfl
def nmOk (B : List Str) (sc : Scope) (f : Str) : Bool := glB sc f && decide (f ∈ B)
def uName : Uop → Option Str
  | .all => some "all" | .any => some "any" | .sum => some "sum" | .tuple => some "tuple" | .list _ => some "list" | .srt false _ => some "sorted" | .repr => some "repr" | .int => some "int" | .bool => some "bool" | .str => some "str" | .max1 => some "max" | .min1 => some "min" | _ => none
/-- the value that a function of one value is asked of -/
def uArg (B : List Str) (sc : Scope) (o : Uop) (x : Expr) : Option Expr :=
  match o with
  | .rvs => rev? x
  | .rvsM => rev? x
  | .sset => match call2? x with
    | some (f, g, as) => if f = "sorted" ∧ g = "set" ∧ nmOk B sc f = true ∧ nmOk B sc g = true then one? as else none
    | none => none
  | .lset => match call2? x with
    | some (f, g, as) => if f = "len" ∧ g = "set" ∧ nmOk B sc f = true ∧ nmOk B sc g = true then one? as else none
    | none => none
  | .srt true _ => match srtR? x with
    | some (f, k, a) => if f = "sorted" ∧ k = "reverse" ∧ nmOk B sc f = true then some a else none
    | none => none
  | o => match call? x with
    | some (f, as) => if uName o = some f ∧ nmOk B sc f = true then one? as else none
    | none => none
def rlName (k : Option Bool) : Str := match k with
    | none => "tuple"
    | some _ => "list"
def memK (l : List (Str × (Int ⊕ Str))) (p : Str × (Int ⊕ Str)) : Bool := l.any fun q => decide (q = p)
theorem memK_of {l : List (Str × (Int ⊕ Str))} {p : Str × (Int ⊕ Str)} (h : memK l p = true) : p ∈ l := by
  obtain ⟨q, hq, e⟩ := List.any_eq_true.mp h
  rw [← of_decide_eq_true e]
  exact hq
/-- a class that is asked of a refusal -/
def exT (B : List Str) (T : Str) : Bool := decide (T ∈ exN) || decide (T = "DealError") || decide (T = "ValueError") && decide (T ∈ B)
section
variable (P : Nat → Option Fn) (B : List Str) (GL : GLt) (N : List Str)
def chkNms (sc : Scope) (fb : Str → Bool) : List Nat → List Expr → Bool
  | [], es => es.isEmpty
  | i :: is, es => optB (cons? es) fun p => optB (name? p.1) (fun a => decide (N[i]? = some a) && locB sc fb a) && chkNms sc fb is p.2
def chkTg (sc : Scope) (fb : Str → Bool) : Tg → Expr → Bool
  | .nm i, x => optB (name? x) fun a => decide (N[i]? = some a) && locB sc fb a
  | .tp is, x => optB (tup? x) fun es => chkNms N sc fb is es
def isTp : Tg → Bool | .tp _ => true | _ => false
def isYes : E → Bool | .yes => true | _ => false
def restB (op : BoolOp) (xb : Expr) (r : List Expr) (pos : Pos) : Expr := match r with
  | [] => xb
  | y :: r => .BoolOp op (xb :: y :: r) pos
mutual
def chkE : E → Scope → Expr → Bool
  | .var i, sc, x => optB (name? x) fun a => decide (N[i]? = some a) && visB sc a && !(a == ("__debug__" : Str)) && !(a == ("__classdict__" : Str))
  | .non, _, x => optB (const? x) fun c => match c with | .none => true | _ => false
  | .bl b, _, x => optB (const? x) fun c => match c with | .bool k => decide (b = k) | _ => false
  | .int i, _, x => optB (const? x) fun c => match c with | .int j => decide (i = j) | _ => false
  | .str s, _, x => optB (const? x) fun c => match c with | .str t => decide (s = t) | _ => false
  | .tup es, sc, x => optB (tup? x) fun xs => chkA es sc xs
  | .lst _ es, sc, x => optB (lst? x) fun xs => chkA es sc xs
  | .bin o a b, sc, x => optB (bin? x) fun p => decide (p.2.1 = bopOf o) && chkE a sc p.1 && chkE b sc p.2.2
  | .neg a, sc, x => optB (usub? x) fun xa => chkE a sc xa
  | .cmp o a b, sc, x => optB (cmp1? x) fun p => decide (p.2.1 = copOf o) && !isSet p.2.2 && chkE a sc p.1 && chkE b sc p.2.2
  | .chain o o' a b c, sc, x => optB (cmp2? x) fun p => decide (p.2.1 = copOf o) && decide (p.2.2.2.1 = copOf o') && !isSet p.2.2.2.2 && chkE a sc p.1 && chkE b sc p.2.2.1 && chkE c sc p.2.2.2.2
  | .and a b, sc, x => optB (bool? .And x) fun p => chkE a sc p.1 && !isIte p.1 && (!p.2.2.1.isEmpty || !isIte p.2.1) && chkE b sc (restB .And p.2.1 p.2.2.1 p.2.2.2)
  | .or a b, sc, x => optB (bool? .Or x) fun p => chkE a sc p.1 && !isIte p.1 && (!p.2.2.1.isEmpty || !isIte p.2.1) && chkE b sc (restB .Or p.2.1 p.2.2.1 p.2.2.2)
  | .not a, sc, x => optB (not? x) fun xa => chkE a sc xa && !isIte xa
  | .ite t a b, sc, x => optB (ite? x) fun p => chkE t sc p.1 && !isIte p.1 && chkE a sc p.2.1 && chkE b sc p.2.2
  | .call mu f es, sc, x => optB (call? x) fun p => optB (P f) (fun d => decide (d.name = p.1) && decide (p.2.length = d.ps.length)) && glB sc p.1 && !(p.1 == ("__debug__" : Str)) && chkA es sc p.2
  | .callR f es, sc, x => optB (call? x) fun p => optB (P f) (fun d => decide (d.name = p.1) && decide (p.2.length = d.ps.length)) && glB sc p.1 && !(p.1 == ("__debug__" : Str)) && chkA es sc p.2
  | .blt f es, sc, x => optB (call? x) fun p => optB (bltName f) (fun q => decide (q.1 = p.1) && decide (p.2.length = q.2)) && glB sc p.1 && decide (p.1 ∈ B) && chkA es sc p.2
  | .isi a T, sc, x => optB (call? x) fun p => optB (two? p.2) fun q => decide (p.1 = "isinstance") && glB sc p.1 && decide (p.1 ∈ B) && chkE a sc q.1 && !isStar q.1 && tyOk T && optB (name? q.2) fun t => decide (t = Str.ofString T) && glB sc t && decide (t ∈ B)
  | .ix a i, sc, x => optB (sub? x) fun p => !isSlice p.2 && chkE a sc p.1 && chkE i sc p.2
  | .sl a lo hi, sc, x => optB (sub? x) fun p => optB (slice? p.2) fun q => chkE a sc p.1 && chkO lo sc q.1 && chkO hi sc q.2
  | .comp _ g own it cond elt, sc, x => optB (comp? x) fun p => blkC N sc p.2.2.2.2 own && !isSet p.2.2.1 && chkI it sc (isTupE p.2.1) p.2.2.1 && chkTg N (relS p.2.2.2.2 sc) (fun x => p.2.2.2.2.names.lookup x == some .cell) g p.2.1 && g.slots.all (fun j => decide (j ∈ own.map (·.2))) &&
        (p.2.2.2.1.isEmpty && isYes cond || optB (one? p.2.2.2.1) fun xc => chkE cond (relS p.2.2.2.2 sc) xc && !isIte xc) && chkE elt (relS p.2.2.2.2 sc) p.1
  | .mth m o es, sc, x => optB (mth? x) fun p => (match m with
      | .append => decide (p.2.1 = "append") && decide (p.2.2.length = 1)
      | .index => decide (p.2.1 = "index") && decide (p.2.2.length = 1)
      | .count => decide (p.2.1 = "count") && decide (p.2.2.length = 1)
      | .extend => decide (p.2.1 = "extend") && decide (p.2.2.length = 1)
      | .insert => decide (p.2.1 = "insert") && decide (p.2.2.length = 2)
      | .remove => decide (p.2.1 = "remove") && decide (p.2.2.length = 1)
      | _ => false) && !isCall0 p.1 && chkE o sc p.1 && chkA es sc p.2.2
  | .cat _ a b, sc, x => optB (bin? x) fun p => decide (p.2.1 = .Add) && chkE a sc p.1 && chkE b sc p.2.2
  | .rep _ es b, sc, x => optB (bin? x) fun p => decide (p.2.1 = .Mult) && optB (lst? p.1) fun xs => chkA es sc xs && chkE b sc p.2.2
  | .u o a, sc, x => optB (uArg B sc o x) fun xa => chkE a sc xa && !isStar xa
  | .rl1 k a, sc, x => optB (call2? x) fun p => optB (one? p.2.2) fun xa => decide (p.1 = rlName k) && nmOk B sc p.1 && decide (p.2.1 = "range") && nmOk B sc p.2.1 && !isStar xa && chkE a sc xa
  | .rl2 k a b, sc, x => optB (call2? x) fun p => optB (two? p.2.2) fun q => decide (p.1 = rlName k) && nmOk B sc p.1 && decide (p.2.1 = "range") && nmOk B sc p.2.1 && !isStar q.1 && !isStar q.2 && chkE a sc q.1 && chkE b sc q.2
  | .gv y i, sc, x => optB (name? x) fun a => decide (a = y) && glB sc a && memK GL.1 (y, .inl i) && !(a == ("__debug__" : Str))
  | .gs y s, sc, x => optB (name? x) fun a => decide (a = y) && glB sc a && memK GL.1 (y, .inr s) && !(a == ("__debug__" : Str))
  | .tx j a b, sc, x => optB (mth? x) fun p => decide (p.2.1 = if j then ("join" : Str) else "split") && !isCall0 p.1 && chkE a sc p.1 && optB (one? p.2.2) fun xb => !isStar xb && chkE b sc xb
  | .edc _ t, _, x => isDict0 x && !t
  | .dsp _ k v, sc, x => optB (dict1? x) fun p => chkE k sc p.1 && chkE v sc p.2
  | .compL _ g own o cond elt, sc, x => optB (comp? x) fun p => blkC N sc p.2.2.2.2 own && !isSet p.2.2.1 && chkE o sc p.2.2.1 && chkTg N (relS p.2.2.2.2 sc) (fun x => p.2.2.2.2.names.lookup x == some .cell) g p.2.1 && g.slots.all (fun j => decide (j ∈ own.map (·.2))) &&
        (p.2.2.2.1.isEmpty && isYes cond || optB (one? p.2.2.2.1) fun xc => chkE cond (relS p.2.2.2.2 sc) xc && !isIte xc) && chkE elt (relS p.2.2.2.2 sc) p.1
  | .isx cs a T, sc, x => optB (call? x) fun p => optB (two? p.2) fun q => decide (p.1 = "isinstance") && glB sc p.1 && decide (p.1 ∈ B) && chkE a sc q.1 && !isStar q.1 && (cs.all (fun c => decide (c ∈ GL.2)) && cs.all (fun c => decide (c ∈ exN))) && optB (name? q.2) fun t => decide (t = T) && glB sc t && exT B T && !cs.isEmpty
  | _, _, _ => false
termination_by structural e => e
def chkA : E → Scope → List Expr → Bool
  | .nil, _, xs => xs.isEmpty
  | .cons e r, sc, xs => optB (cons? xs) fun p => !isStar p.1 && chkE e sc p.1 && chkA r sc p.2
  | _, _, _ => false
termination_by structural e => e
def chkI : E → Scope → Bool → Expr → Bool
  | .vals e, sc, _, x => chkE e sc x
  | .rng a, sc, _, x => optB (call? x) fun p => optB (one? p.2) fun xa => decide (p.1 = "range") && glB sc p.1 && decide (p.1 ∈ B) && !isStar xa && chkE a sc xa
  | .rng2 a b, sc, _, x => optB (call? x) fun p => optB (two? p.2) fun q => decide (p.1 = "range") && glB sc p.1 && decide (p.1 ∈ B) && !isStar q.1 && !isStar q.2 && chkE a sc q.1 && chkE b sc q.2
  | .enum a, sc, t, x => optB (call? x) fun p => optB (one? p.2) fun xa => t && decide (p.1 = "enumerate") && glB sc p.1 && decide (p.1 ∈ B) && !isStar xa && chkE a sc xa
  | .zip a b, sc, t, x => optB (call? x) fun p => optB (two? p.2) fun q => t && decide (p.1 = "zip") && glB sc p.1 && decide (p.1 ∈ B) && !isStar q.1 && !isStar q.2 && chkE a sc q.1 && chkE b sc q.2
  | _, _, _, _ => false
termination_by structural e => e
def chkO : E → Scope → Option Expr → Bool
  | .nil, _, x => x.isNone
  | .part e, sc, x => optB x fun y => chkE e sc y
  | _, _, _ => false
termination_by structural e => e
end
end
end Iv
set_option maxHeartbeats 8000000
/-! Iv9g: a def's promise where no repr is under way; calls, defs. -/
namespace Iv
open PySem PySem.Spec PyProof.Rows L2
structure FnG (P : Program) (w : World) (K : PySem.W.Frag) (mg : Str → Option Value) (base : Heap) (CX : CXT) (k : Nat) (f : Addr) (fd : FuncData) (ps : List Str) (sp : Sp) : Prop where
  len : ∀ vs H Q E, sp vs H Q E → vs.length = ps.length
  run : ∀ (A : Around) (outer : List PySem.Env) (s : Shared) (H : Hp) (args : Args) (us : List Value) (vs : List V) (Q : VK) (E : XK), A.guards = some [] → Room k A → Env0 P w K mg base A outer s H → BindsTo s fd args (ps.zip us) → Vals vs us → sp vs H Q E →
    codeAny (model P w) A (.call (.ref f) args) (CR CX outer P w H s Q E) s
section
variable {X : Cx} {CX : CXT} {k : Nat} {f C : Addr} {fd : FuncData} {ps : List Str} {sp : Sp} {dvs : List V} {ds : List Value} {E : L2.St → XK} {x : Str} {p pos : Pos} {e : Expr} {es : List Expr} {t : TA}
def tCallG (sp : Sp) (dvs : List V) (E : L2.St → XK) (t : TA) : TE := fun σ H Q => t σ H fun vs H1 => sp (vs ++ dvs) H1 Q (E σ)
theorem run_g {pins : List (Addr × PySem.Obj)} {σ : L2.St} {H : Hp} {s : Shared} {Q : VK} {us : List Value} {vs : List V} (F : FnG X.prog X.w X.K X.mg X.base CX k f fd ps sp) (hgd : X.A.guards = some []) (hr : Room k X.A) (hb : Binds X.K fd ps ds) (hd : Vals dvs ds) (hx : PassesAt CX X σ (E σ))
    (I : Inv X pins σ H s) (r : Vals vs us) (h : sp (vs ++ dvs) H Q (E σ)) : wpAny (model X.prog X.w) X.A (call (.ref f) us) (EP X pins σ Q) X.xe s := by
  have r2 : Vals (vs ++ dvs) (us ++ ds) := r.append hd
  have hl : (us ++ ds).length = ps.length := by rw [← r2.length]; exact F.len _ _ _ _ h
  refine wpAny_call (codeAny_mono (F.run X.A X.stack s H ⟨us, []⟩ (us ++ ds) (vs ++ dvs) Q (E σ) hgd hr I.env0 (hb s us I.kIn hl) r2 h) fun r s' hq => ?_)
  match r, hq with
  | .error e, hq => exact hx pins H s e s' I hq
  | .ok (.ret u), hq => exact I.after hq
theorem pe_callG (F : FnG X.prog X.w X.K X.mg X.base CX k f fd ps sp) (hgd : X.A.guards = some []) (hr : Room k X.A) (hg : Gl X x) (hm : X.mg x = some (.ref f)) (hk : PySem.W.keepIn X.K (.ref f) = true) (hb : Binds X.K fd ps ds) (hd : Vals dvs ds) (hx : ∀ σ, PassesAt CX X σ (E σ))
    (ha : PA X (e :: es) t) (hdb : (x == ("__debug__" : Str)) = false) (he : starEach (e :: es) X.env = (false, eval e X.env) :: starEach es X.env) (hpl : (backTo pos (starEach es X.env)).any (·.1) = false) :
    PE X (.Call (.Name x p) (e :: es) [] pos) (tCallG sp dvs E t) := by
  refine ⟨fun pins s σ H Q I h => ?_⟩
  refine wpAny_Call_Name_kw (ld_glob I hg hm ?_ hdb)
  refine PySem.W.callWith_K (h₀ := X.base) I.ok.mod.kin hk (thn (ha.run pos pins s σ H _ I h) fun us s1 ⟨vs, H1, I1, r, q⟩ => ⟨I1.kIn, ?_⟩) he hpl
  exact run_g F hgd hr hb hd (hx σ) I1 r q
theorem pe_callG0 (F : FnG X.prog X.w X.K X.mg X.base CX k f fd ps sp) (hgd : X.A.guards = some []) (hr : Room k X.A) (hg : Gl X x) (hm : X.mg x = some (.ref f)) (hk : PySem.W.keepIn X.K (.ref f) = true) (hb : Binds X.K fd ps ds) (hd : Vals dvs ds) (hx : ∀ σ, PassesAt CX X σ (E σ))
    (hdb : (x == ("__debug__" : Str)) = false) : PE X (.Call (.Name x p) [] [] pos) (tCallG sp dvs E tNil) := by
  refine ⟨fun pins s σ H Q I h => ?_⟩
  refine wpAny_Call_Name_kw (ld_glob I hg hm ?_ hdb)
  exact PySem.W.callWith_K0 I.kIn hk (run_g (us := []) F hgd hr hb hd (hx σ) I .nil h)
end
section
variable {P : Program} {w : World} {K : PySem.W.Frag} {mg : Str → Option Value} {base : Heap}
theorem fun_g {x qual : Str} {st : Stmt} {f : Addr} {fd : FuncData} {N ps : List Str} {k : Nat} {sp : Sp} (F : Fun K x qual st f fd) (S : FnScope N ps (defScope st)) (len : ∀ vs H Q E, sp vs H Q E → vs.length = ps.length)
    (hbody : ∀ (cdv : Value) (A : Around) (outer : List PySem.Env) (s : Shared) (H : Hp) (vs : List V) (Q : VK) (E : XK), A.guards = some [] → Room k (A.deeper (envOfC qual (defScope st) s.heap.objs.size f cdv)) → sp vs H Q E →
      ∃ t, PSs (cxOf (L2.CX P w) P w K mg base N qual (defScope st) f cdv A outer s H E) (defBody st) t ∧ t { nx := fun _ H' => Q .non H', rt := Q } (start N vs) H) : FnG P w K mg base (L2.CX P w) (k + 1) f fd ps sp := by
  obtain ⟨oc, od, kV, doc, pm, an, cdv, ct, osl, rfl, lk, hcd⟩ := F.ex
  refine ⟨len, fun A outer s H args us vs Q E hgd hr e0 hb r hsp => ?_⟩
  have hl := len _ _ _ _ hsp
  have KX : K.In s.heap := e0.mod.kin.keeps fun b o e => (e0.bs b o e).1
  have lim : s.heap.NoLimit := e0.mod.nolimit.keeps fun b o e => (e0.bs b o e).1
  refine codeAny_call_function hr.depth (KX _ _ lk) rfl S.co S.gen rfl (PySem.W.codeRec_of KX hcd) (hb _ _ _ _ ?_)
  refine wpAny_newFunctionEnv_cells S.kind (fun ⟨n, v⟩ hy => ?_) fun env he s1 x => ?_
  · rcases S.par n (List.of_mem_zip hy).1 with q | q
    · exact .inl q
    · exact .inr ⟨q, PySem.W.cellsFrom_some _ _ _ (.inl q)⟩
  subst he
  refine ⟨lim.keeps x.toInCall.keep, codeAny_func ?_⟩
  obtain ⟨t, ht, hq⟩ := hbody cdv A outer s H vs Q E hgd (hr.deeper _) hsp
  have I : Inv (cxOf (L2.CX P w) P w K mg base N qual (defScope st) f cdv A outer s H E) [] (start N vs) H s1 := inv_start S hr.hd e0 hl r x
  refine wpAny_mono (ht.run [] s1 (start N vs) H _ I hq) (fun fl s' hs => ?_) fun e s' hs => hs
  cases fl with
  | ret u =>
    obtain ⟨v, σ', H', J, rv, q⟩ := hs
    exact ⟨v, H', J.os, J.bare, J.base, J.hok, rv, q⟩
  | next =>
    obtain ⟨σ', H', J, q⟩ := hs
    exact ⟨V.non, H', J.os, J.bare, J.base, J.hok, rfl, q⟩
  | brk => exact hs.elim fun _ h => h.elim fun _ h => h.2.elim
  | cont => exact hs.elim fun _ h => h.elim fun _ h => h.2.elim
end
end Iv
set_option maxHeartbeats 8000000
/-! Iv9h: the law's own call, where no repr is under way. -/
namespace Iv
open PySem PySem.Spec PyProof.Rows L2
section
variable {P : Program} {w : World} {K : PySem.W.Frag} {mg mb : Str → Option Value} {CX : CXT} {k : Nat} {fa a : Addr} {fd : FuncData} {x : Str} {sp : Sp} {s₁ : Shared} {vs : List Value} {ns : List Int}
/-- the call, from an abstract heap that tracks nothing but the script -/
theorem law_core (KX : K.In s₁.heap) (hns : s₁.heap.Ns mainGlobals mg) (hb : s₁.heap.Ns builtinsNs mb) (hbb : ∀ x : Str, x ≠ "__name__" → mb x = bootBuiltins x) (hlim : s₁.heap.NoLimit) (hg : s₁.gens = #[])
    (ha : s₁.heap.get? a = some { cls := .type "list", data := .seq vs.toArray }) (hr : Room k callerA)
    (F : ∀ base : Heap, K.In base → base.Ns mainGlobals mg → FnG P w K mg base CX k fa fd [x] sp) (hbind : ∀ (s : Shared) (u : Value), BindsTo s fd ⟨[u], []⟩ [(x, u)])
    (hCX : ∀ H e s', CX [] H s₁ (fun _ _ _ => False) e s' → False) (H : Hp) (hO : Only H) (hS : sp [.ref a] H (fun v _ => v = .bl true) fun _ _ _ => False) (hok : HOk P w H s₁.heap) (hA : ∀ b, H b ≠ none → b = a) (hK : H a ≠ none → K.lookup a = none) :
    codeAny (model P w) callerA (.call (.ref fa) ⟨[.ref a], []⟩) (fun r s' => r = .ok (.ret (.bool true)) ∧ OldK s₁.heap s'.heap ∧ s'.os = s₁.os ∧ AllBare s'.gens) s₁ := by
  have own : ∀ {b : Addr} {u : HO}, H b = some u → b = a := fun {b u} q => hA b fun z => by rw [z] at q; cases q
  have dicts : ∀ {b : Addr} {o : PySem.Obj} {es : Array DictEntry} {ep : Nat}, s₁.heap.get? b = some o → o.data = .dict es ep → (hidT s₁.heap H).get? b = some o := fun {b o es ep} e d => by
    refine hidT_get e ?_
    cases q : H b with
    | none => rfl
    | some u =>
      rw [own q, ha] at e
      cases e
      cases d
  have nsK : ∀ {b : Addr} {m : Str → Option Value}, s₁.heap.Ns b m → (hidT s₁.heap H).Ns b m := fun {b m} ⟨o, es, ep, e, d, r⟩ => ⟨o, es, ep, dicts e d, d, r⟩
  have hKb : K.In (hidT s₁.heap H) := fun b o e => by
    refine hidT_get (KX b o e) ?_
    cases q : H b with
    | none => rfl
    | some u =>
      have eb := own q
      rw [eb] at q e
      rw [hK (by rw [q]; simp)] at e
      cases e
  obtain ⟨mc, l1, l2⟩ := hlim
  have e0 : Env0 P w K mg (hidT s₁.heap H) callerA [] s₁ H :=
    ⟨rfl, ⟨hKb, nsK hns, ⟨mb, nsK hb, hbb⟩, ⟨mc, nsK l1, l2⟩⟩, fun b o e => of_hidT e, Nat.le_of_eq (hidT_size _ _), trivial, fun b hb => absurd (show b ∈ ([] : List Addr) from hb) (by simp), hok, .of_eq hg⟩
  refine codeAny_mono ((F _ hKb (nsK hns)).run callerA [] s₁ H ⟨[.ref a], []⟩ [.ref a] [.ref a] _ _ rfl hr e0 (hbind s₁ (.ref a)) (.cons rfl .nil) hS) fun r s' h => ?_
  match r, h with
  | .error e, h => exact (hCX H e s' h).elim
  | .ok (.ret u), h =>
    obtain ⟨v, H', os, bare, un, hok', r', q⟩ := h
    have q' : v = .bl true := q
    subst q'
    obtain rfl : u = Value.bool true := r'
    refine ⟨rfl, OldK.of_keep fun b o e => ?_, os, bare⟩
    rcases hO b with z | ⟨ob, xs, z⟩
    · exact un.keep b o e z (fun z => absurd (show b ∈ ([] : List Addr) from z) (by simp)) (by simp)
    · obtain ⟨e1, _⟩ := hok b _ z
      obtain ⟨e2, _⟩ := hok' b _ (un.frzs b ob _ z)
      rw [e] at e1
      cases e1
      exact e2
/-- the law's function answers True, whether the script is an object of the module's own or not -/
theorem law_g (KX : K.In s₁.heap) (hns : s₁.heap.Ns mainGlobals mg) (hb : s₁.heap.Ns builtinsNs mb) (hbb : ∀ x : Str, x ≠ "__name__" → mb x = bootBuiltins x) (hlim : s₁.heap.NoLimit) (hg : s₁.gens = #[])
    (ha : s₁.heap.get? a = some { cls := .type "list", data := .seq vs.toArray }) (hi : IntsAre vs ns) (hl : ns.length ≤ sizeLine) (hr : Room k callerA)
    (F : ∀ base : Heap, K.In base → base.Ns mainGlobals mg → FnG P w K mg base CX k fa fd [x] sp) (hbind : ∀ (s : Shared) (u : Value), BindsTo s fd ⟨[u], []⟩ [(x, u)])
    (hsp : ∀ H : Hp, Only H → SqL K H a (ns.map V.int) → sp [.ref a] H (fun v _ => v = .bl true) fun _ _ _ => False)
    (hCX : ∀ H e s', CX [] H s₁ (fun _ _ _ => False) e s' → False) :
    codeAny (model P w) callerA (.call (.ref fa) ⟨[.ref a], []⟩) (fun r s' => r = .ok (.ret (.bool true)) ∧ OldK s₁.heap s'.heap ∧ s'.os = s₁.os ∧ AllBare s'.gens) s₁ := by
  have rv := vals_ints hi
  have core := law_core (P := P) (w := w) KX hns hb hbb hlim hg ha hr F hbind hCX
  cases hk : K.lookup a with
  | some o =>
    have e := KX a o hk
    rw [ha] at e
    cases e
    have O : Only (fun _ => none) := fun _ => .inl rfl
    have S : SqL K (fun _ => none) a (ns.map V.int) := .inr ⟨_, vs.toArray, _, hk, rfl, rfl, rfl, by rw [List.size_toArray, hi.length]; exact hl, by simpa using rv⟩
    exact core _ O (hsp _ O S) (fun b u z => by cases z) (fun b z => absurd rfl z) fun z => absurd rfl z
  | none =>
    generalize hH : (fun b => if b = a then some (HO.frz { cls := .type "list", data := .seq vs.toArray } (.lst (ns.map V.int))) else none : Hp) = H
    have h1 : H a = some (HO.frz { cls := .type "list", data := .seq vs.toArray } (.lst (ns.map V.int))) := by rw [← hH]; exact if_pos rfl
    have h2 : ∀ b, b ≠ a → H b = none := fun b n => by rw [← hH]; exact if_neg n
    have O : Only H := fun b => by
      by_cases n : b = a
      · rw [n]; exact .inr ⟨_, _, h1⟩
      · exact .inl (h2 b n)
    refine core H O (hsp H O (.inl (.inr ⟨_, h1⟩))) (fun b u z => ?_) (fun b z => ?_) fun _ => hk
    · by_cases n : b = a
      · subst n
        rw [h1] at z
        cases z
        exact ⟨ha, by rw [List.length_map]; exact hl, vs, _, rv, ha⟩
      · rw [h2 b n] at z
        cases z
    · by_cases n : b = a
      · exact n
      · exact absurd (h2 b n) z
end
theorem walk_g {l : PySem.W.OpenLaw} {n k : Nat} {q : Program} {loose : List Str} {XP : (Str → Option Value) → Heap → Prop} {YP : World → Heap → Prop} {d : DefRec} {K : Params → PySem.W.Frag} {CX : World → CXT} {sp : World → Sp} {x : Str}
    (hn : l.most = some n) (hn2 : n ≤ sizeLine) (hdf : d.params.defaults = []) (hr : Room k callerA)
    (hY : ∀ (w : World) (h : Heap), YP w h → (K w.params).In h)
    (F : ∀ (w : World) (mg : Str → Option Value) (fa : Addr) (h : Heap), (K w.params).In h → h.Ns mainGlobals mg → mg d.name = some (.ref fa) →
      ∃ fd : FuncData, (∀ (s : Shared) (u : Value), BindsTo s fd ⟨[u], []⟩ [(x, u)]) ∧
        ∀ base : Heap, (K w.params).In base → base.Ns mainGlobals mg → FnG l.prog w (K w.params) mg base (CX w) k fa fd [x] (sp w))
    (hsp : ∀ (w : World) (H : Hp) (a : Addr) (ns : List Int), ns.length ≤ n → Only H → SqL (K w.params) H a (ns.map V.int) → sp w [.ref a] H (fun v _ => v = .bl true) fun _ _ _ => False)
    (hCX : ∀ (w : World) (H : Hp) (s : Shared) (e : Value) (s' : Shared), CX w [] H s (fun _ _ _ => False) e s' → False) :
    PySem.W.WalkO q loose XP YP l.row.toRowW d [] (fun f vs => PySem.call f vs) :=
  Att.attach_call hn hdf fun w s₀ s₁ mg mb fa o pm cd doc a vs ns G Y ho hd hcd hmg hobj hints hlen hg => by
    obtain ⟨fd, hb, hF⟩ := F w mg fa _ (hY w _ Y) G.T.g hmg
    exact law_g (hY w _ Y) G.T.g G.T.b G.T.builtins G.T.nolimit hg hobj hints (Nat.le_trans hlen hn2) hr hF hb (fun H hO hS => hsp w H a ns hlen hO hS) fun H e s' => hCX w H s₁ e s'
end Iv
/-! Iv10: the interpreter's word is the text's: expressions. -/
namespace Iv
open PySem PySem.Spec PyProof.Rows L2
open Evl (Ex ex_l ex_t)
structure Good (P : Nat → Option Fn) (B : List Str) (GL : GLt) (N : List Str) (W n : Nat) (cl : Str → Value) (X : Cx) (Y : L2.St → XK) (fb : Str → Bool) : Prop where
  names : X.N = N
  nd : N.Nodup
  calm : X.calm = true
  fn : ∀ x, fb x = true → X.fn x = true
  room : Room n X.A
  guards : X.A.guards = some []
  blt : ∀ x ∈ B, X.mg x = none
  gls : ∀ x k, (x, k) ∈ GL.1 → ∃ u, X.mg x = some u ∧ RelV (kV k) u
  fns : ∀ f d, P f = some d → ∃ a fd, X.mg d.name = some (.ref a) ∧ PySem.W.keepIn X.K (.ref a) = true ∧ Binds X.K fd d.ps [] ∧ FnG X.prog X.w X.K X.mg X.base (L2.CX X.prog X.w) n a fd d.ps (spI X.K cl P W n f)
  pass : ∀ σ, PassesAt (L2.CX X.prog X.w) X σ (Y σ)
  exc : ∀ c ∈ GL.2, ∃ C, cl c = .ref C ∧ ExcF X.K X.mg c C
section
variable {P : Nat → Option Fn} {B : List Str} {GL : GLt} {N : List Str} {W n : Nat} {cl : Str → Value} {X : Cx} {Y : L2.St → XK} {fb : Str → Bool}
theorem Good.hu (G : Good P B GL N W n cl X Y fb) : X.A.units + 65 < cLine := by have := G.room.un; omega
theorem Good.at (G : Good P B GL N W n cl X Y fb) {i : Nat} {x : Str} (h : N[i]? = some x) : X.N[i]? = some x := by rw [G.names]; exact h
theorem Good.nodup (G : Good P B GL N W n cl X Y fb) : X.N.Nodup := by rw [G.names]; exact G.nd
theorem Good.blk (G : Good P B GL N W n cl X Y fb) (s : Shared) (H : Hp) (scope : Scope) (cs : List (Str × Addr)) (C : Addr) (fp : List Addr) : Good P B GL N W n cl (X.blk s H scope (compEnvC scope cs C X.env) fp) noX (fun x => scope.names.lookup x == some .cell) :=
  ⟨G.names, G.nd, G.calm, fun x h => h, G.room, G.guards, G.blt, G.gls, G.fns, fun σ pins H s e s' I h => passL pins σ H s e s' I h, G.exc⟩
structure Snd (X : Cx) (cl : Str → Value) (Y : L2.St → XK) (Φ : Option Bool → Nat → List Val → Store → R Val) (e : E) (x : Expr) : Prop where
  pe : PE X x (tI X.K cl Y Φ e)
  pt : isIte x = false → PT X x (tTs X.K cl Y Φ e)
  pw : ∀ op vs p, x = .BoolOp op vs p → PW X x (tTs X.K cl Y Φ e)
theorem Snd.plain {Φ : Option Bool → Nat → List Val → Store → R Val} {e : E} {x : Expr} (h : PE X x (tI X.K cl Y Φ e)) (hp : plainT x = true) : Snd X cl Y Φ e x :=
  ⟨h, fun _ => st_val h (true_of hp X.env), fun op vs p q => by subst q; cases hp⟩
theorem and_of {a b : Bool} (h : (a && b) = true) : a = true ∧ b = true := by rw [Bool.and_eq_true] at h; exact h
theorem not_of {a : Bool} (h : (!a) = true) : a = false := by cases a <;> first | rfl | cases h
theorem chkNms_ok (G : Good P B GL N W n cl X Y fb) : ∀ (is : List Nat) (es : List Expr), chkNms N X.env.scope fb is es = true → PGs X es (gNames is) ∧ (assignEach es X.env).length = is.length ∧ (assignEach es X.env).findIdx? (·.1) = none
  | [], es, h => by
    cases es with
    | nil => exact ⟨pgs_nil, rfl, rfl⟩
    | cons _ _ => cases h
  | i :: is, es, h => by
    obtain ⟨⟨e, r⟩, q, h0⟩ := optB_true h
    obtain ⟨h1, h2⟩ := and_of h0
    obtain ⟨a, q1, h3⟩ := optB_true h1
    obtain ⟨h4, h5⟩ := and_of h3
    have q' := cons?_eq q
    obtain ⟨p, q2⟩ := name?_eq q1
    have q2' : e = .Name a p := q2
    subst q' q2'
    have h4' := of_decide_eq_true h4
    obtain ⟨l1, l2⟩ := locB_ok h5
    obtain ⟨i1, i2, i3⟩ := chkNms_ok G is r h2
    refine ⟨pgs_cons (pg_name G.nodup (G.at h4') l1 (l2.imp (G.fn a) id)) i1, ?_, ?_⟩
    · show (assignEach r X.env).length + 1 = is.length + 1
      rw [i2]
    · show List.findIdx? (·.1) ((false, _) :: assignEach r X.env) = none
      rw [List.findIdx?_cons, i3]
      rfl
theorem chkTg_ok (G : Good P B GL N W n cl X Y fb) {g : Tg} {x : Expr} (h : chkTg N X.env.scope fb g x = true) : PG X x (gI X.K g) := by
  cases g with
  | nm i =>
    obtain ⟨a, q, h0⟩ := optB_true h
    obtain ⟨p, rfl⟩ := name?_eq q
    obtain ⟨h1, h2⟩ := and_of h0
    obtain ⟨l1, l2⟩ := locB_ok h2
    exact pg_name G.nodup (G.at (of_decide_eq_true h1)) l1 (l2.imp (G.fn a) id)
  | tp is =>
    obtain ⟨es, q, h0⟩ := optB_true h
    obtain ⟨j, p, rfl⟩ := tup?_eq q
    obtain ⟨k1, k2, k3⟩ := chkNms_ok G is es h0
    exact pg_tup G.calm k1 k2 k3
theorem copOf_ne {o : Cop} {op : CmpOp} (h : op = copOf o) : op = copOf o := h
theorem boot_len' : bootBuiltins "len" = some (.builtin "len") := by decide +kernel
theorem boot_abs' : bootBuiltins "abs" = some (.builtin "abs") := by decide +kernel
theorem boot_max' : bootBuiltins "max" = some (.builtin "max") := by decide +kernel
theorem boot_min' : bootBuiltins "min" = some (.builtin "min") := by decide +kernel
theorem len_one {α : Type} {xs : List α} (h : xs.length = 1) : ∃ a, xs = [a] := by
  match xs, h with
  | [a], _ => exact ⟨a, rfl⟩
theorem len_two {α : Type} {xs : List α} (h : xs.length = 2) : ∃ a b, xs = [a, b] := by
  match xs, h with
  | [a, b], _ => exact ⟨a, b, rfl⟩
theorem sn_call (G : Good P B GL N W n cl X Y fb) {mu : Option Bool} {f : Nat} {es : E} {g : Str} {xs : List Expr} {p q : Pos} {d : Fn} (hd : P f = some d) (hn : d.name = g) (hg : Gl X g) (hdb : (g == ("__debug__" : Str)) = false) (ha : PA X xs (tAs X.K cl Y (callI (run P W n)) es))
    (hst : xs.all (fun x => !isStar x) = true) (hes : xs = [] → es = .nil) : PE X (.Call (.Name g p) xs [] q) (tI X.K cl Y (callI (run P W n)) (.call mu f es)) := by
  obtain ⟨a, fd, h1, h2, h3, h4⟩ := G.fns f d hd
  subst hn
  have fin : ∀ (σ : L2.St) (H : Hp) (Q : VK), tI X.K cl Y (callI (run P W n)) (.call mu f es) σ H Q → tLockP (tCallG (spI X.K cl P W n f) [] Y (tAs X.K cl Y (callI (run P W n)) es)) σ H Q := fun σ H Q ⟨Hf, Fr, m, S, ρ, s, er, q⟩ =>
    ⟨Hf, Fr, m, S, ρ, s, er, QR.bind (f := fun vs S1 => callI (run P W n) mu f vs S1) q fun vs S1 ys H1 Hf1 m1 e1 p1 s1 r1 q1 => by
      show spI X.K cl P W n f (ys ++ []) H1 (lkQ Q) (Y σ)
      rw [List.append_nil]
      exact call_ok s1 r1 q1⟩
  cases xs with
  | nil =>
    have he := hes rfl
    subst he
    refine PE.of (pe_lockP (pe_callG0 h4 G.guards G.room hg h1 h2 h3 .nil G.pass hdb)) fun σ H Q ⟨Hf, Fr, m, S, ρ, s, er, q⟩ => ?_
    show spI X.K cl P W n f ([] ++ []) H (lkQ Q) (Y σ)
    exact call_ok (args := []) s .nil q
  | cons x xs =>
    rw [List.all_cons, Bool.and_eq_true] at hst
    exact PE.of (pe_lockP (pe_callG h4 G.guards G.room hg h1 h2 h3 .nil G.pass ha hdb (star_cons (not_of hst.1) _ _) (back_star hst.2))) fin
theorem sn_callR (G : Good P B GL N W n cl X Y fb) {f : Nat} {es : E} {g : Str} {xs : List Expr} {p q : Pos} {d : Fn} (hd : P f = some d) (hn : d.name = g) (hg : Gl X g) (hdb : (g == ("__debug__" : Str)) = false) (ha : PA X xs (tAs X.K cl Y (callI (run P W n)) es))
    (hst : xs.all (fun x => !isStar x) = true) (hes : xs = [] → es = .nil) : PE X (.Call (.Name g p) xs [] q) (tI X.K cl Y (callI (run P W n)) (.callR f es)) := by
  obtain ⟨a, fd, h1, h2, h3, h4⟩ := G.fns f d hd
  subst hn
  have fin : ∀ (σ : L2.St) (H : Hp) (Q : VK), tI X.K cl Y (callI (run P W n)) (.callR f es) σ H Q → tCallG (spI X.K cl P W n f) [] Y (tAs X.K cl Y (callI (run P W n)) es) σ H Q := fun σ H Q ⟨Hf, Fr, m, S, ρ, s, er, q⟩ =>
    ⟨Hf, Fr, m, S, ρ, s, er, QR.bind (f := fun vs S1 => roR (callI (run P W n) none f) vs S1) q fun vs S1 ys H1 Hf1 m1 e1 p1 s1 r1 q1 => by
      show spI X.K cl P W n f (ys ++ []) H1 Q (Y σ)
      rw [List.append_nil]
      exact callR_ok s1 r1 q1⟩
  cases xs with
  | nil =>
    have he := hes rfl
    subst he
    refine PE.of (pe_callG0 h4 G.guards G.room hg h1 h2 h3 .nil G.pass hdb) fun σ H Q ⟨Hf, Fr, m, S, ρ, s, er, q⟩ => ?_
    show spI X.K cl P W n f ([] ++ []) H Q (Y σ)
    exact callR_ok (args := []) s .nil q
  | cons x xs =>
    rw [List.all_cons, Bool.and_eq_true] at hst
    exact PE.of (pe_callG h4 G.guards G.room hg h1 h2 h3 .nil G.pass ha hdb (star_cons (not_of hst.1) _ _) (back_star hst.2)) fin
theorem sn_blt (G : Good P B GL N W n cl X Y fb) {Φ : Option Bool → Nat → List Val → Store → R Val} {f : Blt} {es : E} {g : Str} {k : Nat} {xs : List Expr} {p q : Pos} (hb : bltName f = some (g, k)) (hl : xs.length = k) (hg : Gl X g) (hm : X.mg g = none) (ha : PA X xs (tAs X.K cl Y Φ es))
    (hst : xs.all (fun x => !isStar x) = true) : PE X (.Call (.Name g p) xs [] q) (tI X.K cl Y Φ (.blt f es)) := by
  have go : ∀ {id : String} {r : List V → Hp → VK → Prop}, CallR X (.builtin id) r → CallS X.K r (fun S vs => bltV S f vs) → bootBuiltins g = some (.builtin id) → 1 ≤ xs.length → g ≠ "__name__" → (g == ("__debug__" : Str)) = false → PE X (.Call (.Name g p) xs [] q) (tI X.K cl Y Φ (.blt f es)) := fun {id r} h1 h2 h3 h4 h5 h6 => by
    cases xs with
    | nil => cases h4
    | cons x xs =>
      rw [List.all_cons, Bool.and_eq_true] at hst
      exact PE.of (pe_callB h1 hg hm h3 ha h5 h6 (star_cons (not_of hst.1) _ _) (back_star hst.2)) fun σ H Q h => blt_of h2 σ H Q h
  cases f with
  | len => cases hb; exact go (call_len_seq.or call_len_str) callS_len boot_len' (by omega) (by decide) (by decide)
  | abs => cases hb; exact go call_abs callS_abs boot_abs' (by omega) (by decide) (by decide)
  | max2 => cases hb; exact go (call_max2 G.calm) callS_max2 boot_max' (by omega) (by decide) (by decide)
  | min2 => cases hb; exact go (call_min2 G.calm) callS_min2 boot_min' (by omega) (by decide) (by decide)
  | _ => cases hb
theorem tyOk_of {T : String} (h : tyOk T = true) : T = "int" ∨ T = "bool" ∨ T = "str" ∨ T = "tuple" ∨ T = "list" ∨ T = "dict" := by
  unfold tyOk at h
  simp only [Bool.or_eq_true, beq_iff_eq] at h
  rcases h with ((((h | h) | h) | h) | h) | h
  · exact .inl h
  · exact .inr (.inl h)
  · exact .inr (.inr (.inl h))
  · exact .inr (.inr (.inr (.inl h)))
  · exact .inr (.inr (.inr (.inr (.inl h))))
  · exact .inr (.inr (.inr (.inr (.inr h))))
theorem boot_ty {T : String} (h : T = "int" ∨ T = "bool" ∨ T = "str" ∨ T = "tuple" ∨ T = "list" ∨ T = "dict") : bootBuiltins (Str.ofString T) = some (.type T) ∧ Str.ofString T ≠ "__name__" ∧ (Str.ofString T == ("__debug__" : Str)) = false := by
  rcases h with rfl | rfl | rfl | rfl | rfl | rfl <;> exact ⟨by decide +kernel, by decide, by decide⟩
theorem nm_ok (G : Good P B GL N W n cl X Y fb) {f : Str} (h : nmOk B X.env.scope f = true) : Gl X f ∧ X.mg f = none :=
  ⟨glB_ok (and_of h).1, G.blt _ (of_decide_eq_true (and_of h).2)⟩
theorem uArg_ok (G : Good P B GL N W n cl X Y fb) {Φ : Option Bool → Nat → List Val → Store → R Val} {o : Uop} {x xa : Expr} {a : E} (h : uArg B X.env.scope o x = some xa) (ha : PE X xa (tI X.K cl Y Φ a)) (hs : isStar xa = false) : PE X x (tI X.K cl Y Φ (.u o a)) ∧ plainT x = true := by
  have one : ∀ {f : Str} {as : List Expr}, call? x = some (f, as) → one? as = some xa → ∃ p q, x = .Call (.Name f p) [xa] [] q := fun {f as} h1 h2 => by
    obtain ⟨p, q, rfl⟩ := call?_eq h1
    rw [one?_eq h2]
    exact ⟨p, q, rfl⟩
  have gen : ∀ f : Str, uName o = some f → (match call? x with
      | some (f, as) => if uName o = some f ∧ nmOk B X.env.scope f = true then one? as else none
      | none => none) = some xa → ∃ p q, x = .Call (.Name f p) [xa] [] q ∧ Gl X f ∧ X.mg f = none := fun f hf h => by
    cases e : call? x with
    | none => rw [e] at h; cases h
    | some w =>
      obtain ⟨f', as⟩ := w
      rw [e] at h
      have h' : (if uName o = some f' ∧ nmOk B X.env.scope f' = true then one? as else none) = some xa := h
      by_cases c : uName o = some f' ∧ nmOk B X.env.scope f' = true
      · rw [if_pos c] at h'
        obtain ⟨p, q, e2⟩ := one e h'
        have : f = f' := by
          have := hf.symm.trans c.1
          cases this
          rfl
        subst this
        exact ⟨p, q, e2, nm_ok G c.2⟩
      · rw [if_neg c] at h'
        cases h'
  have set2 : ∀ f0 : Str, (match call2? x with
      | some (f, g, as) => if f = f0 ∧ g = "set" ∧ nmOk B X.env.scope f = true ∧ nmOk B X.env.scope g = true then one? as else none
      | none => none) = some xa → ∃ p p2 p3 p4, x = .Call (.Name f0 p) [.Call (.Name "set" p2) [xa] [] p3] [] p4 ∧ Gl X f0 ∧ X.mg f0 = none ∧ Gl X "set" ∧ X.mg "set" = none := fun f0 h => by
    cases e : call2? x with
    | none => rw [e] at h; cases h
    | some w =>
      obtain ⟨f, g, as⟩ := w
      rw [e] at h
      have h' : (if f = f0 ∧ g = "set" ∧ nmOk B X.env.scope f = true ∧ nmOk B X.env.scope g = true then one? as else none) = some xa := h
      by_cases c : f = f0 ∧ g = "set" ∧ nmOk B X.env.scope f = true ∧ nmOk B X.env.scope g = true
      · rw [if_pos c] at h'
        obtain ⟨p, p2, p3, p4, e2⟩ := call2?_eq e
        obtain ⟨c1, c2, c3, c4⟩ := c
        subst c1 c2
        rw [one?_eq h'] at e2
        obtain ⟨g1, m1⟩ := nm_ok G c3
        obtain ⟨g2, m2⟩ := nm_ok G c4
        exact ⟨p, p2, p3, p4, e2, g1, m1, g2, m2⟩
      · rw [if_neg c] at h'
        cases h'
  have hc := G.calm
  cases o with
  | rvsM =>
    obtain ⟨k, p1, p2, p3, p4, rfl⟩ := rev?_eq (e := xa) h
    exact ⟨PE.of (pe_rev ha) fun σ H Q hq => u_of us_rvsM σ H Q hq, rfl⟩
  | rvs =>
    obtain ⟨k, p1, p2, p3, p4, rfl⟩ := rev?_eq (e := xa) h
    exact ⟨PE.of (pe_rev ha) fun σ H Q hq => u_of us_rvs σ H Q hq, rfl⟩
  | sset =>
    obtain ⟨p, p2, p3, p4, rfl, g1, m1, g2, m2⟩ := set2 "sorted" h
    have hin : PE X (.Call (.Name "set" p2) [xa] [] p3) (tCB (fun xs H Q => rSetL X.K X.w xs H Q ∨ rSetU X.K X.w xs H Q) (tCons (tI X.K cl Y Φ a) tNil)) := pe_callTy ((cr_setL hc).or (cr_setU hc)) g2 m2 boot_setT (pa_cons ha pa_nil (starX hs _ _)) (by decide) (by decide) (starX hs _ _) rfl
    exact ⟨PE.of (pe_callB (cr_sortedSet hc) g1 m1 boot_sorted' (pa_cons hin pa_nil rfl) (by decide) (by decide) rfl rfl) fun σ H Q hq => u_of us_sset σ H Q hq, rfl⟩
  | lset =>
    obtain ⟨p, p2, p3, p4, rfl, g1, m1, g2, m2⟩ := set2 "len" h
    have hin : PE X (.Call (.Name "set" p2) [xa] [] p3) (tCB (rSetL X.K X.w) (tCons (tI X.K cl Y Φ a) tNil)) := pe_callTy (cr_setL hc) g2 m2 boot_setT (pa_cons ha pa_nil (starX hs _ _)) (by decide) (by decide) (starX hs _ _) rfl
    exact ⟨PE.of (pe_callB cr_lenS g1 m1 boot_lenB (pa_cons hin pa_nil rfl) (by decide) (by decide) rfl rfl) fun σ H Q hq => u_of us_lset σ H Q hq, rfl⟩
  | srt rev mu =>
    cases rev with
    | true =>
      have h' : (match srtR? x with
        | some (f, k, a) => if f = "sorted" ∧ k = "reverse" ∧ nmOk B X.env.scope f = true then some a else none
        | none => none) = some xa := h
      cases e : srtR? x with
      | none => rw [e] at h'; cases h'
      | some w =>
        obtain ⟨f, k, y⟩ := w
        rw [e] at h'
        have h2 : (if f = "sorted" ∧ k = "reverse" ∧ nmOk B X.env.scope f = true then some y else none) = some xa := h'
        by_cases c : f = "sorted" ∧ k = "reverse" ∧ nmOk B X.env.scope f = true
        · rw [if_pos c] at h2
          cases h2
          obtain ⟨p, j, p2, p3, p4, rfl⟩ := srtR?_eq e
          obtain ⟨c1, c2, c3⟩ := c
          subst c1 c2
          obtain ⟨g1, m1⟩ := nm_ok G c3
          refine ⟨PE.of (pe_callBK (cr_sortedQRev (b := true)) g1 m1 boot_sorted' (pa_cons ha pa_nil (starX hs _ _)) (pk_cons pe_bl pk_nil) (by decide) (by decide) (by rw [starX hs]; rfl) (by rw [starX hs]; rfl) rfl rfl rfl) fun σ H Q hq => u_of us_srtR σ H Q hq, rfl⟩
        · rw [if_neg c] at h2
          cases h2
    | false =>
      obtain ⟨p, q, rfl, g1, m1⟩ := gen "sorted" rfl h
      exact ⟨sn_uB (cr_sortA hc) us_srt boot_sorted' (by decide) (by decide) g1 m1 ha hs, rfl⟩
  | repr =>
    obtain ⟨p, q, rfl, g1, m1⟩ := gen "repr" rfl h
    exact ⟨sn_uB (cr_reprO.or ((cr_repr G.guards G.hu).or (cr_reprQ G.guards G.hu))) us_repr boot_repr' (by decide) (by decide) g1 m1 ha hs, rfl⟩
  | all =>
    obtain ⟨p, q, rfl, g1, m1⟩ := gen "all" rfl h
    exact ⟨sn_uB (cr_all hc) us_all boot_all' (by decide) (by decide) g1 m1 ha hs, rfl⟩
  | any =>
    obtain ⟨p, q, rfl, g1, m1⟩ := gen "any" rfl h
    exact ⟨sn_uB (cr_any hc) us_any boot_any' (by decide) (by decide) g1 m1 ha hs, rfl⟩
  | sum =>
    obtain ⟨p, q, rfl, g1, m1⟩ := gen "sum" rfl h
    exact ⟨sn_uB ((cr_sum hc).or (cr_sumU hc)) us_sum boot_sum' (by decide) (by decide) g1 m1 ha hs, rfl⟩
  | max1 =>
    obtain ⟨p, q, rfl, g1, m1⟩ := gen "max" rfl h
    exact ⟨sn_uB (cr_max hc) us_max boot_maxB (by decide) (by decide) g1 m1 ha hs, rfl⟩
  | min1 =>
    obtain ⟨p, q, rfl, g1, m1⟩ := gen "min" rfl h
    exact ⟨sn_uB (cr_min hc) us_min boot_minB (by decide) (by decide) g1 m1 ha hs, rfl⟩
  | int =>
    obtain ⟨p, q, rfl, g1, m1⟩ := gen "int" rfl h
    exact ⟨sn_uT (call_int1.or call_int_str) us_int boot_intT (by decide) (by decide) g1 m1 ha hs, rfl⟩
  | str =>
    obtain ⟨p, q, rfl, g1, m1⟩ := gen "str" rfl h
    exact ⟨sn_uT call_str_int us_str boot_strT (by decide) (by decide) g1 m1 ha hs, rfl⟩
  | bool =>
    obtain ⟨p, q, rfl, g1, m1⟩ := gen "bool" rfl h
    exact ⟨sn_uT call_bool1 us_bool boot_boolT (by decide) (by decide) g1 m1 ha hs, rfl⟩
  | tuple =>
    obtain ⟨p, q, rfl, g1, m1⟩ := gen "tuple" rfl h
    exact ⟨sn_uT call_tuple_of us_tuple boot_tupT (by decide) (by decide) g1 m1 ha hs, rfl⟩
  | list mu =>
    obtain ⟨p, q, rfl, g1, m1⟩ := gen "list" rfl h
    exact ⟨sn_uT (cr_listA hc) us_list boot_lstT (by decide) (by decide) g1 m1 ha hs, rfl⟩
theorem pts_yes {Φ : Option Bool → Nat → List Val → Store → R Val} : PTs X [] (tTs X.K cl Y Φ .yes) := ⟨fun pins s σ H Q I ⟨Hf, Fr, m, S, ρ, s1, er, q⟩ => pts_nil.run pins s σ H Q I (q true H Hf m (Evl.Ex.refl _) (List.prefix_refl _) s1 rfl)⟩
theorem chkA_nil {es : E} {sc : Scope} (h : chkA P B GL N es sc [] = true) : es = .nil := by
  cases es with
  | nil => rfl
  | cons _ _ => obtain ⟨_, q, _⟩ := optB_true h; cases q
  | _ => cases h
end
theorem exT_mem {T : Str} (h : T ∈ exN) : (T == ("__debug__" : Str)) = false := by
  simp only [exN, List.mem_cons, List.not_mem_nil, or_false] at h
  rcases h with rfl | rfl | rfl | rfl | rfl | rfl | rfl | rfl | rfl | rfl | rfl <;> decide
theorem exc_inj {K : PySem.W.Frag} {mg : Str → Option Value} {c : Str} {C C' : Addr} (h : ExcF K mg c C) (h' : ExcF K mg c C') : C = C' := by
  have := h.g.symm.trans h'.g
  cases this
  rfl
theorem exT_ok {P : Nat → Option Fn} {B : List Str} {GL : GLt} {N : List Str} {W n : Nat} {cl : Str → Value} {X : Cx} {Y : L2.St → XK} {fb : Str → Bool} (G : Good P B GL N W n cl X Y fb) {cs : List Str} {T : Str} {pt : Pos} (hcs : ∀ c ∈ cs, ∃ C, ExcF X.K X.mg c C) (hce : ∀ c ∈ cs, c ∈ exN) (hne : cs.isEmpty = false) (hT : exT B T = true) (hg : glB X.env.scope T = true) :
    ∃ (w : V) (tv : Value), PE X (.Name T pt) (tC w) ∧ (∀ u, RelV w u → u = tv) ∧ ∀ c b C, c ∈ cs → excIs c T = some b → ExcF X.K X.mg c C → PySem.W.kitOne X.K (.ref C) tv = some b := by
  cases cs with
  | nil => cases hne
  | cons c0 r =>
    have hx0 := hce c0 List.mem_cons_self
    obtain ⟨C0, F0⟩ := hcs c0 List.mem_cons_self
    unfold exT at hT
    simp only [Bool.or_eq_true, Bool.and_eq_true, decide_eq_true_eq] at hT
    have own : T ≠ "ValueError" → ∀ b0, excIs c0 T = some b0 → (T == ("__debug__" : Str)) = false → ∃ (w : V) (tv : Value), PE X (.Name T pt) (tC w) ∧ (∀ u, RelV w u → u = tv) ∧ ∀ c b C, c ∈ c0 :: r → excIs c T = some b → ExcF X.K X.mg c C → PySem.W.kitOne X.K (.ref C) tv = some b := fun hn b0 hb0 hdb => by
      rcases F0.is T b0 hb0 with ⟨D, m1, k1⟩ | ⟨e, _⟩
      · refine ⟨.ref D, .ref D, pe_glob (glB_ok hg) m1 rfl hdb, fun u hu => hu, fun c b C hc hb F => ?_⟩
        rcases F.is T b hb with ⟨D', m2, k2⟩ | ⟨e, _⟩
        · rw [m1] at m2
          cases m2
          exact k2
        · exact absurd e hn
      · exact absurd e hn
    rcases hT with (hT | hT) | hT
    · refine own (fun e => ?_) (decide (T = c0)) ?_ (exT_mem hT)
      · rw [e] at hT
        exact absurd hT (by decide)
      · unfold excIs
        rw [if_pos hx0, if_pos hT]
    · subst hT
      refine own (by decide) true ?_ (by decide)
      unfold excIs
      rw [if_pos hx0, if_neg (by decide), if_pos (by decide)]
    · obtain ⟨rfl, hB⟩ := hT
      refine ⟨.ty "ValueError", .type "ValueError", pe_bltn (v := .ty "ValueError") (glB_ok hg) (G.blt _ hB) (by decide +kernel) rfl (by decide) (by decide), fun u hu => hu, fun c b C hc hb F => ?_⟩
      rcases F.is _ b hb with ⟨D', m2, k2⟩ | ⟨_, _, k2⟩
      · rw [G.blt _ hB] at m2
        cases m2
      · exact k2
section
variable {P : Nat → Option Fn} {B : List Str} {GL : GLt} {N : List Str} {W n : Nat} {cl : Str → Value}
mutual
theorem chkE_ok : ∀ (e : E) {X : Cx} {Y : L2.St → XK} {fb : Str → Bool} (_ : Good P B GL N W n cl X Y fb) (x : Expr), chkE P B GL N e X.env.scope x = true → Snd X cl Y (callI (run P W n)) e x
  | .var i, X, Y, fb, G, x, h => by
    obtain ⟨a, q, h0⟩ := optB_true h
    obtain ⟨p, rfl⟩ := name?_eq q
    obtain ⟨h1, h2⟩ := and_of h0
    obtain ⟨h3, h4⟩ := and_of h1
    obtain ⟨h5, h6⟩ := and_of h3
    exact .plain (sn_var (pe_var (G.at (of_decide_eq_true h5)) (visB_ok h6) (not_of h4) (not_of h2))) rfl
  | .non, X, Y, fb, G, x, h => by
    obtain ⟨c, q, h0⟩ := optB_true h
    obtain ⟨j, p, rfl⟩ := const?_eq q
    cases c with
    | none => exact .plain sn_non rfl
    | _ => cases h0
  | .bl b, X, Y, fb, G, x, h => by
    obtain ⟨c, q, h0⟩ := optB_true h
    obtain ⟨j, p, rfl⟩ := const?_eq q
    cases c with
    | bool k =>
      have e : b = k := of_decide_eq_true h0
      subst e
      exact .plain sn_bl rfl
    | _ => cases h0
  | .int b, X, Y, fb, G, x, h => by
    obtain ⟨c, q, h0⟩ := optB_true h
    obtain ⟨j, p, rfl⟩ := const?_eq q
    cases c with
    | int k =>
      have e : b = k := of_decide_eq_true h0
      subst e
      exact .plain sn_int rfl
    | _ => cases h0
  | .str b, X, Y, fb, G, x, h => by
    obtain ⟨c, q, h0⟩ := optB_true h
    obtain ⟨j, p, rfl⟩ := const?_eq q
    cases c with
    | str k =>
      have e : b = k := of_decide_eq_true h0
      subst e
      exact .plain sn_str rfl
    | _ => cases h0
  | .tup es, X, Y, fb, G, x, h => by
    obtain ⟨xs, q, h0⟩ := optB_true h
    obtain ⟨j, p, rfl⟩ := tup?_eq q
    exact .plain (sn_tup (chkA_ok es G xs h0).1) rfl
  | .lst mu es, X, Y, fb, G, x, h => by
    obtain ⟨xs, q, h0⟩ := optB_true h
    obtain ⟨p, rfl⟩ := lst?_eq q
    exact .plain (sn_lst (chkA_ok es G xs h0).1) rfl
  | .bin o a b, X, Y, fb, G, x, h => by
    obtain ⟨⟨xa, op, xb⟩, q, h0⟩ := optB_true h
    obtain ⟨p, rfl⟩ := bin?_eq q
    obtain ⟨h1, h2⟩ := and_of h0
    obtain ⟨h3, h4⟩ := and_of h1
    have e : op = bopOf o := of_decide_eq_true h3
    subst e
    exact .plain (sn_bin (chkE_ok a G xa h4).pe (chkE_ok b G xb h2).pe) rfl
  | .neg a, X, Y, fb, G, x, h => by
    obtain ⟨xa, q, h0⟩ := optB_true h
    obtain ⟨p, rfl⟩ := usub?_eq q
    exact .plain (sn_neg (chkE_ok a G xa h0).pe) rfl
  | .cmp o a b, X, Y, fb, G, x, h => by
    obtain ⟨⟨xa, op, xb⟩, q, h0⟩ := optB_true h
    obtain ⟨p, rfl⟩ := cmp1?_eq q
    obtain ⟨h1, h2⟩ := and_of h0
    obtain ⟨h3, h4⟩ := and_of h1
    obtain ⟨h5, h6⟩ := and_of h3
    have e : op = copOf o := of_decide_eq_true h5
    subst e
    have ha := (chkE_ok a G xa h4).pe
    have hb := (chkE_ok b G xb h2).pe
    have hm := mark_of (not_of h6) (copOf o)
    exact ⟨sn_cmp G.hu ha hb hm, fun _ => st_cmp G.hu ha hb hm, fun _ _ _ z => nomatch z⟩
  | .chain o o' a b c, X, Y, fb, G, x, h => by
    obtain ⟨⟨xa, op, xb, op', xc⟩, q, h0⟩ := optB_true h
    obtain ⟨p, rfl⟩ := cmp2?_eq q
    obtain ⟨h1, h2⟩ := and_of h0
    obtain ⟨h3, h4⟩ := and_of h1
    obtain ⟨h5, h6⟩ := and_of h3
    obtain ⟨h7, h8⟩ := and_of h5
    obtain ⟨h9, h10⟩ := and_of h7
    have e : op = copOf o := of_decide_eq_true h9
    have e' : op' = copOf o' := of_decide_eq_true h10
    subst e e'
    have ha := (chkE_ok a G xa h6).pe
    have hb := (chkE_ok b G xb h4).pe
    have hc := (chkE_ok c G xc h2).pe
    have hm : lastMarks [copOf o, copOf o'] [xb, xc] = false := mark_of (not_of h8) (copOf o')
    exact ⟨sn_chain G.hu ha hb hc hm, fun _ => st_chain G.hu ha hb hc hm, fun _ _ _ z => nomatch z⟩
  | .and a b, X, Y, fb, G, x, h => by
    obtain ⟨⟨xa, xb, r, p⟩, q, h0⟩ := optB_true h
    have q' := bool?_eq q
    subst q'
    obtain ⟨h1, h2⟩ := and_of h0
    obtain ⟨h3, h4⟩ := and_of h1
    obtain ⟨h5, h6⟩ := and_of h3
    have sa := chkE_ok a G xa h5
    have sb := chkE_ok b G (restB .And xb r p) h2
    have hE : PE X (.BoolOp .And (xb :: r) p) (tI X.K cl Y (callI (run P W n)) b) := by
      cases r with
      | nil => exact pe_one sb.pe
      | cons y r => exact sb.pe
    have hW : PW X (.BoolOp .And (xb :: r) p) (tTs X.K cl Y (callI (run P W n)) b) := by
      cases r with
      | nil => exact pw_and1 (sb.pt (by
          have h4' : (false || !isIte xb) = true := h4
          rw [Bool.false_or] at h4'
          exact not_of h4'))
      | cons y r => exact sb.pw _ _ _ rfl
    have w := st_and (sa.pt (not_of h6)) hW
    exact ⟨sn_and sa.pe hE, fun _ => w.pt, fun _ _ _ z => by cases z; exact w⟩
  | .or a b, X, Y, fb, G, x, h => by
    obtain ⟨⟨xa, xb, r, p⟩, q, h0⟩ := optB_true h
    have q' := bool?_eq q
    subst q'
    obtain ⟨h1, h2⟩ := and_of h0
    obtain ⟨h3, h4⟩ := and_of h1
    obtain ⟨h5, h6⟩ := and_of h3
    have sa := chkE_ok a G xa h5
    have sb := chkE_ok b G (restB .Or xb r p) h2
    have hE : PE X (.BoolOp .Or (xb :: r) p) (tI X.K cl Y (callI (run P W n)) b) := by
      cases r with
      | nil => exact pe_one sb.pe
      | cons y r => exact sb.pe
    have hW : PW X (.BoolOp .Or (xb :: r) p) (tTs X.K cl Y (callI (run P W n)) b) := by
      cases r with
      | nil => exact pw_or1 (sb.pt (by
          have h4' : (false || !isIte xb) = true := h4
          rw [Bool.false_or] at h4'
          exact not_of h4'))
      | cons y r => exact sb.pw _ _ _ rfl
    have w := st_or (sa.pt (not_of h6)) hW
    exact ⟨sn_or sa.pe hE, fun _ => w.pt, fun _ _ _ z => by cases z; exact w⟩
  | .not a, X, Y, fb, G, x, h => by
    obtain ⟨xa, q, h0⟩ := optB_true h
    obtain ⟨p, rfl⟩ := not?_eq q
    obtain ⟨h1, h2⟩ := and_of h0
    have sa := chkE_ok a G xa h1
    exact ⟨sn_not sa.pe, fun _ => st_not (sa.pt (not_of h2)), fun _ _ _ z => nomatch z⟩
  | .ite t a b, X, Y, fb, G, x, h => by
    obtain ⟨⟨xt, xa, xb⟩, q, h0⟩ := optB_true h
    obtain ⟨p, rfl⟩ := ite?_eq q
    obtain ⟨h1, h2⟩ := and_of h0
    obtain ⟨h3, h4⟩ := and_of h1
    obtain ⟨h5, h6⟩ := and_of h3
    exact ⟨sn_ite ((chkE_ok t G xt h5).pt (not_of h6)) (chkE_ok a G xa h4).pe (chkE_ok b G xb h2).pe, fun z => (by cases z), fun _ _ _ z => (by cases z)⟩
  | .call mu f es, X, Y, fb, G, x, h => by
    obtain ⟨⟨g, xs⟩, q, h0⟩ := optB_true h
    obtain ⟨p, p', rfl⟩ := call?_eq q
    obtain ⟨h1, h2⟩ := and_of h0
    obtain ⟨h3, h4⟩ := and_of h1
    obtain ⟨h5, h6⟩ := and_of h3
    obtain ⟨d, hd, h7⟩ := optB_true h5
    obtain ⟨h8, h9⟩ := and_of h7
    obtain ⟨a1, a2⟩ := chkA_ok es G xs h2
    exact .plain (sn_call G hd (of_decide_eq_true h8) (glB_ok h6) (not_of h4) a1 a2 (fun z => by subst z; exact chkA_nil h2)) rfl
  | .callR f es, X, Y, fb, G, x, h => by
    obtain ⟨⟨g, xs⟩, q, h0⟩ := optB_true h
    obtain ⟨p, p', rfl⟩ := call?_eq q
    obtain ⟨h1, h2⟩ := and_of h0
    obtain ⟨h3, h4⟩ := and_of h1
    obtain ⟨h5, h6⟩ := and_of h3
    obtain ⟨d, hd, h7⟩ := optB_true h5
    obtain ⟨h8, h9⟩ := and_of h7
    obtain ⟨a1, a2⟩ := chkA_ok es G xs h2
    exact .plain (sn_callR G hd (of_decide_eq_true h8) (glB_ok h6) (not_of h4) a1 a2 (fun z => by subst z; exact chkA_nil h2)) rfl
  | .blt f es, X, Y, fb, G, x, h => by
    obtain ⟨⟨g, xs⟩, q, h0⟩ := optB_true h
    obtain ⟨p, p', rfl⟩ := call?_eq q
    obtain ⟨h1, h2⟩ := and_of h0
    obtain ⟨h3, h4⟩ := and_of h1
    obtain ⟨h5, h6⟩ := and_of h3
    obtain ⟨⟨g', k⟩, hd, h7⟩ := optB_true h5
    obtain ⟨h8, h9⟩ := and_of h7
    have e : g' = g := of_decide_eq_true h8
    subst e
    obtain ⟨a1, a2⟩ := chkA_ok es G xs h2
    exact .plain (sn_blt G hd (of_decide_eq_true h9) (glB_ok h6) (G.blt _ (of_decide_eq_true h4)) a1 a2) rfl
  | .isi a T, X, Y, fb, G, x, h => by
    obtain ⟨⟨g, xs⟩, q, h0⟩ := optB_true h
    obtain ⟨⟨xa, xT⟩, q2, h00⟩ := optB_true h0
    obtain ⟨p, p', rfl⟩ := call?_eq q
    have q3 : xs = [xa, xT] := two?_eq q2
    subst q3
    obtain ⟨h1, h2⟩ := and_of h00
    obtain ⟨h3, h4⟩ := and_of h1
    obtain ⟨h5, h6⟩ := and_of h3
    obtain ⟨h7, h8⟩ := and_of h5
    obtain ⟨h9, h10⟩ := and_of h7
    obtain ⟨h11, h12⟩ := and_of h9
    obtain ⟨t, q4, h13⟩ := optB_true h2
    obtain ⟨pt, q5⟩ := name?_eq q4
    have q6 : xT = .Name t pt := q5
    subst q6
    obtain ⟨h14, h15⟩ := and_of h13
    obtain ⟨h16, h17⟩ := and_of h14
    have eg : g = "isinstance" := of_decide_eq_true h11
    have et : t = Str.ofString T := of_decide_eq_true h16
    subst eg et
    have hT := tyOk_of h4
    obtain ⟨b1, b2, b3⟩ := boot_ty hT
    exact .plain (sn_isi hT (chkE_ok a G xa h8).pe (glB_ok h12) (G.blt _ (of_decide_eq_true h10)) (glB_ok h17) (G.blt _ (of_decide_eq_true h15)) b1 b2 b3 (star_cons (not_of h6) _ _)) rfl
  | .isx cs a T, X, Y, fb, G, x, h => by
    obtain ⟨⟨g, xs⟩, q, h0⟩ := optB_true h
    obtain ⟨⟨xa, xT⟩, q2, h00⟩ := optB_true h0
    obtain ⟨p, p', rfl⟩ := call?_eq q
    have q3 : xs = [xa, xT] := two?_eq q2
    subst q3
    obtain ⟨h1, h2⟩ := and_of h00
    obtain ⟨h3, h4⟩ := and_of h1
    obtain ⟨h4a, h4b⟩ := and_of h4
    obtain ⟨h5, h6⟩ := and_of h3
    obtain ⟨h7, h8⟩ := and_of h5
    obtain ⟨h9, h10⟩ := and_of h7
    obtain ⟨h11, h12⟩ := and_of h9
    obtain ⟨t, q4, h13⟩ := optB_true h2
    obtain ⟨pt, q5⟩ := name?_eq q4
    have q6 : xT = .Name t pt := q5
    subst q6
    obtain ⟨h14, h15⟩ := and_of h13
    obtain ⟨h16, h17⟩ := and_of h14
    obtain ⟨h18, h19⟩ := and_of h16
    have eg : g = "isinstance" := of_decide_eq_true h11
    have et : t = T := of_decide_eq_true h18
    subst eg et
    have hcs : ∀ c ∈ cs, ∃ C, ExcF X.K X.mg c C := fun c hc => by
      obtain ⟨C, _, F⟩ := G.exc c (of_decide_eq_true (List.all_eq_true.mp h4a c hc))
      exact ⟨C, F⟩
    have hce : ∀ c ∈ cs, c ∈ exN := fun c hc => of_decide_eq_true (List.all_eq_true.mp h4b c hc)
    obtain ⟨w, tv, hv, hw, hk⟩ := exT_ok (P := P) G hcs hce (not_of h15) h17 h19 (pt := pt)
    exact .plain (sn_isx hcs (chkE_ok a G xa h8).pe (glB_ok h12) (G.blt _ (of_decide_eq_true h10)) (star_cons (not_of h6) _ _) w tv hv hw hk) rfl
  | .ix a i, X, Y, fb, G, x, h => by
    obtain ⟨⟨xa, xi⟩, q, h0⟩ := optB_true h
    obtain ⟨p, rfl⟩ := sub?_eq q
    obtain ⟨h1, h2⟩ := and_of h0
    obtain ⟨h3, h4⟩ := and_of h1
    exact .plain (sn_ix G.hu (chkE_ok a G xa h4).pe (chkE_ok i G xi h2).pe (plainIx_of (not_of h3))) rfl
  | .sl a lo hi, X, Y, fb, G, x, h => by
    obtain ⟨⟨xa, xs⟩, q, h0⟩ := optB_true h
    obtain ⟨⟨xl, xh⟩, q2, h00⟩ := optB_true h0
    obtain ⟨p, rfl⟩ := sub?_eq q
    obtain ⟨p2, q3⟩ := slice?_eq q2
    have q4 : xs = .Slice xl xh none p2 := q3
    subst q4
    obtain ⟨h1, h2⟩ := and_of h00
    obtain ⟨h3, h4⟩ := and_of h1
    exact .plain (sn_sl (chkE_ok a G xa h3).pe (chkO_ok lo G xl h4) (chkO_ok hi G xh h2)) rfl
  | .comp mu g own it cond elt, X, Y, fb, G, x, h => by
    obtain ⟨⟨xe, tg, xi, ifs, scope⟩, q, h0⟩ := optB_true h
    obtain ⟨p, rfl⟩ := comp?_eq q
    obtain ⟨h1, h2⟩ := and_of h0
    obtain ⟨h3, h4⟩ := and_of h1
    obtain ⟨h5, h6⟩ := and_of h3
    obtain ⟨h7, h8⟩ := and_of h5
    obtain ⟨h9, h10⟩ := and_of h7
    obtain ⟨h11, h12⟩ := and_of h9
    have hslots : ∀ j ∈ g.slots, j ∈ own.map (·.2) := fun j hj => of_decide_eq_true (List.all_eq_true.mp h6 j hj)
    have hw := chkI_ok it G (tg := tg) xi h10 (fun z => z)
    have bOk : BlkOk X.N X.env.scope scope own := by rw [G.names]; exact blkOk_by h11
    have he : ∀ (s : Shared) (H : Hp) (C : Addr) (cs : List (Str × Addr)) (fp : List Addr), PE (X.blk s H scope (compEnvC scope cs C X.env) fp) xe (tI X.K cl noX (callI (run P W n)) elt) := fun s H C cs fp => (chkE_ok elt (G.blk s H scope cs C fp) xe h2).pe
    have hg : ∀ (s : Shared) (H : Hp) (C : Addr) (cs : List (Str × Addr)) (fp : List Addr), PG (X.blk s H scope (compEnvC scope cs C X.env) fp) tg (gI X.K g) := fun s H C cs fp => chkTg_ok (G.blk s H scope cs C fp) h8
    have ht : ∀ (s : Shared) (H : Hp) (C : Addr) (cs : List (Str × Addr)) (fp : List Addr), PTs (X.blk s H scope (compEnvC scope cs C X.env) fp) ifs (tTs X.K cl noX (callI (run P W n)) cond) := fun s H C cs fp => by
      rw [Bool.or_eq_true] at h4
      rcases h4 with h4 | h4
      · obtain ⟨i1, i2⟩ := and_of h4
        have i3 : ifs = [] := List.isEmpty_iff.mp i1
        have i4 : cond = .yes := by cases cond <;> first | rfl | cases i2
        subst i3 i4
        exact pts_yes
      · obtain ⟨xc, i1, i2⟩ := optB_true h4
        have i3 : ifs = [xc] := one?_eq i1
        subst i3
        obtain ⟨i4, i5⟩ := and_of i2
        exact pts_one ((chkE_ok cond (G.blk s H scope cs C fp) xc i4).pt (not_of i5))
    exact .plain (PE.of (pe_lc G.calm G.nodup hw bOk hg ht he (folded_of (not_of h12) X.env)) fun σ H Q h => comp_of (fun _ _ _ z => z) (fun _ _ _ z => z) (fun _ _ _ z => z) hslots σ H Q h) rfl
  | .mth m o es, X, Y, fb, G, x, h => by
    obtain ⟨⟨xo, nm, xs⟩, q, h0⟩ := optB_true h
    obtain ⟨p, p', rfl, hl⟩ := mth?_eq q
    obtain ⟨h1, h2⟩ := and_of h0
    obtain ⟨h3, h4⟩ := and_of h1
    obtain ⟨h5, h6⟩ := and_of h3
    cases m with
    | append =>
      obtain ⟨h7, h8⟩ := and_of h5
      have e : nm = "append" := of_decide_eq_true h7
      subst e
      obtain ⟨x1, e1⟩ := len_one (of_decide_eq_true h8)
      have e1' : xs = [x1] := e1
      subst e1'
      cases es with
      | cons e r =>
        obtain ⟨⟨y, t⟩, q3, h9⟩ := optB_true h2
        cases q3
        obtain ⟨h10, h11⟩ := and_of h9
        obtain ⟨h12, h13⟩ := and_of h10
        have hr := chkA_nil h11
        subst hr
        exact .plain (sn_append (chkE_ok o G xo h4).pe (chkE_ok e G x1 h13).pe (base_of (not_of h6) _ _ _) (star_cons (not_of h12) _ _) hl) rfl
      | _ => cases h2
    | index =>
      obtain ⟨h7, h8⟩ := and_of h5
      have e : nm = "index" := of_decide_eq_true h7
      subst e
      obtain ⟨x1, e1⟩ := len_one (of_decide_eq_true h8)
      have e1' : xs = [x1] := e1
      subst e1'
      cases es with
      | cons e r =>
        obtain ⟨⟨y, t⟩, q3, h9⟩ := optB_true h2
        cases q3
        obtain ⟨h10, h11⟩ := and_of h9
        obtain ⟨h12, h13⟩ := and_of h10
        have hr := chkA_nil h11
        subst hr
        exact .plain (sn_index (chkE_ok o G xo h4).pe (chkE_ok e G x1 h13).pe (base_of (not_of h6) _ _ _) (star_cons (not_of h12) _ _) hl) rfl
      | _ => cases h2
    | count =>
      obtain ⟨h7, h8⟩ := and_of h5
      have e : nm = "count" := of_decide_eq_true h7
      subst e
      obtain ⟨x1, e1⟩ := len_one (of_decide_eq_true h8)
      have e1' : xs = [x1] := e1
      subst e1'
      cases es with
      | cons e r =>
        obtain ⟨⟨y, t⟩, q3, h9⟩ := optB_true h2
        cases q3
        obtain ⟨h10, h11⟩ := and_of h9
        obtain ⟨h12, h13⟩ := and_of h10
        have hr := chkA_nil h11
        subst hr
        exact .plain (sn_count (chkE_ok o G xo h4).pe (chkE_ok e G x1 h13).pe (base_of (not_of h6) _ _ _) (star_cons (not_of h12) _ _) hl) rfl
      | _ => cases h2
    | extend =>
      obtain ⟨h7, h8⟩ := and_of h5
      have e : nm = "extend" := of_decide_eq_true h7
      subst e
      obtain ⟨x1, e1⟩ := len_one (of_decide_eq_true h8)
      have e1' : xs = [x1] := e1
      subst e1'
      cases es with
      | cons e r =>
        obtain ⟨⟨y, t⟩, q3, h9⟩ := optB_true h2
        cases q3
        obtain ⟨h10, h11⟩ := and_of h9
        obtain ⟨h12, h13⟩ := and_of h10
        have hr := chkA_nil h11
        subst hr
        exact .plain (sn_extend (chkE_ok o G xo h4).pe (chkE_ok e G x1 h13).pe (base_of (not_of h6) _ _ _) (star_cons (not_of h12) _ _) hl) rfl
      | _ => cases h2
    | remove =>
      obtain ⟨h7, h8⟩ := and_of h5
      have e : nm = "remove" := of_decide_eq_true h7
      subst e
      obtain ⟨x1, e1⟩ := len_one (of_decide_eq_true h8)
      have e1' : xs = [x1] := e1
      subst e1'
      cases es with
      | cons e r =>
        obtain ⟨⟨y, t⟩, q3, h9⟩ := optB_true h2
        cases q3
        obtain ⟨h10, h11⟩ := and_of h9
        obtain ⟨h12, h13⟩ := and_of h10
        have hr := chkA_nil h11
        subst hr
        exact .plain (sn_remove (chkE_ok o G xo h4).pe (chkE_ok e G x1 h13).pe (base_of (not_of h6) _ _ _) (star_cons (not_of h12) _ _) hl) rfl
      | _ => cases h2
    | insert =>
      obtain ⟨h7, h8⟩ := and_of h5
      have e : nm = "insert" := of_decide_eq_true h7
      subst e
      have hlen : xs.length = 2 := of_decide_eq_true h8
      obtain ⟨x1, x2, e1'⟩ : ∃ x1 x2, xs = [x1, x2] := by
        cases xs with
        | nil => cases hlen
        | cons x1 t =>
          cases t with
          | nil => cases hlen
          | cons x2 t =>
            cases t with
            | nil => exact ⟨x1, x2, rfl⟩
            | cons _ _ => cases hlen
      subst e1'
      have pa := (chkA_ok es G [x1, x2] h2).1
      cases es with
      | cons e r =>
        obtain ⟨⟨y, t⟩, q3, h9⟩ := optB_true h2
        cases q3
        obtain ⟨h10, h11⟩ := and_of h9
        obtain ⟨h12, h13⟩ := and_of h10
        cases r with
        | cons e2 r =>
          obtain ⟨⟨y, t⟩, q3, h9⟩ := optB_true h11
          cases q3
          obtain ⟨h14, h15⟩ := and_of h9
          obtain ⟨h16, h17⟩ := and_of h14
          have hr := chkA_nil h15
          subst hr
          exact .plain (sn_insert (chkE_ok o G xo h4).pe pa (base_of (not_of h6) _ _ _) (star_cons (not_of h12) _ _) (star_cons (not_of h16) _ _) hl) rfl
        | _ => cases h11
      | _ => cases h2
    | _ => cases h5
  | .cat mu a b, X, Y, fb, G, x, h => by
    obtain ⟨⟨xa, op, xb⟩, q, h0⟩ := optB_true h
    obtain ⟨p, rfl⟩ := bin?_eq q
    obtain ⟨h1, h2⟩ := and_of h0
    obtain ⟨h3, h4⟩ := and_of h1
    have e : op = .Add := of_decide_eq_true h3
    subst e
    exact .plain (sn_cat (chkE_ok a G xa h4).pe (chkE_ok b G xb h2).pe) rfl
  | .rep mu es b, X, Y, fb, G, x, h => by
    obtain ⟨⟨xa, op, xb⟩, q, h0⟩ := optB_true h
    obtain ⟨p, rfl⟩ := bin?_eq q
    obtain ⟨h1, h2⟩ := and_of h0
    have e : op = .Mult := of_decide_eq_true h1
    subst e
    obtain ⟨xs, q2, h3⟩ := optB_true h2
    obtain ⟨p2, e2⟩ := lst?_eq q2
    have e3 : xa = .List xs p2 := e2
    subst e3
    obtain ⟨h4, h5⟩ := and_of h3
    exact .plain (sn_rep (chkA_ok es G xs h4).1 (chkE_ok b G xb h5).pe) rfl
  | .u o a, X, Y, fb, G, x, h => by
    obtain ⟨xa, q, h0⟩ := optB_true h
    obtain ⟨h1, h2⟩ := and_of h0
    obtain ⟨r1, r2⟩ := uArg_ok G q (chkE_ok a G xa h1).pe (not_of h2)
    exact .plain r1 r2
  | .rl1 k a, X, Y, fb, G, x, h => by
    obtain ⟨⟨f, g, as⟩, q, h0⟩ := optB_true h
    obtain ⟨xa, q2, h00⟩ := optB_true h0
    obtain ⟨p, p2, p3, p4, rfl⟩ := call2?_eq q
    have q3 : as = [xa] := one?_eq q2
    subst q3
    obtain ⟨h1, h2⟩ := and_of h00
    obtain ⟨h3, h4⟩ := and_of h1
    obtain ⟨h5, h6⟩ := and_of h3
    obtain ⟨h7, h8⟩ := and_of h5
    obtain ⟨h9, h10⟩ := and_of h7
    have ef : f = rlName k := of_decide_eq_true h9
    have eg : g = "range" := of_decide_eq_true h8
    subst eg
    obtain ⟨g1, m1⟩ := nm_ok G h10
    obtain ⟨g2, m2⟩ := nm_ok G h6
    exact .plain (sn_rl1 G.calm ef g1 m1 g2 m2 (chkE_ok a G xa h2).pe (not_of h4)) rfl
  | .rl2 k a b, X, Y, fb, G, x, h => by
    obtain ⟨⟨f, g, as⟩, q, h0⟩ := optB_true h
    obtain ⟨⟨xa, xb⟩, q2, h00⟩ := optB_true h0
    obtain ⟨p, p2, p3, p4, rfl⟩ := call2?_eq q
    have q3 : as = [xa, xb] := two?_eq q2
    subst q3
    obtain ⟨h1, h2⟩ := and_of h00
    obtain ⟨h3, h4⟩ := and_of h1
    obtain ⟨h5, h6⟩ := and_of h3
    obtain ⟨h7, h8⟩ := and_of h5
    obtain ⟨h9, h10⟩ := and_of h7
    obtain ⟨h11, h12⟩ := and_of h9
    obtain ⟨h13, h14⟩ := and_of h11
    have ef : f = rlName k := of_decide_eq_true h13
    have eg : g = "range" := of_decide_eq_true h12
    subst eg
    obtain ⟨g1, m1⟩ := nm_ok G h14
    obtain ⟨g2, m2⟩ := nm_ok G h10
    exact .plain (sn_rl2 G.calm ef g1 m1 g2 m2 (chkE_ok a G xa h4).pe (chkE_ok b G xb h2).pe (not_of h8) (not_of h6)) rfl
  | .gv y i, X, Y, fb, G, x, h => by
    obtain ⟨a, q, h0⟩ := optB_true h
    obtain ⟨p, rfl⟩ := name?_eq q
    obtain ⟨h1, h2⟩ := and_of h0
    obtain ⟨h3, h4⟩ := and_of h1
    obtain ⟨h5, h6⟩ := and_of h3
    have e : a = y := of_decide_eq_true h5
    subst e
    obtain ⟨u, m1, r1⟩ := G.gls _ _ (memK_of h4)
    exact .plain (sn_c (pe_glob (glB_ok h6) m1 r1 (not_of h2)) (fun _ _ => rfl) fun _ _ => rfl) rfl
  | .gs y i, X, Y, fb, G, x, h => by
    obtain ⟨a, q, h0⟩ := optB_true h
    obtain ⟨p, rfl⟩ := name?_eq q
    obtain ⟨h1, h2⟩ := and_of h0
    obtain ⟨h3, h4⟩ := and_of h1
    obtain ⟨h5, h6⟩ := and_of h3
    have e : a = y := of_decide_eq_true h5
    subst e
    obtain ⟨u, m1, r1⟩ := G.gls _ _ (memK_of h4)
    exact .plain (sn_c (pe_glob (glB_ok h6) m1 r1 (not_of h2)) (fun _ _ => rfl) fun _ _ => rfl) rfl
  | .tx j a b, X, Y, fb, G, x, h => by
    obtain ⟨⟨xo, nm, xs⟩, q, h0⟩ := optB_true h
    obtain ⟨p, p', rfl, hl⟩ := mth?_eq q
    obtain ⟨h1, h2⟩ := and_of h0
    obtain ⟨h3, h4⟩ := and_of h1
    obtain ⟨h5, h6⟩ := and_of h3
    obtain ⟨xb, q2, h7⟩ := optB_true h2
    obtain ⟨h8, h9⟩ := and_of h7
    have e1 : xs = [xb] := one?_eq q2
    subst e1
    have hs : starEach [xb] X.env = [(false, eval xb X.env)] := star_cons (not_of h8) _ _
    cases j with
    | true =>
      have e : nm = "join" := of_decide_eq_true h5
      subst e
      exact .plain (sn_join (chkE_ok a G xo h4).pe (chkE_ok b G xb h9).pe (base_of (not_of h6) _ _ _) hs hl) rfl
    | false =>
      have e : nm = "split" := of_decide_eq_true h5
      subst e
      exact .plain (sn_split (chkE_ok a G xo h4).pe (chkE_ok b G xb h9).pe (base_of (not_of h6) _ _ _) hs hl) rfl
  | .edc mu t, X, Y, fb, G, x, h => by
    obtain ⟨h1, h2⟩ := and_of h
    obtain ⟨p, rfl⟩ := isDict0_eq h1
    exact .plain (sn_edc (not_of h2)) rfl
  | .dsp mu k v, X, Y, fb, G, x, h => by
    obtain ⟨⟨xk, xv⟩, q, h0⟩ := optB_true h
    obtain ⟨p, rfl⟩ := dict1?_eq q
    obtain ⟨h1, h2⟩ := and_of h0
    exact .plain (sn_dsp (chkE_ok k G xk h1).pe (chkE_ok v G xv h2).pe) rfl
  | .compL mu g own o cond elt, X, Y, fb, G, x, h => by
    obtain ⟨⟨xe, tg, xi, ifs, scope⟩, q, h0⟩ := optB_true h
    obtain ⟨p, rfl⟩ := comp?_eq q
    obtain ⟨h1, h2⟩ := and_of h0
    obtain ⟨h3, h4⟩ := and_of h1
    obtain ⟨h5, h6⟩ := and_of h3
    obtain ⟨h7, h8⟩ := and_of h5
    obtain ⟨h9, h10⟩ := and_of h7
    obtain ⟨h11, h12⟩ := and_of h9
    have hslots : ∀ j ∈ g.slots, j ∈ own.map (·.2) := fun j hj => of_decide_eq_true (List.all_eq_true.mp h6 j hj)
    have hw := pi_list (tg := tg) (chkE_ok o G xi h10).pe
    have bOk : BlkOk X.N X.env.scope scope own := by rw [G.names]; exact blkOk_by h11
    have he : ∀ (s : Shared) (H : Hp) (C : Addr) (cs : List (Str × Addr)) (fp : List Addr), PE (X.blk s H scope (compEnvC scope cs C X.env) fp) xe (tI X.K cl noX (callI (run P W n)) elt) := fun s H C cs fp => (chkE_ok elt (G.blk s H scope cs C fp) xe h2).pe
    have hg : ∀ (s : Shared) (H : Hp) (C : Addr) (cs : List (Str × Addr)) (fp : List Addr), PG (X.blk s H scope (compEnvC scope cs C X.env) fp) tg (gI X.K g) := fun s H C cs fp => chkTg_ok (G.blk s H scope cs C fp) h8
    have ht : ∀ (s : Shared) (H : Hp) (C : Addr) (cs : List (Str × Addr)) (fp : List Addr), PTs (X.blk s H scope (compEnvC scope cs C X.env) fp) ifs (tTs X.K cl noX (callI (run P W n)) cond) := fun s H C cs fp => by
      rw [Bool.or_eq_true] at h4
      rcases h4 with h4 | h4
      · obtain ⟨i1, i2⟩ := and_of h4
        have i3 : ifs = [] := List.isEmpty_iff.mp i1
        have i4 : cond = .yes := by cases cond <;> first | rfl | cases i2
        subst i3 i4
        exact pts_yes
      · obtain ⟨xc, i1, i2⟩ := optB_true h4
        have i3 : ifs = [xc] := one?_eq i1
        subst i3
        obtain ⟨i4, i5⟩ := and_of i2
        exact pts_one ((chkE_ok cond (G.blk s H scope cs C fp) xc i4).pt (not_of i5))
    exact .plain (PE.of (pe_lc G.calm G.nodup hw bOk hg ht he (folded_of (not_of h12) X.env)) fun σ H Q h => compL_of (fun _ _ _ z => z) (fun _ _ _ z => z) hslots σ H Q h) rfl
  | .nil, _, _, _, _, _, h => by cases h
  | .cons _ _, _, _, _, _, _, h => by cases h
  | .rng _, _, _, _, _, _, h => by cases h
  | .rng2 _ _, _, _, _, _, _, h => by cases h
  | .enum _, _, _, _, _, _, h => by cases h
  | .zip _ _, _, _, _, _, _, h => by cases h
  | .rev _, _, _, _, _, _, h => by cases h
  | .vals _, _, _, _, _, _, h => by cases h
  | .yes, _, _, _, _, _, h => by cases h
  | .part _, _, _, _, _, _, h => by cases h
termination_by structural e => e
theorem chkA_ok : ∀ (e : E) {X : Cx} {Y : L2.St → XK} {fb : Str → Bool} (_ : Good P B GL N W n cl X Y fb) (xs : List Expr), chkA P B GL N e X.env.scope xs = true → PA X xs (tAs X.K cl Y (callI (run P W n)) e) ∧ xs.all (fun x => !isStar x) = true
  | .nil, X, Y, fb, G, xs, h => by
    have e : xs = [] := List.isEmpty_iff.mp h
    subst e
    exact ⟨sa_nil, rfl⟩
  | .cons e r, X, Y, fb, G, xs, h => by
    obtain ⟨⟨x, t⟩, q, h0⟩ := optB_true h
    have q' := cons?_eq q
    subst q'
    obtain ⟨h1, h2⟩ := and_of h0
    obtain ⟨h3, h4⟩ := and_of h1
    obtain ⟨a1, a2⟩ := chkA_ok r G t h2
    exact ⟨sa_cons (chkE_ok e G x h4).pe a1 (star_cons (not_of h3) _ _), by rw [List.all_cons, Bool.and_eq_true]; exact ⟨h3, a2⟩⟩
  | .var _, _, _, _, _, _, h => by cases h
  | .non, _, _, _, _, _, h => by cases h
  | .bl _, _, _, _, _, _, h => by cases h
  | .int _, _, _, _, _, _, h => by cases h
  | .str _, _, _, _, _, _, h => by cases h
  | .tup _, _, _, _, _, _, h => by cases h
  | .lst _ _, _, _, _, _, _, h => by cases h
  | .bin _ _ _, _, _, _, _, _, h => by cases h
  | .neg _, _, _, _, _, _, h => by cases h
  | .cmp _ _ _, _, _, _, _, _, h => by cases h
  | .chain _ _ _ _ _, _, _, _, _, _, h => by cases h
  | .and _ _, _, _, _, _, _, h => by cases h
  | .or _ _, _, _, _, _, _, h => by cases h
  | .not _, _, _, _, _, _, h => by cases h
  | .ite _ _ _, _, _, _, _, _, h => by cases h
  | .call _ _ _, _, _, _, _, _, h => by cases h
  | .blt _ _, _, _, _, _, _, h => by cases h
  | .isi _ _, _, _, _, _, _, h => by cases h
  | .isx _ _ _, _, _, _, _, _, h => by cases h
  | .ix _ _, _, _, _, _, _, h => by cases h
  | .sl _ _ _, _, _, _, _, _, h => by cases h
  | .comp _ _ _ _ _ _, _, _, _, _, _, h => by cases h
  | .mth _ _ _, _, _, _, _, _, h => by cases h
  | .cat _ _ _, _, _, _, _, _, h => by cases h
  | .rep _ _ _, _, _, _, _, _, h => by cases h
  | .u _ _, _, _, _, _, _, h => by cases h
  | .rl1 _ _, _, _, _, _, _, h => by cases h
  | .rl2 _ _ _, _, _, _, _, _, h => by cases h
  | .gv _ _, _, _, _, _, _, h => by cases h
  | .gs _ _, _, _, _, _, _, h => by cases h
  | .tx _ _ _, _, _, _, _, _, h => by cases h
  | .edc _ _, _, _, _, _, _, h => by cases h
  | .dsp _ _ _, _, _, _, _, _, h => by cases h
  | .callR _ _, _, _, _, _, _, h => by cases h
  | .compL _ _ _ _ _ _, _, _, _, _, _, h => by cases h
  | .rng _, _, _, _, _, _, h => by cases h
  | .rng2 _ _, _, _, _, _, _, h => by cases h
  | .enum _, _, _, _, _, _, h => by cases h
  | .zip _ _, _, _, _, _, _, h => by cases h
  | .rev _, _, _, _, _, _, h => by cases h
  | .vals _, _, _, _, _, _, h => by cases h
  | .yes, _, _, _, _, _, h => by cases h
  | .part _, _, _, _, _, _, h => by cases h
termination_by structural e => e
theorem chkI_ok : ∀ (e : E) {X : Cx} {Y : L2.St → XK} {fb : Str → Bool} (_ : Good P B GL N W n cl X Y fb) {tg : Expr} (x : Expr) {t : Bool}, chkI P B GL N e X.env.scope t x = true → (t = true → isTupE tg = true) → PI X tg x (tIt X.K cl Y (callI (run P W n)) e)
  | .vals e, X, Y, fb, G, tg, x, t, h, _ => si_vals (chkE_ok e G x h).pe
  | .rng a, X, Y, fb, G, tg, x, t, h, _ => by
    obtain ⟨⟨g, xs⟩, q, h0⟩ := optB_true h
    obtain ⟨xa, q2, h00⟩ := optB_true h0
    obtain ⟨p, p', rfl⟩ := call?_eq q
    have q3 : xs = [xa] := one?_eq q2
    subst q3
    obtain ⟨h1, h2⟩ := and_of h00
    obtain ⟨h3, h4⟩ := and_of h1
    obtain ⟨h5, h6⟩ := and_of h3
    obtain ⟨h7, h8⟩ := and_of h5
    have eg : g = "range" := of_decide_eq_true h7
    subst eg
    exact si_rng (glB_ok h8) (G.blt _ (of_decide_eq_true h6)) (chkE_ok a G xa h2).pe (star_cons (not_of h4) _ _)
  | .rng2 a b, X, Y, fb, G, tg, x, t, h, _ => by
    obtain ⟨⟨g, xs⟩, q, h0⟩ := optB_true h
    obtain ⟨⟨xa, xb⟩, q2, h00⟩ := optB_true h0
    obtain ⟨p, p', rfl⟩ := call?_eq q
    have q3 : xs = [xa, xb] := two?_eq q2
    subst q3
    obtain ⟨h1, h2⟩ := and_of h00
    obtain ⟨h3, h4⟩ := and_of h1
    obtain ⟨h5, h6⟩ := and_of h3
    obtain ⟨h7, h8⟩ := and_of h5
    obtain ⟨h9, h10⟩ := and_of h7
    obtain ⟨h11, h12⟩ := and_of h9
    have eg : g = "range" := of_decide_eq_true h11
    subst eg
    have sb := star_cons (not_of h6) [] X.env
    exact si_rng2 (glB_ok h12) (G.blt _ (of_decide_eq_true h10)) (chkE_ok a G xa h4).pe (chkE_ok b G xb h2).pe ((star_cons (not_of h8) _ _).trans (by rw [sb]; rfl)) sb
  | .enum a, X, Y, fb, G, tg, x, t, h, ht => by
    obtain ⟨⟨g, xs⟩, q, h0⟩ := optB_true h
    obtain ⟨xa, q2, h00⟩ := optB_true h0
    obtain ⟨p, p', rfl⟩ := call?_eq q
    have q3 : xs = [xa] := one?_eq q2
    subst q3
    obtain ⟨h1, h2⟩ := and_of h00
    obtain ⟨h3, h4⟩ := and_of h1
    obtain ⟨h5, h6⟩ := and_of h3
    obtain ⟨h7, h8⟩ := and_of h5
    obtain ⟨h9, h10⟩ := and_of h7
    have eg : g = "enumerate" := of_decide_eq_true h10
    subst eg
    have htup := ht h9
    cases tg with
    | Tuple elts k pp => exact si_enum (glB_ok h8) (G.blt _ (of_decide_eq_true h6)) (chkE_ok a G xa h2).pe (star_cons (not_of h4) _ _)
    | _ => cases htup
  | .zip a b, X, Y, fb, G, tg, x, t, h, ht => by
    obtain ⟨⟨g, xs⟩, q, h0⟩ := optB_true h
    obtain ⟨⟨xa, xb⟩, q2, h00⟩ := optB_true h0
    obtain ⟨p, p', rfl⟩ := call?_eq q
    have q3 : xs = [xa, xb] := two?_eq q2
    subst q3
    obtain ⟨h1, h2⟩ := and_of h00
    obtain ⟨h3, h4⟩ := and_of h1
    obtain ⟨h5, h6⟩ := and_of h3
    obtain ⟨h7, h8⟩ := and_of h5
    obtain ⟨h9, h10⟩ := and_of h7
    obtain ⟨h11, h12⟩ := and_of h9
    obtain ⟨h13, h14⟩ := and_of h11
    have eg : g = "zip" := of_decide_eq_true h14
    subst eg
    have sb := star_cons (not_of h6) [] X.env
    have htup := ht h13
    cases tg with
    | Tuple elts k pp => exact si_zip (glB_ok h12) (G.blt _ (of_decide_eq_true h10)) (chkE_ok a G xa h4).pe (chkE_ok b G xb h2).pe (star_cons (not_of h8) _ _) sb
    | _ => cases htup
  | .nil, _, _, _, _, _, _, _, h, _ => by cases h
  | .cons _ _, _, _, _, _, _, _, _, h, _ => by cases h
  | .var _, _, _, _, _, _, _, _, h, _ => by cases h
  | .non, _, _, _, _, _, _, _, h, _ => by cases h
  | .bl _, _, _, _, _, _, _, _, h, _ => by cases h
  | .int _, _, _, _, _, _, _, _, h, _ => by cases h
  | .str _, _, _, _, _, _, _, _, h, _ => by cases h
  | .tup _, _, _, _, _, _, _, _, h, _ => by cases h
  | .lst _ _, _, _, _, _, _, _, _, h, _ => by cases h
  | .bin _ _ _, _, _, _, _, _, _, _, h, _ => by cases h
  | .neg _, _, _, _, _, _, _, _, h, _ => by cases h
  | .cmp _ _ _, _, _, _, _, _, _, _, h, _ => by cases h
  | .chain _ _ _ _ _, _, _, _, _, _, _, _, h, _ => by cases h
  | .and _ _, _, _, _, _, _, _, _, h, _ => by cases h
  | .or _ _, _, _, _, _, _, _, _, h, _ => by cases h
  | .not _, _, _, _, _, _, _, _, h, _ => by cases h
  | .ite _ _ _, _, _, _, _, _, _, _, h, _ => by cases h
  | .call _ _ _, _, _, _, _, _, _, _, h, _ => by cases h
  | .blt _ _, _, _, _, _, _, _, _, h, _ => by cases h
  | .isi _ _, _, _, _, _, _, _, _, h, _ => by cases h
  | .isx _ _ _, _, _, _, _, _, _, _, h, _ => by cases h
  | .ix _ _, _, _, _, _, _, _, _, h, _ => by cases h
  | .sl _ _ _, _, _, _, _, _, _, _, h, _ => by cases h
  | .comp _ _ _ _ _ _, _, _, _, _, _, _, _, h, _ => by cases h
  | .mth _ _ _, _, _, _, _, _, _, _, h, _ => by cases h
  | .cat _ _ _, _, _, _, _, _, _, _, h, _ => by cases h
  | .rep _ _ _, _, _, _, _, _, _, _, h, _ => by cases h
  | .u _ _, _, _, _, _, _, _, _, h, _ => by cases h
  | .rl1 _ _, _, _, _, _, _, _, _, h, _ => by cases h
  | .rl2 _ _ _, _, _, _, _, _, _, _, h, _ => by cases h
  | .gv _ _, _, _, _, _, _, _, _, h, _ => by cases h
  | .gs _ _, _, _, _, _, _, _, _, h, _ => by cases h
  | .tx _ _ _, _, _, _, _, _, _, _, h, _ => by cases h
  | .edc _ _, _, _, _, _, _, _, _, h, _ => by cases h
  | .dsp _ _ _, _, _, _, _, _, _, _, h, _ => by cases h
  | .callR _ _, _, _, _, _, _, _, _, h, _ => by cases h
  | .compL _ _ _ _ _ _, _, _, _, _, _, _, _, h, _ => by cases h
  | .rev _, _, _, _, _, _, _, _, h, _ => by cases h
  | .yes, _, _, _, _, _, _, _, h, _ => by cases h
  | .part _, _, _, _, _, _, _, _, h, _ => by cases h
termination_by structural e => e
theorem chkO_ok : ∀ (e : E) {X : Cx} {Y : L2.St → XK} {fb : Str → Bool} (_ : Good P B GL N W n cl X Y fb) (x : Option Expr), chkO P B GL N e X.env.scope x = true → PO X x (tOs X.K cl Y (callI (run P W n)) e)
  | .nil, X, Y, fb, G, x, h => by
    cases x with
    | none => exact so_none
    | some _ => cases h
  | .part e, X, Y, fb, G, x, h => by
    obtain ⟨y, q, h0⟩ := optB_true h
    subst q
    exact so_some (chkE_ok e G y h0).pe
  | .cons _ _, _, _, _, _, _, h => by cases h
  | .var _, _, _, _, _, _, h => by cases h
  | .non, _, _, _, _, _, h => by cases h
  | .bl _, _, _, _, _, _, h => by cases h
  | .int _, _, _, _, _, _, h => by cases h
  | .str _, _, _, _, _, _, h => by cases h
  | .tup _, _, _, _, _, _, h => by cases h
  | .lst _ _, _, _, _, _, _, h => by cases h
  | .bin _ _ _, _, _, _, _, _, h => by cases h
  | .neg _, _, _, _, _, _, h => by cases h
  | .cmp _ _ _, _, _, _, _, _, h => by cases h
  | .chain _ _ _ _ _, _, _, _, _, _, h => by cases h
  | .and _ _, _, _, _, _, _, h => by cases h
  | .or _ _, _, _, _, _, _, h => by cases h
  | .not _, _, _, _, _, _, h => by cases h
  | .ite _ _ _, _, _, _, _, _, h => by cases h
  | .call _ _ _, _, _, _, _, _, h => by cases h
  | .blt _ _, _, _, _, _, _, h => by cases h
  | .isi _ _, _, _, _, _, _, h => by cases h
  | .isx _ _ _, _, _, _, _, _, h => by cases h
  | .ix _ _, _, _, _, _, _, h => by cases h
  | .sl _ _ _, _, _, _, _, _, h => by cases h
  | .comp _ _ _ _ _ _, _, _, _, _, _, h => by cases h
  | .mth _ _ _, _, _, _, _, _, h => by cases h
  | .cat _ _ _, _, _, _, _, _, h => by cases h
  | .rep _ _ _, _, _, _, _, _, h => by cases h
  | .u _ _, _, _, _, _, _, h => by cases h
  | .rl1 _ _, _, _, _, _, _, h => by cases h
  | .rl2 _ _ _, _, _, _, _, _, h => by cases h
  | .gv _ _, _, _, _, _, _, h => by cases h
  | .gs _ _, _, _, _, _, _, h => by cases h
  | .tx _ _ _, _, _, _, _, _, h => by cases h
  | .edc _ _, _, _, _, _, _, h => by cases h
  | .dsp _ _ _, _, _, _, _, _, h => by cases h
  | .callR _ _, _, _, _, _, _, h => by cases h
  | .compL _ _ _ _ _ _, _, _, _, _, _, h => by cases h
  | .rng _, _, _, _, _, _, h => by cases h
  | .rng2 _ _, _, _, _, _, _, h => by cases h
  | .enum _, _, _, _, _, _, h => by cases h
  | .zip _ _, _, _, _, _, _, h => by cases h
  | .rev _, _, _, _, _, _, h => by cases h
  | .vals _, _, _, _, _, _, h => by cases h
  | .yes, _, _, _, _, _, h => by cases h
termination_by structural e => e
end
end
end Iv
/-! Iv11: the interpreter's word is the text's: statements, defs, the law. -/
namespace Iv
open PySem PySem.Spec PyProof.Rows L2
open Evl (Ex ex_l ex_t)
def sExpr? : Stmt → Option (Expr × Pos) | .Expr x p => some (x, p) | _ => none
def sAsg? : Stmt → Option (Str × Pos × Expr × Pos) | .Assign [.Name y py] x p => some (y, py, x, p) | _ => none
def sPar? : Stmt → Option (Str × Pos × Str × Pos × Expr × Expr) | .Assign [.Tuple [.Name y py, .Name z pz] _ _] (.Tuple [a, b] _ _) _ => some (y, py, z, pz, a, b) | _ => none
def sUnp? : Stmt → Option (List Expr × Expr) | .Assign [.Tuple es _ _] x _ => some (es, x) | _ => none
def sSub? : Stmt → Option (Expr × Expr × Expr) | .Assign [.Subscript o i _] x _ => some (o, i, x) | _ => none
def sPas? : Stmt → Option (Str × Expr × Expr × Expr) | .Assign [.Tuple [.Name y _, .Subscript o i _] _ _] x _ => some (y, o, i, x) | _ => none
def sIf? : Stmt → Option (Expr × List Stmt × List Stmt) | .If t a b _ => some (t, a, b) | _ => none
def sFor? : Stmt → Option (Expr × Expr × List Stmt) | .For tg it b [] _ => some (tg, it, b) | _ => none
def sWhile? : Stmt → Option (Expr × List Stmt) | .While t b [] _ => some (t, b) | _ => none
def sRet? : Stmt → Option (Option Expr) | .Return x _ => some x | _ => none
def isPassS : Stmt → Bool | .Pass _ => true | _ => false
def isBrkS : Stmt → Bool | .Break _ => true | _ => false
def isCntS : Stmt → Bool | .Continue _ => true | _ => false
theorem sExpr?_eq {s : Stmt} {x : Expr} {p : Pos} (h : sExpr? s = some (x, p)) : s = .Expr x p := by unfold sExpr? at h; split at h <;> cases h; rfl
theorem sAsg?_eq {s : Stmt} {y : Str} {py p : Pos} {x : Expr} (h : sAsg? s = some (y, py, x, p)) : s = .Assign [.Name y py] x p := by unfold sAsg? at h; split at h <;> cases h; rfl
theorem sPar?_eq {s : Stmt} {y z : Str} {py pz : Pos} {a b : Expr} (h : sPar? s = some (y, py, z, pz, a, b)) : ∃ k pt k2 pt2 p, s = .Assign [.Tuple [.Name y py, .Name z pz] k pt] (.Tuple [a, b] k2 pt2) p := by unfold sPar? at h; split at h <;> cases h; exact ⟨_, _, _, _, _, rfl⟩
theorem sUnp?_eq {s : Stmt} {es : List Expr} {x : Expr} (h : sUnp? s = some (es, x)) : ∃ k pt p, s = .Assign [.Tuple es k pt] x p := by unfold sUnp? at h; split at h <;> cases h; exact ⟨_, _, _, rfl⟩
theorem sSub?_eq {s : Stmt} {o i x : Expr} (h : sSub? s = some (o, i, x)) : ∃ p p2, s = .Assign [.Subscript o i p] x p2 := by unfold sSub? at h; split at h <;> cases h; exact ⟨_, _, rfl⟩
theorem sPas?_eq {s : Stmt} {y : Str} {o i x : Expr} (h : sPas? s = some (y, o, i, x)) : ∃ py pq k pt p, s = .Assign [.Tuple [.Name y py, .Subscript o i pq] k pt] x p := by unfold sPas? at h; split at h <;> cases h; exact ⟨_, _, _, _, _, rfl⟩
theorem sIf?_eq {s : Stmt} {t : Expr} {a b : List Stmt} (h : sIf? s = some (t, a, b)) : ∃ p, s = .If t a b p := by unfold sIf? at h; split at h <;> cases h; exact ⟨_, rfl⟩
theorem sFor?_eq {s : Stmt} {tg it : Expr} {b : List Stmt} (h : sFor? s = some (tg, it, b)) : ∃ p, s = .For tg it b [] p := by unfold sFor? at h; split at h <;> cases h; exact ⟨_, rfl⟩
theorem sWhile?_eq {s : Stmt} {t : Expr} {b : List Stmt} (h : sWhile? s = some (t, b)) : ∃ p, s = .While t b [] p := by unfold sWhile? at h; split at h <;> cases h; exact ⟨_, rfl⟩
theorem sRet?_eq {s : Stmt} {x : Option Expr} (h : sRet? s = some x) : ∃ p, s = .Return x p := by unfold sRet? at h; split at h <;> cases h; exact ⟨_, rfl⟩
def sRaise? : Stmt → Option Str | .Raise (some (.Call (.Name c _) [.Constant (.str _) _ _] [] _)) none _ => some c | _ => none
theorem sRaise?_eq {s : Stmt} {c : Str} (h : sRaise? s = some c) : ∃ p m j p2 pos pos2, s = .Raise (some (.Call (.Name c p) [.Constant (.str m) j p2] [] pos)) none pos2 := by unfold sRaise? at h; split at h <;> cases h; exact ⟨_, _, _, _, _, _, rfl⟩
def sTry? : Stmt → Option (List Stmt × Str × Str × Str × Str) | .Try body [.ExceptHandler (some (.Name dn _)) (some en) [.Assign [.Name y _] (.Name e2 _) _] _] [] [] _ => some (body, dn, en, y, e2) | _ => none
theorem sTry?_eq {s : Stmt} {body : List Stmt} {dn en y e2 : Str} (h : sTry? s = some (body, dn, en, y, e2)) : ∃ p1 p2 p3 p4 p5 p6, s = .Try body [.ExceptHandler (some (.Name dn p1)) (some en) [.Assign [.Name y p4] (.Name e2 p5) p6] p2] [] [] p3 := by unfold sTry? at h; split at h <;> cases h; exact ⟨_, _, _, _, _, _, rfl⟩
def isNilS : St → Bool | .nil => true | _ => false
def isLoc (sc : Scope) (x : Str) : Bool := match sc.names.lookup x with | some .local => true | _ => false
theorem isLoc_ok {sc : Scope} {x : Str} (h : isLoc sc x = true) : sc.names.lookup x = some .local := by
  unfold isLoc at h; split at h <;> first | assumption | cases h
def isCell (sc : Scope) (x : Str) : Bool := match sc.names.lookup x with | some .cell => true | _ => false
theorem isCell_ok {sc : Scope} {x : Str} (h : isCell sc x = true) : sc.names.lookup x = some .cell := by
  unfold isCell at h; split at h <;> first | assumption | cases h
def compE? : E → Bool | .comp .. => true | .compL .. => true | _ => false
section
variable (P : Nat → Option Fn) (B : List Str) (GL : GLt) (N : List Str)
mutual
/-- a try's body -/
def chkXS : St → Scope → Stmt → Bool
  | .expr e, sc, s => optB (sExpr? s) fun p => chkE P B GL N e sc p.1 && !isComp p.1
  | .asg i e, sc, s => optB (sAsg? s) fun p => decide (N[i]? = some p.1) && locB sc (fun _ => true) p.1 && chkE P B GL N e sc p.2.2.1 && !isComp p.2.2.1
  | .ite t a b, sc, s => optB (sIf? s) fun p => chkE P B GL N t sc p.1 && !isIte p.1 && chkXB a sc p.2.1 && chkXB b sc p.2.2
  | _, _, _ => false
termination_by structural s => s
def chkXB : St → Scope → List Stmt → Bool
  | .nil, _, ss => ss.isEmpty
  | .seq a b, sc, ss => optB (one? ss) fun s => isNilS b && chkXS a sc s
  | _, _, _ => false
termination_by structural s => s
end
mutual
def chkS : St → Scope → Stmt → Bool
  | .expr e, sc, s => optB (sExpr? s) fun p => chkE P B GL N e sc p.1 && !isComp p.1
  | .asg i e, sc, s => optB (sAsg? s) fun p => decide (N[i]? = some p.1) && locB sc (fun _ => true) p.1 && chkE P B GL N e sc p.2.2.1 && (!isComp p.2.2.1 ||
      compE? e && (isCell sc p.1 || isLoc sc p.1 && (p.2.1.line == p.2.2.1.pos.line) && optB (comp? p.2.2.1) fun q => !(q.2.2.2.2.names.any fun (n, k) => n == p.1 && (k == .local || k == .cell))))
  | .par i j a b, sc, s => optB (sPar? s) fun p => decide (N[i]? = some p.1) && decide (N[j]? = some p.2.2.1) && !(decide (i = j)) && isLoc sc p.1 && isLoc sc p.2.2.1 && (p.2.2.2.1.line == p.2.1.line) && !(p.1 == p.2.2.1) &&
      !(foldedForSure 8 p.2.2.2.2.1 && foldedForSure 8 p.2.2.2.2.2) && !(constantsAlone 8 p.2.2.2.2.1 && constantsAlone 8 p.2.2.2.2.2) && !isStar p.2.2.2.2.1 && !isStar p.2.2.2.2.2 && chkE P B GL N a sc p.2.2.2.2.1 && chkE P B GL N b sc p.2.2.2.2.2
  | .unp is e, sc, s => optB (sUnp? s) fun p => chkNms N sc (fun _ => true) is p.1 && chkE P B GL N e sc p.2 && !isTupE p.2 && !isComp p.2
  | .sub o i e, sc, s => optB (sSub? s) fun p => !isSlice p.2.1 && chkE P B GL N o sc p.1 && chkE P B GL N i sc p.2.1 && chkE P B GL N e sc p.2.2 && !isComp p.2.2
  | .pas i o j e, sc, s => optB (sPas? s) fun p => decide (N[i]? = some p.1) && locB sc (fun _ => true) p.1 && !isSlice p.2.2.1 && chkE P B GL N o sc p.2.1 && chkE P B GL N j sc p.2.2.1 && chkE P B GL N e sc p.2.2.2 && !isComp p.2.2.2
  | .ite t a b, sc, s => optB (sIf? s) fun p => chkE P B GL N t sc p.1 && !isIte p.1 && chkB a sc p.2.1 && chkB b sc p.2.2
  | .for_ g it b, sc, s => optB (sFor? s) fun p => chkTg N sc (fun _ => true) g p.1 && !isSet p.2.1 && chkI P B GL N it sc (isTupE p.1) p.2.1 && chkB b sc p.2.2
  | .while_ t b, sc, s => optB (sWhile? s) fun p => chkE P B GL N t sc p.1 && !isIte p.1 && chkB b sc p.2
  | .ret e, sc, s => optB (sRet? s) fun o => optB o fun x => chkE P B GL N e sc x
  | .no, _, _ => true
  | .forL g o b, sc, s => optB (sFor? s) fun p => chkTg N sc (fun _ => true) g p.1 && !isSet p.2.1 && chkE P B GL N o sc p.2.1 && chkB b sc p.2.2
  | .retN, _, s => optB (sRet? s) fun o => o.isNone
  | .pass, _, s => isPassS s
  | .brk, _, s => isBrkS s
  | .cnt, _, s => isCntS s
  | .raise_ c, sc, s => optB (sRaise? s) fun d => decide (d = c) && decide (c ∈ GL.2) && glB sc c && !(c == ("__debug__" : Str))
  | .try_ j i cs b, sc, s => optB (sTry? s) fun p => decide (p.2.1 = "DealError") && decide (p.2.2.1 = p.2.2.2.2) && decide (N[i]? = some p.2.2.1) && decide (N[j]? = some p.2.2.2.1) && isLoc sc p.2.2.1 && isLoc sc p.2.2.2.1 && glB sc p.2.1 && !(p.2.2.1 == ("__debug__" : Str)) && !(p.2.2.1 == ("__classdict__" : Str)) &&
      cs.all (fun c => decide (c ∈ GL.2)) && !cs.isEmpty && chkXB P B GL N b sc p.1
  | _, _, _ => false
termination_by structural s => s
def chkB : St → Scope → List Stmt → Bool
  | .nil, _, ss => ss.isEmpty
  | .seq a b, sc, ss => optB (cons? ss) fun p => chkS a sc p.1 && chkB b sc p.2
  | _, _, _ => false
termination_by structural s => s
end
end
theorem par_swap {env : PySem.Env} {y z : Str} {py pz : Pos} {a b : Expr} {k : Nat} {pt : Pos} {k2 : Nat} {pt2 : Pos} (hk : env.scope.kind = .function) (hy : env.scope.names.lookup y = some .local) (hz : env.scope.names.lookup z = some .local) (hl : (pz.line == py.line) = true) (hne : (y == z) = false)
    (hf : (foldedForSure 8 a && foldedForSure 8 b) = false) (hc : (constantsAlone 8 a && constantsAlone 8 b) = false) (ha : isStar a = false) (hb : isStar b = false) :
    swappedStores [.Tuple [.Name y py, .Name z pz] k pt] (.Tuple [a, b] k2 pt2) env = pure (some [y, z]) := by
  have ky : env.kindOf y = some .local := hy
  have kz : env.kindOf z = some .local := hz
  have hbk : env.blockKind = .function := by unfold Env.blockKind; rw [hk]; rfl
  have hany : ∀ f : Expr → Bool, (∀ x, isStar x = false → f x = false) → ([a, b].any f) = false := fun f hf => by
    rw [List.any_cons, List.any_cons, List.any_nil, hf a ha, hf b hb]
    rfl
  have hfm : ∀ g : Expr → Option Str, g (.Name y py) = some y → g (.Name z pz) = some z → [Expr.Name y py, Expr.Name z pz].filterMap g = [y, z] := fun g h1 h2 => by
    rw [List.filterMap_cons, h1, List.filterMap_cons, h2, List.filterMap_nil]
  have hf' : [a, b].all (foldedForSure 8) = false := by rw [List.all_cons, List.all_cons, List.all_nil, Bool.and_true]; exact hf
  have hc' : [a, b].all (constantsAlone 8) = false := by rw [List.all_cons, List.all_cons, List.all_nil, Bool.and_true]; exact hc
  have hzy : (z == y) = false := by
    rw [beq_eq_false_iff_ne] at hne ⊢
    exact fun e => hne e.symm
  have hdd : [y, z].eraseDups = [y, z] := by
    simp [List.eraseDups_cons, hne, hzy]
  unfold swappedStores
  simp only [hbk]
  rw [hany, hfm]
  · simp only [hdd, hf', hc']
    rfl
  · show (if (env.kindOf y == some NameKind.local && py.line == py.line) = true then some y else none) = some y
    rw [ky, beq_self_eq_true, beq_self_eq_true]
    rfl
  · show (if (env.kindOf z == some NameKind.local && pz.line == py.line) = true then some z else none) = some z
    rw [kz, hl, beq_self_eq_true]
    rfl
  · intro x h
    cases x <;> first | rfl | cases h
theorem filt_one {α β : Type} {f : α → Option β} {a b : α} (h : f b = none) : ([a, b].filterMap f).length ≠ 2 := by
  rw [List.filterMap_cons, List.filterMap_cons, h, List.filterMap_nil]
  cases f a <;> simp
theorem pas_none {env : PySem.Env} {y : Str} {py pq pt : Pos} {o i x : Expr} {k : Nat} : swappedStores [.Tuple [.Name y py, .Subscript o i pq] k pt] x env = pure none := by
  cases x with
  | Tuple vs _ _ =>
    unfold swappedStores
    simp
    intro _ _ _ h
    exact absurd h (filt_one rfl)
  | _ => rfl
structure GoodS (P : Nat → Option Fn) (B : List Str) (GL : GLt) (N : List Str) (W n : Nat) (cl : Str → Value) (X : Cx) (Y : XK) : Prop where
  g : Good P B GL N W n cl X (fun _ => Y) (fun _ => true)
  kind : X.env.scope.kind = .function
  own : PassesOwn (model X.prog X.w) X.A X.env X.xe
  tk : Takes X (fun cv d _ H => Y cv d H)
  st : X.stack = X.env :: X.outer
  fr : X.env.frame = some X.env.locals
  ex : X.ex = []
section
variable {P : Nat → Option Fn} {B : List Str} {GL : GLt} {N : List Str} {W n : Nat} {cl : Str → Value} {X : Cx} {Y : XK}
theorem ps_setE (G : GoodS P B GL N W n cl X Y) {i : Nat} {y : Str} {py p : Pos} {x : Expr} {e : E} (hi : N[i]? = some y) (hl : locB X.env.scope (fun _ => true) y = true) (h : chkE P B GL N e X.env.scope x = true)
    (hc : (!isComp x || compE? e && (isCell X.env.scope y || isLoc X.env.scope y && (py.line == x.pos.line) && optB (comp? x) fun q => !(q.2.2.2.2.names.any fun (n, k) => n == y && (k == .local || k == .cell)))) = true) :
    PS X (.Assign [.Name y py] x p) (tAsg (tI X.K cl (fun _ => Y) (callI (run P W n)) e) (gName i)) := by
  obtain ⟨l1, l2⟩ := locB_ok hl
  have l3 : X.fn y = true ∨ X.env.scope.names.lookup y = some .local := l2.imp (G.g.fn y) id
  have pe := (chkE_ok e G.g x h).pe
  rw [Bool.or_eq_true] at hc
  rcases hc with hc | hc
  · exact ps_set (i := i) G.g.nodup (G.g.at hi) l1 pe (swaps_of (not_of hc) _ _ _) l3
  · obtain ⟨he0, hc0⟩ := and_of hc
    cases e with
    | comp mu g own it cond elt =>
      obtain ⟨⟨xe, tg, xi, ifs, scope⟩, q, h0⟩ := optB_true h
      rw [Bool.or_eq_true] at hc0
      rcases hc0 with hc1 | hc1
      · obtain ⟨p2, rfl⟩ := comp?_eq q
        have hcell := isCell_ok hc1
        refine ps_set (i := i) G.g.nodup (G.g.at hi) l1 pe ?_ l3
        have ky : X.env.kindOf y = some .cell := hcell
        have hbk : X.env.blockKind = .function := by unfold Env.blockKind; rw [G.kind]; rfl
        unfold swapsWith
        simp only [hbk, ky]
        rfl
      · obtain ⟨h1, h2⟩ := and_of hc1
        obtain ⟨h3, h4⟩ := and_of h1
        obtain ⟨q', hq', h5⟩ := optB_true h2
        rw [q] at hq'
        cases hq'
        obtain ⟨p2, rfl⟩ := comp?_eq q
        have hloc := isLoc_ok h3
        have h5' : (scope.names.any fun (n, k) => n == y && (k == .local || k == .cell)) = false := not_of h5
        obtain ⟨h1, h2⟩ := and_of h0
        obtain ⟨h3, h4b⟩ := and_of h1
        obtain ⟨h5, h6⟩ := and_of h3
        obtain ⟨h7, h8⟩ := and_of h5
        obtain ⟨h9, h10⟩ := and_of h7
        obtain ⟨h11, h12⟩ := and_of h9
        have hslots : ∀ j ∈ g.slots, j ∈ own.map (·.2) := fun j hj => of_decide_eq_true (List.all_eq_true.mp h6 j hj)
        have hw := chkI_ok it G.g (tg := tg) xi h10 (fun z => z)
        have bOk : BlkOk X.N X.env.scope scope own := by rw [G.g.names]; exact blkOk_by h11
        have he : ∀ (s : Shared) (H : Hp) (C : Addr) (cs : List (Str × Addr)) (fp : List Addr), PE (X.blk s H scope (compEnvC scope cs C X.env) fp) xe (tI X.K cl noX (callI (run P W n)) elt) := fun s H C cs fp => (chkE_ok elt (G.g.blk s H scope cs C fp) xe h2).pe
        have hg : ∀ (s : Shared) (H : Hp) (C : Addr) (cs : List (Str × Addr)) (fp : List Addr), PG (X.blk s H scope (compEnvC scope cs C X.env) fp) tg (gI X.K g) := fun s H C cs fp => chkTg_ok (G.g.blk s H scope cs C fp) h8
        have ht : ∀ (s : Shared) (H : Hp) (C : Addr) (cs : List (Str × Addr)) (fp : List Addr), PTs (X.blk s H scope (compEnvC scope cs C X.env) fp) ifs (tTs X.K cl noX (callI (run P W n)) cond) := fun s H C cs fp => by
          rw [Bool.or_eq_true] at h4b
          rcases h4b with h4 | h4
          · obtain ⟨i1, i2⟩ := and_of h4
            have i3 : ifs = [] := List.isEmpty_iff.mp i1
            have i4 : cond = .yes := by cases cond <;> first | rfl | cases i2
            subst i3 i4
            exact pts_yes
          · obtain ⟨xc, i1, i2⟩ := optB_true h4
            have i3 : ifs = [xc] := one?_eq i1
            subst i3
            obtain ⟨i4, i5⟩ := and_of i2
            exact pts_one ((chkE_ok cond (G.g.blk s H scope cs C fp) xc i4).pt (not_of i5))
        exact PS.of (ps_setLc (i := i) G.g.calm G.g.nodup (G.g.at hi) hloc (sw_true G.kind hloc h4 h5') hw bOk hg ht he (folded_of (not_of h12) X.env)) fun D σ H h => comp_of (mu := mu) (fun _ _ _ z => z) (fun _ _ _ z => z) (fun _ _ _ z => z) hslots σ H _ h
    | compL mu g own o cond elt =>
      obtain ⟨⟨xe, tg, xi, ifs, scope⟩, q, h0⟩ := optB_true h
      rw [Bool.or_eq_true] at hc0
      rcases hc0 with hc1 | hc1
      · obtain ⟨p2, rfl⟩ := comp?_eq q
        have hcell := isCell_ok hc1
        refine ps_set (i := i) G.g.nodup (G.g.at hi) l1 pe ?_ l3
        have ky : X.env.kindOf y = some .cell := hcell
        have hbk : X.env.blockKind = .function := by unfold Env.blockKind; rw [G.kind]; rfl
        unfold swapsWith
        simp only [hbk, ky]
        rfl
      · obtain ⟨h1, h2⟩ := and_of hc1
        obtain ⟨h3, h4⟩ := and_of h1
        obtain ⟨q', hq', h5⟩ := optB_true h2
        rw [q] at hq'
        cases hq'
        obtain ⟨p2, rfl⟩ := comp?_eq q
        have hloc := isLoc_ok h3
        have h5' : (scope.names.any fun (n, k) => n == y && (k == .local || k == .cell)) = false := not_of h5
        obtain ⟨h1, h2⟩ := and_of h0
        obtain ⟨h3, h4b⟩ := and_of h1
        obtain ⟨h5, h6⟩ := and_of h3
        obtain ⟨h7, h8⟩ := and_of h5
        obtain ⟨h9, h10⟩ := and_of h7
        obtain ⟨h11, h12⟩ := and_of h9
        have hslots : ∀ j ∈ g.slots, j ∈ own.map (·.2) := fun j hj => of_decide_eq_true (List.all_eq_true.mp h6 j hj)
        have hw := pi_list (tg := tg) (chkE_ok o G.g xi h10).pe
        have bOk : BlkOk X.N X.env.scope scope own := by rw [G.g.names]; exact blkOk_by h11
        have he : ∀ (s : Shared) (H : Hp) (C : Addr) (cs : List (Str × Addr)) (fp : List Addr), PE (X.blk s H scope (compEnvC scope cs C X.env) fp) xe (tI X.K cl noX (callI (run P W n)) elt) := fun s H C cs fp => (chkE_ok elt (G.g.blk s H scope cs C fp) xe h2).pe
        have hg : ∀ (s : Shared) (H : Hp) (C : Addr) (cs : List (Str × Addr)) (fp : List Addr), PG (X.blk s H scope (compEnvC scope cs C X.env) fp) tg (gI X.K g) := fun s H C cs fp => chkTg_ok (G.g.blk s H scope cs C fp) h8
        have ht : ∀ (s : Shared) (H : Hp) (C : Addr) (cs : List (Str × Addr)) (fp : List Addr), PTs (X.blk s H scope (compEnvC scope cs C X.env) fp) ifs (tTs X.K cl noX (callI (run P W n)) cond) := fun s H C cs fp => by
          rw [Bool.or_eq_true] at h4b
          rcases h4b with h4 | h4
          · obtain ⟨i1, i2⟩ := and_of h4
            have i3 : ifs = [] := List.isEmpty_iff.mp i1
            have i4 : cond = .yes := by cases cond <;> first | rfl | cases i2
            subst i3 i4
            exact pts_yes
          · obtain ⟨xc, i1, i2⟩ := optB_true h4
            have i3 : ifs = [xc] := one?_eq i1
            subst i3
            obtain ⟨i4, i5⟩ := and_of i2
            exact pts_one ((chkE_ok cond (G.g.blk s H scope cs C fp) xc i4).pt (not_of i5))
        exact PS.of (ps_setLc (i := i) G.g.calm G.g.nodup (G.g.at hi) hloc (sw_true G.kind hloc h4 h5') hw bOk hg ht he (folded_of (not_of h12) X.env)) fun D σ H h => compL_of (mu := mu) (fun _ _ _ z => z) (fun _ _ _ z => z) hslots σ H _ h
    | _ => cases he0
mutual
theorem chkXS_ok : ∀ (s : St) {X : Cx} {Y : L2.St → XK} {fb : Str → Bool} (_ : Good P B GL N W n cl X Y fb) (_ : fb = fun _ => true) (st : Stmt), chkXS P B GL N s X.env.scope st = true → PS X st (tSy X.K cl Y (callI (run P W n)) W s)
  | .expr e, X, Y, fb, G, hf, st, h => by
    obtain ⟨⟨x, p⟩, q, h0⟩ := optB_true h
    have q' := sExpr?_eq q
    subst q'
    obtain ⟨h1, h2⟩ := and_of h0
    exact sy_expr (chkE_ok e G x h1).pe (swaps_of (not_of h2) _ _ _)
  | .asg i e, X, Y, fb, G, hf, st, h => by
    obtain ⟨⟨y, py, x, p⟩, q, h0⟩ := optB_true h
    have q' := sAsg?_eq q
    subst q'
    obtain ⟨h1, h2⟩ := and_of h0
    obtain ⟨h3, h4⟩ := and_of h1
    obtain ⟨h5, h6⟩ := and_of h3
    obtain ⟨l1, l2⟩ := locB_ok h6
    have l3 : X.fn y = true ∨ X.env.scope.names.lookup y = some .local := l2.imp (fun _ => G.fn y (by rw [hf])) id
    exact sy_asg (ps_set (i := i) G.nodup (G.at (of_decide_eq_true h5)) l1 (chkE_ok e G x h4).pe (swaps_of (not_of h2) _ _ _) l3)
  | .ite t a b, X, Y, fb, G, hf, st, h => by
    obtain ⟨⟨xt, sa, sb⟩, q, h0⟩ := optB_true h
    obtain ⟨p, q'⟩ := sIf?_eq q
    subst q'
    obtain ⟨h1, h2⟩ := and_of h0
    obtain ⟨h3, h4⟩ := and_of h1
    obtain ⟨h5, h6⟩ := and_of h3
    exact sy_if ((chkE_ok t G xt h5).pt (not_of h6)) (chkXB_ok a G hf sa h4) (chkXB_ok b G hf sb h2)
  | .par _ _ _ _, _, _, _, _, _, _, h => by cases h
  | .unp _ _, _, _, _, _, _, _, h => by cases h
  | .sub _ _ _, _, _, _, _, _, _, h => by cases h
  | .for_ _ _ _, _, _, _, _, _, _, h => by cases h
  | .while_ _ _, _, _, _, _, _, _, h => by cases h
  | .ret _, _, _, _, _, _, _, h => by cases h
  | .retN, _, _, _, _, _, _, h => by cases h
  | .pass, _, _, _, _, _, _, h => by cases h
  | .brk, _, _, _, _, _, _, h => by cases h
  | .cnt, _, _, _, _, _, _, h => by cases h
  | .no, _, _, _, _, _, _, h => by cases h
  | .forL _ _ _, _, _, _, _, _, _, h => by cases h
  | .pas _ _ _ _, _, _, _, _, _, _, h => by cases h
  | .raise_ _, _, _, _, _, _, _, h => by cases h
  | .try_ _ _ _ _, _, _, _, _, _, _, h => by cases h
  | .nil, _, _, _, _, _, _, h => by cases h
  | .seq _ _, _, _, _, _, _, _, h => by cases h
termination_by structural s => s
theorem chkXB_ok : ∀ (s : St) {X : Cx} {Y : L2.St → XK} {fb : Str → Bool} (_ : Good P B GL N W n cl X Y fb) (_ : fb = fun _ => true) (ss : List Stmt), chkXB P B GL N s X.env.scope ss = true → PSs X ss (tSy X.K cl Y (callI (run P W n)) W s)
  | .nil, X, Y, fb, G, hf, ss, h => by
    have e : ss = [] := List.isEmpty_iff.mp h
    subst e
    exact sy_nil
  | .seq a b, X, Y, fb, G, hf, ss, h => by
    obtain ⟨x, q, h0⟩ := optB_true h
    have q' := one?_eq q
    subst q'
    obtain ⟨h1, h2⟩ := and_of h0
    have hb : b = .nil := by cases b <;> first | rfl | cases h1
    subst hb
    exact sy_one (chkXS_ok a G hf x h2)
  | .expr _, _, _, _, _, _, _, h => by cases h
  | .asg _ _, _, _, _, _, _, _, h => by cases h
  | .ite _ _ _, _, _, _, _, _, _, h => by cases h
  | .par _ _ _ _, _, _, _, _, _, _, h => by cases h
  | .unp _ _, _, _, _, _, _, _, h => by cases h
  | .sub _ _ _, _, _, _, _, _, _, h => by cases h
  | .for_ _ _ _, _, _, _, _, _, _, h => by cases h
  | .while_ _ _, _, _, _, _, _, _, h => by cases h
  | .ret _, _, _, _, _, _, _, h => by cases h
  | .retN, _, _, _, _, _, _, h => by cases h
  | .pass, _, _, _, _, _, _, h => by cases h
  | .brk, _, _, _, _, _, _, h => by cases h
  | .cnt, _, _, _, _, _, _, h => by cases h
  | .no, _, _, _, _, _, _, h => by cases h
  | .forL _ _ _, _, _, _, _, _, _, h => by cases h
  | .pas _ _ _ _, _, _, _, _, _, _, h => by cases h
  | .raise_ _, _, _, _, _, _, _, h => by cases h
  | .try_ _ _ _ _, _, _, _, _, _, _, h => by cases h
termination_by structural s => s
end
mutual
theorem chkS_ok : ∀ (s : St) (_ : GoodS P B GL N W n cl X Y) (st : Stmt), chkS P B GL N s X.env.scope st = true → PS X st (tSt X.K cl Y (callI (run P W n)) W s)
  | .expr e, G, st, h => by
    obtain ⟨⟨x, p⟩, q, h0⟩ := optB_true h
    have q' := sExpr?_eq q
    subst q'
    obtain ⟨h1, h2⟩ := and_of h0
    exact ss_expr (chkE_ok e G.g x h1).pe (swaps_of (not_of h2) _ _ _)
  | .asg i e, G, st, h => by
    obtain ⟨⟨y, py, x, p⟩, q, h0⟩ := optB_true h
    have q' := sAsg?_eq q
    subst q'
    obtain ⟨h1, h2⟩ := and_of h0
    obtain ⟨h3, h4⟩ := and_of h1
    obtain ⟨h5, h6⟩ := and_of h3
    exact ss_asg (ps_setE G (of_decide_eq_true h5) h6 h4 h2)
  | .par i j a b, G, st, h => by
    obtain ⟨⟨y, py, z, pz, xa, xb⟩, q, h0⟩ := optB_true h
    obtain ⟨k, pt, k2, pt2, p, q'⟩ := sPar?_eq q
    subst q'
    obtain ⟨h1, hB⟩ := and_of h0
    obtain ⟨h2, hA⟩ := and_of h1
    obtain ⟨h3, h4⟩ := and_of h2
    obtain ⟨h5, h6⟩ := and_of h3
    obtain ⟨h7, h8⟩ := and_of h5
    obtain ⟨h9, h10⟩ := and_of h7
    obtain ⟨h11, h12⟩ := and_of h9
    obtain ⟨h13, h14⟩ := and_of h11
    obtain ⟨h15, h16⟩ := and_of h13
    obtain ⟨h17, h18⟩ := and_of h15
    obtain ⟨h19, h20⟩ := and_of h17
    obtain ⟨h21, h22⟩ := and_of h19
    have sa := star_cons (not_of h6) [xb] X.env
    have sb := star_cons (not_of h4) [] X.env
    have hij : i ≠ j := of_decide_eq_false (not_of h20)
    exact ss_par (xa := xa) (xb := xb) (ps_par G.g.calm G.g.nodup (G.g.at (of_decide_eq_true h21)) (G.g.at (of_decide_eq_true h22)) hij (isLoc_ok h18) (isLoc_ok h16) (pa_cons (chkE_ok a G.g xa hA).pe (pa_cons (chkE_ok b G.g xb hB).pe pa_nil sb) sa)
      (par_swap G.kind (isLoc_ok h18) (isLoc_ok h16) h14 (not_of h12) (not_of h10) (not_of h8) (not_of h6) (not_of h4)))
  | .unp is e, G, st, h => by
    obtain ⟨⟨es, x⟩, q, h0⟩ := optB_true h
    obtain ⟨k, pt, p, q'⟩ := sUnp?_eq q
    subst q'
    obtain ⟨h1, h2⟩ := and_of h0
    obtain ⟨h3, h4⟩ := and_of h1
    obtain ⟨h5, h6⟩ := and_of h3
    obtain ⟨k1, k2, k3⟩ := chkNms_ok G.g is es h5
    exact ss_unp (ps_asg (chkE_ok e G.g x h6).pe (pg_tup G.g.calm k1 k2 k3) (by show swapsWith x (some (Expr.Tuple es k pt)) p.line X.env = pure false; exact swaps_of (x := x) (not_of h2) _ _ _) (by
      have h4' := not_of h4
      have h4 : isTupE x = false := h4'
      cases x <;> first | rfl | cases h4))
  | .sub o i e, G, st, h => by
    obtain ⟨⟨xo, xi, x⟩, q, h0⟩ := optB_true h
    obtain ⟨p, p2, q'⟩ := sSub?_eq q
    subst q'
    obtain ⟨h1, h2⟩ := and_of h0
    obtain ⟨h3, h4⟩ := and_of h1
    obtain ⟨h5, h6⟩ := and_of h3
    obtain ⟨h7, h8⟩ := and_of h5
    have hsl : isSlice xi = false := not_of h7
    exact ss_sub (ps_asg (chkE_ok e G.g x h4).pe (pg_sub (chkE_ok o G.g xo h8).pe (chkE_ok i G.g xi h6).pe (set_A (by have := G.g.hu; omega)) (fun v => by cases xi <;> first | rfl | cases hsl)) (by show swapsWith x (some (Expr.Subscript xo xi p)) p2.line X.env = pure false; exact swaps_of (x := x) (not_of h2) _ _ _))
  | .pas i o j e, G, st, h => by
    obtain ⟨⟨y, xo, xi, x⟩, q, h0⟩ := optB_true h
    obtain ⟨py, pq, k, pt, p, q'⟩ := sPas?_eq q
    subst q'
    obtain ⟨h1, h2⟩ := and_of h0
    obtain ⟨h3, h4⟩ := and_of h1
    obtain ⟨h5, h6⟩ := and_of h3
    obtain ⟨h7, h8⟩ := and_of h5
    obtain ⟨h9, h10⟩ := and_of h7
    obtain ⟨h11, h12⟩ := and_of h9
    have hsl : isSlice xi = false := not_of h10
    obtain ⟨l1, l2⟩ := locB_ok h12
    refine ss_pas (ps_asg (chkE_ok e G.g x h4).pe (pg_tup G.g.calm (pgs_cons (pg_name G.g.nodup (G.g.at (of_decide_eq_true h11)) l1 (l2.imp (G.g.fn y) id)) (pgs_cons (pg_sub (chkE_ok o G.g xo h8).pe (chkE_ok j G.g xi h6).pe (set_A (by have := G.g.hu; omega)) (fun v => by cases xi <;> first | rfl | cases hsl)) pgs_nil))) (by show swapsWith x (some (Expr.Tuple [Expr.Name y py, xo.Subscript xi pq] k pt)) p.line X.env = pure false; exact swaps_of (x := x) (not_of h2) _ _ _) pas_none)
  | .ite t a b, G, st, h => by
    obtain ⟨⟨xt, sa, sb⟩, q, h0⟩ := optB_true h
    obtain ⟨p, q'⟩ := sIf?_eq q
    subst q'
    obtain ⟨h1, h2⟩ := and_of h0
    obtain ⟨h3, h4⟩ := and_of h1
    obtain ⟨h5, h6⟩ := and_of h3
    exact ss_if ((chkE_ok t G.g xt h5).pt (not_of h6)) (chkB_ok a G sa h4) (chkB_ok b G sb h2)
  | .for_ g it b, G, st, h => by
    obtain ⟨⟨tg, xi, sb⟩, q, h0⟩ := optB_true h
    obtain ⟨p, q'⟩ := sFor?_eq q
    subst q'
    obtain ⟨h1, h2⟩ := and_of h0
    obtain ⟨h3, h4⟩ := and_of h1
    obtain ⟨h5, h6⟩ := and_of h3
    exact ss_for G.own G.g.calm (chkI_ok it G.g (tg := tg) xi h4 (fun z => z)) (chkTg_ok G.g h5) (chkB_ok b G sb h2) (folded_of (not_of h6) X.env)
  | .while_ t b, G, st, h => by
    obtain ⟨⟨xt, sb⟩, q, h0⟩ := optB_true h
    obtain ⟨p, q'⟩ := sWhile?_eq q
    subst q'
    obtain ⟨h1, h2⟩ := and_of h0
    obtain ⟨h3, h4⟩ := and_of h1
    exact ss_while G.own ((chkE_ok t G.g xt h3).pt (not_of h4)) (chkB_ok b G sb h2)
  | .ret e, G, st, h => by
    obtain ⟨o, q, h0⟩ := optB_true h
    obtain ⟨x, q2, h1⟩ := optB_true h0
    obtain ⟨p, q'⟩ := sRet?_eq q
    subst q' q2
    exact ss_ret (chkE_ok e G.g x h1).pe
  | .no, G, st, h => PS.of ps_never fun D σ H ⟨Hf, Fr, m, S, ρ, s, er, q⟩ => q
  | .forL g o b, G, st, h => by
    obtain ⟨⟨tg, xi, sb⟩, q, h0⟩ := optB_true h
    obtain ⟨p, q'⟩ := sFor?_eq q
    subst q'
    obtain ⟨h1, h2⟩ := and_of h0
    obtain ⟨h3, h4⟩ := and_of h1
    obtain ⟨h5, h6⟩ := and_of h3
    exact ss_forL G.own G.g.calm (chkE_ok o G.g xi h4).pe (chkTg_ok G.g h5) (chkB_ok b G sb h2) (folded_of (not_of h6) X.env)
  | .retN, G, st, h => by
    obtain ⟨o, q, h0⟩ := optB_true h
    obtain ⟨p, q'⟩ := sRet?_eq q
    subst q'
    cases o with
    | none => exact ss_retN
    | some _ => cases h0
  | .pass, G, st, h => by
    cases st <;> first | exact ss_pass | cases h
  | .brk, G, st, h => by
    cases st <;> first | exact ss_brk | cases h
  | .cnt, G, st, h => by
    cases st <;> first | exact ss_cnt | cases h
  | .raise_ c, G, st, h => by
    obtain ⟨d, q, h0⟩ := optB_true h
    obtain ⟨p, m, j, p2, pos, pos2, q'⟩ := sRaise?_eq q
    subst q'
    obtain ⟨h1, h2⟩ := and_of h0
    obtain ⟨h3, h4⟩ := and_of h1
    obtain ⟨h5, h6⟩ := and_of h3
    have e : d = c := of_decide_eq_true h5
    subst e
    obtain ⟨C, hcl, F⟩ := G.g.exc d (of_decide_eq_true h6)
    exact ss_raise G.g.calm G.tk F hcl (glB_ok h4) (not_of h2)
  | .try_ j i cs b, G, st, h => by
    obtain ⟨⟨body, dn, en, y, e2⟩, q, h0⟩ := optB_true h
    obtain ⟨p1, p2, p3, p4, p5, p6, q'⟩ := sTry?_eq q
    subst q'
    obtain ⟨h1, hb⟩ := and_of h0
    obtain ⟨h2, hne⟩ := and_of h1
    obtain ⟨h3, hcs⟩ := and_of h2
    obtain ⟨h4, hcd⟩ := and_of h3
    obtain ⟨h5, hdb⟩ := and_of h4
    obtain ⟨h6, hgl⟩ := and_of h5
    obtain ⟨h7, hly⟩ := and_of h6
    obtain ⟨h8, hle⟩ := and_of h7
    obtain ⟨h9, hj⟩ := and_of h8
    obtain ⟨h10, hi⟩ := and_of h9
    obtain ⟨h11, h12⟩ := and_of h10
    have e1 : dn = "DealError" := of_decide_eq_true h11
    have e2 : en = e2 := of_decide_eq_true h12
    subst e1 e2
    have hin : ∀ c ∈ cs, c ∈ GL.2 := fun c hc => of_decide_eq_true (List.all_eq_true.mp hcs c hc)
    cases cs with
    | nil => cases hne
    | cons c0 r =>
      obtain ⟨C0, hcl0, F0⟩ := G.g.exc c0 (hin c0 List.mem_cons_self)
      obtain ⟨D, mD, _⟩ := F0.m
      refine ss_try (D := D) G.st G.fr G.ex G.g.nodup (G.g.at (of_decide_eq_true hi)) (isLoc_ok hle) (G.g.at (of_decide_eq_true hj)) (isLoc_ok hly) (glB_ok hgl) (by decide) mD (not_of hdb) (not_of hcd) (fun c hc => ?_) (fun W' q xe tk own => ?_)
      · obtain ⟨C, hcl, F⟩ := G.g.exc c (hin c hc)
        obtain ⟨D', mD', hm⟩ := F.m
        rw [mD] at mD'
        cases mD'
        rw [hcl]
        exact ⟨F.ns, hm⟩
      · exact chkXB_ok b (X := X.tr q xe) (fb := fun _ => true) ⟨G.g.names, G.g.nd, G.g.calm, G.g.fn, G.g.room, G.g.guards, G.g.blt, G.g.gls, G.g.fns, fun σ => passAt tk σ, G.g.exc⟩ rfl body hb
  | .nil, _, _, h => by cases h
  | .seq _ _, _, _, h => by cases h
termination_by structural s => s
theorem chkB_ok : ∀ (s : St) (_ : GoodS P B GL N W n cl X Y) (ss : List Stmt), chkB P B GL N s X.env.scope ss = true → PSs X ss (tSt X.K cl Y (callI (run P W n)) W s)
  | .nil, G, ss, h => by
    have e : ss = [] := List.isEmpty_iff.mp h
    subst e
    exact ss_nil
  | .seq a b, G, ss, h => by
    obtain ⟨⟨x, t⟩, q, h0⟩ := optB_true h
    have q' := cons?_eq q
    subst q'
    obtain ⟨h1, h2⟩ := and_of h0
    exact ss_seq (chkS_ok a G x h1) (chkB_ok b G t h2)
  | .expr _, _, _, h => by cases h
  | .asg _ _, _, _, h => by cases h
  | .par _ _ _ _, _, _, h => by cases h
  | .unp _ _, _, _, h => by cases h
  | .sub _ _ _, _, _, h => by cases h
  | .ite _ _ _, _, _, h => by cases h
  | .for_ _ _ _, _, _, h => by cases h
  | .while_ _ _, _, _, h => by cases h
  | .ret _, _, _, h => by cases h
  | .retN, _, _, h => by cases h
  | .pass, _, _, h => by cases h
  | .brk, _, _, h => by cases h
  | .cnt, _, _, h => by cases h
  | .no, _, _, h => by cases h
  | .forL _ _ _, _, _, h => by cases h
  | .pas _ _ _ _, _, _, h => by cases h
  | .raise_ _, _, _, h => by cases h
  | .try_ _ _ _ _, _, _, h => by cases h
termination_by structural s => s
end
end
/-! ### the refusals' classes -/
def clF (K : PySem.W.Frag) (c : Str) : Value := (clsK K c).getD .none
abbrev spC (K : PySem.W.Frag) (P : Nat → Option Fn) (W n f : Nat) : Sp := spI K (clF K) P W n f
/-- what must be said of each class that is asked of -/
structure ClF (K : PySem.W.Frag) (D : Addr) : Prop where
  d : PySem.W.hasDictIn K D = true
  t : PySem.W.typeIn K (.ref D) = some (.type "type")
theorem cls_some {K : PySem.W.Frag} {D : Addr} (F : ClF K D) : (PySem.W.clsIn K D).isSome = true := by
  obtain ⟨cd, hc, _⟩ := PySem.W.any_some F.d
  rw [hc]
  rfl
theorem kit_ref {K : PySem.W.Frag} {C D : Addr} {b : Bool} (F : ClF K D) (hs : PySem.W.subIn K (.ref C) (.ref D) = some b) (hself : PySem.W.subIn K (.ref C) (.ref C) = some true) : PySem.W.kitOne K (.ref C) (.ref D) = some b := by
  show (if (Value.ref C == Value.ref D) = true then some true else PySem.W.kitCls K (.ref C) (.ref D)) = some b
  by_cases q : (Value.ref C == Value.ref D) = true
  · rw [if_pos q]
    have e : Value.ref C = Value.ref D := eq_of_beq q
    rw [← e, hself] at hs
    exact hs
  · rw [if_neg q]
    show (if ((PySem.W.clsIn K D).isSome && PySem.W.typeIn K (.ref D) == some (.type "type")) = true then PySem.W.subIn K (.ref C) (.ref D) else none) = some b
    rw [if_pos (by rw [cls_some F, F.t]; rfl)]
    exact hs
theorem kit_val {K : PySem.W.Frag} {C : Addr} (hs : PySem.W.subIn K (.ref C) (.type "ValueError") = some true) : PySem.W.kitOne K (.ref C) (.type "ValueError") = some true := by
  show (if (Value.ref C == Value.type "ValueError") = true then some true else PySem.W.kitCls K (.ref C) (.type "ValueError")) = some true
  by_cases q : (Value.ref C == Value.type "ValueError") = true
  · rw [if_pos q]
  · rw [if_neg q]
    show (if PySem.W.kitMeta "ValueError" = true then PySem.W.subIn K (.ref C) (.type "ValueError") else none) = some true
    rw [if_pos (by decide +kernel)]
    exact hs
theorem exm_of {K : PySem.W.Frag} {C D : Addr} (F : ClF K D) (hb : PySem.W.subIn K (.ref D) (.type "BaseException") = some true) (hs : PySem.W.subIn K (.ref C) (.ref D) = some true) : PySem.W.exmOne K (.ref C) (.ref D) = some true := PySem.W.exm_ref hb F.d F.t hs
def IsOf (K : PySem.W.Frag) (mg : Str → Option Value) (C : Addr) (c T : Str) : Prop := ∃ D, mg T = some (.ref D) ∧ PySem.W.kitOne K (.ref C) (.ref D) = some (decide (T = c))
theorem exc_is {K : PySem.W.Frag} {mg : Str → Option Value} {C : Addr} {c : Str} (hc : c ∈ exN)
    (h : IsOf K mg C c "NoBook" ∧ IsOf K mg C c "NoCosts" ∧ IsOf K mg C c "NoDeal" ∧ IsOf K mg C c "NoHand" ∧ IsOf K mg C c "NoRooms" ∧ IsOf K mg C c "NoRow" ∧ IsOf K mg C c "NoText" ∧ IsOf K mg C c "NoWay" ∧ IsOf K mg C c "NoWeights" ∧ IsOf K mg C c "NoWork" ∧ IsOf K mg C c "TooMany")
    (hD : ∃ D, mg "DealError" = some (.ref D) ∧ PySem.W.kitOne K (.ref C) (.ref D) = some true) (hz : mg "ValueError" = none) (hV : PySem.W.kitOne K (.ref C) (.type "ValueError") = some true) :
    ∀ T b, excIs c T = some b → (∃ D, mg T = some (.ref D) ∧ PySem.W.kitOne K (.ref C) (.ref D) = some b) ∨ (T = "ValueError" ∧ mg T = none ∧ PySem.W.kitOne K (.ref C) (.type "ValueError") = some b) := fun T b hb => by
  unfold excIs at hb
  rw [if_pos hc] at hb
  by_cases hT : T ∈ exN
  · rw [if_pos hT] at hb
    cases hb
    obtain ⟨h1, h2, h3, h4, h5, h6, h7, h8, h9, h10, h11⟩ := h
    simp only [exN, List.mem_cons, List.not_mem_nil, or_false] at hT
    rcases hT with rfl | rfl | rfl | rfl | rfl | rfl | rfl | rfl | rfl | rfl | rfl
    · exact .inl h1
    · exact .inl h2
    · exact .inl h3
    · exact .inl h4
    · exact .inl h5
    · exact .inl h6
    · exact .inl h7
    · exact .inl h8
    · exact .inl h9
    · exact .inl h10
    · exact .inl h11
  · rw [if_neg hT] at hb
    by_cases h2 : T = "DealError" ∨ T = "ValueError"
    · rw [if_pos h2] at hb
      cases hb
      rcases h2 with rfl | rfl
      · exact .inl hD
      · exact .inr ⟨rfl, hz, hV⟩
    · rw [if_neg h2] at hb
      cases hb
/-! ### defs -/
theorem start_env {K : PySem.W.Frag} {Hf : Hp} {m : List Addr} {args : List Val} {vs : List V} (k : Nat) (r : Reps K Hf m args vs) : EnvR K Hf m (startE k args) (args.length |> fun _ => vs.map some ++ List.replicate (k - vs.length) none) := by
  have hl := r.length
  refine ⟨by unfold startE; simp [hl], fun i v e => ?_⟩
  unfold startE at e
  have hi : i < args.length := by
    by_cases hi : i < args.length
    · exact hi
    · rw [List.getElem?_append_right (by simpa using hi), List.getElem?_replicate] at e
      split at e <;> cases e
  rw [List.getElem?_append_left (by simpa using hi), List.getElem?_map] at e
  cases q : args[i]? with
  | none => rw [q] at e; cases e
  | some w =>
    rw [q] at e
    have e' : w = v := by simpa using e
    subst e'
    obtain ⟨x, h1, h2⟩ := r.get q
    refine ⟨x, ?_, h2⟩
    show (vs.map some ++ _)[i]? = _
    rw [List.getElem?_append_left (by rw [List.length_map, ← hl]; exact hi), List.getElem?_map, h1]
    rfl
/-- where a def of the table stands -/
structure FnAt (K : PySem.W.Frag) (mg : Str → Option Value) (P : Nat → Option Fn) (B : List Str) (GL : GLt) (d : Fn) (st : Stmt) (a : Addr) (fd : FuncData) : Prop where
  fn : Fun K d.name d.name st a fd
  mg : mg d.name = some (.ref a)
  binds : Binds K fd d.ps []
  scope : FnScope d.N d.ps (defScope st)
  body : chkB P B GL d.N d.body (defScope st) (defBody st) = true
theorem run_len {K : PySem.W.Frag} {cl : Str → Value} {P : Nat → Option Fn} {W n f : Nat} {d : Fn} (hd : P f = some d) {vs : List V} {H : Hp} {Q : VK} {Y : XK} (h : spI K cl P W n f vs H Q Y) : vs.length = d.ps.length := by
  obtain ⟨Hf, Fr, m, S, args, s, r, q⟩ := h
  rw [← r.length]
  cases n with
  | zero => exact q.elim
  | succ n =>
    have q' : QE K cl Y Hf Fr m Q (match P f with
      | some d => if args.length = d.ps.length then (execS (callI (run P W n)) W d.body (startE d.N.length args) S).res else .bad
      | none => .bad) := q
    rw [hd] at q'
    by_cases c : args.length = d.ps.length
    · exact c
    · have q2 : QE K cl Y Hf Fr m Q (if args.length = d.ps.length then (execS (callI (run P W n)) W d.body (startE d.N.length args) S).res else .bad) := q'
      rw [if_neg c] at q2
      exact q2.elim
theorem res_out {K : PySem.W.Frag} {cl : Str → Value} {Y : XK} {Hf Fr : Hp} {m : List Addr} {Q : VK} : ∀ {o : Out}, QE K cl Y Hf Fr m Q o.res → QO K cl Y Hf Fr m { nx := fun _ H' => Q .non H', rt := Q } o
  | .nxt _ _, h => fun σ H Hf' m' e p s r => h .non H Hf' m' e p s rfl
  | .ret _ _, h => h
  | .ex _ _, h => h
  | .brk _ _, h => h.elim
  | .cnt _ _, h => h.elim
  | .bad, h => h
theorem fns_ok {Pr : Program} {w : World} {K : PySem.W.Frag} {mg : Str → Option Value} {base : Heap} {P : Nat → Option Fn} {B : List Str} {GL : GLt} {W : Nat} {cl : Str → Value} (hB : ∀ x ∈ B, mg x = none) (hG : ∀ x k, (x, k) ∈ GL.1 → ∃ u, mg x = some u ∧ RelV (kV k) u) (hE : ∀ c ∈ GL.2, ∃ C, cl c = .ref C ∧ ExcF K mg c C)
    (T : ∀ f d, P f = some d → ∃ st a fd, FnAt K mg P B GL d st a fd) : ∀ (n f : Nat) (d : Fn) (st : Stmt) (a : Addr) (fd : FuncData), P f = some d → FnAt K mg P B GL d st a fd → FnG Pr w K mg base (L2.CX Pr w) n a fd d.ps (spI K cl P W n f) := by
  intro n
  induction n with
  | zero =>
    intro f d st a fd hd F
    exact ⟨fun vs H Q Y h => run_len hd h, fun A outer s H args us vs Q Y hgd hr e0 hb hv ⟨_, _, _, _, _, _, _, q⟩ => q.elim⟩
  | succ n ih =>
    intro f d st a fd hd F
    refine fun_g F.fn F.scope (fun vs H Q Y h => run_len hd h) fun cdv A outer s H vs Q Y hgd hr h => ?_
    have hlen := run_len hd h
    obtain ⟨Hf, Fr, m, S, args, sm, r, q⟩ := h
    have q' : QE K cl Y Hf Fr m Q (match P f with
      | some d => if args.length = d.ps.length then (execS (callI (run P W n)) W d.body (startE d.N.length args) S).res else .bad
      | none => .bad) := q
    rw [hd] at q'
    have q2 : QE K cl Y Hf Fr m Q (if args.length = d.ps.length then (execS (callI (run P W n)) W d.body (startE d.N.length args) S).res else .bad) := q'
    rw [if_pos (by rw [r.length]; exact hlen)] at q2
    have tk : Takes (cxOf (L2.CX Pr w) Pr w K mg base d.N d.name (defScope st) a cdv A outer s H Y) (fun cls dd _ H => Y cls dd H) := takes_of rfl rfl rfl rfl
    have G : GoodS P B GL d.N W n cl (cxOf (L2.CX Pr w) Pr w K mg base d.N d.name (defScope st) a cdv A outer s H Y) Y :=
      ⟨⟨rfl, F.scope.nd, rfl, fun _ _ => rfl, hr, hgd, hB, hG, fun f' d' hd' => by
        obtain ⟨st', a', fd', F'⟩ := T f' d' hd'
        exact ⟨a', fd', F'.mg, F'.fn.kp, F'.binds, ih f' d' st' a' fd' hd' F'⟩, fun σ pins H s e s' I h => passes_call tk (fun _ _ _ _ h => h) pins σ H s e s' I h, hE⟩, F.scope.kind, passes_of rfl, tk, rfl, rfl, rfl⟩
    exact ⟨_, chkB_ok d.body G (defBody st) F.body, Hf, Fr, m, S, startE d.N.length args, sm, start_env d.N.length r, res_out q2⟩
theorem law_sp {K : PySem.W.Frag} {H : Hp} {a : Addr} {ns : List Int} {cl : Str → Value} {P : Nat → Option Fn} {W n f : Nat} (hO : Only H) (hS : SqL K H a (ns.map V.int)) (h : ∃ S', run P W n f [.lst (ns.map Val.int)] [] = .ok (.bl true) S') :
    spI K cl P W n f [.ref a] H (fun v _ => v = .bl true) (fun _ _ _ => False) := by
  obtain ⟨S', e⟩ := h
  have hr : ∀ ns : List Int, Reps K H [] (ns.map Val.int) (ns.map V.int) := fun ns => by
    induction ns with
    | nil => exact .nil
    | cons n ns ih => exact .cons rfl ih
  refine ⟨H, fun _ => none, [], [], [.lst (ns.map Val.int)], ⟨Evl.Ex.refl _, fun _ _ z => (by cases z), fun _ _ z => (by cases z), List.nodup_nil, rfl, fun _ z => (by cases z), fun _ _ _ z => (by simp at z)⟩, .cons ⟨a, ns.map V.int, rfl, hS, hr ns⟩ .nil, ?_⟩
  rw [e]
  exact fun x _ _ _ _ _ _ r => r
theorem cx_false {P : Program} {w : World} {H : Hp} {s s' : Shared} {e : Value} (h : L2.CX P w [] H s (fun _ _ _ => False) e s') : False := by
  obtain ⟨_, _, _, _, _, _, _, _, _, _, _, _, z⟩ := h
  exact z.elim
end Iv
/-! Iv12: the interpreter run by rewriting, without functions under way. -/
namespace Iv
open PySem
section
variable (Φ : Option Bool → Nat → List Val → Store → R Val) (W : Nat)
/-! what is left to do behind a part -/
def kTup : R (List Val) → R Val | .ok vs S => if vs.length ≤ lim then .ok (.tup vs) S else .bad | .ex c S => .ex c S | .bad => .bad
def kLst (mu : Bool) : R (List Val) → R Val | .ok vs S => if vs.length ≤ lim then mk mu vs S else .bad | .ex c S => .ex c S | .bad => .bad
def kBin1 (o : Bop) (b : E) (ρ : Env) (r : R Val) : R Val := r.bind fun v S1 => (evalE Φ b ρ S1).bind fun w S2 => .of (binV o v w) S2
def kBin2 (o : Bop) (v : Val) (r : R Val) : R Val := r.bind fun w S2 => .of (binV o v w) S2
def kNeg (r : R Val) : R Val := r.bind fun v S1 => match v with
    | .int i => .ok (.int (-i)) S1
    | _ => .bad
def kCmp1 (o : Cop) (b : E) (ρ : Env) (r : R Val) : R Val := r.bind fun v S1 => (evalE Φ b ρ S1).bind fun w S2 => .of ((cmpV S2 o v w).map .bl) S2
def kCmp2 (o : Cop) (v : Val) (r : R Val) : R Val := r.bind fun w S2 => .of ((cmpV S2 o v w).map .bl) S2
def kCh1 (o o' : Cop) (b c : E) (ρ : Env) (r : R Val) : R Val := r.bind fun v S1 => (evalE Φ b ρ S1).bind fun w S2 => match cmpV S2 o v w with
    | some true => (evalE Φ c ρ S2).bind fun u S3 => .of ((cmpV S3 o' w u).map .bl) S3
    | some false => .ok (.bl false) S2
    | none => .bad
def kCh2 (o o' : Cop) (v : Val) (c : E) (ρ : Env) (r : R Val) : R Val := r.bind fun w S2 => match cmpV S2 o v w with
    | some true => (evalE Φ c ρ S2).bind fun u S3 => .of ((cmpV S3 o' w u).map .bl) S3
    | some false => .ok (.bl false) S2
    | none => .bad
def kCh3 (o' : Cop) (w : Val) (c : E) (ρ : Env) (k : Option Bool) (S2 : Store) : R Val := match k with
    | some true => (evalE Φ c ρ S2).bind fun u S3 => .of ((cmpV S3 o' w u).map .bl) S3
    | some false => .ok (.bl false) S2
    | none => .bad
def kAnd (b : E) (ρ : Env) (r : R Val) : R Val := r.bind fun v S1 => asBool v fun k => if k then evalE Φ b ρ S1 else .ok (.bl false) S1
def kOr (b : E) (ρ : Env) (r : R Val) : R Val := r.bind fun v S1 => asBool v fun k => if k then .ok (.bl true) S1 else evalE Φ b ρ S1
def kNot (r : R Val) : R Val := r.bind fun v S1 => asBool v fun k => .ok (.bl (!k)) S1
def kIte (a b : E) (ρ : Env) (r : R Val) : R Val := r.bind fun v S1 => asBool v fun k => if k then evalE Φ a ρ S1 else evalE Φ b ρ S1
def kCall (mu : Option Bool) (f : Nat) (r : R (List Val)) : R Val := r.bind fun vs S1 => Φ mu f vs S1
def kCallR (f : Nat) (r : R (List Val)) : R Val := r.bind fun vs S1 => roR (Φ none f) vs S1
def kBlt (f : Blt) (r : R (List Val)) : R Val := r.bind fun vs S1 => .of (bltV S1 f vs) S1
def kIsx (cs : List Str) (T : Str) (r : R Val) : R Val := r.bind fun v S1 => match v with
    | .exc c => if c ∈ cs then .of ((excIs c T).map .bl) S1 else .bad
    | _ => .bad
def kIsi (T : String) (r : R Val) : R Val := r.bind fun v S1 => .of ((isT S1 T v).map .bl) S1
def kIx1 (i : E) (ρ : Env) (r : R Val) : R Val := r.bind fun v S1 => (evalE Φ i ρ S1).bind fun w S2 => .of (ixV S2 v w) S2
def kIx2 (v : Val) (r : R Val) : R Val := r.bind fun w S2 => .of (ixV S2 v w) S2
def kSl1 (lo hi : E) (ρ : Env) (r : R Val) : R Val := r.bind fun v S1 => (evalO Φ lo ρ S1).bind fun l S2 => (evalO Φ hi ρ S2).bind fun h S3 => .of (sliceV S3 v l h) S3
def kSl2 (v : Val) (hi : E) (ρ : Env) (r : R (Option Int)) : R Val := r.bind fun l S2 => (evalO Φ hi ρ S2).bind fun h S3 => .of (sliceV S3 v l h) S3
def kSl3 (v : Val) (l : Option Int) (r : R (Option Int)) : R Val := r.bind fun h S3 => .of (sliceV S3 v l h) S3
def kPart (r : R Val) : R (Option Int) := r.bind fun v S1 => match v with
    | .int i => .ok (some i) S1
    | _ => .bad
def kCons1 (e : E) (ρ : Env) (r : R Val) : R (List Val) := r.bind fun v S1 => (evalA Φ e ρ S1).bind fun vs S2 => .ok (v :: vs) S2
def kCons2 (v : Val) (r : R (List Val)) : R (List Val) := r.bind fun vs S2 => .ok (v :: vs) S2
def compTurn (g : Tg) (own : List (Str × Nat)) (cond elt : E) (ρ : Env) (x : Val) (S2 : Store) : R (Option Val) :=
  match setTg (wipeE ρ (own.map (·.2))) g x with
  | some ρ' => ((evalE Φ cond ρ' S2).bind fun c S3 => asBool c fun k => if k then (evalE Φ elt ρ' S3).bind fun v S4 => .ok (some v) S4 else .ok none S3).mute
  | none => .bad
def kComp1 (mu : Bool) (g : Tg) (own : List (Str × Nat)) (cond elt : E) (ρ : Env) (r : R (List Val)) : R Val := r.bind fun xs S1 => (compGo (compTurn Φ g own cond elt ρ) xs [] S1).bind fun vs S2 => mk mu vs S2
def kComp2 (mu : Bool) (r : R (List Val)) : R Val := r.bind fun vs S2 => mk mu vs S2
def kMth1 (m : Mth) (es : E) (ρ : Env) (r : R Val) : R Val := r.bind fun v S1 => if rcv S1 m v then (evalA Φ es ρ S1).bind fun vs S2 => mthV m v vs S2 else .bad
def kMth2 (m : Mth) (v : Val) (es : E) (ρ : Env) (S1 : Store) (k : Bool) : R Val := if k then (evalA Φ es ρ S1).bind fun vs S2 => mthV m v vs S2 else .bad
def kMth3 (m : Mth) (v : Val) (r : R (List Val)) : R Val := r.bind fun vs S2 => mthV m v vs S2
def kRng (r : R Val) : R (List Val) := r.bind fun v S1 => match v with
    | .int n => if -(2 ^ 62) ≤ n ∧ n < 2 ^ 62 then .ok (rangeV 0 n.toNat) S1 else .bad
    | _ => .bad
def kRng1 (b : E) (ρ : Env) (r : R Val) : R (List Val) := r.bind fun v S1 => (evalE Φ b ρ S1).bind fun w S2 => rngR v w S2
def kRng2 (v : Val) (r : R Val) : R (List Val) := r.bind fun w S2 => rngR v w S2
def kEnum (r : R Val) : R (List Val) := r.bind fun v S1 => match v with
    | .lst vs => .ok (pairs 0 vs) S1
    | .tup vs => .ok (pairs 0 vs) S1
    | _ => .bad
def kZip1 (b : E) (ρ : Env) (r : R Val) : R (List Val) := r.bind fun v S1 => (evalE Φ b ρ S1).bind fun w S2 => zipR v w S2
def kZip2 (v : Val) (r : R Val) : R (List Val) := r.bind fun w S2 => zipR v w S2
def kDsp2 (mu : Bool) (q : Val) (r : R Val) : R Val := r.mute.bind fun w S2 => dspR mu q w S2
def kDsp1 (mu : Bool) (v : E) (ρ : Env) (r : R Val) : R Val := r.mute.bind fun q S1 => kDsp2 mu q (evalE Φ v ρ S1)
def kVals (r : R Val) : R (List Val) := r.bind fun v S1 => match v with
    | .tup vs => .ok vs S1
    | .lst vs => .ok vs S1
    | .dct false ks _ => .ok (ks.map (keyV false)) S1
    | .str s => .ok (s.cps.toList.map fun c => .str ⟨#[c]⟩) S1
    | _ => .bad
def kTx1 (j : Bool) (b : E) (ρ : Env) (r : R Val) : R Val := r.bind fun v S1 => match v with
    | .str s => (evalE Φ b ρ S1).bind fun w S2 => txR j s w S2
    | _ => .bad
def kTx2 (j : Bool) (s : Str) (r : R Val) : R Val := r.bind fun w S2 => txR j s w S2
def kCat1 (mu : Bool) (b : E) (ρ : Env) (r : R Val) : R Val := r.bind fun v S1 => (evalE Φ b ρ S1).bind fun w S2 => catV mu v w S2
def kCat2 (mu : Bool) (v : Val) (r : R Val) : R Val := r.bind fun w S2 => catV mu v w S2
def kRep1 (mu : Bool) (b : E) (ρ : Env) (r : R (List Val)) : R Val := r.bind fun vs S1 => if vs.length ≤ lim then (evalE Φ b ρ S1).mute.bind fun w S2 => repV mu vs w S2 else .bad
def kRep2 (mu : Bool) (vs : List Val) (r : R Val) : R Val := r.mute.bind fun w S2 => repV mu vs w S2
def kU (o : Uop) (r : R Val) : R Val := r.bind fun v S1 => uV o v S1
def kRl1 (k : Option Bool) (r : R Val) : R Val := r.bind fun v S1 => match v with
    | .int n => if -(2 ^ 62) ≤ n ∧ n < 2 ^ 62 ∧ n.toNat ≤ lim then rlV k (rangeV 0 n.toNat) S1 else .bad
    | _ => .bad
def kRl2 (k : Option Bool) (b : E) (ρ : Env) (r : R Val) : R Val := r.bind fun v S1 => (evalE Φ b ρ S1).bind fun w S2 => rlR k v w S2
def kRl3 (k : Option Bool) (v : Val) (r : R Val) : R Val := r.bind fun w S2 => rlR k v w S2
def kCompL (mu : Bool) (g : Tg) (own : List (Str × Nat)) (cond elt : E) (ρ : Env) (r : R Val) : R Val := r.bind fun v S0 => match v with
    | .loc n => (compLive (compTurn Φ g own cond elt ρ) n (lenAt S0 n) 0 (lenAt S0 n) [] S0).bind fun vs S2 => mk mu vs S2
    | _ => .bad
/-! a comprehension's turn -/
def kTrn1 (cond elt : E) (S2 : Store) (o : Option Env) : R (Option Val) := match o with
  | some ρ' => ((evalE Φ cond ρ' S2).bind fun c S3 => asBool c fun k => if k then (evalE Φ elt ρ' S3).bind fun v S4 => .ok (some v) S4 else .ok none S3).mute
  | none => .bad
def kTrn2 (elt : E) (ρ' : Env) (r : R Val) : R (Option Val) := (r.bind fun c S3 => asBool c fun k => if k then (evalE Φ elt ρ' S3).bind fun v S4 => .ok (some v) S4 else .ok none S3).mute
def kTrn3 (r : R Val) : R (Option Val) := (r.bind fun v S4 => .ok (some v) S4).mute
/-! statements -/
def forLS (g : Tg) (b : St) (n len i k : Nat) (ρ : Env) (S : Store) : Out := forLive g (fun ρ1 S2 => execS Φ W b ρ1 S2) n len i k ρ S
def kForL (g : Tg) (b : St) (ρ : Env) (r : R Val) : Out := r.go fun v S0 => match v with
    | .loc n => forLS Φ W g b n (lenAt S0 n) 0 (lenAt S0 n) ρ S0
    | .tup xs => forGo g (fun ρ1 S2 => execS Φ W b ρ1 S2) xs ρ S0
    | .lst xs => forGo g (fun ρ1 S2 => execS Φ W b ρ1 S2) xs ρ S0
    | _ => .bad
def kPas3 (w ov : Val) (ρ : Env) (r : R Val) : Out := r.go fun jv S3 => match storeSub S3 ov jv w with
      | some S4 => .nxt ρ S4
      | none => .bad
def kPas2 (w : Val) (j : E) (ρ : Env) (r : R Val) : Out := r.go fun ov S2 => (evalE Φ j ρ S2).go fun jv S3 => match storeSub S3 ov jv w with
      | some S4 => .nxt ρ S4
      | none => .bad
def kPas1 (i : Nat) (o j : E) (ρ : Env) (r : R Val) : Out := r.go fun v S1 => match v with
    | .tup [x, w] => (evalE Φ o (ρ.set i (some x)) S1).go fun ov S2 => (evalE Φ j (ρ.set i (some x)) S2).go fun jv S3 => match storeSub S3 ov jv w with
      | some S4 => .nxt (ρ.set i (some x)) S4
      | none => .bad
    | _ => .bad
def kSeq (r : St) (o : Out) : Out := o.then fun ρ1 S1 => execS Φ W r ρ1 S1
def kExpr (ρ : Env) (r : R Val) : Out := r.go fun _ S1 => .nxt ρ S1
def kAsg (i : Nat) (ρ : Env) (r : R Val) : Out := r.go fun v S1 => .nxt (ρ.set i (some v)) S1
def kPar1 (i j : Nat) (b : E) (ρ : Env) (r : R Val) : Out := r.go fun v S1 => (evalE Φ b ρ S1).go fun w S2 => .nxt ((ρ.set i (some v)).set j (some w)) S2
def kPar2 (i j : Nat) (v : Val) (ρ : Env) (r : R Val) : Out := r.go fun w S2 => .nxt ((ρ.set i (some v)).set j (some w)) S2
def kUnp (is : List Nat) (ρ : Env) (r : R Val) : Out := r.go fun v S1 => match setTg ρ (.tp is) v with
    | some ρ1 => .nxt ρ1 S1
    | none => .bad
def kUnp2 (S1 : Store) (o : Option Env) : Out := match o with
    | some ρ1 => .nxt ρ1 S1
    | none => .bad
def kSub1 (o i : E) (ρ : Env) (r : R Val) : Out := r.go fun v S1 => (evalE Φ o ρ S1).go fun ov S2 => (evalE Φ i ρ S2).go fun iv S3 => match storeSub S3 ov iv v with
    | some S4 => .nxt ρ S4
    | none => .bad
def kSub2 (v : Val) (i : E) (ρ : Env) (r : R Val) : Out := r.go fun ov S2 => (evalE Φ i ρ S2).go fun iv S3 => match storeSub S3 ov iv v with
    | some S4 => .nxt ρ S4
    | none => .bad
def kSub3 (v ov : Val) (ρ : Env) (r : R Val) : Out := r.go fun iv S3 => match storeSub S3 ov iv v with
    | some S4 => .nxt ρ S4
    | none => .bad
def kSub4 (ρ : Env) (o : Option Store) : Out := match o with
    | some S4 => .nxt ρ S4
    | none => .bad
def kIf (a b : St) (ρ : Env) (r : R Val) : Out := r.go fun v S1 => asB v fun k => if k then execS Φ W a ρ S1 else execS Φ W b ρ S1
def kRet (r : R Val) : Out := r.go fun v S1 => .ret v S1
def forS (g : Tg) (b : St) (xs : List Val) (ρ : Env) (S : Store) : Out := forGo g (fun ρ1 S2 => execS Φ W b ρ1 S2) xs ρ S
def kFor (g : Tg) (b : St) (ρ : Env) (r : R (List Val)) : Out := r.go fun xs S1 => forS Φ W g b xs ρ S1
def whileS (t : E) (b : St) (k : Nat) (ρ : Env) (S : Store) : Out := whileGo (fun ρ1 S1 => evalE Φ t ρ1 S1) (fun ρ1 S1 => execS Φ W b ρ1 S1) k ρ S
/-- behind a turn -/
def kTurn (g : Tg) (b : St) (xs : List Val) (o : Out) : Out := match o with
    | .nxt ρ2 S2 => forS Φ W g b xs ρ2 S2
    | .cnt ρ2 S2 => forS Φ W g b xs ρ2 S2
    | .brk ρ2 S2 => .nxt ρ2 S2
    | .ret v S2 => .ret v S2
    | .ex c S2 => .ex c S2
    | .bad => .bad
def kForSet (g : Tg) (b : St) (xs : List Val) (S : Store) (o : Option Env) : Out := match o with
    | some ρ1 => kTurn Φ W g b xs (execS Φ W b ρ1 S)
    | none => .bad
def kWh1 (t : E) (b : St) (k : Nat) (ρ : Env) (r : R Val) : Out := r.go fun v S1 => asB v fun c => if c then match execS Φ W b ρ S1 with
      | .nxt ρ2 S2 => whileS Φ W t b k ρ2 S2
      | .cnt ρ2 S2 => whileS Φ W t b k ρ2 S2
      | .brk ρ2 S2 => .nxt ρ2 S2
      | .ret v S2 => .ret v S2
      | .ex c S2 => .ex c S2
      | .bad => .bad
    else .nxt ρ S1
def kWh2 (t : E) (b : St) (k : Nat) (o : Out) : Out := match o with
      | .nxt ρ2 S2 => whileS Φ W t b k ρ2 S2
      | .cnt ρ2 S2 => whileS Φ W t b k ρ2 S2
      | .brk ρ2 S2 => .nxt ρ2 S2
      | .ret v S2 => .ret v S2
      | .ex c S2 => .ex c S2
      | .bad => .bad
end
section
variable {Φ : Option Bool → Nat → List Val → Store → R Val} {W : Nat} {ρ : Env} {S : Store} {y : Option Val}
/-! expressions: only where the slots are written out -/
theorem m_var (i : Nat) : evalE Φ (.var i) (y :: ρ) S = match (y :: ρ)[i]? with
    | some (some v) => .ok v S
    | _ => .bad := rfl
theorem m_non : evalE Φ .non (y :: ρ) S = .ok .non S := rfl
theorem m_yes : evalE Φ .yes (y :: ρ) S = .ok (.bl true) S := rfl
theorem m_bl (b : Bool) : evalE Φ (.bl b) (y :: ρ) S = .ok (.bl b) S := rfl
theorem m_int (i : Int) : evalE Φ (.int i) (y :: ρ) S = .ok (.int i) S := rfl
theorem m_str (s : Str) : evalE Φ (.str s) (y :: ρ) S = .ok (.str s) S := rfl
theorem m_tup (es : E) : evalE Φ (.tup es) (y :: ρ) S = kTup (evalA Φ es (y :: ρ) S) := by
  show (evalA Φ es (y :: ρ) S).bind _ = _
  cases evalA Φ es (y :: ρ) S <;> rfl
theorem m_lst (mu : Bool) (es : E) : evalE Φ (.lst mu es) (y :: ρ) S = kLst mu (evalA Φ es (y :: ρ) S) := by
  show (evalA Φ es (y :: ρ) S).bind _ = _
  cases evalA Φ es (y :: ρ) S <;> rfl
theorem m_bin (o : Bop) (a b : E) : evalE Φ (.bin o a b) (y :: ρ) S = kBin1 Φ o b (y :: ρ) (evalE Φ a (y :: ρ) S) := rfl
theorem m_neg (a : E) : evalE Φ (.neg a) (y :: ρ) S = kNeg (evalE Φ a (y :: ρ) S) := rfl
theorem m_cmp (o : Cop) (a b : E) : evalE Φ (.cmp o a b) (y :: ρ) S = kCmp1 Φ o b (y :: ρ) (evalE Φ a (y :: ρ) S) := rfl
theorem m_chain (o o' : Cop) (a b c : E) : evalE Φ (.chain o o' a b c) (y :: ρ) S = kCh1 Φ o o' b c (y :: ρ) (evalE Φ a (y :: ρ) S) := rfl
theorem m_and (a b : E) : evalE Φ (.and a b) (y :: ρ) S = kAnd Φ b (y :: ρ) (evalE Φ a (y :: ρ) S) := rfl
theorem m_or (a b : E) : evalE Φ (.or a b) (y :: ρ) S = kOr Φ b (y :: ρ) (evalE Φ a (y :: ρ) S) := rfl
theorem m_not (a : E) : evalE Φ (.not a) (y :: ρ) S = kNot (evalE Φ a (y :: ρ) S) := rfl
theorem m_ite (t a b : E) : evalE Φ (.ite t a b) (y :: ρ) S = kIte Φ a b (y :: ρ) (evalE Φ t (y :: ρ) S) := rfl
theorem m_call (mu : Option Bool) (f : Nat) (es : E) : evalE Φ (.call mu f es) (y :: ρ) S = kCall Φ mu f (evalA Φ es (y :: ρ) S) := rfl
theorem m_callR (f : Nat) (es : E) : evalE Φ (.callR f es) (y :: ρ) S = kCallR Φ f (evalA Φ es (y :: ρ) S) := rfl
theorem m_blt (f : Blt) (es : E) : evalE Φ (.blt f es) (y :: ρ) S = kBlt f (evalA Φ es (y :: ρ) S) := rfl
theorem m_isx (cs : List Str) (a : E) (T : Str) : evalE Φ (.isx cs a T) (y :: ρ) S = kIsx cs T (evalE Φ a (y :: ρ) S) := rfl
theorem m_isi (a : E) (T : String) : evalE Φ (.isi a T) (y :: ρ) S = kIsi T (evalE Φ a (y :: ρ) S) := rfl
theorem m_ix (a i : E) : evalE Φ (.ix a i) (y :: ρ) S = kIx1 Φ i (y :: ρ) (evalE Φ a (y :: ρ) S) := rfl
theorem m_sl (a lo hi : E) : evalE Φ (.sl a lo hi) (y :: ρ) S = kSl1 Φ lo hi (y :: ρ) (evalE Φ a (y :: ρ) S) := rfl
theorem m_comp (mu : Bool) (g : Tg) (own : List (Str × Nat)) (it cond elt : E) : evalE Φ (.comp mu g own it cond elt) (y :: ρ) S = kComp1 Φ mu g own cond elt (y :: ρ) (evalI Φ it (y :: ρ) S) := rfl
theorem m_mth (m : Mth) (o es : E) : evalE Φ (.mth m o es) (y :: ρ) S = kMth1 Φ m es (y :: ρ) (evalE Φ o (y :: ρ) S) := rfl
theorem m_rep (mu : Bool) (es b : E) : evalE Φ (.rep mu es b) (y :: ρ) S = kRep1 Φ mu b (y :: ρ) (evalA Φ es (y :: ρ) S) := rfl
theorem m_cat (mu : Bool) (a b : E) : evalE Φ (.cat mu a b) (y :: ρ) S = kCat1 Φ mu b (y :: ρ) (evalE Φ a (y :: ρ) S) := rfl
theorem m_u (o : Uop) (a : E) : evalE Φ (.u o a) (y :: ρ) S = kU o (evalE Φ a (y :: ρ) S) := rfl
theorem m_rl1 (k : Option Bool) (a : E) : evalE Φ (.rl1 k a) (y :: ρ) S = kRl1 k (evalE Φ a (y :: ρ) S) := rfl
theorem m_rl2 (k : Option Bool) (a b : E) : evalE Φ (.rl2 k a b) (y :: ρ) S = kRl2 Φ k b (y :: ρ) (evalE Φ a (y :: ρ) S) := rfl
theorem m_gs (x s : Str) : evalE Φ (.gs x s) (y :: ρ) S = .ok (.str s) S := rfl
theorem m_tx (j : Bool) (a b : E) : evalE Φ (.tx j a b) (y :: ρ) S = kTx1 Φ j b (y :: ρ) (evalE Φ a (y :: ρ) S) := rfl
theorem m_gv (x : Str) (i : Int) : evalE Φ (.gv x i) (y :: ρ) S = .ok (.int i) S := rfl
theorem m_edcF (t : Bool) : evalE Φ (.edc false t) (y :: ρ) S = .ok (.dct t [] []) S := rfl
theorem m_edcT (t : Bool) : evalE Φ (.edc true t) (y :: ρ) S = .ok (.loc S.length) (S ++ [.dct t false [] []]) := rfl
theorem m_dsp (mu : Bool) (k v : E) : evalE Φ (.dsp mu k v) (y :: ρ) S = kDsp1 Φ mu v (y :: ρ) (evalE Φ k (y :: ρ) S) := rfl
theorem m_compL (mu : Bool) (g : Tg) (own : List (Str × Nat)) (o cond elt : E) : evalE Φ (.compL mu g own o cond elt) (y :: ρ) S = kCompL Φ mu g own cond elt (y :: ρ) (evalE Φ o (y :: ρ) S) := rfl
theorem m_turn (g : Tg) (own : List (Str × Nat)) (cond elt : E) (x : Val) : compTurn Φ g own cond elt (y :: ρ) x S = kTrn1 Φ cond elt S (setTg (wipeE (y :: ρ) (own.map (·.2))) g x) := rfl
theorem m_anil : evalA Φ .nil (y :: ρ) S = .ok [] S := rfl
theorem m_acons (e r : E) : evalA Φ (.cons e r) (y :: ρ) S = kCons1 Φ r (y :: ρ) (evalE Φ e (y :: ρ) S) := rfl
theorem m_onil : evalO Φ .nil (y :: ρ) S = .ok none S := rfl
theorem m_part (e : E) : evalO Φ (.part e) (y :: ρ) S = kPart (evalE Φ e (y :: ρ) S) := rfl
theorem m_rng (a : E) : evalI Φ (.rng a) (y :: ρ) S = kRng (evalE Φ a (y :: ρ) S) := rfl
theorem m_rng2 (a b : E) : evalI Φ (.rng2 a b) (y :: ρ) S = kRng1 Φ b (y :: ρ) (evalE Φ a (y :: ρ) S) := rfl
theorem m_enum (a : E) : evalI Φ (.enum a) (y :: ρ) S = kEnum (evalE Φ a (y :: ρ) S) := rfl
theorem m_zip (a b : E) : evalI Φ (.zip a b) (y :: ρ) S = kZip1 Φ b (y :: ρ) (evalE Φ a (y :: ρ) S) := rfl
theorem m_vals (a : E) : evalI Φ (.vals a) (y :: ρ) S = kVals (evalE Φ a (y :: ρ) S) := rfl
/-! behind a part -/
theorem k_tup (vs : List Val) : kTup (.ok vs S) = if vs.length ≤ lim then .ok (.tup vs) S else .bad := rfl
theorem k_lst (mu : Bool) (vs : List Val) : kLst mu (.ok vs S) = if vs.length ≤ lim then mk mu vs S else .bad := rfl
theorem k_mkT (vs : List Val) : mk true vs S = .ok (.loc S.length) (S ++ [.lst vs]) := rfl
theorem k_mkF (vs : List Val) : mk false vs S = .ok (.lst vs) S := rfl
theorem k_bin1 (o : Bop) (b : E) (v : Val) (ρ : Env) : kBin1 Φ o b ρ (.ok v S) = kBin2 o v (evalE Φ b ρ S) := rfl
theorem k_bin2 (o : Bop) (v w : Val) : kBin2 o v (.ok w S) = .of (binV o v w) S := rfl
theorem k_of (v : Val) : R.of (some v) S = .ok v S := rfl
theorem k_neg (i : Int) : kNeg (.ok (.int i) S) = .ok (.int (-i)) S := rfl
theorem k_cmp1 (o : Cop) (b : E) (v : Val) (ρ : Env) : kCmp1 Φ o b ρ (.ok v S) = kCmp2 o v (evalE Φ b ρ S) := rfl
theorem k_cmp2 (o : Cop) (v w : Val) : kCmp2 o v (.ok w S) = .of ((cmpV S o v w).map .bl) S := rfl
theorem k_ch1 (o o' : Cop) (b c : E) (v : Val) (ρ : Env) : kCh1 Φ o o' b c ρ (.ok v S) = kCh2 Φ o o' v c ρ (evalE Φ b ρ S) := rfl
theorem k_ch2 (o o' : Cop) (v w : Val) (c : E) (ρ : Env) : kCh2 Φ o o' v c ρ (.ok w S) = kCh3 Φ o' w c ρ (cmpV S o v w) S := rfl
theorem k_ch3T (o' : Cop) (w : Val) (c : E) (ρ : Env) : kCh3 Φ o' w c ρ (some true) S = kCmp2 o' w (evalE Φ c ρ S) := rfl
theorem k_ch3F (o' : Cop) (w : Val) (c : E) (ρ : Env) : kCh3 Φ o' w c ρ (some false) S = .ok (.bl false) S := rfl
theorem k_andT (b : E) (ρ : Env) : kAnd Φ b ρ (.ok (.bl true) S) = evalE Φ b ρ S := rfl
theorem k_andF (b : E) (ρ : Env) : kAnd Φ b ρ (.ok (.bl false) S) = .ok (.bl false) S := rfl
theorem k_orT (b : E) (ρ : Env) : kOr Φ b ρ (.ok (.bl true) S) = .ok (.bl true) S := rfl
theorem k_orF (b : E) (ρ : Env) : kOr Φ b ρ (.ok (.bl false) S) = evalE Φ b ρ S := rfl
theorem k_not (k : Bool) : kNot (.ok (.bl k) S) = .ok (.bl (!k)) S := rfl
theorem k_iteT (a b : E) (ρ : Env) : kIte Φ a b ρ (.ok (.bl true) S) = evalE Φ a ρ S := rfl
theorem k_iteF (a b : E) (ρ : Env) : kIte Φ a b ρ (.ok (.bl false) S) = evalE Φ b ρ S := rfl
theorem k_callR (f : Nat) (vs : List Val) : kCallR Φ f (.ok vs S) = roR (Φ none f) vs S := rfl
theorem k_call (mu : Option Bool) (f : Nat) (vs : List Val) : kCall Φ mu f (.ok vs S) = Φ mu f vs S := rfl
theorem k_blt (f : Blt) (vs : List Val) : kBlt f (.ok vs S) = .of (bltV S f vs) S := rfl
theorem k_isi (T : String) (v : Val) : kIsi T (.ok v S) = .of ((isT S T v).map .bl) S := rfl
theorem k_ix1 (i : E) (v : Val) (ρ : Env) : kIx1 Φ i ρ (.ok v S) = kIx2 v (evalE Φ i ρ S) := rfl
theorem k_ix2 (v w : Val) : kIx2 v (.ok w S) = .of (ixV S v w) S := rfl
theorem k_sl1 (lo hi : E) (v : Val) (ρ : Env) : kSl1 Φ lo hi ρ (.ok v S) = kSl2 Φ v hi ρ (evalO Φ lo ρ S) := rfl
theorem k_sl2 (v : Val) (hi : E) (l : Option Int) (ρ : Env) : kSl2 Φ v hi ρ (.ok l S) = kSl3 v l (evalO Φ hi ρ S) := rfl
theorem k_sl3 (v : Val) (l h : Option Int) : kSl3 v l (.ok h S) = .of (sliceV S v l h) S := rfl
theorem k_part (i : Int) : kPart (.ok (.int i) S) = .ok (some i) S := rfl
theorem k_cons1 (e : E) (v : Val) (ρ : Env) : kCons1 Φ e ρ (.ok v S) = kCons2 v (evalA Φ e ρ S) := rfl
theorem k_cons2 (v : Val) (vs : List Val) : kCons2 v (.ok vs S) = .ok (v :: vs) S := rfl
theorem k_comp1 (mu : Bool) (g : Tg) (own : List (Str × Nat)) (cond elt : E) (xs : List Val) (ρ : Env) : kComp1 Φ mu g own cond elt ρ (.ok xs S) = kComp2 mu (compGo (compTurn Φ g own cond elt ρ) xs [] S) := rfl
theorem k_comp2 (mu : Bool) (vs : List Val) : kComp2 mu (.ok vs S) = mk mu vs S := rfl
theorem k_mth1 (m : Mth) (es : E) (v : Val) (ρ : Env) : kMth1 Φ m es ρ (.ok v S) = kMth2 Φ m v es ρ S (rcv S m v) := rfl
theorem k_mth2 (m : Mth) (v : Val) (es : E) (ρ : Env) : kMth2 Φ m v es ρ S true = kMth3 m v (evalA Φ es ρ S) := rfl
theorem k_mth3 (m : Mth) (v : Val) (vs : List Val) : kMth3 m v (.ok vs S) = mthV m v vs S := rfl
theorem k_rng (n : Int) : kRng (.ok (.int n) S) = if -(2 ^ 62) ≤ n ∧ n < 2 ^ 62 then .ok (rangeV 0 n.toNat) S else .bad := rfl
theorem k_rng1 (b : E) (v : Val) (ρ : Env) : kRng1 Φ b ρ (.ok v S) = kRng2 v (evalE Φ b ρ S) := rfl
theorem k_rng2 (lo hi : Int) : kRng2 (.int lo) (.ok (.int hi) S) = if -(2 ^ 62) ≤ lo ∧ lo < 2 ^ 62 ∧ -(2 ^ 62) ≤ hi ∧ hi < 2 ^ 62 then .ok (rangeV lo (hi - lo).toNat) S else .bad := rfl
theorem k_enum (vs : List Val) : kEnum (.ok (.lst vs) S) = .ok (pairs 0 vs) S := rfl
theorem k_enumT (vs : List Val) : kEnum (.ok (.tup vs) S) = .ok (pairs 0 vs) S := rfl
theorem k_zip1 (b : E) (v : Val) (ρ : Env) : kZip1 Φ b ρ (.ok v S) = kZip2 v (evalE Φ b ρ S) := rfl
theorem k_zipL (vs ws : List Val) : kZip2 (.lst vs) (.ok (.lst ws) S) = .ok (zipV vs ws) S := rfl
theorem k_zipT (vs ws : List Val) : kZip2 (.tup vs) (.ok (.tup ws) S) = .ok (zipV vs ws) S := rfl
theorem k_zipM1 (vs ws : List Val) : kZip2 (.lst vs) (.ok (.tup ws) S) = .ok (zipV vs ws) S := rfl
theorem k_zipM2 (vs ws : List Val) : kZip2 (.tup vs) (.ok (.lst ws) S) = .ok (zipV vs ws) S := rfl
theorem k_dsp1 (mu : Bool) (v : E) (q : Val) : kDsp1 Φ mu v (y :: ρ) (.ok q S) = kDsp2 mu q (evalE Φ v (y :: ρ) S) := rfl
theorem k_dsp2 (mu : Bool) (q w : Val) : kDsp2 mu q (.ok w S) = dspR mu q w S := rfl
theorem k_valsD (ks : List (List (Int ⊕ Str))) (vs : List Val) : kVals (.ok (.dct false ks vs) S) = .ok (ks.map (keyV false)) S := rfl
theorem k_valsS (s : Str) : kVals (.ok (.str s) S) = .ok (s.cps.toList.map fun c => .str ⟨#[c]⟩) S := rfl
theorem k_tx1 (j : Bool) (b : E) (s : Str) (ρ : Env) : kTx1 Φ j b ρ (.ok (.str s) S) = kTx2 j s (evalE Φ b ρ S) := rfl
theorem k_tx2 (j : Bool) (s : Str) (w : Val) : kTx2 j s (.ok w S) = txR j s w S := rfl
theorem k_valsT (vs : List Val) : kVals (.ok (.tup vs) S) = .ok vs S := rfl
theorem k_valsL (vs : List Val) : kVals (.ok (.lst vs) S) = .ok vs S := rfl
theorem k_rep1 (mu : Bool) (b : E) (vs : List Val) (ρ : Env) : kRep1 Φ mu b ρ (.ok vs S) = if vs.length ≤ lim then kRep2 mu vs (evalE Φ b ρ S) else .bad := rfl
theorem k_rep2 (mu : Bool) (vs : List Val) (w : Val) : kRep2 mu vs (.ok w S) = repV mu vs w S := rfl
theorem k_cat1 (mu : Bool) (b : E) (v : Val) (ρ : Env) : kCat1 Φ mu b ρ (.ok v S) = kCat2 mu v (evalE Φ b ρ S) := rfl
theorem k_cat2 (mu : Bool) (v w : Val) : kCat2 mu v (.ok w S) = catV mu v w S := rfl
theorem k_u (o : Uop) (v : Val) : kU o (.ok v S) = uV o v S := rfl
theorem k_rl1 (k : Option Bool) (n : Int) : kRl1 k (.ok (.int n) S) = if -(2 ^ 62) ≤ n ∧ n < 2 ^ 62 ∧ n.toNat ≤ lim then rlV k (rangeV 0 n.toNat) S else .bad := rfl
theorem k_rl2 (k : Option Bool) (b : E) (v : Val) (ρ : Env) : kRl2 Φ k b ρ (.ok v S) = kRl3 k v (evalE Φ b ρ S) := rfl
theorem k_rl3 (k : Option Bool) (v w : Val) : kRl3 k v (.ok w S) = rlR k v w S := rfl
theorem k_rlT (vs : List Val) : rlV none vs S = .ok (.tup vs) S := rfl
theorem k_rlL (mu : Bool) (vs : List Val) : rlV (some mu) vs S = mk mu vs S := rfl
theorem k_compL (mu : Bool) (g : Tg) (own : List (Str × Nat)) (cond elt : E) (n : Nat) (ρ : Env) : kCompL Φ mu g own cond elt ρ (.ok (.loc n) S) = kComp2 mu (compLive (compTurn Φ g own cond elt ρ) n (lenAt S n) 0 (lenAt S n) [] S) := rfl
theorem k_trn1 (cond elt : E) (ρ : Env) : kTrn1 Φ cond elt S (some ρ) = kTrn2 Φ elt ρ (evalE Φ cond ρ S) := rfl
theorem k_trn2T (elt : E) (ρ : Env) : kTrn2 Φ elt ρ (.ok (.bl true) S) = kTrn3 (evalE Φ elt ρ S) := by
  show ((evalE Φ elt ρ S).bind fun v S4 => R.ok (some v) S4).mute = _
  rfl
theorem k_trn2F (elt : E) (ρ : Env) : kTrn2 Φ elt ρ (.ok (.bl false) S) = .ok none S := rfl
theorem k_trn3 (v : Val) : kTrn3 (.ok v S) = .ok (some v) S := rfl
theorem w_nil (ρ : Env) : wipeE ρ [] = ρ := rfl
theorem w_cons (ρ : Env) (i : Nat) (r : List Nat) : wipeE ρ (i :: r) = (wipeE ρ r).set i none := rfl
/-! statements -/
theorem s_forL (g : Tg) (o : E) (b : St) : execS Φ W (.forL g o b) (y :: ρ) S = kForL Φ W g b (y :: ρ) (evalE Φ o (y :: ρ) S) := rfl
theorem k_forL (g : Tg) (b : St) (n : Nat) (ρ : Env) : kForL Φ W g b ρ (.ok (.loc n) S) = forLS Φ W g b n (lenAt S n) 0 (lenAt S n) ρ S := rfl
theorem k_forLT (g : Tg) (b : St) (xs : List Val) (ρ : Env) : kForL Φ W g b ρ (.ok (.tup xs) S) = forS Φ W g b xs ρ S := rfl
theorem k_forLF (g : Tg) (b : St) (xs : List Val) (ρ : Env) : kForL Φ W g b ρ (.ok (.lst xs) S) = forS Φ W g b xs ρ S := rfl
theorem s_nil : execS Φ W .nil (y :: ρ) S = .nxt (y :: ρ) S := rfl
theorem s_seq (a b : St) : execS Φ W (.seq a b) (y :: ρ) S = kSeq Φ W b (execS Φ W a (y :: ρ) S) := rfl
theorem s_expr (e : E) : execS Φ W (.expr e) (y :: ρ) S = kExpr (y :: ρ) (evalE Φ e (y :: ρ) S) := rfl
theorem s_asg (i : Nat) (e : E) : execS Φ W (.asg i e) (y :: ρ) S = kAsg i (y :: ρ) (evalE Φ e (y :: ρ) S) := rfl
theorem s_par (i j : Nat) (a b : E) : execS Φ W (.par i j a b) (y :: ρ) S = kPar1 Φ i j b (y :: ρ) (evalE Φ a (y :: ρ) S) := rfl
theorem s_unp (is : List Nat) (e : E) : execS Φ W (.unp is e) (y :: ρ) S = kUnp is (y :: ρ) (evalE Φ e (y :: ρ) S) := rfl
theorem s_sub (o i e : E) : execS Φ W (.sub o i e) (y :: ρ) S = kSub1 Φ o i (y :: ρ) (evalE Φ e (y :: ρ) S) := rfl
theorem s_pas (i : Nat) (o j e : E) : execS Φ W (.pas i o j e) (y :: ρ) S = kPas1 Φ i o j (y :: ρ) (evalE Φ e (y :: ρ) S) := rfl
theorem s_if (t : E) (a b : St) : execS Φ W (.ite t a b) (y :: ρ) S = kIf Φ W a b (y :: ρ) (evalE Φ t (y :: ρ) S) := rfl
theorem s_for (g : Tg) (it : E) (b : St) : execS Φ W (.for_ g it b) (y :: ρ) S = kFor Φ W g b (y :: ρ) (evalI Φ it (y :: ρ) S) := rfl
theorem s_while (t : E) (b : St) : execS Φ W (.while_ t b) (y :: ρ) S = whileS Φ W t b W (y :: ρ) S := rfl
theorem s_ret (e : E) : execS Φ W (.ret e) (y :: ρ) S = kRet (evalE Φ e (y :: ρ) S) := rfl
theorem s_raise (c : Str) : execS Φ W (.raise_ c) (y :: ρ) S = .ex c S := rfl
theorem s_retN : execS Φ W .retN (y :: ρ) S = .ret .non S := rfl
theorem s_pass : execS Φ W .pass (y :: ρ) S = .nxt (y :: ρ) S := rfl
theorem s_brk : execS Φ W .brk (y :: ρ) S = .brk (y :: ρ) S := rfl
theorem s_cnt : execS Φ W .cnt (y :: ρ) S = .cnt (y :: ρ) S := rfl
theorem k_seqN (r : St) (ρ : Env) : kSeq Φ W r (.nxt ρ S) = execS Φ W r ρ S := rfl
theorem k_seqR (r : St) (v : Val) : kSeq Φ W r (.ret v S) = .ret v S := rfl
theorem k_seqB (r : St) (ρ : Env) : kSeq Φ W r (.brk ρ S) = .brk ρ S := rfl
theorem k_seqC (r : St) (ρ : Env) : kSeq Φ W r (.cnt ρ S) = .cnt ρ S := rfl
theorem k_expr (v : Val) (ρ : Env) : kExpr ρ (.ok v S) = .nxt ρ S := rfl
theorem k_asg (i : Nat) (v : Val) (ρ : Env) : kAsg i ρ (.ok v S) = .nxt (ρ.set i (some v)) S := rfl
theorem k_par1 (i j : Nat) (b : E) (v : Val) (ρ : Env) : kPar1 Φ i j b ρ (.ok v S) = kPar2 i j v ρ (evalE Φ b ρ S) := rfl
theorem k_par2 (i j : Nat) (v w : Val) (ρ : Env) : kPar2 i j v ρ (.ok w S) = .nxt ((ρ.set i (some v)).set j (some w)) S := rfl
theorem k_unp (is : List Nat) (v : Val) (ρ : Env) : kUnp is ρ (.ok v S) = kUnp2 S (setTg ρ (.tp is) v) := rfl
theorem k_unp2 (ρ : Env) : kUnp2 S (some ρ) = .nxt ρ S := rfl
theorem k_pas1 (i : Nat) (o j : E) (x w : Val) (ρ : Env) : kPas1 Φ i o j ρ (.ok (.tup [x, w]) S) = kPas2 Φ w j (ρ.set i (some x)) (evalE Φ o (ρ.set i (some x)) S) := rfl
theorem k_pas2 (w ov : Val) (j : E) (ρ : Env) : kPas2 Φ w j ρ (.ok ov S) = kPas3 w ov ρ (evalE Φ j ρ S) := rfl
theorem k_pas3 (w ov jv : Val) (ρ : Env) : kPas3 w ov ρ (.ok jv S) = kSub4 ρ (storeSub S ov jv w) := rfl
theorem k_sub1 (o i : E) (v : Val) (ρ : Env) : kSub1 Φ o i ρ (.ok v S) = kSub2 Φ v i ρ (evalE Φ o ρ S) := rfl
theorem k_sub2 (v ov : Val) (i : E) (ρ : Env) : kSub2 Φ v i ρ (.ok ov S) = kSub3 v ov ρ (evalE Φ i ρ S) := rfl
theorem k_sub3 (v ov iv : Val) (ρ : Env) : kSub3 v ov ρ (.ok iv S) = kSub4 ρ (storeSub S ov iv v) := rfl
theorem k_sub4 (ρ : Env) : kSub4 ρ (some S) = .nxt ρ S := rfl
theorem k_ifT (a b : St) (ρ : Env) : kIf Φ W a b ρ (.ok (.bl true) S) = execS Φ W a ρ S := rfl
theorem k_ifF (a b : St) (ρ : Env) : kIf Φ W a b ρ (.ok (.bl false) S) = execS Φ W b ρ S := rfl
theorem k_ret (v : Val) : kRet (.ok v S) = .ret v S := rfl
theorem k_for (g : Tg) (b : St) (xs : List Val) (ρ : Env) : kFor Φ W g b ρ (.ok xs S) = forS Φ W g b xs ρ S := rfl
theorem f_nil (g : Tg) (b : St) (ρ : Env) : forS Φ W g b [] ρ S = .nxt ρ S := rfl
theorem f_cons (g : Tg) (b : St) (x : Val) (xs : List Val) (ρ : Env) : forS Φ W g b (x :: xs) ρ S = kForSet Φ W g b xs S (setTg ρ g x) := rfl
theorem k_forSet (g : Tg) (b : St) (xs : List Val) (ρ : Env) : kForSet Φ W g b xs S (some ρ) = kTurn Φ W g b xs (execS Φ W b ρ S) := rfl
theorem k_turnN (g : Tg) (b : St) (xs : List Val) (ρ : Env) : kTurn Φ W g b xs (.nxt ρ S) = forS Φ W g b xs ρ S := rfl
theorem k_turnC (g : Tg) (b : St) (xs : List Val) (ρ : Env) : kTurn Φ W g b xs (.cnt ρ S) = forS Φ W g b xs ρ S := rfl
theorem k_turnB (g : Tg) (b : St) (xs : List Val) (ρ : Env) : kTurn Φ W g b xs (.brk ρ S) = .nxt ρ S := rfl
theorem k_turnR (g : Tg) (b : St) (xs : List Val) (v : Val) : kTurn Φ W g b xs (.ret v S) = .ret v S := rfl
theorem w_succ (t : E) (b : St) (k : Nat) (ρ : Env) : whileS Φ W t b (k + 1) ρ S = kWh1 Φ W t b k ρ (evalE Φ t ρ S) := rfl
theorem k_whT (t : E) (b : St) (k : Nat) (ρ : Env) : kWh1 Φ W t b k ρ (.ok (.bl true) S) = kWh2 Φ W t b k (execS Φ W b ρ S) := rfl
theorem k_whF (t : E) (b : St) (k : Nat) (ρ : Env) : kWh1 Φ W t b k ρ (.ok (.bl false) S) = .nxt ρ S := rfl
theorem k_wh2N (t : E) (b : St) (k : Nat) (ρ : Env) : kWh2 Φ W t b k (.nxt ρ S) = whileS Φ W t b k ρ S := rfl
theorem k_wh2C (t : E) (b : St) (k : Nat) (ρ : Env) : kWh2 Φ W t b k (.cnt ρ S) = whileS Φ W t b k ρ S := rfl
theorem k_wh2B (t : E) (b : St) (k : Nat) (ρ : Env) : kWh2 Φ W t b k (.brk ρ S) = .nxt ρ S := rfl
theorem k_wh2R (t : E) (b : St) (k : Nat) (v : Val) : kWh2 Φ W t b k (.ret v S) = .ret v S := rfl
theorem o_nxt (ρ : Env) : (Out.nxt ρ S).res = .ok .non S := rfl
theorem o_ret (v : Val) : (Out.ret v S).res = .ok v S := rfl
/-! values -/
theorem v_add (i j : Int) : binV .add (.int i) (.int j) = some (.int (i + j)) := rfl
theorem v_sub (i j : Int) : binV .sub (.int i) (.int j) = some (.int (i - j)) := rfl
theorem v_mul (i j : Int) (h : mulOk i j = true) : binV .mul (.int i) (.int j) = some (.int (i * j)) := by
  show (match (if mulOk i j then some (i * j) else none) with
    | some k => some (Val.int k)
    | none => none) = _
  rw [if_pos h]
theorem v_fdiv (i j : Int) (h : 0 < j) (h2 : j.natAbs.log2 < 9000) : binV .fdiv (.int i) (.int j) = some (.int (i / j)) := by
  show (match (if 0 < j ∧ j.natAbs.log2 < 9000 then some (i / j) else none) with
    | some k => some (Val.int k)
    | none => none) = _
  rw [if_pos ⟨h, h2⟩]
theorem v_mod (i j : Int) (h : 0 < j) : binV .mod (.int i) (.int j) = some (.int (i % j)) := by
  show (match (if 0 < j then some (i % j) else none) with
    | some k => some (Val.int k)
    | none => none) = _
  rw [if_pos h]
theorem v_pow (i j : Int) (h : 0 ≤ j ∧ j ≤ 1000000 ∧ i.natAbs < 2 ^ 64) : binV .pow (.int i) (.int j) = some (.int (i ^ j.toNat)) := by
  show (match (if 0 ≤ j ∧ j ≤ 1000000 ∧ i.natAbs < 2 ^ 64 then some (i ^ j.toNat) else none) with
    | some k => some (Val.int k)
    | none => none) = _
  rw [if_pos h]
theorem v_lt (i j : Int) : cmpV S .lt (.int i) (.int j) = some (decide (i < j)) := rfl
theorem v_le (i j : Int) : cmpV S .le (.int i) (.int j) = some (decide (i ≤ j)) := rfl
theorem v_gt (i j : Int) : cmpV S .gt (.int i) (.int j) = some (decide (j < i)) := rfl
theorem v_ge (i j : Int) : cmpV S .ge (.int i) (.int j) = some (decide (j ≤ i)) := rfl
theorem sh_int (i : Int) : SeqAt.shaped (.int i) = true := rfl
theorem sh_bl (i : Bool) : SeqAt.shaped (.bool i) = true := rfl
theorem sh_non : SeqAt.shaped .none = true := rfl
theorem v_eqI (i j : Int) : cmpV S .eq (.int i) (.int j) = some (i == j) := by
  show eqV (.int i) (.int j) = _
  unfold eqV
  simp only [toD, sh_int, Bool.and_self, if_true, PyData.eqv]
theorem v_neI (i j : Int) : cmpV S .ne (.int i) (.int j) = some (!(i == j)) := by
  show (match eqV (.int i) (.int j) with
    | some k => some (!k)
    | none => none) = _
  unfold eqV
  simp only [toD, sh_int, Bool.and_self, if_true, PyData.eqv]
theorem v_eqB (i j : Bool) : cmpV S .eq (.bl i) (.bl j) = some (i == j) := by
  show eqV (.bl i) (.bl j) = _
  unfold eqV
  simp only [toD, sh_bl, Bool.and_self, if_true, PyData.eqv]
theorem v_neB (i j : Bool) : cmpV S .ne (.bl i) (.bl j) = some (!(i == j)) := by
  show (match eqV (.bl i) (.bl j) with
    | some k => some (!k)
    | none => none) = _
  unfold eqV
  simp only [toD, sh_bl, Bool.and_self, if_true, PyData.eqv]
theorem v_isB (i j : Bool) : cmpV S .is (.bl i) (.bl j) = some (decide (i = j)) := rfl
theorem v_isnotB (i j : Bool) : cmpV S .isnot (.bl i) (.bl j) = some (!decide (i = j)) := rfl
theorem v_lenT (vs : List Val) : bltV S .len [.tup vs] = some (.int vs.length) := rfl
theorem v_lenL (vs : List Val) : bltV S .len [.lst vs] = some (.int vs.length) := rfl
theorem v_abs (i : Int) : bltV S .abs [.int i] = some (.int (if i < 0 then -i else i)) := rfl
theorem v_max2 (i j : Int) : bltV S .max2 [.int i, .int j] = some (.int (if j > i then j else i)) := rfl
theorem v_min2 (i j : Int) : bltV S .min2 [.int i, .int j] = some (.int (if j < i then j else i)) := rfl
theorem v_ixT (vs : List Val) (k : Int) : ixV S (.tup vs) (.int k) = L2.atI vs k := rfl
theorem v_ixL (vs : List Val) (k : Int) : ixV S (.lst vs) (.int k) = L2.atI vs k := rfl
theorem v_ixS (n : Nat) (vs : List Val) (k : Int) (h : S[n]? = some (.lst vs)) : ixV S (.loc n) (.int k) = L2.atI vs k := by
  unfold ixV
  simp only [dctAt, items, h]
theorem at_nat {α : Type} (xs : List α) (n : Nat) : L2.atI xs (n : Int) = xs[n]? := by
  unfold L2.atI L2.ixN
  by_cases h : n < xs.length
  · rw [if_pos (by omega), if_pos (by omega)]
    rfl
  · rw [if_pos (by omega), if_neg (by omega), List.getElem?_eq_none (by omega)]
    rfl
theorem at_0 {α : Type} (xs : List α) : L2.atI xs 0 = xs[0]? := at_nat xs 0
theorem at_1 {α : Type} (xs : List α) : L2.atI xs 1 = xs[1]? := at_nat xs 1
theorem at_2 {α : Type} (xs : List α) : L2.atI xs 2 = xs[2]? := at_nat xs 2
theorem st_sub (n : Nat) (k : Nat) (vs : List Val) (v : Val) (h : S[n]? = some (.lst vs)) (hk : k < vs.length) : storeSub S (.loc n) (.int (k : Int)) v = some (S.set n (.lst (vs.set k v))) := by
  unfold storeSub
  simp only [h]
  have e : L2.ixN vs.length (k : Int) = some k := by
    unfold L2.ixN
    rw [if_pos (by omega), if_pos (by omega)]
    rfl
  rw [e]
/-! ### calls -/
theorem mapLoc_free_aux (g : Nat → Option Val) : (∀ v : Val, v.free = true → mapLoc g v = some v) := by
  intro v
  exact go v
where
  go : ∀ v : Val, v.free = true → mapLoc g v = some v
    | .non, _ => rfl
    | .bl _, _ => rfl
    | .int _, _ => rfl
    | .str _, _ => rfl
    | .tup vs, h => by
      have h' : Val.frees vs = true := h
      unfold mapLoc
      rw [gos vs h']
    | .lst vs, h => by
      have h' : Val.frees vs = true := h
      unfold mapLoc
      rw [gos vs h']
    | .exc _, _ => rfl
    | .dct t ks vs, h => by
      have h' : Val.frees vs = true := h
      unfold mapLoc
      rw [gos vs h']
    | .loc _, h => by cases h
  gos : ∀ vs : List Val, Val.frees vs = true → mapLocs g vs = some vs
    | [], _ => rfl
    | v :: vs, h => by
      have h' : (v.free && Val.frees vs) = true := h
      rw [Bool.and_eq_true] at h'
      unfold mapLocs
      rw [go v h'.1, gos vs h'.2]
theorem frz_free (S : Store) (kp : Nat → Bool) (f : Nat) (v : Val) (h : v.free = true) : frz S kp f v = some v := by
  cases f with
  | zero => exact mapLoc_free_aux _ v h
  | succ f => exact mapLoc_free_aux _ v h
theorem allSome_free (S : Store) (kp : Nat → Bool) (f : Nat) : ∀ vs : List Val, Val.frees vs = true → allSome (frz S kp f) vs = some vs
  | [], _ => rfl
  | v :: vs, h => by
    have h' : (v.free && Val.frees vs) = true := h
    rw [Bool.and_eq_true] at h'
    unfold allSome
    rw [frz_free S kp f v h'.1, allSome_free S kp f vs h'.2]
theorem frzO_free (S : Store) (kp : Nat → Bool) (vs : List Val) (h : Val.frees vs = true) : frzO S kp (.lst vs) = some (.lst vs) := by
  show (match allSome (frz S kp 6) vs with
    | some ws => some (Obj.lst ws)
    | none => none) = _
  rw [allSome_free S kp 6 vs h]
theorem args_free : ∀ args : List Val, Val.frees args = true → argsOk args = true ∧ argLocs args = [] ∧ ∀ k, reArgs k args = args
  | [], _ => ⟨rfl, rfl, fun _ => rfl⟩
  | v :: r, h => by
    have h' : (v.free && Val.frees r) = true := h
    rw [Bool.and_eq_true] at h'
    obtain ⟨i1, i2, i3⟩ := args_free r h'.2
    cases v with
    | loc n => cases h'.1
    | non => exact ⟨by show (true && argsOk r) = true; rw [i1]; rfl, i2, fun k => by show Val.non :: reArgs k r = _; rw [i3]⟩
    | bl b => exact ⟨by show (true && argsOk r) = true; rw [i1]; rfl, i2, fun k => by show Val.bl b :: reArgs k r = _; rw [i3]⟩
    | int b => exact ⟨by show (true && argsOk r) = true; rw [i1]; rfl, i2, fun k => by show Val.int b :: reArgs k r = _; rw [i3]⟩
    | str b => exact ⟨by show (true && argsOk r) = true; rw [i1]; rfl, i2, fun k => by show Val.str b :: reArgs k r = _; rw [i3]⟩
    | tup vs => exact ⟨by show ((Val.tup vs).free && argsOk r) = true; rw [i1, h'.1]; rfl, i2, fun k => by show Val.tup vs :: reArgs k r = _; rw [i3]⟩
    | lst vs => exact ⟨by show ((Val.lst vs).free && argsOk r) = true; rw [i1, h'.1]; rfl, i2, fun k => by show Val.lst vs :: reArgs k r = _; rw [i3]⟩
    | dct t ks vs => exact ⟨by show ((Val.dct t ks vs).free && argsOk r) = true; rw [i1, h'.1]; rfl, i2, fun k => by show Val.dct t ks vs :: reArgs k r = _; rw [i3]⟩
    | exc c => exact ⟨by show (true && argsOk r) = true; rw [i1]; rfl, i2, fun k => by show Val.exc c :: reArgs k r = _; rw [i3]⟩
/-- a call of values that hands back a value -/
theorem call_val {Φ : Nat → List Val → Store → R Val} {f : Nat} {args : List Val} {v : Val} {S S' : Store} (hf : Val.frees args = true) (h : Φ f args [] = .ok v S') (hv : v.free = true) : callI Φ false f args S = .ok v S := by
  obtain ⟨i1, i2, i3⟩ := args_free args hf
  unfold callI callJ
  dsimp only
  rw [i1, i2]
  have e : getAll S [] = some [] := rfl
  simp only [List.nodup_nil, decide_true, Bool.and_self, if_true, e, freeObjs, i3, h, backs]
  have er : resV S' [] v = some v := by
    unfold resV
    cases v <;> first | exact frz_free _ _ _ _ hv | cases hv
  simp only [er]
  rfl
/-- .. a new list, to be changed no more -/
theorem call_lst {Φ : Nat → List Val → Store → R Val} {f : Nat} {args : List Val} {j : Nat} {vs : List Val} {S S' : Store} (hf : Val.frees args = true) (h : Φ f args [] = .ok (.loc j) S') (hj : S'[j]? = some (.lst vs)) (hv : Val.frees vs = true) : callI Φ false f args S = .ok (.lst vs) S := by
  obtain ⟨i1, i2, i3⟩ := args_free args hf
  unfold callI callJ
  dsimp only
  rw [i1, i2]
  have e : getAll S [] = some [] := rfl
  simp only [List.nodup_nil, decide_true, Bool.and_self, if_true, e, freeObjs, i3, h, backs]
  have er : resV S' [] (.loc j) = some (.lst vs) := by
    show frz S' _ 6 (.loc j) = _
    unfold frz
    show (if decide (j < 0) = true then none else match S'[j]? with
      | some (.lst vs) => match allSome (frz S' _ 5) vs with
        | some ws => some (Val.lst ws)
        | none => none
      | some (.dct t _ ks vs) => match allSome (frz S' _ 5) vs with
        | some ws => some (Val.dct t ks ws)
        | none => none
      | _ => none) = _
    rw [hj]
    simp only [allSome_free _ _ _ vs hv]
    rfl
  simp only [er]
  rfl
/-- .. a new list, to be changed -/
theorem call_new {Φ : Nat → List Val → Store → R Val} {f : Nat} {args : List Val} {j : Nat} {vs : List Val} {S S' : Store} (hf : Val.frees args = true) (h : Φ f args [] = .ok (.loc j) S') (hj : S'[j]? = some (.lst vs)) (hv : Val.frees vs = true) : callI Φ true f args S = .ok (.loc S.length) (S ++ [.lst vs]) := by
  obtain ⟨i1, i2, i3⟩ := args_free args hf
  unfold callI callJ
  dsimp only
  rw [i1, i2]
  have e : getAll S [] = some [] := rfl
  have e2 : newLoc ([] : List Nat).length (.loc j) = some j := rfl
  simp only [List.nodup_nil, decide_true, Bool.and_self, if_true, e, freeObjs, i3, h, backs, e2, hj, frzO_free _ _ vs hv]
/-- a call whose first argument is a list of the store -/
theorem call_loc {Φ : Nat → List Val → Store → R Val} {f : Nat} {args : List Val} {n : Nat} {v : Val} {vs ws : List Val} {S S' : Store} (hf : Val.frees args = true) (hn : S[n]? = some (.lst vs)) (hvs : Val.frees vs = true)
    (h : Φ f (.loc 0 :: args) [.lst vs] = .ok v S') (h0 : S'[0]? = some (.lst ws)) (hws : Val.frees ws = true) (hv : v.free = true) : callI Φ false f (.loc n :: args) S = .ok v (S.set n (.lst ws)) := by
  obtain ⟨i1, i2, i3⟩ := args_free args hf
  have j1 : argsOk (.loc n :: args) = true := i1
  have j2 : argLocs (.loc n :: args) = [n] := by show n :: argLocs args = _; rw [i2]
  have j3 : reArgs 0 (.loc n :: args) = .loc 0 :: args := by show Val.loc 0 :: reArgs 1 args = _; rw [i3]
  unfold callI callJ
  dsimp only
  rw [j1, j2, j3]
  have e : getAll S [n] = some [.lst vs] := by
    unfold getAll
    rw [hn]
    rfl
  have ef : freeObjs [.lst vs] = true := by
    show (Val.frees vs && true) = true
    rw [hvs]
    rfl
  have en : decide ([n] : List Nat).Nodup = true := decide_eq_true (by simp)
  have eb : ∀ kp, backs S' kp 0 [n] S = some (S.set n (.lst ws)) := fun kp => by
    unfold backs
    rw [h0]
    simp only [frzO_free _ _ ws hws]
    rfl
  have er : resV S' [n] v = some v := by
    unfold resV
    cases v <;> first | exact frz_free _ _ _ _ hv | cases hv
  simp only [en, Bool.and_self, if_true, e, ef, h, eb, er]
  rfl
end
end Iv
/-! Iv13: plain data, walks told at once. -/
namespace Iv
open PySem
/-! ### plain data: numbers, and rows of them -/
/-- numbers, rows of numbers, .. k deep -/
def ip : Nat → Val → Bool
  | _, .int _ => true
  | k + 1, .tup vs => vs.all (ip k)
  | k + 1, .lst vs => vs.all (ip k)
  | _, _ => false
theorem ip_mono : ∀ {k : Nat} {v : Val}, ip k v = true → ip (k + 1) v = true
  | k, .int _, _ => by cases k <;> rfl
  | k + 1, .tup vs, h => by
    have h' : vs.all (ip k) = true := h
    show vs.all (ip (k + 1)) = true
    rw [List.all_eq_true] at h' ⊢
    exact fun x hx => ip_mono (h' x hx)
  | k + 1, .lst vs, h => by
    have h' : vs.all (ip k) = true := h
    show vs.all (ip (k + 1)) = true
    rw [List.all_eq_true] at h' ⊢
    exact fun x hx => ip_mono (h' x hx)
  | 0, .tup _, h => by cases h
  | 0, .lst _, h => by cases h
  | k, .non, h => by cases k <;> cases h
  | k, .bl _, h => by cases k <;> cases h
  | k, .str _, h => by cases k <;> cases h
  | k, .dct _ _ _, h => by cases k <;> cases h
  | k, .exc _, h => by cases k <;> cases h
  | k, .loc _, h => by cases k <;> cases h
theorem ip_data : ∀ (k : Nat) (v : Val), ip k v = true → ∃ d, toD v = some d ∧ d.canLay0 = true ∧ d.depth ≤ k
  | k, .int i, _ => ⟨.int i, rfl, rfl, Nat.zero_le _⟩
  | k + 1, .tup vs, h => by
    obtain ⟨ds, h1, h2, h3⟩ := go k vs h
    refine ⟨.tuple ds, ?_, h2, Nat.succ_le_succ h3⟩
    unfold toD
    rw [h1]
  | k + 1, .lst vs, h => by
    obtain ⟨ds, h1, h2, h3⟩ := go k vs h
    refine ⟨.list ds, ?_, h2, Nat.succ_le_succ h3⟩
    unfold toD
    rw [h1]
  | 0, .tup _, h => by cases h
  | 0, .lst _, h => by cases h
  | k, .non, h => by cases k <;> cases h
  | k, .bl _, h => by cases k <;> cases h
  | k, .str _, h => by cases k <;> cases h
  | k, .dct _ _ _, h => by cases k <;> cases h
  | k, .exc _, h => by cases k <;> cases h
  | k, .loc _, h => by cases k <;> cases h
where
  go (k : Nat) : ∀ vs : List Val, vs.all (ip k) = true → ∃ ds, toDs vs = some ds ∧ PyData.canLayAll0 ds = true ∧ PyData.depthAll ds ≤ k
    | [], _ => ⟨[], rfl, rfl, Nat.zero_le _⟩
    | v :: vs, h => by
      rw [List.all_cons, Bool.and_eq_true] at h
      obtain ⟨d, a1, a2, a3⟩ := ip_data k v h.1
      obtain ⟨ds, b1, b2, b3⟩ := go k vs h.2
      refine ⟨d :: ds, ?_, ?_, Nat.max_le.mpr ⟨a3, b3⟩⟩
      · unfold toDs
        rw [a1, b1]
      · show (d.canLay0 && PyData.canLayAll0 ds) = true
        rw [a2, b2]
        rfl
theorem shaped_ip {k : Nat} {d : PyData} (hk : k ≤ 64) (h : d.canLay0 = true) (h2 : d.depth ≤ k) : SeqAt.shaped d = true := by
  unfold SeqAt.shaped
  rw [h, decide_eq_true (Nat.le_trans h2 hk)]
  rfl
/-- equal data, equal values -/
theorem ip_eqv : ∀ (k : Nat) (v w : Val) (d e : PyData), ip k v = true → ip k w = true → toD v = some d → toD w = some e → (PyData.eqv d e = true ↔ v = w)
  | k, .int i, .int j, d, e, _, _, h1, h2 => by
    cases h1
    cases h2
    show (i == j) = true ↔ _
    rw [beq_iff_eq]
    exact ⟨fun h => by rw [h], fun h => by cases h; rfl⟩
  | k + 1, .tup vs, .tup ws, d, e, h3, h4, h1, h2 => by
    obtain ⟨ds, a1, _⟩ := ip_data.go k vs h3
    obtain ⟨es, b1, _⟩ := ip_data.go k ws h4
    unfold toD at h1 h2
    rw [a1] at h1
    rw [b1] at h2
    cases h1
    cases h2
    show PyData.eqvAll ds es = true ↔ _
    rw [go k vs ws ds es h3 h4 a1 b1]
    exact ⟨fun h => by rw [h], fun h => by cases h; rfl⟩
  | k + 1, .lst vs, .lst ws, d, e, h3, h4, h1, h2 => by
    obtain ⟨ds, a1, _⟩ := ip_data.go k vs h3
    obtain ⟨es, b1, _⟩ := ip_data.go k ws h4
    unfold toD at h1 h2
    rw [a1] at h1
    rw [b1] at h2
    cases h1
    cases h2
    show PyData.eqvAll ds es = true ↔ _
    rw [go k vs ws ds es h3 h4 a1 b1]
    exact ⟨fun h => by rw [h], fun h => by cases h; rfl⟩
  | k + 1, .int i, .tup ws, d, e, _, h4, h1, h2 => by
    obtain ⟨es, b1, _⟩ := ip_data.go k ws h4
    unfold toD at h2
    rw [b1] at h2
    cases h1; cases h2
    exact ⟨fun h => (by cases h), fun h => (by cases h)⟩
  | k + 1, .int i, .lst ws, d, e, _, h4, h1, h2 => by
    obtain ⟨es, b1, _⟩ := ip_data.go k ws h4
    unfold toD at h2
    rw [b1] at h2
    cases h1; cases h2
    exact ⟨fun h => (by cases h), fun h => (by cases h)⟩
  | k + 1, .tup ws, .int i, d, e, h4, _, h2, h1 => by
    obtain ⟨es, b1, _⟩ := ip_data.go k ws h4
    unfold toD at h2
    rw [b1] at h2
    cases h1; cases h2
    exact ⟨fun h => (by cases h), fun h => (by cases h)⟩
  | k + 1, .lst ws, .int i, d, e, h4, _, h2, h1 => by
    obtain ⟨es, b1, _⟩ := ip_data.go k ws h4
    unfold toD at h2
    rw [b1] at h2
    cases h1; cases h2
    exact ⟨fun h => (by cases h), fun h => (by cases h)⟩
  | k + 1, .tup vs, .lst ws, d, e, h3, h4, h1, h2 => by
    obtain ⟨ds, a1, _⟩ := ip_data.go k vs h3
    obtain ⟨es, b1, _⟩ := ip_data.go k ws h4
    unfold toD at h1 h2
    rw [a1] at h1
    rw [b1] at h2
    cases h1; cases h2
    exact ⟨fun h => (by cases h), fun h => (by cases h)⟩
  | k + 1, .lst vs, .tup ws, d, e, h3, h4, h1, h2 => by
    obtain ⟨ds, a1, _⟩ := ip_data.go k vs h3
    obtain ⟨es, b1, _⟩ := ip_data.go k ws h4
    unfold toD at h1 h2
    rw [a1] at h1
    rw [b1] at h2
    cases h1; cases h2
    exact ⟨fun h => (by cases h), fun h => (by cases h)⟩
  | 0, .int _, .tup _, _, _, _, h, _, _ => by cases h
  | 0, .int _, .lst _, _, _, _, h, _, _ => by cases h
  | 0, .tup _, _, _, _, h, _, _, _ => by cases h
  | 0, .lst _, _, _, _, h, _, _, _ => by cases h
  | k, .non, _, _, _, h, _, _, _ => by cases k <;> cases h
  | k, .bl _, _, _, _, h, _, _, _ => by cases k <;> cases h
  | k, .str _, _, _, _, h, _, _, _ => by cases k <;> cases h
  | k, .dct _ _ _, _, _, _, h, _, _, _ => by cases k <;> cases h
  | k, .exc _, _, _, _, h, _, _, _ => by cases k <;> cases h
  | k, .loc _, _, _, _, h, _, _, _ => by cases k <;> cases h
  | k, _, .non, _, _, _, h, _, _ => by cases k <;> cases h
  | k, _, .bl _, _, _, _, h, _, _ => by cases k <;> cases h
  | k, _, .str _, _, _, _, h, _, _ => by cases k <;> cases h
  | k, _, .dct _ _ _, _, _, _, h, _, _ => by cases k <;> cases h
  | k, _, .exc _, _, _, _, h, _, _ => by cases k <;> cases h
  | k, _, .loc _, _, _, _, h, _, _ => by cases k <;> cases h
where
  go (k : Nat) : ∀ (vs ws : List Val) (ds es : List PyData), vs.all (ip k) = true → ws.all (ip k) = true → toDs vs = some ds → toDs ws = some es → (PyData.eqvAll ds es = true ↔ vs = ws)
    | [], [], ds, es, _, _, h1, h2 => by
      cases h1; cases h2
      exact ⟨fun _ => rfl, fun _ => rfl⟩
    | [], w :: ws, ds, es, _, h4, h1, h2 => by
      obtain ⟨es', b1, _⟩ := ip_data.go k (w :: ws) h4
      rw [b1] at h2
      cases h1; cases h2
      cases es with
      | nil =>
        unfold toDs at b1
        cases q : toD w with
        | none => rw [q] at b1; cases b1
        | some d =>
          rw [q] at b1
          cases q2 : toDs ws with
          | none => rw [q2] at b1; cases b1
          | some ds => rw [q2] at b1; cases b1
      | cons _ _ => exact ⟨fun h => (by cases h), fun h => (by cases h)⟩
    | v :: vs, [], ds, es, h3, _, h1, h2 => by
      obtain ⟨ds', b1, _⟩ := ip_data.go k (v :: vs) h3
      rw [b1] at h1
      cases h1; cases h2
      cases ds with
      | nil =>
        unfold toDs at b1
        cases q : toD v with
        | none => rw [q] at b1; cases b1
        | some d =>
          rw [q] at b1
          cases q2 : toDs vs with
          | none => rw [q2] at b1; cases b1
          | some ds => rw [q2] at b1; cases b1
      | cons _ _ => exact ⟨fun h => (by cases h), fun h => (by cases h)⟩
    | v :: vs, w :: ws, ds, es, h3, h4, h1, h2 => by
      rw [List.all_cons, Bool.and_eq_true] at h3 h4
      obtain ⟨d, a1, _⟩ := ip_data k v h3.1
      obtain ⟨ds', a2, _⟩ := ip_data.go k vs h3.2
      obtain ⟨e, b1, _⟩ := ip_data k w h4.1
      obtain ⟨es', b2, _⟩ := ip_data.go k ws h4.2
      unfold toDs at h1 h2
      rw [a1, a2] at h1
      rw [b1, b2] at h2
      cases h1; cases h2
      show (PyData.eqv d e && PyData.eqvAll ds' es') = true ↔ _
      rw [Bool.and_eq_true, ip_eqv k v w d e h3.1 h4.1 a1 b1, go k vs ws ds' es' h3.2 h4.2 a2 b2]
      exact ⟨fun h => by rw [h.1, h.2], fun h => by cases h; exact ⟨rfl, rfl⟩⟩
theorem eqV_ip {k : Nat} {v w : Val} (hk : k ≤ 64) (hv : ip k v = true) (hw : ip k w = true) : ∃ c, eqV v w = some c ∧ (c = true ↔ v = w) := by
  obtain ⟨d, a1, a2, a3⟩ := ip_data k v hv
  obtain ⟨e, b1, b2, b3⟩ := ip_data k w hw
  refine ⟨PyData.eqv d e, ?_, ip_eqv k v w d e hv hw a1 b1⟩
  unfold eqV
  rw [a1, b1]
  show (if (SeqAt.shaped d && SeqAt.shaped e) = true then some (PyData.eqv d e) else none) = _
  rw [shaped_ip hk a2 a3, shaped_ip hk b2 b3]
  rfl
theorem deref_ip {S : Store} {k : Nat} {v : Val} (hv : ip k v = true) : deref S v = v := by
  cases v with
  | loc n => cases k <;> cases hv
  | _ => rfl
theorem eqW_some {a b : Val} {k : Bool} (h : eqV a b = some k) : eqW a b = some k := by
  unfold eqW
  rw [h]
theorem v_eqP {S : Store} {k : Nat} {v w : Val} (hk : k ≤ 64) (hv : ip k v = true) (hw : ip k w = true) : ∃ c, cmpV S .eq v w = some c ∧ (c = true ↔ v = w) := by
  obtain ⟨c, h1, h2⟩ := eqV_ip hk hv hw
  refine ⟨c, ?_, h2⟩
  have : cmpV S .eq v w = eqW (deref S v) (deref S w) := by cases v <;> cases w <;> rfl
  rw [this, deref_ip hv, deref_ip hw, eqW_some h1]
theorem v_neP {S : Store} {k : Nat} {v w : Val} (hk : k ≤ 64) (hv : ip k v = true) (hw : ip k w = true) : ∃ c, cmpV S .ne v w = some c ∧ (c = false ↔ v = w) := by
  obtain ⟨c, h1, h2⟩ := eqV_ip hk hv hw
  refine ⟨!c, ?_, by cases c <;> simpa using h2⟩
  have : cmpV S .ne v w = match eqV (deref S v) (deref S w) with
    | some k => some (!k)
    | none => none := by cases v <;> cases w <;> rfl
  rw [this, deref_ip hv, deref_ip hw, h1]
/-- a tuple of anything against the empty one -/
theorem v_eqT0 {S : Store} (vs : List Val) : cmpV S .eq (.tup vs) (.tup []) = some vs.isEmpty := by
  show eqW (.tup vs) (.tup []) = _
  unfold eqW
  cases h : eqV (.tup vs) (.tup []) with
  | none => rfl
  | some k =>
    dsimp only
    unfold eqV at h
    cases e1 : toD (.tup vs) with
    | none => rw [e1] at h; cases h
    | some d =>
      rw [e1] at h
      unfold toD at e1
      cases e2 : toDs vs with
      | none => rw [e2] at e1; cases e1
      | some ds =>
        rw [e2] at e1
        cases e1
        have h' : (if (SeqAt.shaped (.tuple ds) && SeqAt.shaped (.tuple [])) = true then some (PyData.eqv (.tuple ds) (.tuple [])) else none) = some k := h
        split at h'
        · cases h'
          cases vs with
          | nil => cases e2; rfl
          | cons v vs =>
            unfold toDs at e2
            split at e2
            · split at e2
              · cases e2; rfl
              · cases e2
            · cases e2
        · cases h'
/-- a list of the store, or a value, against a value -/
theorem v_eqL {S : Store} {k n : Nat} {vs : List Val} {w : Val} (hk : k ≤ 64) (hn : S[n]? = some (.lst vs)) (hv : ip k (.lst vs) = true) (hw : ip k w = true) : ∃ c, cmpV S .eq (.loc n) w = some c ∧ (c = true ↔ .lst vs = w) := by
  obtain ⟨c, h1, h2⟩ := eqV_ip hk hv hw
  refine ⟨c, ?_, h2⟩
  have : cmpV S .eq (.loc n) w = eqW (deref S (.loc n)) (deref S w) := by cases w <;> rfl
  have e : deref S (.loc n) = .lst vs := by unfold deref; simp only [hn]
  rw [this, e, deref_ip hw, eqW_some h1]
theorem v_neL {S : Store} {k n : Nat} {vs : List Val} {w : Val} (hk : k ≤ 64) (hn : S[n]? = some (.lst vs)) (hv : ip k (.lst vs) = true) (hw : ip k w = true) : ∃ c, cmpV S .ne (.loc n) w = some c ∧ (c = false ↔ .lst vs = w) := by
  obtain ⟨c, h1, h2⟩ := eqV_ip hk hv hw
  refine ⟨!c, ?_, by cases c <;> simpa using h2⟩
  have : cmpV S .ne (.loc n) w = match eqV (deref S (.loc n)) (deref S w) with
    | some k => some (!k)
    | none => none := by cases w <;> rfl
  have e : deref S (.loc n) = .lst vs := by unfold deref; simp only [hn]
  rw [this, e, deref_ip hw, h1]
/-- i in ns -/
theorem inV_ints (i : Int) (ns : List Int) : inVals (.int i) (ns.map .int) = some (decide (i ∈ ns)) := by
  have h : ∀ ns : List Int, ip 1 (.lst (ns.map .int)) = true := fun ns => by
    show (ns.map Val.int).all (ip 0) = true
    rw [List.all_eq_true]
    intro x hx
    obtain ⟨j, _, rfl⟩ := List.mem_map.mp hx
    rfl
  obtain ⟨d, a1, a2, a3⟩ := ip_data 1 _ (h ns)
  have e1 : ∀ ns : List Int, toDs (ns.map .int) = some (ns.map .int) := by
    intro ns
    induction ns with
    | nil => rfl
    | cons n ns ih => rw [List.map_cons]; unfold toDs; rw [ih]; rfl
  unfold toD at a1
  rw [e1] at a1
  cases a1
  unfold inVals
  rw [e1]
  show (if (SeqAt.shaped (.int i) && SeqAt.shaped (.list (ns.map PyData.int))) = true then some ((ns.map PyData.int).any fun z => PyData.eqv z (.int i)) else none) = _
  rw [shaped_ip (by decide) a2 a3]
  show some ((ns.map PyData.int).any fun z => PyData.eqv z (.int i)) = _
  congr 1
  rw [List.any_map]
  by_cases c : i ∈ ns
  · rw [decide_eq_true c, List.any_eq_true]
    exact ⟨i, c, by show (i == i) = true; exact beq_self_eq_true i⟩
  · rw [decide_eq_false c]
    rw [List.any_eq_false]
    intro x hx
    show ¬ (x == i) = true
    intro z
    exact c (by rw [← eq_of_beq z]; exact hx)
theorem v_inT {S : Store} (i : Int) (ns : List Int) : cmpV S .isin (.int i) (.tup (ns.map .int)) = some (decide (i ∈ ns)) := by
  show (match items S (.tup (ns.map .int)) with
    | some ws => inVals (.int i) ws
    | none => none) = _
  exact inV_ints i ns
theorem v_inL {S : Store} (i : Int) (ns : List Int) : cmpV S .isin (.int i) (.lst (ns.map .int)) = some (decide (i ∈ ns)) := by
  show (match items S (.lst (ns.map .int)) with
    | some ws => inVals (.int i) ws
    | none => none) = _
  exact inV_ints i ns
theorem v_ninT {S : Store} (i : Int) (ns : List Int) : cmpV S .notin (.int i) (.tup (ns.map .int)) = some (!decide (i ∈ ns)) := by
  show (match inVals (.int i) (ns.map .int) with
    | some k => some (!k)
    | none => none) = _
  rw [inV_ints]
theorem v_ninL {S : Store} (i : Int) (ns : List Int) : cmpV S .notin (.int i) (.lst (ns.map .int)) = some (!decide (i ∈ ns)) := by
  show (match inVals (.int i) (ns.map .int) with
    | some k => some (!k)
    | none => none) = _
  rw [inV_ints]
/-! ### comprehensions at once -/
section
variable {f : Val → Store → R (Option Val)} {S : Store}
/-- each value kept or not, the store as it was -/
theorem comp_opt {α : Type} (o : α → Option Val) (v : α → Val) : ∀ (xs : List α) (acc : List Val), (∀ x ∈ xs, f (v x) S = .ok (o x) S) → acc.length + xs.length ≤ lim → compGo f (xs.map v) acc S = .ok (acc ++ xs.filterMap o) S
  | [], acc, _, _ => by
    show R.ok acc S = _
    rw [List.filterMap_nil, List.append_nil]
  | x :: xs, acc, h, hl => by
    have h1 := h x List.mem_cons_self
    rw [List.length_cons] at hl
    rw [List.map_cons]
    show (match f (v x) S with
      | .ok (some v) S1 => if acc.length < lim then compGo f (xs.map _) (acc ++ [v]) S1 else .bad
      | .ok none S1 => compGo f (xs.map _) acc S1
      | _ => .bad) = _
    rw [h1]
    cases e : o x with
    | none =>
      rw [List.filterMap_cons_none e]
      exact comp_opt o v xs acc (fun z hz => h z (List.mem_cons_of_mem _ hz)) (by omega)
    | some w =>
      rw [List.filterMap_cons_some e]
      show (if acc.length < lim then compGo f (xs.map v) (acc ++ [w]) S else .bad) = _
      rw [if_pos (by omega), comp_opt o v xs (acc ++ [w]) (fun z hz => h z (List.mem_cons_of_mem _ hz)) (by rw [List.length_append]; simp only [List.length_cons, List.length_nil]; omega), List.append_assoc]
      rfl
theorem comp_map {α : Type} (g : α → Val) (v : α → Val) (xs : List α) (h : ∀ x ∈ xs, f (v x) S = .ok (some (g x)) S) (hl : xs.length ≤ lim) : compGo f (xs.map v) [] S = .ok (xs.map g) S := by
  rw [comp_opt (fun x => some (g x)) v xs [] h (by simpa using hl), List.nil_append, List.filterMap_eq_map']
theorem comp_filter {α : Type} (p : α → Bool) (g : α → Val) (v : α → Val) (xs : List α) (h : ∀ x ∈ xs, f (v x) S = .ok (if p x then some (g x) else none) S) (hl : xs.length ≤ lim) : compGo f (xs.map v) [] S = .ok ((xs.filter p).map g) S := by
  rw [comp_opt (fun x => if p x then some (g x) else none) v xs [] h (by simpa using hl), List.nil_append]
  congr 1
  induction xs with
  | nil => rfl
  | cons x xs ih =>
    have ih' := ih (fun z hz => h z (List.mem_cons_of_mem _ hz)) (by rw [List.length_cons] at hl; omega)
    by_cases c : p x = true
    · rw [List.filterMap_cons_some (b := g x) (by rw [if_pos c]), List.filter_cons_of_pos c, List.map_cons, ih']
    · rw [List.filterMap_cons_none (by rw [if_neg c]), List.filter_cons_of_neg c, ih']
/-- what is collected and the store keep a promise -/
theorem comp_inv (I : List Val → Store → Prop) : ∀ (xs acc : List Val) (S : Store), (∀ x ∈ xs, ∀ acc S, I acc S → ∃ o S1, f x S = .ok o S1 ∧ I (acc ++ o.toList) S1) → I acc S → acc.length + xs.length ≤ lim →
    ∃ acc' S', compGo f xs acc S = .ok acc' S' ∧ I acc' S' ∧ acc'.length ≤ acc.length + xs.length
  | [], acc, S, _, h0, _ => ⟨acc, S, rfl, h0, Nat.le_refl _⟩
  | x :: xs, acc, S, h, h0, hl => by
    obtain ⟨o, S1, h1, h2⟩ := h x List.mem_cons_self acc S h0
    have hr : ∀ x ∈ xs, ∀ acc S, I acc S → ∃ o S1, f x S = .ok o S1 ∧ I (acc ++ o.toList) S1 := fun z hz => h z (List.mem_cons_of_mem _ hz)
    rw [List.length_cons] at hl ⊢
    cases o with
    | none =>
      have h2' : I acc S1 := by simpa using h2
      obtain ⟨acc', S', a1, a2, a3⟩ := comp_inv I xs acc S1 hr h2' (by omega)
      refine ⟨acc', S', ?_, a2, by omega⟩
      show (match f x S with
        | .ok (some v) S1 => if acc.length < lim then compGo f xs (acc ++ [v]) S1 else .bad
        | .ok none S1 => compGo f xs acc S1
        | _ => .bad) = _
      rw [h1]
      exact a1
    | some w =>
      have h2' : I (acc ++ [w]) S1 := h2
      obtain ⟨acc', S', a1, a2, a3⟩ := comp_inv I xs (acc ++ [w]) S1 hr h2' (by rw [List.length_append]; simp only [List.length_cons, List.length_nil]; omega)
      refine ⟨acc', S', ?_, a2, by rw [List.length_append] at a3; simp only [List.length_cons, List.length_nil] at a3; omega⟩
      show (match f x S with
        | .ok (some v) S1 => if acc.length < lim then compGo f xs (acc ++ [v]) S1 else .bad
        | .ok none S1 => compGo f xs acc S1
        | _ => .bad) = _
      rw [h1]
      show (if acc.length < lim then compGo f xs (acc ++ [w]) S1 else .bad) = _
      rw [if_pos (by omega)]
      exact a1
theorem live_at {n : Nat} {xs : List Val} (hn : S[n]? = some (.lst xs)) : liveAt S n xs.length = some xs ∧ lenAt S n = xs.length := by
  constructor
  · unfold liveAt
    rw [hn]
    exact if_pos rfl
  · unfold lenAt
    rw [hn]
theorem live_go {n : Nat} {xs : List Val} (hn : S[n]? = some (.lst xs)) (hf : ∀ x ∈ xs, ∃ o, f x S = .ok o S) : ∀ (k i : Nat) (acc : List Val), i + k = xs.length → compLive f n xs.length i k acc S = compGo f (xs.drop i) acc S
  | 0, i, acc, h => by
    show (match liveAt S n xs.length with
      | some _ => R.ok acc S
      | none => .bad) = _
    rw [(live_at hn).1, List.drop_eq_nil_of_le (by omega)]
    rfl
  | k + 1, i, acc, h => by
    have hi : i < xs.length := by omega
    obtain ⟨o, ho⟩ := hf xs[i] (List.getElem_mem hi)
    show (match liveAt S n xs.length with
      | some ys => match ys[i]? with
        | some x => match f x S with
          | .ok (some v) S1 => if acc.length < lim then compLive f n xs.length (i + 1) k (acc ++ [v]) S1 else .bad
          | .ok none S1 => compLive f n xs.length (i + 1) k acc S1
          | _ => .bad
        | none => .bad
      | none => .bad) = _
    rw [(live_at hn).1, List.drop_eq_getElem_cons hi]
    show (match xs[i]? with
        | some x => match f x S with
          | .ok (some v) S1 => if acc.length < lim then compLive f n xs.length (i + 1) k (acc ++ [v]) S1 else .bad
          | .ok none S1 => compLive f n xs.length (i + 1) k acc S1
          | _ => .bad
        | none => .bad) = (match f xs[i] S with
          | .ok (some v) S1 => if acc.length < lim then compGo f (xs.drop (i + 1)) (acc ++ [v]) S1 else .bad
          | .ok none S1 => compGo f (xs.drop (i + 1)) acc S1
          | _ => .bad)
    rw [List.getElem?_eq_getElem hi]
    show (match f xs[i] S with
          | .ok (some v) S1 => if acc.length < lim then compLive f n xs.length (i + 1) k (acc ++ [v]) S1 else .bad
          | .ok none S1 => compLive f n xs.length (i + 1) k acc S1
          | _ => .bad) = _
    rw [ho]
    cases o with
    | none => exact live_go hn hf k (i + 1) acc (by omega)
    | some w =>
      show (if acc.length < lim then compLive f n xs.length (i + 1) k (acc ++ [w]) S else .bad) = (if acc.length < lim then compGo f (xs.drop (i + 1)) (acc ++ [w]) S else .bad)
      rw [live_go hn hf k (i + 1) (acc ++ [w]) (by omega)]
/-- a walk over a list of the store that changes nothing -/
theorem live_pure {n : Nat} {xs : List Val} (hn : S[n]? = some (.lst xs)) (hf : ∀ x ∈ xs, ∃ o, f x S = .ok o S) : compLive f n (lenAt S n) 0 (lenAt S n) [] S = compGo f xs [] S := by
  rw [(live_at hn).2, live_go hn hf xs.length 0 [] (by omega), List.drop_zero]
end
/-! ### loops at once -/
section
variable {Φ : Option Bool → Nat → List Val → Store → R Val} {W : Nat} {g : Tg} {b : St}
/-- a loop that keeps a promise, turn by turn -/
theorem for_inv (I : Nat → Env → Store → Prop) : ∀ (xs : List Val) (i : Nat) (ρ : Env) (S : Store), I i ρ S →
    (∀ j x ρ S, xs[j]? = some x → I (i + j) ρ S → ∃ ρ1 ρ2 S2, setTg ρ g x = some ρ1 ∧ (execS Φ W b ρ1 S = .nxt ρ2 S2 ∨ execS Φ W b ρ1 S = .cnt ρ2 S2) ∧ I (i + j + 1) ρ2 S2) → ∃ ρ' S', forS Φ W g b xs ρ S = .nxt ρ' S' ∧ I (i + xs.length) ρ' S'
  | [], i, ρ, S, h, _ => ⟨ρ, S, rfl, h⟩
  | x :: xs, i, ρ, S, h, hs => by
    obtain ⟨ρ1, ρ2, S2, h1, h2, h3⟩ := hs 0 x ρ S rfl h
    obtain ⟨ρ', S', h4, h5⟩ := for_inv I xs (i + 1) ρ2 S2 h3 fun j y ρ S hj hI => by
      have := hs (j + 1) y ρ S (by simpa using hj) (by rw [← Nat.add_assoc, Nat.add_right_comm]; exact hI)
      rw [show i + 1 + j + 1 = i + (j + 1) + 1 by omega]
      exact this
    refine ⟨ρ', S', ?_, by rw [List.length_cons, show i + (xs.length + 1) = i + 1 + xs.length by omega]; exact h5⟩
    rw [f_cons, h1]
    show kTurn Φ W g b xs (execS Φ W b ρ1 S) = _
    rcases h2 with h2 | h2
    · rw [h2]; exact h4
    · rw [h2]; exact h4
/-- .. that may end the def -/
theorem for_any (I : Env → Store → Prop) (E : Val → Store → Prop) : ∀ (xs : List Val) (ρ : Env) (S : Store), I ρ S →
    (∀ x ∈ xs, ∀ ρ S, I ρ S → ∃ ρ1, setTg ρ g x = some ρ1 ∧ ((∃ ρ2 S2, (execS Φ W b ρ1 S = .nxt ρ2 S2 ∨ execS Φ W b ρ1 S = .cnt ρ2 S2) ∧ I ρ2 S2) ∨ ∃ v S2, execS Φ W b ρ1 S = .ret v S2 ∧ E v S2)) →
    (∃ ρ' S', forS Φ W g b xs ρ S = .nxt ρ' S' ∧ I ρ' S') ∨ ∃ v S', forS Φ W g b xs ρ S = .ret v S' ∧ E v S'
  | [], ρ, S, h, _ => .inl ⟨ρ, S, rfl, h⟩
  | x :: xs, ρ, S, h, hs => by
    obtain ⟨ρ1, h1, h2⟩ := hs x List.mem_cons_self ρ S h
    rw [f_cons, h1]
    show (∃ ρ' S', kTurn Φ W g b xs (execS Φ W b ρ1 S) = .nxt ρ' S' ∧ I ρ' S') ∨ ∃ v S', kTurn Φ W g b xs (execS Φ W b ρ1 S) = .ret v S' ∧ E v S'
    rcases h2 with ⟨ρ2, S2, h2, h3⟩ | ⟨v, S2, h2, h3⟩
    · have r := for_any I E xs ρ2 S2 h3 fun y hy => hs y (List.mem_cons_of_mem _ hy)
      rcases h2 with h2 | h2
      · rw [h2]; exact r
      · rw [h2]; exact r
    · rw [h2]
      exact .inr ⟨v, S2, rfl, h3⟩
end
/-! ### slots by number -/
section
variable {Φ : Option Bool → Nat → List Val → Store → R Val} {S : Store} {ρ : Env}
theorem m_v0 (v : Val) : evalE Φ (.var 0) (some v :: ρ) S = .ok v S := rfl
theorem m_v1 {y0 : Option Val} (v : Val) : evalE Φ (.var 1) (y0 :: some v :: ρ) S = .ok v S := rfl
theorem m_v2 {y0 y1 : Option Val} (v : Val) : evalE Φ (.var 2) (y0 :: y1 :: some v :: ρ) S = .ok v S := rfl
theorem m_v3 {y0 y1 y2 : Option Val} (v : Val) : evalE Φ (.var 3) (y0 :: y1 :: y2 :: some v :: ρ) S = .ok v S := rfl
theorem m_v4 {y0 y1 y2 y3 : Option Val} (v : Val) : evalE Φ (.var 4) (y0 :: y1 :: y2 :: y3 :: some v :: ρ) S = .ok v S := rfl
theorem m_v5 {y0 y1 y2 y3 y4 : Option Val} (v : Val) : evalE Φ (.var 5) (y0 :: y1 :: y2 :: y3 :: y4 :: some v :: ρ) S = .ok v S := rfl
theorem m_v6 {y0 y1 y2 y3 y4 y5 : Option Val} (v : Val) : evalE Φ (.var 6) (y0 :: y1 :: y2 :: y3 :: y4 :: y5 :: some v :: ρ) S = .ok v S := rfl
theorem m_v7 {y0 y1 y2 y3 y4 y5 y6 : Option Val} (v : Val) : evalE Φ (.var 7) (y0 :: y1 :: y2 :: y3 :: y4 :: y5 :: y6 :: some v :: ρ) S = .ok v S := rfl
theorem m_v8 {y0 y1 y2 y3 y4 y5 y6 y7 : Option Val} (v : Val) : evalE Φ (.var 8) (y0 :: y1 :: y2 :: y3 :: y4 :: y5 :: y6 :: y7 :: some v :: ρ) S = .ok v S := rfl
theorem m_v9 {y0 y1 y2 y3 y4 y5 y6 y7 y8 : Option Val} (v : Val) : evalE Φ (.var 9) (y0 :: y1 :: y2 :: y3 :: y4 :: y5 :: y6 :: y7 :: y8 :: some v :: ρ) S = .ok v S := rfl
theorem m_v10 {y0 y1 y2 y3 y4 y5 y6 y7 y8 y9 : Option Val} (v : Val) : evalE Φ (.var 10) (y0 :: y1 :: y2 :: y3 :: y4 :: y5 :: y6 :: y7 :: y8 :: y9 :: some v :: ρ) S = .ok v S := rfl
theorem m_v11 {y0 y1 y2 y3 y4 y5 y6 y7 y8 y9 y10 : Option Val} (v : Val) : evalE Φ (.var 11) (y0 :: y1 :: y2 :: y3 :: y4 :: y5 :: y6 :: y7 :: y8 :: y9 :: y10 :: some v :: ρ) S = .ok v S := rfl
theorem m_v12 {y0 y1 y2 y3 y4 y5 y6 y7 y8 y9 y10 y11 : Option Val} (v : Val) : evalE Φ (.var 12) (y0 :: y1 :: y2 :: y3 :: y4 :: y5 :: y6 :: y7 :: y8 :: y9 :: y10 :: y11 :: some v :: ρ) S = .ok v S := rfl
theorem m_v13 {y0 y1 y2 y3 y4 y5 y6 y7 y8 y9 y10 y11 y12 : Option Val} (v : Val) : evalE Φ (.var 13) (y0 :: y1 :: y2 :: y3 :: y4 :: y5 :: y6 :: y7 :: y8 :: y9 :: y10 :: y11 :: y12 :: some v :: ρ) S = .ok v S := rfl
theorem m_v14 {y0 y1 y2 y3 y4 y5 y6 y7 y8 y9 y10 y11 y12 y13 : Option Val} (v : Val) : evalE Φ (.var 14) (y0 :: y1 :: y2 :: y3 :: y4 :: y5 :: y6 :: y7 :: y8 :: y9 :: y10 :: y11 :: y12 :: y13 :: some v :: ρ) S = .ok v S := rfl
theorem m_v15 {y0 y1 y2 y3 y4 y5 y6 y7 y8 y9 y10 y11 y12 y13 y14 : Option Val} (v : Val) : evalE Φ (.var 15) (y0 :: y1 :: y2 :: y3 :: y4 :: y5 :: y6 :: y7 :: y8 :: y9 :: y10 :: y11 :: y12 :: y13 :: y14 :: some v :: ρ) S = .ok v S := rfl
end
section
variable {α : Type} {r : List α}
theorem l_s0 (y x : α) : (y :: r).set 0 x = x :: r := rfl
theorem l_s1 {y0 : α} (y x : α) : (y0 :: y :: r).set 1 x = y0 :: x :: r := rfl
theorem l_s2 {y0 y1 : α} (y x : α) : (y0 :: y1 :: y :: r).set 2 x = y0 :: y1 :: x :: r := rfl
theorem l_s3 {y0 y1 y2 : α} (y x : α) : (y0 :: y1 :: y2 :: y :: r).set 3 x = y0 :: y1 :: y2 :: x :: r := rfl
theorem l_s4 {y0 y1 y2 y3 : α} (y x : α) : (y0 :: y1 :: y2 :: y3 :: y :: r).set 4 x = y0 :: y1 :: y2 :: y3 :: x :: r := rfl
theorem l_s5 {y0 y1 y2 y3 y4 : α} (y x : α) : (y0 :: y1 :: y2 :: y3 :: y4 :: y :: r).set 5 x = y0 :: y1 :: y2 :: y3 :: y4 :: x :: r := rfl
theorem l_s6 {y0 y1 y2 y3 y4 y5 : α} (y x : α) : (y0 :: y1 :: y2 :: y3 :: y4 :: y5 :: y :: r).set 6 x = y0 :: y1 :: y2 :: y3 :: y4 :: y5 :: x :: r := rfl
theorem l_s7 {y0 y1 y2 y3 y4 y5 y6 : α} (y x : α) : (y0 :: y1 :: y2 :: y3 :: y4 :: y5 :: y6 :: y :: r).set 7 x = y0 :: y1 :: y2 :: y3 :: y4 :: y5 :: y6 :: x :: r := rfl
theorem l_s8 {y0 y1 y2 y3 y4 y5 y6 y7 : α} (y x : α) : (y0 :: y1 :: y2 :: y3 :: y4 :: y5 :: y6 :: y7 :: y :: r).set 8 x = y0 :: y1 :: y2 :: y3 :: y4 :: y5 :: y6 :: y7 :: x :: r := rfl
theorem l_s9 {y0 y1 y2 y3 y4 y5 y6 y7 y8 : α} (y x : α) : (y0 :: y1 :: y2 :: y3 :: y4 :: y5 :: y6 :: y7 :: y8 :: y :: r).set 9 x = y0 :: y1 :: y2 :: y3 :: y4 :: y5 :: y6 :: y7 :: y8 :: x :: r := rfl
theorem l_s10 {y0 y1 y2 y3 y4 y5 y6 y7 y8 y9 : α} (y x : α) : (y0 :: y1 :: y2 :: y3 :: y4 :: y5 :: y6 :: y7 :: y8 :: y9 :: y :: r).set 10 x = y0 :: y1 :: y2 :: y3 :: y4 :: y5 :: y6 :: y7 :: y8 :: y9 :: x :: r := rfl
theorem l_s11 {y0 y1 y2 y3 y4 y5 y6 y7 y8 y9 y10 : α} (y x : α) : (y0 :: y1 :: y2 :: y3 :: y4 :: y5 :: y6 :: y7 :: y8 :: y9 :: y10 :: y :: r).set 11 x = y0 :: y1 :: y2 :: y3 :: y4 :: y5 :: y6 :: y7 :: y8 :: y9 :: y10 :: x :: r := rfl
theorem l_s12 {y0 y1 y2 y3 y4 y5 y6 y7 y8 y9 y10 y11 : α} (y x : α) : (y0 :: y1 :: y2 :: y3 :: y4 :: y5 :: y6 :: y7 :: y8 :: y9 :: y10 :: y11 :: y :: r).set 12 x = y0 :: y1 :: y2 :: y3 :: y4 :: y5 :: y6 :: y7 :: y8 :: y9 :: y10 :: y11 :: x :: r := rfl
theorem l_s13 {y0 y1 y2 y3 y4 y5 y6 y7 y8 y9 y10 y11 y12 : α} (y x : α) : (y0 :: y1 :: y2 :: y3 :: y4 :: y5 :: y6 :: y7 :: y8 :: y9 :: y10 :: y11 :: y12 :: y :: r).set 13 x = y0 :: y1 :: y2 :: y3 :: y4 :: y5 :: y6 :: y7 :: y8 :: y9 :: y10 :: y11 :: y12 :: x :: r := rfl
theorem l_s14 {y0 y1 y2 y3 y4 y5 y6 y7 y8 y9 y10 y11 y12 y13 : α} (y x : α) : (y0 :: y1 :: y2 :: y3 :: y4 :: y5 :: y6 :: y7 :: y8 :: y9 :: y10 :: y11 :: y12 :: y13 :: y :: r).set 14 x = y0 :: y1 :: y2 :: y3 :: y4 :: y5 :: y6 :: y7 :: y8 :: y9 :: y10 :: y11 :: y12 :: y13 :: x :: r := rfl
theorem l_s15 {y0 y1 y2 y3 y4 y5 y6 y7 y8 y9 y10 y11 y12 y13 y14 : α} (y x : α) : (y0 :: y1 :: y2 :: y3 :: y4 :: y5 :: y6 :: y7 :: y8 :: y9 :: y10 :: y11 :: y12 :: y13 :: y14 :: y :: r).set 15 x = y0 :: y1 :: y2 :: y3 :: y4 :: y5 :: y6 :: y7 :: y8 :: y9 :: y10 :: y11 :: y12 :: y13 :: y14 :: x :: r := rfl
theorem l_g0 (y : α) : (y :: r)[0]? = some y := rfl
theorem l_g1 {y0 : α} (y : α) : (y0 :: y :: r)[1]? = some y := rfl
theorem l_g2 {y0 y1 : α} (y : α) : (y0 :: y1 :: y :: r)[2]? = some y := rfl
theorem l_g3 {y0 y1 y2 : α} (y : α) : (y0 :: y1 :: y2 :: y :: r)[3]? = some y := rfl
theorem l_g4 {y0 y1 y2 y3 : α} (y : α) : (y0 :: y1 :: y2 :: y3 :: y :: r)[4]? = some y := rfl
theorem l_g5 {y0 y1 y2 y3 y4 : α} (y : α) : (y0 :: y1 :: y2 :: y3 :: y4 :: y :: r)[5]? = some y := rfl
theorem l_g6 {y0 y1 y2 y3 y4 y5 : α} (y : α) : (y0 :: y1 :: y2 :: y3 :: y4 :: y5 :: y :: r)[6]? = some y := rfl
theorem l_g7 {y0 y1 y2 y3 y4 y5 y6 : α} (y : α) : (y0 :: y1 :: y2 :: y3 :: y4 :: y5 :: y6 :: y :: r)[7]? = some y := rfl
theorem l_g8 {y0 y1 y2 y3 y4 y5 y6 y7 : α} (y : α) : (y0 :: y1 :: y2 :: y3 :: y4 :: y5 :: y6 :: y7 :: y :: r)[8]? = some y := rfl
theorem l_g9 {y0 y1 y2 y3 y4 y5 y6 y7 y8 : α} (y : α) : (y0 :: y1 :: y2 :: y3 :: y4 :: y5 :: y6 :: y7 :: y8 :: y :: r)[9]? = some y := rfl
theorem l_g10 {y0 y1 y2 y3 y4 y5 y6 y7 y8 y9 : α} (y : α) : (y0 :: y1 :: y2 :: y3 :: y4 :: y5 :: y6 :: y7 :: y8 :: y9 :: y :: r)[10]? = some y := rfl
theorem l_g11 {y0 y1 y2 y3 y4 y5 y6 y7 y8 y9 y10 : α} (y : α) : (y0 :: y1 :: y2 :: y3 :: y4 :: y5 :: y6 :: y7 :: y8 :: y9 :: y10 :: y :: r)[11]? = some y := rfl
theorem l_g12 {y0 y1 y2 y3 y4 y5 y6 y7 y8 y9 y10 y11 : α} (y : α) : (y0 :: y1 :: y2 :: y3 :: y4 :: y5 :: y6 :: y7 :: y8 :: y9 :: y10 :: y11 :: y :: r)[12]? = some y := rfl
theorem l_g13 {y0 y1 y2 y3 y4 y5 y6 y7 y8 y9 y10 y11 y12 : α} (y : α) : (y0 :: y1 :: y2 :: y3 :: y4 :: y5 :: y6 :: y7 :: y8 :: y9 :: y10 :: y11 :: y12 :: y :: r)[13]? = some y := rfl
theorem l_g14 {y0 y1 y2 y3 y4 y5 y6 y7 y8 y9 y10 y11 y12 y13 : α} (y : α) : (y0 :: y1 :: y2 :: y3 :: y4 :: y5 :: y6 :: y7 :: y8 :: y9 :: y10 :: y11 :: y12 :: y13 :: y :: r)[14]? = some y := rfl
theorem l_g15 {y0 y1 y2 y3 y4 y5 y6 y7 y8 y9 y10 y11 y12 y13 y14 : α} (y : α) : (y0 :: y1 :: y2 :: y3 :: y4 :: y5 :: y6 :: y7 :: y8 :: y9 :: y10 :: y11 :: y12 :: y13 :: y14 :: y :: r)[15]? = some y := rfl
end
/-! ### rows -/
theorem cut_all (vs : List Val) : cutL vs none none = vs := by
  unfold cutL
  show (vs.drop 0).take (vs.length - 0) = vs
  rw [List.drop_zero, Nat.sub_zero, List.take_length]
theorem cut_to (vs : List Val) (n : Nat) : cutL vs none (some (n : Int)) = vs.take n := by
  unfold cutL
  rw [HT.sIx_nat, HT.sIx_none, List.drop_zero, Nat.sub_zero, ← List.take_take, List.take_length]
theorem cut_from (vs : List Val) (n : Nat) : cutL vs (some (n : Int)) none = vs.drop n := by
  unfold cutL
  rw [HT.sIx_nat, HT.sIx_none]
  by_cases h : n ≤ vs.length
  · rw [Nat.min_eq_left h, List.take_of_length_le (by rw [List.length_drop]; exact Nat.le_refl _)]
  · rw [Nat.min_eq_right (by omega), Nat.sub_self, List.take_zero, List.drop_eq_nil_of_le (by omega)]
theorem v_slL {S : Store} (vs : List Val) (lo hi : Option Int) : sliceV S (.lst vs) lo hi = some (.lst (cutL vs lo hi)) := rfl
theorem v_slT {S : Store} (vs : List Val) (lo hi : Option Int) : sliceV S (.tup vs) lo hi = some (.tup (cutL vs lo hi)) := rfl
theorem rg1 {S : Store} {n : Int} (h : -(2 ^ 62) ≤ n ∧ n < 2 ^ 62) : kRng (.ok (.int n) S) = .ok (rangeV 0 n.toNat) S := if_pos h
theorem rg2 {S : Store} {lo hi : Int} (h : -(2 ^ 62) ≤ lo ∧ lo < 2 ^ 62 ∧ -(2 ^ 62) ≤ hi ∧ hi < 2 ^ 62) : kRng2 (.int lo) (.ok (.int hi) S) = .ok (rangeV lo (hi - lo).toNat) S := if_pos h
theorem rgl {S : Store} {k : Option Bool} {n : Int} (h : -(2 ^ 62) ≤ n ∧ n < 2 ^ 62 ∧ n.toNat ≤ 100000) : kRl1 k (.ok (.int n) S) = rlV k (rangeV 0 n.toNat) S := if_pos h
theorem t_tupT {S : Store} (vs : List Val) : isT S "tuple" (.tup vs) = some true := rfl
theorem t_boolB {S : Store} (b : Bool) : isT S "bool" (.bl b) = some true := rfl
theorem t_intI {S : Store} (i : Int) : isT S "int" (.int i) = some true := rfl
theorem t_boolI {S : Store} (i : Int) : isT S "bool" (.int i) = some false := rfl
theorem u_tupL {S : Store} (vs : List Val) : uV .tuple (.lst vs) S = .ok (.tup vs) S := rfl
theorem u_tupT {S : Store} (vs : List Val) : uV .tuple (.tup vs) S = .ok (.tup vs) S := rfl
theorem u_lstL {S : Store} (mu : Bool) (vs : List Val) : uV (.list mu) (.lst vs) S = mk mu vs S := rfl
theorem u_lstT {S : Store} (mu : Bool) (vs : List Val) : uV (.list mu) (.tup vs) S = mk mu vs S := rfl
theorem u_intB {S : Store} (b : Bool) : uV .int (.bl b) S = .ok (.int (if b then 1 else 0)) S := rfl
theorem u_intI {S : Store} (i : Int) : uV .int (.int i) S = .ok (.int i) S := rfl
theorem u_rvsT {S : Store} (vs : List Val) : uV .rvs (.tup vs) S = .ok (.tup vs.reverse) S := rfl
theorem u_rvsM {S : Store} (vs : List Val) : uV .rvsM (.lst vs) S = .ok (.loc S.length) (S ++ [.lst vs.reverse]) := rfl
theorem u_rvsL {S : Store} (vs : List Val) : uV .rvs (.lst vs) S = .ok (.lst vs.reverse) S := rfl
theorem bols_map : ∀ bs : List Bool, bolsOf (bs.map .bl) = some bs
  | [] => rfl
  | b :: bs => by
    show (match bolsOf (bs.map .bl) with
      | some is => some (b :: is)
      | none => none) = _
    rw [bols_map bs]
theorem ints_map : ∀ ns : List Int, intsOf (ns.map .int) = some ns
  | [] => rfl
  | b :: bs => by
    show (match intsOf (bs.map .int) with
      | some is => some (b :: is)
      | none => none) = _
    rw [ints_map bs]
theorem u_all {S : Store} (bs : List Bool) : uV .all (.lst (bs.map .bl)) S = .ok (.bl (bs.all id)) S := by
  show (match bolsOf (bs.map .bl) with
    | some bs => R.ok (Val.bl (bs.all id)) S
    | none => .bad) = _
  rw [bols_map]
theorem u_any {S : Store} (bs : List Bool) : uV .any (.lst (bs.map .bl)) S = .ok (.bl (bs.any id)) S := by
  show (match bolsOf (bs.map .bl) with
    | some bs => R.ok (Val.bl (bs.any id)) S
    | none => .bad) = _
  rw [bols_map]
theorem u_sum {S : Store} (ns : List Int) : uV .sum (.lst (ns.map .int)) S = .ok (.int ns.sum) S := by
  show (match intsOf (ns.map Val.int) with
    | some ns => R.ok (Val.int ns.sum) S
    | none => .bad) = _
  rw [ints_map]
theorem u_sumT {S : Store} (ns : List Int) : uV .sum (.tup (ns.map .int)) S = .ok (.int ns.sum) S := by
  show (match intsOf (ns.map Val.int) with
    | some ns => R.ok (Val.int ns.sum) S
    | none => .bad) = _
  rw [ints_map]
theorem u_lset {S : Store} (n : Nat) (ns : List Int) (h : S[n]? = some (.lst (ns.map .int))) (hl : ns.length < 1000) : uV .lset (.loc n) S = .ok (.int (setS ns).length) S := by
  have e : lints S (.loc n) = some ns := by
    have e0 : litems S (.loc n) = some (ns.map .int) := by
      show (match S[n]? with
        | some (.lst vs) => some vs
        | _ => none) = _
      rw [h]
    unfold lints
    rw [e0]
    exact ints_map ns
  show (match lints S (.loc n) with
    | some ns => if ns.length < 1000 then R.ok (Val.int (setS ns).length) S else .bad
    | none => .bad) = _
  rw [e]
  exact if_pos hl
theorem at_m1 {α : Type} (xs : List α) (h : xs ≠ []) : L2.atI xs (-1) = xs[xs.length - 1]? := by
  have hl : 0 < xs.length := List.length_pos_iff.mpr h
  unfold L2.atI L2.ixN
  rw [if_neg (by decide), if_pos (by omega)]
  have : ((-1 : Int) + (xs.length : Int)).toNat = xs.length - 1 := by omega
  rw [this]
  rfl
theorem u_srtT {S : Store} (mu : Bool) (ns : List Int) : uV (.srt true mu) (.tup (ns.map .int)) S = mk mu ((srtI ns).reverse.map .int) S := by
  show (match intsOf (ns.map .int) with
    | some ns => mk mu (((srtI ns).reverse).map .int) S
    | none => .bad) = _
  rw [ints_map]
theorem u_srtL {S : Store} (mu : Bool) (ns : List Int) : uV (.srt true mu) (.lst (ns.map .int)) S = mk mu ((srtI ns).reverse.map .int) S := by
  show (match intsOf (ns.map .int) with
    | some ns => mk mu (((srtI ns).reverse).map .int) S
    | none => .bad) = _
  rw [ints_map]
theorem u_repr {S : Store} {v : Val} {d : PyData} (h : dataOf S v = some d) (hs : showD d = true) : uV .repr v S = .ok (.str d.shown) S := by
  have e : reprA v = none := by
    cases v <;> first | rfl | (exfalso; exact absurd h (by intro z; cases z))
  show (match reprA v with
    | some s => R.ok (Val.str s) S
    | none => match dataOf S v with
      | some d => if showD d then R.ok (Val.str d.shown) S else .bad
      | none => reprQ v S) = _
  rw [e, h]
  exact if_pos hs
mutual
theorem toQ_D : ∀ (v : Val) (d d' : PyData), toQ v = some d → toD v = some d' → d' = d ∧ d.hasDict = false
  | .non, _, _, h, h' => by cases h; cases h'; exact ⟨rfl, rfl⟩
  | .bl b, _, _, h, h' => by cases h; cases h'; exact ⟨rfl, rfl⟩
  | .int i, _, _, h, h' => by cases h; cases h'; exact ⟨rfl, rfl⟩
  | .str s, _, _, h, h' => by cases h; cases h'; exact ⟨rfl, rfl⟩
  | .tup vs, _, _, h, h' => by
    unfold toQ at h
    unfold toD at h'
    cases e : toQs vs with
    | none => rw [e] at h; cases h
    | some ds =>
      rw [e] at h
      cases h
      cases e' : toDs vs with
      | none => rw [e'] at h'; cases h'
      | some ds' =>
        rw [e'] at h'
        cases h'
        obtain ⟨h1, h2⟩ := toQs_D vs ds ds' e e'
        subst h1
        exact ⟨rfl, by unfold PyData.hasDict; exact h2⟩
  | .dct _ _ _, _, _, _, h' => by cases h'
  | .lst _, _, _, h, _ => by cases h
  | .loc _, _, _, h, _ => by cases h
  | .exc _, _, _, h, _ => by cases h
theorem toQs_D : ∀ (vs : List Val) (ds ds' : List PyData), toQs vs = some ds → toDs vs = some ds' → ds' = ds ∧ PyData.hasDictAll ds = false
  | [], _, _, h, h' => by cases h; cases h'; exact ⟨rfl, rfl⟩
  | v :: vs, _, _, h, h' => by
    unfold toQs at h
    unfold toDs at h'
    cases e : toQ v with
    | none => rw [e] at h; cases h
    | some d =>
      rw [e] at h
      cases e' : toD v with
      | none => rw [e'] at h'; cases h'
      | some d' =>
        rw [e'] at h'
        obtain ⟨a1, a2⟩ := toQ_D v d d' e e'
        cases g : toQs vs with
        | none => rw [g] at h; cases h
        | some ds =>
          rw [g] at h
          cases h
          cases g' : toDs vs with
          | none => rw [g'] at h'; cases h'
          | some ds' =>
            rw [g'] at h'
            cases h'
            obtain ⟨b1, b2⟩ := toQs_D vs ds ds' g g'
            subst a1 b1
            exact ⟨rfl, by unfold PyData.hasDictAll; rw [a2, b2]; rfl⟩
end
theorem derefQ (S : Store) : ∀ (vs : List Val) (ds : List PyData), toQs vs = some ds → vs.map (deref S) = vs
  | [], _, _ => rfl
  | v :: vs, _, h => by
    unfold toQs at h
    cases e : toQ v with
    | none => rw [e] at h; cases h
    | some d =>
      rw [e] at h
      cases g : toQs vs with
      | none => rw [g] at h; cases h
      | some ds =>
        have h1 : deref S v = v := by
          cases v with
          | loc n => cases e
          | _ => rfl
        rw [List.map_cons, h1, derefQ S vs ds g]
theorem u_reprQ {S : Store} {vs : List Val} {ds : List PyData} (h : toQs vs = some ds) (hs : showQ (.tuple ds) = true) : uV .repr (.tup vs) S = .ok (.str (PyData.tuple ds).shown) S := by
  show (match (match toDs (vs.map (deref S)) with
    | some ds => some (PyData.tuple ds)
    | none => none) with
    | some d => if showD d then R.ok (Val.str d.shown) S else .bad
    | none => reprQ (.tup vs) S) = _
  rw [derefQ S vs ds h]
  cases e : toDs vs with
  | some ds' =>
    obtain ⟨h1, h2⟩ := toQs_D vs ds ds' h e
    subst h1
    refine if_pos ?_
    have h3 : (PyData.tuple ds').hasDict = false := by unfold PyData.hasDict; exact h2
    unfold showQ at hs
    unfold showD
    rw [h3, Bool.not_false, Bool.and_true]
    exact hs
  | none =>
    show (match (match toQs vs with
      | some ds => some (PyData.tuple ds)
      | none => none) with
      | some d => if showQ d then R.ok (Val.str d.shown) S else .bad
      | none => .bad) = _
    rw [h]
    exact if_pos hs
theorem u_reprE {S : Store} : uV .repr (.dct false [] []) S = .ok (.str (PyData.dict []).shown) S := by
  show (if showQ (.dict []) = true then R.ok (Val.str (PyData.dict []).shown) S else .bad) = _
  exact if_pos (by decide +kernel)
theorem u_reprI {S : Store} {i : Int} (h : i.natAbs.log2 < 1920) : uV .repr (.int i) S = .ok (.str (toString i : Str)) S := by
  show (match (if i.natAbs.log2 < 1920 then some (toString i : Str) else none) with
    | some s => R.ok (Val.str s) S
    | none => _) = _
  rw [if_pos h]
theorem v_neS {S : Store} (a : Str) : cmpV S .nes (.str a) (.str a) = some false := by
  show some (!decide (a = a)) = _
  simp
theorem rep_one {S : Store} {mu : Bool} {n : Int} (i : Int) (h0 : 0 ≤ n) (h : n ≤ 1000) : repV mu [.int i] (.int n) S = mk mu ((List.replicate n.toNat i).map .int) S := by
  show (if -(2 ^ 62) ≤ n ∧ n < 2 ^ 62 ∧ ([Val.int i]).length * n.toNat ≤ lim then mk mu (List.replicate n.toNat [Val.int i]).flatten S else .bad) = _
  have l : ([Val.int i]).length * n.toNat ≤ lim := by
    show 1 * n.toNat ≤ 100000
    omega
  rw [if_pos ⟨by omega, by omega, l⟩]
  congr 1
  generalize n.toNat = k
  induction k with
  | zero => rfl
  | succ k ih => rw [List.replicate_succ, List.flatten_cons, ih, List.replicate_succ, List.map_cons]; rfl
end Iv
/-! Iv14: what a run comes to, said of the statements one behind the other. -/
namespace Iv
open PySem
/-- what may be said of each kind of end -/
structure Po where
  N : Env → Store → Prop
  R : Val → Store → Prop
  B : Env → Store → Prop
  C : Env → Store → Prop
  X : Str → Store → Prop
def Wq (o : Out) (Q : Po) : Prop := match o with
  | .nxt ρ S => Q.N ρ S
  | .ret v S => Q.R v S
  | .brk ρ S => Q.B ρ S
  | .cnt ρ S => Q.C ρ S
  | .ex c S => Q.X c S
  | .bad => False
/-- .. shut, that nothing opens it unasked -/
structure Wp (o : Out) (Q : Po) : Prop where
  h : Wq o Q
/-- a def's body -/
def Rt (T : Val → Store → Prop) : Po := ⟨fun _ S => T .non S, T, fun _ _ => False, fun _ _ => False, fun _ _ => False⟩
def Rx (T : Val → Store → Prop) (X : Str → Store → Prop) : Po := ⟨fun _ S => T .non S, T, fun _ _ => False, fun _ _ => False, X⟩
theorem wq_res {o : Out} {T : Val → Store → Prop} (h : Wq o (Rt T)) : ∃ v S', o.res = .ok v S' ∧ T v S' := by
  cases o with
  | nxt ρ S => exact ⟨_, _, rfl, h⟩
  | ret v S => exact ⟨_, _, rfl, h⟩
  | brk ρ S => cases h
  | cnt ρ S => cases h
  | ex c S => cases h
  | bad => cases h
theorem wq_resx {o : Out} {T : Val → Store → Prop} {X : Str → Store → Prop} (h : Wq o (Rx T X)) : (∃ v S', o.res = .ok v S' ∧ T v S') ∨ ∃ c S', o.res = .ex c S' ∧ X c S' := by
  cases o with
  | nxt ρ S => exact .inl ⟨_, _, rfl, h⟩
  | ret v S => exact .inl ⟨_, _, rfl, h⟩
  | brk ρ S => cases h
  | cnt ρ S => cases h
  | ex c S => exact .inr ⟨_, _, rfl, h⟩
  | bad => cases h
/-- two slots' rows that differ at some places only -/
def Dif : List Nat → Env → Env → Prop
  | [], ρ, ρ' => ρ' = ρ
  | i :: l, ρ, ρ' => ∃ z : Option Val, Dif l (ρ.set i z) ρ'
theorem dif_refl : ∀ (l : List Nat) (ρ : Env), Dif l ρ ρ
  | [], ρ => rfl
  | i :: l, ρ => by
    refine ⟨(ρ[i]?).getD none, ?_⟩
    have e : ρ.set i ((ρ[i]?).getD none) = ρ := by
      apply List.ext_getElem?
      intro j
      rw [List.getElem?_set]
      by_cases c : i = j
      · subst c
        rw [if_pos rfl]
        by_cases h : i < ρ.length
        · rw [if_pos h, List.getElem?_eq_getElem h]; rfl
        · rw [if_neg h, List.getElem?_eq_none (by omega)]
      · rw [if_neg c]
    rw [e]
    exact dif_refl l ρ
section
variable {Φ : Option Bool → Nat → List Val → Store → R Val} {W : Nat} {Q : Po} {a b r : St} {ρ ρ1 : Env} {S S1 : Store}
theorem wq_st (h : execS Φ W a ρ S = .nxt ρ1 S1) (h2 : Wq (execS Φ W b ρ1 S1) Q) : Wq (execS Φ W (.seq a b) ρ S) Q := by
  show Wq ((execS Φ W a ρ S).then fun ρ1 S1 => execS Φ W b ρ1 S1) Q
  rw [h]
  exact h2
theorem wq_ret {v : Val} (h : execS Φ W a ρ S = .ret v S1) (h2 : Q.R v S1) : Wq (execS Φ W (.seq a b) ρ S) Q := by
  show Wq ((execS Φ W a ρ S).then fun ρ1 S1 => execS Φ W b ρ1 S1) Q
  rw [h]
  exact h2
theorem wq_brk (h : execS Φ W a ρ S = .brk ρ1 S1) (h2 : Q.B ρ1 S1) : Wq (execS Φ W (.seq a b) ρ S) Q := by
  show Wq ((execS Φ W a ρ S).then fun ρ1 S1 => execS Φ W b ρ1 S1) Q
  rw [h]
  exact h2
theorem wq_cnt (h : execS Φ W a ρ S = .cnt ρ1 S1) (h2 : Q.C ρ1 S1) : Wq (execS Φ W (.seq a b) ρ S) Q := by
  show Wq ((execS Φ W a ρ S).then fun ρ1 S1 => execS Φ W b ρ1 S1) Q
  rw [h]
  exact h2
theorem wq_ex {c : Str} (h : execS Φ W a ρ S = .ex c S1) (h2 : Q.X c S1) : Wq (execS Φ W (.seq a b) ρ S) Q := by
  show Wq ((execS Φ W a ρ S).then fun ρ1 S1 => execS Φ W b ρ1 S1) Q
  rw [h]
  exact h2
theorem wq_nil (h : Q.N ρ S) : Wq (execS Φ W .nil ρ S) Q := h
theorem wq_mono {o : Out} {Q' : Po} (h : Wq o Q) (hN : ∀ ρ S, Q.N ρ S → Q'.N ρ S) (hR : ∀ v S, Q.R v S → Q'.R v S) (hB : ∀ ρ S, Q.B ρ S → Q'.B ρ S) (hC : ∀ ρ S, Q.C ρ S → Q'.C ρ S) (hX : ∀ c S, Q.X c S → Q'.X c S) : Wq o Q' := by
  cases o with
  | nxt ρ S => exact hN _ _ h
  | ret v S => exact hR _ _ h
  | brk ρ S => exact hB _ _ h
  | cnt ρ S => exact hC _ _ h
  | ex c S => exact hX _ _ h
  | bad => cases h
theorem wq_seq (h : Wq (execS Φ W a ρ S) ⟨fun ρ S => Wq (execS Φ W b ρ S) Q, Q.R, Q.B, Q.C, Q.X⟩) : Wq (execS Φ W (.seq a b) ρ S) Q := by
  show Wq ((execS Φ W a ρ S).then fun ρ1 S1 => execS Φ W b ρ1 S1) Q
  generalize execS Φ W a ρ S = o at h
  cases o <;> exact h
theorem wq_if {t : E} {c : Bool} (h : evalE Φ t ρ S = .ok (.bl c) S1) (hT : c = true → Wq (execS Φ W a ρ S1) ⟨fun ρ S => Wq (execS Φ W r ρ S) Q, Q.R, Q.B, Q.C, Q.X⟩) (hF : c = false → Wq (execS Φ W b ρ S1) ⟨fun ρ S => Wq (execS Φ W r ρ S) Q, Q.R, Q.B, Q.C, Q.X⟩) : Wq (execS Φ W (.seq (.ite t a b) r) ρ S) Q := by
  apply wq_seq
  show Wq ((evalE Φ t ρ S).go fun v S1 => asB v fun k => if k then execS Φ W a ρ S1 else execS Φ W b ρ S1) _
  rw [h]
  cases c with
  | true => exact hT rfl
  | false => exact hF rfl
/-- a loop over values that are told ahead of it -/
theorem wq_forS {g : Tg} (I : Nat → Env → Store → Prop) : ∀ (xs : List Val) (i : Nat) (ρ : Env) (S : Store), I i ρ S →
    (∀ j x ρ S, xs[j]? = some x → I (i + j) ρ S → ∃ ρ1, setTg ρ g x = some ρ1 ∧ Wq (execS Φ W b ρ1 S) ⟨I (i + j + 1), Q.R, Q.N, I (i + j + 1), Q.X⟩) →
    (∀ ρ S, I (i + xs.length) ρ S → Q.N ρ S) → Wq (forS Φ W g b xs ρ S) Q
  | [], i, ρ, S, h, _, hN => hN _ _ h
  | x :: xs, i, ρ, S, h, hs, hN => by
    obtain ⟨ρ1, h1, h2⟩ := hs 0 x ρ S rfl h
    have h2 : Wq (execS Φ W b ρ1 S) ⟨I (i + 1), Q.R, Q.N, I (i + 1), Q.X⟩ := h2
    have rest : ∀ ρ S, I (i + 1) ρ S → Wq (forS Φ W g b xs ρ S) Q := fun ρ S hI => wq_forS I xs (i + 1) ρ S hI
      (fun j y ρ S hj hI => by
        have := hs (j + 1) y ρ S (by simpa using hj) (by rw [← Nat.add_assoc, Nat.add_right_comm]; exact hI)
        rw [show i + 1 + j + 1 = i + (j + 1) + 1 by omega]
        exact this)
      (fun ρ S hI => hN ρ S (by rw [List.length_cons, show i + (xs.length + 1) = i + 1 + xs.length by omega]; exact hI))
    rw [f_cons, h1, k_forSet]
    generalize execS Φ W b ρ1 S = o at h2
    cases o with
    | nxt ρ S => exact rest _ _ h2
    | ret v S => exact h2
    | brk ρ S => exact h2
    | cnt ρ S => exact rest _ _ h2
    | ex c S => exact h2
    | bad => cases h2
theorem wq_forI {g : Tg} {it : E} {xs : List Val} (I : Nat → Env → Store → Prop) (hx : evalI Φ it ρ S = .ok xs S1) (h0 : I 0 ρ S1)
    (ht : ∀ j x ρ S, xs[j]? = some x → I j ρ S → ∃ ρ1, setTg ρ g x = some ρ1 ∧ Wq (execS Φ W b ρ1 S) ⟨I (j + 1), Q.R, fun ρ S => Wq (execS Φ W r ρ S) Q, I (j + 1), Q.X⟩)
    (hr : ∀ ρ S, I xs.length ρ S → Wq (execS Φ W r ρ S) Q) : Wq (execS Φ W (.seq (.for_ g it b) r) ρ S) Q := by
  apply wq_seq
  show Wq ((evalI Φ it ρ S).go fun xs S1 => forS Φ W g b xs ρ S1) _
  rw [hx]
  refine wq_forS I xs 0 ρ S1 h0 (fun j x ρ S hj hI => ?_) (fun ρ S hI => hr ρ S (by rw [Nat.zero_add] at hI; exact hI))
  rw [Nat.zero_add] at hI ⊢
  exact ht j x ρ S hj hI
/-- .. of which only some slots are changed -/
theorem wq_forD {g : Tg} {it : E} {xs : List Val} (sl : List Nat) (I : Store → Prop) (hx : evalI Φ it ρ S = .ok xs S1) (h0 : I S1)
    (ht : ∀ x ∈ xs, ∀ ρ' S, Dif sl ρ ρ' → I S → ∃ ρ1, setTg ρ' g x = some ρ1 ∧ Wq (execS Φ W b ρ1 S) ⟨fun ρ' S => Dif sl ρ ρ' ∧ I S, Q.R, fun ρ' S => Dif sl ρ ρ' ∧ I S, fun ρ' S => Dif sl ρ ρ' ∧ I S, Q.X⟩)
    (hr : ∀ ρ' S, Dif sl ρ ρ' → I S → Wq (execS Φ W r ρ' S) Q) : Wq (execS Φ W (.seq (.for_ g it b) r) ρ S) Q := by
  refine wq_forI (fun _ ρ' S => Dif sl ρ ρ' ∧ I S) hx ⟨dif_refl sl ρ, h0⟩ (fun j x ρ' S hj hI => ?_) (fun ρ' S hI => hr ρ' S hI.1 hI.2)
  obtain ⟨ρ1, h1, h2⟩ := ht x (List.mem_of_getElem? hj) ρ' S hI.1 hI.2
  exact ⟨ρ1, h1, wq_mono h2 (fun _ _ h => h) (fun _ _ h => h) (fun ρ' S h => hr ρ' S h.1 h.2) (fun _ _ h => h) (fun _ _ h => h)⟩
/-- a loop over a list of the store that stays -/
theorem wq_forLS {g : Tg} (I : Nat → Env → Store → Prop) {n : Nat} {xs : List Val} (live : ∀ i ρ S, I i ρ S → S[n]? = some (.lst xs)) (ht : ∀ j x ρ S, xs[j]? = some x → I j ρ S → ∃ ρ1, setTg ρ g x = some ρ1 ∧ Wq (execS Φ W b ρ1 S) ⟨I (j + 1), Q.R, Q.N, I (j + 1), Q.X⟩)
    (hN : ∀ ρ S, I xs.length ρ S → Q.N ρ S) : ∀ (k i : Nat) (ρ : Env) (S : Store), i + k = xs.length → I i ρ S → Wq (forLS Φ W g b n xs.length i k ρ S) Q
  | 0, i, ρ, S, hk, h => by
    have e : forLS Φ W g b n xs.length i 0 ρ S = .nxt ρ S := by
      show (match liveAt S n xs.length with
        | some _ => Out.nxt ρ S
        | none => .bad) = _
      rw [(live_at (live i ρ S h)).1]
    rw [e]
    rw [Nat.add_zero] at hk
    subst hk
    exact hN _ _ h
  | k + 1, i, ρ, S, hk, h => by
    have hi : i < xs.length := by omega
    obtain ⟨ρ1, h1, h2⟩ := ht i xs[i] ρ S (List.getElem?_eq_getElem hi) h
    have e : forLS Φ W g b n xs.length i (k + 1) ρ S = (match execS Φ W b ρ1 S with
          | .nxt ρ2 S2 => forLS Φ W g b n xs.length (i + 1) k ρ2 S2
          | .cnt ρ2 S2 => forLS Φ W g b n xs.length (i + 1) k ρ2 S2
          | .brk ρ2 S2 => .nxt ρ2 S2
          | .ret v S2 => .ret v S2
          | .ex c S2 => .ex c S2
          | .bad => .bad) := by
      show (match liveAt S n xs.length with
        | some xs => match xs[i]? with
          | some x => match setTg ρ g x with
            | some ρ1 => match execS Φ W b ρ1 S with
              | .nxt ρ2 S2 => forLS Φ W g b n _ (i + 1) k ρ2 S2
              | .cnt ρ2 S2 => forLS Φ W g b n _ (i + 1) k ρ2 S2
              | .brk ρ2 S2 => .nxt ρ2 S2
              | .ret v S2 => .ret v S2
              | .ex c S2 => .ex c S2
              | .bad => .bad
            | none => .bad
          | none => .bad
        | none => Out.bad) = _
      rw [(live_at (live i ρ S h)).1]
      show (match xs[i]? with
          | some x => match setTg ρ g x with
            | some ρ1 => match execS Φ W b ρ1 S with
              | .nxt ρ2 S2 => forLS Φ W g b n _ (i + 1) k ρ2 S2
              | .cnt ρ2 S2 => forLS Φ W g b n _ (i + 1) k ρ2 S2
              | .brk ρ2 S2 => .nxt ρ2 S2
              | .ret v S2 => .ret v S2
              | .ex c S2 => .ex c S2
              | .bad => .bad
            | none => .bad
          | none => Out.bad) = _
      rw [List.getElem?_eq_getElem hi]
      show (match setTg ρ g xs[i] with
            | some ρ1 => match execS Φ W b ρ1 S with
              | .nxt ρ2 S2 => forLS Φ W g b n _ (i + 1) k ρ2 S2
              | .cnt ρ2 S2 => forLS Φ W g b n _ (i + 1) k ρ2 S2
              | .brk ρ2 S2 => .nxt ρ2 S2
              | .ret v S2 => .ret v S2
              | .ex c S2 => .ex c S2
              | .bad => .bad
            | none => Out.bad) = _
      rw [h1]
    rw [e]
    have rest : ∀ ρ S, I (i + 1) ρ S → Wq (forLS Φ W g b n xs.length (i + 1) k ρ S) Q := fun ρ S hI => wq_forLS I live ht hN k (i + 1) ρ S (by omega) hI
    generalize execS Φ W b ρ1 S = o at h2
    cases o with
    | nxt ρ S => exact rest _ _ h2
    | ret v S => exact h2
    | brk ρ S => exact h2
    | cnt ρ S => exact rest _ _ h2
    | ex c S => exact h2
    | bad => cases h2
theorem wq_forLI {g : Tg} {o : E} {n : Nat} {xs : List Val} (I : Nat → Env → Store → Prop) (hx : evalE Φ o ρ S = .ok (.loc n) S1) (live : ∀ i ρ S, I i ρ S → S[n]? = some (.lst xs)) (h0 : I 0 ρ S1)
    (ht : ∀ j x ρ S, xs[j]? = some x → I j ρ S → ∃ ρ1, setTg ρ g x = some ρ1 ∧ Wq (execS Φ W b ρ1 S) ⟨I (j + 1), Q.R, fun ρ S => Wq (execS Φ W r ρ S) Q, I (j + 1), Q.X⟩)
    (hr : ∀ ρ S, I xs.length ρ S → Wq (execS Φ W r ρ S) Q) : Wq (execS Φ W (.seq (.forL g o b) r) ρ S) Q := by
  apply wq_seq
  show Wq (kForL Φ W g b ρ (evalE Φ o ρ S)) _
  rw [hx]
  show Wq (forLS Φ W g b n (lenAt S1 n) 0 (lenAt S1 n) ρ S1) _
  rw [(live_at (live 0 ρ S1 h0)).2]
  exact wq_forLS (Q := ⟨fun ρ S => Wq (execS Φ W r ρ S) Q, Q.R, Q.B, Q.C, Q.X⟩) I live ht hr xs.length 0 ρ S1 (Nat.zero_add _) h0
theorem wq_forLD {g : Tg} {o : E} {n : Nat} {xs : List Val} (sl : List Nat) (I : Store → Prop) (hx : evalE Φ o ρ S = .ok (.loc n) S1) (live : ∀ S, I S → S[n]? = some (.lst xs)) (h0 : I S1)
    (ht : ∀ x ∈ xs, ∀ ρ' S, Dif sl ρ ρ' → I S → ∃ ρ1, setTg ρ' g x = some ρ1 ∧ Wq (execS Φ W b ρ1 S) ⟨fun ρ' S => Dif sl ρ ρ' ∧ I S, Q.R, fun ρ' S => Dif sl ρ ρ' ∧ I S, fun ρ' S => Dif sl ρ ρ' ∧ I S, Q.X⟩)
    (hr : ∀ ρ' S, Dif sl ρ ρ' → I S → Wq (execS Φ W r ρ' S) Q) : Wq (execS Φ W (.seq (.forL g o b) r) ρ S) Q := by
  refine wq_forLI (fun _ ρ' S => Dif sl ρ ρ' ∧ I S) hx (fun _ _ S h => live S h.2) ⟨dif_refl sl ρ, h0⟩ (fun j x ρ' S hj hI => ?_) (fun ρ' S hI => hr ρ' S hI.1 hI.2)
  obtain ⟨ρ1, h1, h2⟩ := ht x (List.mem_of_getElem? hj) ρ' S hI.1 hI.2
  exact ⟨ρ1, h1, wq_mono h2 (fun _ _ h => h) (fun _ _ h => h) (fun ρ' S h => hr ρ' S h.1 h.2) (fun _ _ h => h) (fun _ _ h => h)⟩
/-- a loop as long as something holds: μ falls -/
theorem wq_whS {t : E} (I : Env → Store → Prop) (μ : Env → Store → Nat) (ht : ∀ ρ S, I ρ S → ∃ c S1, evalE Φ t ρ S = .ok (.bl c) S1 ∧ (c = true → Wq (execS Φ W b ρ S1) ⟨fun ρ' S' => I ρ' S' ∧ μ ρ' S' < μ ρ S, Q.R, Q.N, fun ρ' S' => I ρ' S' ∧ μ ρ' S' < μ ρ S, Q.X⟩) ∧ (c = false → Q.N ρ S1)) : ∀ (k : Nat) (ρ : Env) (S : Store), I ρ S → μ ρ S < k → Wq (whileS Φ W t b k ρ S) Q
  | 0, _, _, _, h => absurd h (Nat.not_lt_zero _)
  | k + 1, ρ, S, hI, hk => by
    obtain ⟨c, S1, h1, hT, hF⟩ := ht ρ S hI
    show Wq (kWh1 Φ W t b k ρ (evalE Φ t ρ S)) Q
    rw [h1]
    cases c with
    | false => exact hF rfl
    | true =>
      have h2 := hT rfl
      rw [k_whT]
      generalize execS Φ W b ρ S1 = o at h2
      cases o with
      | nxt ρ S => exact wq_whS I μ ht k _ _ h2.1 (by have := h2.2; omega)
      | ret v S => exact h2
      | brk ρ S => exact h2
      | cnt ρ S => exact wq_whS I μ ht k _ _ h2.1 (by have := h2.2; omega)
      | ex c S => exact h2
      | bad => cases h2
theorem wq_wh {t : E} (I : Env → Store → Prop) (μ : Env → Store → Nat) (h0 : I ρ S) (hW : μ ρ S < W)
    (ht : ∀ ρ S, I ρ S → ∃ c S1, evalE Φ t ρ S = .ok (.bl c) S1 ∧ (c = true → Wq (execS Φ W b ρ S1) ⟨fun ρ' S' => I ρ' S' ∧ μ ρ' S' < μ ρ S, Q.R, fun ρ S => Wq (execS Φ W r ρ S) Q, fun ρ' S' => I ρ' S' ∧ μ ρ' S' < μ ρ S, Q.X⟩) ∧ (c = false → Wq (execS Φ W r ρ S1) Q)) : Wq (execS Φ W (.seq (.while_ t b) r) ρ S) Q := by
  apply wq_seq
  show Wq (whileS Φ W t b W ρ S) _
  exact wq_whS (Q := ⟨fun ρ S => Wq (execS Φ W r ρ S) Q, Q.R, Q.B, Q.C, Q.X⟩) I μ ht W ρ S h0 hW
/-- a loop that leaves with w at the first thing of which p is not -/
theorem wq_forAll {α : Type} (p : α → Bool) (v : α → Val) (xs : List α) (w : Val) (sl : List Nat) {g : Tg} {it : E} (hx : evalI Φ it ρ S = .ok (xs.map v) S1)
    (turn : ∀ x ∈ xs, ∀ ρ', Dif sl ρ ρ' → ∃ ρ1, setTg ρ' g (v x) = some ρ1 ∧ Wq (execS Φ W b ρ1 S1) ⟨fun ρ2 S2 => p x = true ∧ Dif sl ρ ρ2 ∧ S2 = S1, fun u S2 => p x = false ∧ u = w ∧ S2 = S1, fun _ _ => False, fun ρ2 S2 => p x = true ∧ Dif sl ρ ρ2 ∧ S2 = S1, fun _ _ => False⟩)
    (hr : xs.all p = true → ∀ ρ', Dif sl ρ ρ' → Wq (execS Φ W r ρ' S1) Q) (hf : xs.all p = false → Q.R w S1) : Wq (execS Φ W (.seq (.for_ g it b) r) ρ S) Q := by
  refine wq_forI (fun j ρ' S => (xs.take j).all p = true ∧ Dif sl ρ ρ' ∧ S = S1) hx ⟨rfl, dif_refl sl ρ, rfl⟩ (fun j y ρ' S hj ⟨h1, h2, h3⟩ => ?_) (fun ρ' S ⟨h1, h2, h3⟩ => ?_)
  · subst h3
    rw [List.getElem?_map] at hj
    cases e : xs[j]? with
    | none => rw [e] at hj; cases hj
    | some x =>
      rw [e] at hj
      cases hj
      obtain ⟨ρ1, t1, t2⟩ := turn x (List.mem_of_getElem? e) ρ' h2
      have ht : xs.take (j + 1) = xs.take j ++ [x] := by rw [List.take_add_one, e]; rfl
      have hn : ∀ ρ2 S2, p x = true ∧ Dif sl ρ ρ2 ∧ S2 = S → (xs.take (j + 1)).all p = true ∧ Dif sl ρ ρ2 ∧ S2 = S := fun ρ2 S2 ⟨g1, g2, g3⟩ => ⟨by rw [ht, List.all_append, h1, Bool.true_and]; simp [g1], g2, g3⟩
      refine ⟨ρ1, t1, wq_mono t2 hn (fun u S2 ⟨g1, g2, g3⟩ => ?_) (fun _ _ h => h.elim) hn (fun _ _ h => h.elim)⟩
      rw [g2, g3]
      refine hf ?_
      rw [List.all_eq_false]
      exact ⟨x, List.mem_of_getElem? e, by rw [g1]; decide⟩
  · subst h3
    rw [List.length_map, List.take_length] at h1
    exact hr h1 ρ' h2
end
section
variable {Φ : Option Bool → Nat → List Val → Store → R Val} {W : Nat} {Q : Po} {a b r : St} {ρ ρ1 : Env} {S S1 : Store}
theorem wp_res {o : Out} {T : Val → Store → Prop} (h : Wp o (Rt T)) : ∃ v S', o.res = .ok v S' ∧ T v S' := wq_res h.h
theorem wp_resx {o : Out} {T : Val → Store → Prop} {X : Str → Store → Prop} (h : Wp o (Rx T X)) : (∃ v S', o.res = .ok v S' ∧ T v S') ∨ ∃ c S', o.res = .ex c S' ∧ X c S' := wq_resx h.h
theorem wp_st (h : execS Φ W a ρ S = .nxt ρ1 S1) (h2 : Wp (execS Φ W b ρ1 S1) Q) : Wp (execS Φ W (.seq a b) ρ S) Q := ⟨wq_st h h2.h⟩
theorem wp_ret {v : Val} (h : execS Φ W a ρ S = .ret v S1) (h2 : Q.R v S1) : Wp (execS Φ W (.seq a b) ρ S) Q := ⟨wq_ret h h2⟩
theorem wp_brk (h : execS Φ W a ρ S = .brk ρ1 S1) (h2 : Q.B ρ1 S1) : Wp (execS Φ W (.seq a b) ρ S) Q := ⟨wq_brk h h2⟩
theorem wp_cnt (h : execS Φ W a ρ S = .cnt ρ1 S1) (h2 : Q.C ρ1 S1) : Wp (execS Φ W (.seq a b) ρ S) Q := ⟨wq_cnt h h2⟩
theorem wp_ex {c : Str} (h : execS Φ W a ρ S = .ex c S1) (h2 : Q.X c S1) : Wp (execS Φ W (.seq a b) ρ S) Q := ⟨wq_ex h h2⟩
theorem wp_nil (h : Q.N ρ S) : Wp (execS Φ W .nil ρ S) Q := ⟨h⟩
theorem wp_mono {o : Out} {Q' : Po} (h : Wp o Q) (hN : ∀ ρ S, Q.N ρ S → Q'.N ρ S) (hR : ∀ v S, Q.R v S → Q'.R v S) (hB : ∀ ρ S, Q.B ρ S → Q'.B ρ S) (hC : ∀ ρ S, Q.C ρ S → Q'.C ρ S) (hX : ∀ c S, Q.X c S → Q'.X c S) : Wp o Q' := ⟨wq_mono h.h hN hR hB hC hX⟩
theorem wp_seq (h : Wp (execS Φ W a ρ S) ⟨fun ρ S => Wp (execS Φ W b ρ S) Q, Q.R, Q.B, Q.C, Q.X⟩) : Wp (execS Φ W (.seq a b) ρ S) Q :=
  ⟨wq_seq (wq_mono h.h (fun _ _ h => h.h) (fun _ _ h => h) (fun _ _ h => h) (fun _ _ h => h) (fun _ _ h => h))⟩
theorem wp_if {t : E} {c : Bool} (h : evalE Φ t ρ S = .ok (.bl c) S1) (hT : c = true → Wp (execS Φ W a ρ S1) ⟨fun ρ S => Wp (execS Φ W r ρ S) Q, Q.R, Q.B, Q.C, Q.X⟩) (hF : c = false → Wp (execS Φ W b ρ S1) ⟨fun ρ S => Wp (execS Φ W r ρ S) Q, Q.R, Q.B, Q.C, Q.X⟩) : Wp (execS Φ W (.seq (.ite t a b) r) ρ S) Q := by
  apply wp_seq
  constructor
  show Wq ((evalE Φ t ρ S).go fun v S1 => asB v fun k => if k then execS Φ W a ρ S1 else execS Φ W b ρ S1) _
  rw [h]
  cases c with
  | true => exact (hT rfl).h
  | false => exact (hF rfl).h
theorem wp_forI {g : Tg} {it : E} {xs : List Val} (I : Nat → Env → Store → Prop) (hx : evalI Φ it ρ S = .ok xs S1) (h0 : I 0 ρ S1)
    (ht : ∀ j x ρ S, xs[j]? = some x → I j ρ S → ∃ ρ1, setTg ρ g x = some ρ1 ∧ Wp (execS Φ W b ρ1 S) ⟨I (j + 1), Q.R, fun ρ S => Wp (execS Φ W r ρ S) Q, I (j + 1), Q.X⟩)
    (hr : ∀ ρ S, I xs.length ρ S → Wp (execS Φ W r ρ S) Q) : Wp (execS Φ W (.seq (.for_ g it b) r) ρ S) Q :=
  ⟨wq_forI I hx h0 (fun j x ρ S hj hI => by
    obtain ⟨ρ1, h1, h2⟩ := ht j x ρ S hj hI
    exact ⟨ρ1, h1, wq_mono h2.h (fun _ _ h => h) (fun _ _ h => h) (fun _ _ h => h.h) (fun _ _ h => h) (fun _ _ h => h)⟩) fun ρ S hI => (hr ρ S hI).h⟩
theorem wp_forD {g : Tg} {it : E} {xs : List Val} (sl : List Nat) (I : Store → Prop) (hx : evalI Φ it ρ S = .ok xs S1) (h0 : I S1)
    (ht : ∀ x ∈ xs, ∀ ρ' S, Dif sl ρ ρ' → I S → ∃ ρ1, setTg ρ' g x = some ρ1 ∧ Wp (execS Φ W b ρ1 S) ⟨fun ρ' S => Dif sl ρ ρ' ∧ I S, Q.R, fun ρ' S => Dif sl ρ ρ' ∧ I S, fun ρ' S => Dif sl ρ ρ' ∧ I S, Q.X⟩)
    (hr : ∀ ρ' S, Dif sl ρ ρ' → I S → Wp (execS Φ W r ρ' S) Q) : Wp (execS Φ W (.seq (.for_ g it b) r) ρ S) Q :=
  ⟨wq_forD sl I hx h0 (fun x hx ρ' S hd hI => by
    obtain ⟨ρ1, h1, h2⟩ := ht x hx ρ' S hd hI
    exact ⟨ρ1, h1, h2.h⟩) fun ρ' S hd hI => (hr ρ' S hd hI).h⟩
theorem wp_forLI {g : Tg} {o : E} {n : Nat} {xs : List Val} (I : Nat → Env → Store → Prop) (hx : evalE Φ o ρ S = .ok (.loc n) S1) (live : ∀ i ρ S, I i ρ S → S[n]? = some (.lst xs)) (h0 : I 0 ρ S1)
    (ht : ∀ j x ρ S, xs[j]? = some x → I j ρ S → ∃ ρ1, setTg ρ g x = some ρ1 ∧ Wp (execS Φ W b ρ1 S) ⟨I (j + 1), Q.R, fun ρ S => Wp (execS Φ W r ρ S) Q, I (j + 1), Q.X⟩)
    (hr : ∀ ρ S, I xs.length ρ S → Wp (execS Φ W r ρ S) Q) : Wp (execS Φ W (.seq (.forL g o b) r) ρ S) Q :=
  ⟨wq_forLI I hx live h0 (fun j x ρ S hj hI => by
    obtain ⟨ρ1, h1, h2⟩ := ht j x ρ S hj hI
    exact ⟨ρ1, h1, wq_mono h2.h (fun _ _ h => h) (fun _ _ h => h) (fun _ _ h => h.h) (fun _ _ h => h) (fun _ _ h => h)⟩) fun ρ S hI => (hr ρ S hI).h⟩
theorem wp_forLD {g : Tg} {o : E} {n : Nat} {xs : List Val} (sl : List Nat) (I : Store → Prop) (hx : evalE Φ o ρ S = .ok (.loc n) S1) (live : ∀ S, I S → S[n]? = some (.lst xs)) (h0 : I S1)
    (ht : ∀ x ∈ xs, ∀ ρ' S, Dif sl ρ ρ' → I S → ∃ ρ1, setTg ρ' g x = some ρ1 ∧ Wp (execS Φ W b ρ1 S) ⟨fun ρ' S => Dif sl ρ ρ' ∧ I S, Q.R, fun ρ' S => Dif sl ρ ρ' ∧ I S, fun ρ' S => Dif sl ρ ρ' ∧ I S, Q.X⟩)
    (hr : ∀ ρ' S, Dif sl ρ ρ' → I S → Wp (execS Φ W r ρ' S) Q) : Wp (execS Φ W (.seq (.forL g o b) r) ρ S) Q :=
  ⟨wq_forLD sl I hx live h0 (fun x hx ρ' S hd hI => by
    obtain ⟨ρ1, h1, h2⟩ := ht x hx ρ' S hd hI
    exact ⟨ρ1, h1, h2.h⟩) fun ρ' S hd hI => (hr ρ' S hd hI).h⟩
theorem wp_wh {t : E} (I : Env → Store → Prop) (μ : Env → Store → Nat) (h0 : I ρ S) (hW : μ ρ S < W)
    (ht : ∀ ρ S, I ρ S → ∃ c S1, evalE Φ t ρ S = .ok (.bl c) S1 ∧ (c = true → Wp (execS Φ W b ρ S1) ⟨fun ρ' S' => I ρ' S' ∧ μ ρ' S' < μ ρ S, Q.R, fun ρ S => Wp (execS Φ W r ρ S) Q, fun ρ' S' => I ρ' S' ∧ μ ρ' S' < μ ρ S, Q.X⟩) ∧ (c = false → Wp (execS Φ W r ρ S1) Q)) : Wp (execS Φ W (.seq (.while_ t b) r) ρ S) Q :=
  ⟨wq_wh I μ h0 hW fun ρ S hI => by
    obtain ⟨c, S1, h1, h2, h3⟩ := ht ρ S hI
    exact ⟨c, S1, h1, fun hc => wq_mono (h2 hc).h (fun _ _ h => h) (fun _ _ h => h) (fun _ _ h => h.h) (fun _ _ h => h) (fun _ _ h => h), fun hc => (h3 hc).h⟩⟩
theorem wp_forAll {α : Type} (p : α → Bool) (v : α → Val) (xs : List α) (w : Val) (sl : List Nat) {g : Tg} {it : E} (hx : evalI Φ it ρ S = .ok (xs.map v) S1)
    (turn : ∀ x ∈ xs, ∀ ρ', Dif sl ρ ρ' → ∃ ρ1, setTg ρ' g (v x) = some ρ1 ∧ Wp (execS Φ W b ρ1 S1) ⟨fun ρ2 S2 => p x = true ∧ Dif sl ρ ρ2 ∧ S2 = S1, fun u S2 => p x = false ∧ u = w ∧ S2 = S1, fun _ _ => False, fun ρ2 S2 => p x = true ∧ Dif sl ρ ρ2 ∧ S2 = S1, fun _ _ => False⟩)
    (hr : xs.all p = true → ∀ ρ', Dif sl ρ ρ' → Wp (execS Φ W r ρ' S1) Q) (hf : xs.all p = false → Q.R w S1) : Wp (execS Φ W (.seq (.for_ g it b) r) ρ S) Q :=
  ⟨wq_forAll p v xs w sl hx (fun x hx ρ' hd => by
    obtain ⟨ρ1, h1, h2⟩ := turn x hx ρ' hd
    exact ⟨ρ1, h1, h2.h⟩) (fun h ρ' hd => (hr h ρ' hd).h) hf⟩
end
end Iv
/-! ### the text of the law, as words of Iv (printed by gen.py) -/
namespace Law_k50
open PySem PySem.Spec PyProof.Rows L2 Iv
def topS (i : Nat) : Stmt := PySem.Challenge.pw_ablehands_k50_books_and_fractions_writte.main.body.getD i (.Pass ⟨0, 0, 0, 0⟩)
/-- is_whole -/
def b0 : Iv.St :=
    (.seq (.ret (.and (.isi (.var 0) "int") (.not (.isi (.var 0) "bool"))))
    .nil)
def f0 : Fn := ⟨"is_whole", ["thing"], ["thing"], b0⟩
/-- is_below -/
def b1 : Iv.St :=
    (.seq (.ret (.and (.call false 0 (.cons (.var 0) .nil)) (.chain .le .lt (.int 0) (.var 0) (.var 1))))
    .nil)
def f1 : Fn := ⟨"is_below", ["thing", "many"], ["thing", "many"], b1⟩
/-- is_hands -/
def b2 : Iv.St :=
    (.seq (.ret (.and (.call false 0 (.cons (.var 0) .nil)) (.chain .le .le (.int 1) (.var 0) (.gv "MOST_HANDS" 6))))
    .nil)
def f2 : Fn := ⟨"is_hands", ["thing"], ["thing"], b2⟩
/-- is_work -/
def e3_0 : Iv.E :=
    (.call false 1 (.cons (.var 3) (.cons (.var 0) .nil)))
def e3_1 : Iv.E :=
    (.cmp .lt (.ix (.var 1) (.var 2)) (.ix (.var 1) (.bin .add (.var 2) (.int 1))))
def b3 : Iv.St :=
    (.seq (.ite (.or (.not (.isi (.var 1) "tuple")) (.or (.cmp .eq (.var 1) (.tup .nil)) (.not (.u .all (.comp false (.nm 3) [("hand", 3)] (.vals (.var 1)) .yes e3_0)))))
      (.seq (.ret (.bl false))
      .nil)
      .nil)
    (.seq (.ret (.u .all (.comp false (.nm 2) [("at", 2)] (.rng (.bin .sub (.blt .len (.cons (.var 1) .nil)) (.int 1))) .yes e3_1)))
    .nil))
def f3 : Fn := ⟨"is_work", ["hands", "thing"], ["hands", "thing", "at", "hand"], b3⟩
/-- is_book -/
def e4_0 : Iv.E :=
    (.call false 3 (.cons (.ix (.var 0) (.int 0)) (.cons (.var 1) .nil)))
def b4 : Iv.St :=
    (.seq (.ite (.or (.not (.isi (.var 0) "tuple")) (.or (.cmp .ne (.blt .len (.cons (.var 0) .nil)) (.int 2)) (.not (.call false 2 (.cons (.ix (.var 0) (.int 0)) .nil)))))
      (.seq (.ret (.bl false))
      .nil)
      .nil)
    (.seq (.ite (.or (.not (.isi (.ix (.var 0) (.int 1)) "tuple")) (.cmp .gt (.blt .len (.cons (.ix (.var 0) (.int 1)) .nil)) (.gv "MOST_WORKS" 12)))
      (.seq (.ret (.bl false))
      .nil)
      .nil)
    (.seq (.ret (.u .all (.comp false (.nm 1) [("work", 1)] (.vals (.ix (.var 0) (.int 1))) .yes e4_0)))
    .nil)))
def f4 : Fn := ⟨"is_book", ["thing"], ["thing", "work"], b4⟩
/-- need_book -/
def b5 : Iv.St :=
    (.seq (.ite (.not (.call false 4 (.cons (.var 0) .nil)))
      (.seq .no
      .nil)
      .nil)
    .nil)
def f5 : Fn := ⟨"need_book", ["book"], ["book"], b5⟩
/-- is_figures -/
def e6_0 : Iv.E :=
    (.cmp .isin (.var 1) (.gs "FIGURES" "0123456789"))
def b6 : Iv.St :=
    (.seq (.ite (.or (.not (.chain .le .le (.int 1) (.blt .len (.cons (.var 0) .nil)) (.gv "MOST_FIGURES" 6))) (.not (.u .all (.comp false (.nm 1) [("sign", 1)] (.vals (.var 0)) .yes e6_0))))
      (.seq (.ret (.bl false))
      .nil)
      .nil)
    (.seq (.ret (.or (.cmp .eqs (.var 0) (.str "0")) (.cmp .nes (.ix (.var 0) (.int 0)) (.str "0"))))
    .nil))
def f6 : Fn := ⟨"is_figures", ["word"], ["word", "sign"], b6⟩
/-- show_fraction -/
def b7 : Iv.St :=
    (.seq (.ite (.cmp .eq (.ix (.var 0) (.int 1)) (.int 1))
      (.seq (.ret (.u .str (.ix (.var 0) (.int 0))))
      .nil)
      .nil)
    (.seq (.ret (.bin .add (.bin .add (.u .str (.ix (.var 0) (.int 0))) (.str "/")) (.u .str (.ix (.var 0) (.int 1)))))
    .nil))
def f7 : Fn := ⟨"show_fraction", ["fraction"], ["fraction"], b7⟩
/-- show_numbers -/
def e8_0 : Iv.E :=
    (.u .str (.var 1))
def b8 : Iv.St :=
    (.seq (.ret (.tx true (.str " ") (.comp false (.nm 1) [("number", 1)] (.vals (.var 0)) .yes e8_0)))
    .nil)
def f8 : Fn := ⟨"show_numbers", ["numbers"], ["numbers", "number"], b8⟩
/-- show_book -/
def e9_0 : Iv.E :=
    (.call false 8 (.cons (.var 1) .nil))
def b9 : Iv.St :=
    (.seq (.expr (.call false 5 (.cons (.var 0) .nil)))
    (.seq (.ret (.tx true (.str "; ") (.bin .add (.lst false (.cons (.bin .add (.str "hands ") (.u .str (.ix (.var 0) (.int 0)))) .nil)) (.comp false (.nm 1) [("work", 1)] (.vals (.ix (.var 0) (.int 1))) .yes e9_0))))
    .nil))
def f9 : Fn := ⟨"show_book", ["book"], ["book", "work"], b9⟩
/-- read_numbers -/
def e10_0 : Iv.E :=
    (.call false 6 (.cons (.var 1) .nil))
def e10_1 : Iv.E :=
    (.u .int (.var 1))
def b10 : Iv.St :=
    (.seq (.ite (.not (.u .all (.comp false (.nm 1) [("word", 1)] (.vals (.var 0)) .yes e10_0)))
      (.seq .no
      .nil)
      .nil)
    (.seq (.ret (.u .tuple (.comp false (.nm 1) [("word", 1)] (.vals (.var 0)) .yes e10_1)))
    .nil))
def f10 : Fn := ⟨"read_numbers", ["words"], ["words", "word"], b10⟩
/-- read_book -/
def e11_0 : Iv.E :=
    (.call false 10 (.cons (.tx false (.var 5) (.str " ")) .nil))
def b11 : Iv.St :=
    (.seq (.asg 1 (.tx false (.var 0) (.str "; ")))
    (.seq (.asg 2 (.tx false (.ix (.var 1) (.int 0)) (.str " ")))
    (.seq (.ite (.or (.cmp .ne (.blt .len (.cons (.var 2) .nil)) (.int 2)) (.cmp .nes (.ix (.var 2) (.int 0)) (.str "hands")))
      (.seq .no
      .nil)
      .nil)
    (.seq (.asg 3 (.ix (.call false 10 (.cons (.sl (.var 2) (.part (.int 1)) .nil) .nil)) (.int 0)))
    (.seq (.asg 4 (.tup (.cons (.var 3) (.cons (.u .tuple (.comp false (.nm 5) [("part", 5)] (.vals (.sl (.var 1) (.part (.int 1)) .nil)) .yes e11_0)) .nil))))
    (.seq (.ite (.not (.call false 4 (.cons (.var 4) .nil)))
      (.seq .no
      .nil)
      .nil)
    (.seq (.ret (.var 4))
    .nil)))))))
def f11 : Fn := ⟨"read_book", ["text"], ["text", "parts", "words", "hands", "book", "part"], b11⟩
/-- _law_e_whirl -/
def b12 : Iv.St :=
    (.seq (.ite (.cmp .ge (.var 0) (.bin .pow (.int 10) (.int 18)))
      (.seq (.ret (.var 0))
      .nil)
      .nil)
    (.seq (.asg 2 (.bin .mod (.bin .add (.bin .add (.bin .mul (.bin .mod (.var 0) (.int 2147483423)) (.int 40013)) (.bin .mul (.var 1) (.int 15073))) (.int 83)) (.int 2147483399)))
    (.seq (.asg 3 (.bin .mod (.bin .add (.bin .add (.bin .add (.bin .mul (.var 2) (.var 2)) (.bin .mul (.bin .mul (.int 521) (.var 1)) (.var 1))) (.bin .mul (.int 11) (.var 2))) (.int 7)) (.int 2147483353)))
    (.seq (.asg 4 (.bin .mod (.bin .add (.bin .add (.bin .add (.bin .mul (.var 3) (.var 3)) (.bin .mul (.int 947) (.var 3))) (.var 2)) (.bin .mul (.int 3) (.var 1))) (.int 2147483323)))
    (.seq (.ret (.bin .add (.bin .mul (.var 3) (.int 2147483323)) (.var 4)))
    .nil)))))
def f12 : Fn := ⟨"_law_e_whirl", ["cell", "at"], ["cell", "at", "one", "two", "three"], b12⟩
/-- _law_e_scoop -/
def b13 : Iv.St :=
    (.seq (.ite (.cmp .lt (.ix (.var 0) (.int 2)) (.var 1))
      (.seq (.asg 3 (.ix (.var 0) (.int 1)))
      (.seq (.asg 4 (.bin .add (.bin .mul (.int 13) (.var 3)) (.int 4)))
      (.seq (.ite (.cmp .lt (.var 3) (.blt .len (.cons (.ix (.var 0) (.int 0)) .nil)))
        (.seq (.asg 4 (.ix (.ix (.var 0) (.int 0)) (.var 3)))
        .nil)
        (.seq (.ite (.cmp .gt (.blt .len (.cons (.ix (.var 0) (.int 0)) .nil)) (.int 0))
          (.seq (.asg 4 (.bin .add (.bin .mod (.ix (.ix (.var 0) (.int 0)) (.bin .mod (.bin .add (.bin .mul (.int 7) (.var 3)) (.int 3)) (.blt .len (.cons (.ix (.var 0) (.int 0)) .nil)))) (.int 666666667)) (.bin .mul (.var 3) (.int 6000011))))
          .nil)
          .nil)
        .nil))
      (.seq (.sub (.var 0) (.int 1) (.bin .add (.var 3) (.int 1)))
      (.seq (.sub (.var 0) (.int 2) (.call false 12 (.cons (.var 4) (.cons (.var 3) .nil))))
      .nil)))))
      .nil)
    (.seq (.asg 2 (.bin .mod (.ix (.var 0) (.int 2)) (.var 1)))
    (.seq (.sub (.var 0) (.int 2) (.bin .fdiv (.ix (.var 0) (.int 2)) (.var 1)))
    (.seq (.ret (.var 2))
    .nil))))
def f13 : Fn := ⟨"_law_e_scoop", ["jar", "many"], ["jar", "many", "found", "at", "cell"], b13⟩
/-- _law_e_able -/
def c14_0 : Iv.E :=
    (.cmp .eq (.call false 13 (.cons (.var 0) (.cons (.var 2) .nil))) (.int 0))
def e14_1 : Iv.E :=
    (.var 4)
def b14 : Iv.St :=
    (.seq (.asg 2 (.bin .add (.int 2) (.call false 13 (.cons (.var 0) (.cons (.int 3) .nil)))))
    (.seq (.asg 3 (.u .tuple (.comp false (.nm 4) [("hand", 4)] (.rng (.var 1)) c14_0 e14_1)))
    (.seq (.ite (.cmp .eq (.var 3) (.tup .nil))
      (.seq (.asg 3 (.tup (.cons (.call false 13 (.cons (.var 0) (.cons (.var 1) .nil))) .nil)))
      .nil)
      .nil)
    (.seq (.ret (.var 3))
    .nil))))
def f14 : Fn := ⟨"_law_e_able", ["jar", "hands"], ["jar", "hands", "often", "some", "hand"], b14⟩
/-- _law_e_book -/
def e15_0 : Iv.E :=
    (.call false 14 (.cons (.var 0) (.cons (.var 2) .nil)))
def b15 : Iv.St :=
    (.seq (.asg 2 (.bin .add (.int 1) (.call false 13 (.cons (.var 0) (.cons (.int 6) .nil)))))
    (.seq (.ret (.tup (.cons (.var 2) (.cons (.u .tuple (.comp false (.nm 3) [("turn", 3)] (.rng (.call false 13 (.cons (.var 0) (.cons (.bin .add (.var 1) (.int 1)) .nil)))) .yes e15_0)) .nil))))
    .nil))
def f15 : Fn := ⟨"_law_e_book", ["jar", "most"], ["jar", "most", "hands", "turn"], b15⟩
/-- _law_e_text -/
def e16_0 : Iv.E :=
    (.u .str (.var 3))
def b16_0 : Iv.St :=
    (.seq (.asg 1 (.bin .add (.bin .add (.var 1) (.str "; ")) (.tx true (.str " ") (.comp false (.nm 3) [("hand", 3)] (.vals (.var 2)) .yes e16_0))))
    .nil)
def b16 : Iv.St :=
    (.seq (.asg 1 (.bin .add (.str "hands ") (.u .str (.ix (.var 0) (.int 0)))))
    (.seq (.for_ (.nm 2) (.vals (.ix (.var 0) (.int 1))) b16_0)
    (.seq (.ret (.var 1))
    .nil)))
def f16 : Fn := ⟨"_law_e_text", ["book"], ["book", "found", "work", "hand"], b16⟩
/-- _law_e_low -/
def b17_0 : Iv.St :=
    (.seq (.par 2 3 (.var 3) (.bin .mod (.var 2) (.var 3)))
    .nil)
def b17 : Iv.St :=
    (.seq (.par 2 3 (.var 0) (.var 1))
    (.seq (.while_ (.cmp .ne (.var 3) (.int 0)) b17_0)
    (.seq (.ret (.tup (.cons (.bin .fdiv (.var 0) (.var 2)) (.cons (.bin .fdiv (.var 1) (.var 2)) .nil))))
    .nil)))
def f17 : Fn := ⟨"_law_e_low", ["top", "bottom"], ["top", "bottom", "one", "other"], b17⟩
/-- _law_e_all_whole -/
def b18_0 : Iv.St :=
    (.seq (.asg 1 (.bin .add (.var 1) (.u (.list false) (.var 2))))
    .nil)
def e18_0 : Iv.E :=
    (.and (.isi (.var 3) "int") (.not (.isi (.var 3) "bool")))
def b18 : Iv.St :=
    (.seq (.asg 1 (.lst false (.cons (.ix (.var 0) (.int 0)) .nil)))
    (.seq (.for_ (.nm 2) (.vals (.ix (.var 0) (.int 1))) b18_0)
    (.seq (.ret (.u .all (.comp false (.nm 3) [("number", 3)] (.vals (.var 1)) .yes e18_0)))
    .nil)))
def f18 : Fn := ⟨"_law_e_all_whole", ["book"], ["book", "some", "work", "number"], b18⟩
/-- law -/
def b19_0 : Iv.St :=
    (.seq (.asg 6 (.call false 9 (.cons (.var 3) .nil)))
    (.seq (.ite (.or (.not (.isi (.var 6) "str")) (.cmp .nes (.var 6) (.call false 16 (.cons (.var 3) .nil))))
      (.seq (.ret (.bl false))
      .nil)
      .nil)
    (.seq (.asg 7 (.call false 11 (.cons (.var 6) .nil)))
    (.seq (.ite (.or (.cmp .ne (.var 7) (.var 3)) (.or (.not (.isi (.var 7) "tuple")) (.not (.call false 18 (.cons (.var 7) .nil)))))
      (.seq (.ret (.bl false))
      .nil)
      .nil)
    .nil))))
def b19_1 : Iv.St :=
    (.seq (.asg 13 (.bin .add (.u .str (.ix (.var 10) (.int 0))) (.ix (.lst false (.cons (.bin .add (.str "/") (.u .str (.ix (.var 10) (.int 1)))) (.cons (.str "") .nil))) (.u .int (.cmp .eq (.ix (.var 10) (.int 1)) (.int 1))))))
    (.seq (.asg 6 (.call false 7 (.cons (.var 10) .nil)))
    (.seq (.ite (.or (.not (.isi (.var 6) "str")) (.cmp .nes (.var 6) (.var 13)))
      (.seq (.ret (.bl false))
      .nil)
      .nil)
    .nil)))
def b19_2 : Iv.St :=
    (.seq (.unp [11, 12] (.call false 17 (.cons (.call false 13 (.cons (.var 1) (.cons (.var 5) .nil))) (.cons (.bin .add (.int 1) (.call false 13 (.cons (.var 1) (.cons (.var 5) .nil)))) .nil))))
    (.seq (.asg 8 (.bin .add (.int 2) (.call false 13 (.cons (.var 1) (.cons (.int 8) .nil)))))
    (.seq (.asg 9 (.lst false (.cons (.tup (.cons (.var 11) (.cons (.var 12) .nil))) (.cons (.tup (.cons (.var 11) (.cons (.int 1) .nil))) (.cons (.tup (.cons (.int 0) (.cons (.int 1) .nil))) (.cons (.tup (.cons (.var 12) (.cons (.int 1) .nil))) .nil))))))
    (.seq (.asg 9 (.bin .add (.var 9) (.lst false (.cons (.tup (.cons (.bin .mul (.var 8) (.var 11)) (.cons (.bin .mul (.var 8) (.var 12)) .nil))) (.cons (.tup (.cons (.bin .mul (.var 8) (.var 11)) (.cons (.var 8) .nil))) (.cons (.tup (.cons (.int 0) (.cons (.var 8) .nil))) .nil))))))
    (.seq (.for_ (.nm 10) (.vals (.var 9)) b19_1)
    .nil)))))
def b19_3 : Iv.St :=
    (.seq (.ite (.and (.cmp .gt (.var 2) (.int 1)) (.cmp .ge (.ix (.var 1) (.int 1)) (.blt .len (.cons (.var 0) .nil))))
      (.seq .brk
      .nil)
      .nil)
    (.seq (.asg 3 (.call false 15 (.cons (.var 1) (.cons (.int 12) .nil))))
    (.seq (.for_ (.nm 4) (.rng (.int 2)) b19_0)
    (.seq (.for_ (.nm 5) (.vals (.lst false (.cons (.int 3) (.cons (.int 12) (.cons (.bin .pow (.int 10) (.int 9)) (.cons (.bin .pow (.int 10) (.int 59)) .nil)))))) b19_2)
    .nil))))
def b19 : Iv.St :=
    (.seq (.asg 1 (.lst true (.cons (.var 0) (.cons (.int 0) (.cons (.int 0) .nil)))))
    (.seq (.for_ (.nm 2) (.rng (.int 5)) b19_3)
    (.seq (.ret (.bl true))
    .nil)))
def f19 : Fn := ⟨"law", ["script"], ["script", "jar", "k", "book", "turn", "most", "told", "found", "often", "some", "one", "top", "bottom", "due"], b19⟩
def tbl : List Fn := [f0, f1, f2, f3, f4, f5, f6, f7, f8, f9, f10, f11, f12, f13, f14, f15, f16, f17, f18, f19]
def P : Nat → Option Fn := fun i => tbl[i]?
def B : List Str := ["all", "bool", "int", "isinstance", "len", "list", "range", "str", "tuple"]
def GL : GLt := (([("FIGURES", .inr "0123456789"), ("MOST_FIGURES", .inl 6), ("MOST_HANDS", .inl 6), ("MOST_WORKS", .inl 12)] : List (Str × (Int ⊕ Str))), ([] : List Str))
def names : List String := ["is_whole", "is_below", "is_hands", "is_work", "is_book", "need_book", "is_figures", "show_fraction", "show_numbers", "show_book", "read_numbers", "read_book", "_law_e_whirl", "_law_e_scoop", "_law_e_able", "_law_e_book", "_law_e_text", "_law_e_low", "_law_e_all_whole", "law"]
end Law_k50
namespace Law_k50
def WN : Nat := 40
def WW : Nat := 10 ^ 1000
end Law_k50
set_option exponentiation.threshold 2000
namespace Law_k50
open Iv
open PySem (PyData)
/-! ### numbers and rows -/
theorem run_f {k f : Nat} {d : Fn} {args : List Val} {S : Store} (hd : P f = some d) (hl : args.length = d.ps.length) : run P WW (k + 1) f args S = (execS (callI (run P WW k)) WW d.body (startE d.N.length args) S).res := by
  show (match P f with
    | some d => if args.length = d.ps.length then (execS (callI (run P WW k)) WW d.body (startE d.N.length args) S).res else .bad
    | none => .bad) = _
  rw [hd]
  exact if_pos hl
theorem fr_ints (ns : List Int) : Val.frees (ns.map Val.int) = true := by
  induction ns with
  | nil => rfl
  | cons n r ih => exact ih
theorem fr_app : ∀ {xs ys : List Val}, Val.frees xs = true → Val.frees ys = true → Val.frees (xs ++ ys) = true
  | [], _, _, h => h
  | x :: xs, ys, h, h2 => by
    have h' : (x.free && Val.frees xs) = true := h
    rw [Bool.and_eq_true] at h'
    show (x.free && Val.frees (xs ++ ys)) = true
    rw [h'.1, fr_app h'.2 h2]
    rfl
theorem fr_all {xs : List Val} (h : ∀ x ∈ xs, x.free = true) : Val.frees xs = true := by
  induction xs with
  | nil => rfl
  | cons x xs ih =>
    show (x.free && Val.frees xs) = true
    rw [h x List.mem_cons_self, ih fun y hy => h y (List.mem_cons_of_mem _ hy)]
    rfl
theorem mul_okR (a : Int) {b : Int} (h1 : -(2 ^ 64) < b) (h2 : b < 2 ^ 64) : mulOk a b = true := by
  unfold mulOk
  rw [decide_eq_true h1, decide_eq_true h2]
  simp
theorem mul_okL {a : Int} (b : Int) (h1 : -(2 ^ 64) < a) (h2 : a < 2 ^ 64) : mulOk a b = true := by
  unfold mulOk
  rw [decide_eq_true h1, decide_eq_true h2]
  simp
theorem log_lt {n k : Nat} (h : n < 2 ^ k) (hk : 0 < k) : n.log2 < k := by
  by_cases c : n = 0
  · subst c
    exact Nat.lt_of_le_of_lt (Nat.le_of_eq rfl) hk
  · exact (Nat.log2_lt c).mpr h
theorem log_c {n : Int} (h : n.natAbs < 2 ^ 100) : n.natAbs.log2 < 9000 := Nat.lt_trans (log_lt h (by decide)) (by decide)
/-- a call whose first argument is a list of the store, and that hands back a new list -/
theorem call_locL {Φ : Nat → List Val → Store → R Val} {f : Nat} {args : List Val} {n j : Nat} {vs ws us : List Val} {S S' : Store} (hf : Val.frees args = true) (hn : S[n]? = some (.lst vs)) (hvs : Val.frees vs = true)
    (h : Φ f (.loc 0 :: args) [.lst vs] = .ok (.loc (j + 1)) S') (h0 : S'[0]? = some (.lst ws)) (hws : Val.frees ws = true) (hj : S'[j + 1]? = some (.lst us)) (hu : Val.frees us = true) : callI Φ false f (.loc n :: args) S = .ok (.lst us) (S.set n (.lst ws)) := by
  obtain ⟨i1, i2, i3⟩ := args_free args hf
  have j1 : argsOk (.loc n :: args) = true := i1
  have j2 : argLocs (.loc n :: args) = [n] := by show n :: argLocs args = _; rw [i2]
  have j3 : reArgs 0 (.loc n :: args) = .loc 0 :: args := by show Val.loc 0 :: reArgs 1 args = _; rw [i3]
  unfold callI callJ
  dsimp only
  rw [j1, j2, j3]
  have e : getAll S [n] = some [.lst vs] := by
    unfold getAll
    rw [hn]
    rfl
  have ef : freeObjs [.lst vs] = true := by
    show (Val.frees vs && true) = true
    rw [hvs]
    rfl
  have en : decide ([n] : List Nat).Nodup = true := decide_eq_true (by simp)
  have eb : ∀ kp, backs S' kp 0 [n] S = some (S.set n (.lst ws)) := fun kp => by
    unfold backs
    rw [h0]
    simp only [frzO_free _ _ ws hws]
    rfl
  have er : resV S' [n] (.loc (j + 1)) = some (.lst us) := by
    show frz S' (fun i => decide (i < 1)) 6 (.loc (j + 1)) = _
    unfold frz
    show (if decide (j + 1 < 1) = true then none else match S'[j + 1]? with
      | some (.lst vs) => match allSome (frz S' (fun i => decide (i < 1)) 5) vs with
        | some ws => some (Val.lst ws)
        | none => none
      | some (.dct t _ ks vs) => match allSome (frz S' (fun i => decide (i < 1)) 5) vs with
        | some ws => some (Val.dct t ks ws)
        | none => none
      | _ => none) = _
    rw [hj, if_neg (by rw [decide_eq_false (by omega)]; decide)]
    simp only [allSome_free _ _ _ us hu]
  simp only [en, Bool.and_self, if_true, e, ef, h, eb, er]
  rfl
theorem at_int {α : Type} (xs : List α) {i : Int} (h : 0 ≤ i) : L2.atI xs i = xs[i.toNat]? := by
  have e := at_nat xs i.toNat
  rw [Int.toNat_of_nonneg h] at e
  exact e
theorem beq_t {a b : Int} (h : a = b) : (a == b) = true := by rw [h]; exact beq_self_eq_true b
theorem beq_f {a b : Int} (h : a ≠ b) : (a == b) = false := beq_eq_false_iff_ne.mpr h
theorem rangeV_map (lo : Int) : ∀ n : Nat, rangeV lo n = ((List.range n).map fun (i : Nat) => lo + (i : Int)).map Val.int := by
  intro n
  have h : ∀ (n k : Nat), rangeV (lo + k) n = ((List.range' k n).map fun (i : Nat) => lo + (i : Int)).map Val.int := by
    intro n
    induction n with
    | zero => intro k; rfl
    | succ n ih =>
      intro k
      show Val.int (lo + k) :: rangeV (lo + k + 1) n = _
      rw [List.range'_succ, List.map_cons, List.map_cons]
      have e : lo + (k : Int) + 1 = lo + ((k + 1 : Nat) : Int) := by omega
      rw [e, ih (k + 1)]
  have h0 := h n 0
  have e : lo + ((0 : Nat) : Int) = lo := by omega
  rw [e, ← List.range_eq_range'] at h0
  exact h0
/-- 0, 1, .. below n -/
def upTo (n : Int) : List Int := (List.range n.toNat).map fun (i : Nat) => (i : Int)
theorem upTo_V (n : Int) : rangeV 0 n.toNat = (upTo n).map Val.int := by
  rw [rangeV_map]
  unfold upTo
  congr 1
  apply List.map_congr_left
  intro i _
  omega
theorem upTo_len (n : Int) : (upTo n).length = n.toNat := by unfold upTo; rw [List.length_map, List.length_range]
theorem upTo_at {n : Int} {j : Nat} {x : Int} (h : (upTo n)[j]? = some x) : x = j ∧ x < n := by
  unfold upTo at h
  rw [List.getElem?_map] at h
  cases e : (List.range n.toNat)[j]? with
  | none => rw [e] at h; cases h
  | some i =>
    rw [e] at h
    obtain ⟨h1, h2⟩ := List.getElem?_eq_some_iff.mp e
    rw [List.getElem_range] at h2
    rw [List.length_range] at h1
    have h' : (i : Int) = x := Option.some.inj h
    subst h2
    omega
theorem upTo_mem {n x : Int} : x ∈ upTo n ↔ 0 ≤ x ∧ x < n := by
  unfold upTo
  rw [List.mem_map]
  constructor
  · rintro ⟨i, hi, rfl⟩
    have := List.mem_range.mp hi
    omega
  · rintro ⟨h1, h2⟩
    exact ⟨x.toNat, List.mem_range.mpr (by omega), by omega⟩
theorem upTo_srt (n : Int) : (upTo n).Pairwise (· < ·) := by
  unfold upTo
  rw [List.pairwise_map]
  exact List.pairwise_lt_range.imp fun {a b} h => by omega
/-! ### comprehensions by the place of the turn -/
theorem comp_invI {f : Val → Store → R (Option Val)} (I : Nat → List Val → Store → Prop) : ∀ (xs : List Val) (i : Nat) (acc : List Val) (S : Store),
    (∀ j x acc S, xs[j]? = some x → I (i + j) acc S → ∃ o S1, f x S = .ok o S1 ∧ I (i + j + 1) (acc ++ o.toList) S1) → I i acc S → acc.length + xs.length ≤ lim → ∃ acc' S', compGo f xs acc S = .ok acc' S' ∧ I (i + xs.length) acc' S'
  | [], i, acc, S, _, h0, _ => ⟨acc, S, rfl, h0⟩
  | x :: xs, i, acc, S, h, h0, hl => by
    obtain ⟨o, S1, h1, h2⟩ := h 0 x acc S rfl h0
    have hr : ∀ j y acc S, xs[j]? = some y → I (i + 1 + j) acc S → ∃ o S1, f y S = .ok o S1 ∧ I (i + 1 + j + 1) (acc ++ o.toList) S1 := fun j y acc S hj hI => by
      have := h (j + 1) y acc S (by simpa using hj) (by rw [← Nat.add_assoc, Nat.add_right_comm]; exact hI)
      rw [show i + 1 + j + 1 = i + (j + 1) + 1 by omega]
      exact this
    rw [List.length_cons] at hl
    have step : ∃ acc' S', compGo f xs (acc ++ o.toList) S1 = .ok acc' S' ∧ I (i + 1 + xs.length) acc' S' :=
      comp_invI I xs (i + 1) (acc ++ o.toList) S1 hr h2 (by
        rw [List.length_append]
        have : o.toList.length ≤ 1 := by cases o <;> simp
        omega)
    obtain ⟨acc', S', a1, a2⟩ := step
    refine ⟨acc', S', ?_, by rw [List.length_cons, show i + (xs.length + 1) = i + 1 + xs.length by omega]; exact a2⟩
    show (match f x S with
      | .ok (some v) S1 => if acc.length < lim then compGo f xs (acc ++ [v]) S1 else .bad
      | .ok none S1 => compGo f xs acc S1
      | _ => .bad) = _
    rw [h1]
    cases o with
    | none =>
      have : acc ++ (none : Option Val).toList = acc := by simp
      rw [this] at a1
      exact a1
    | some v =>
      show (if acc.length < lim then compGo f xs (acc ++ [v]) S1 else .bad) = _
      rw [if_pos (by omega)]
      exact a1
/-! ### tapes, books, deals -/
def tpV (ns : List Int) (a l : Int) : List Val := [.lst (ns.map .int), .int a, .int l]
def IsTp (o : List Val) : Prop := ∃ (ns : List Int) (a l : Int), 0 ≤ a ∧ o = tpV ns a l
theorem tp_free {o : List Val} (h : IsTp o) : Val.frees o = true := by
  obtain ⟨ns, a, l, _, rfl⟩ := h
  show (Val.frees (ns.map Val.int) && true) = true
  rw [fr_ints]
  rfl
/-- a work of n hands -/
def GW (n : Int) (w : List Int) : Prop := w ≠ [] ∧ w.Pairwise (· < ·) ∧ ∀ h ∈ w, 0 ≤ h ∧ h < n
def tI (w : List Int) : Val := .tup (w.map .int)
theorem tI_free (w : List Int) : (tI w).free = true := fr_ints w
def bookV (n : Int) (ws : List (List Int)) : Val := .tup [.int n, .tup (ws.map tI)]
theorem tIs_free (ws : List (List Int)) : Val.frees (ws.map tI) = true := fr_all fun x hx => by
  obtain ⟨w, _, rfl⟩ := List.mem_map.mp hx
  exact tI_free w
theorem book_free (n : Int) (ws : List (List Int)) : (bookV n ws).free = true := by
  show (true && (Val.frees (ws.map tI) && true)) = true
  rw [tIs_free]
  rfl
structure GB (n : Int) (ws : List (List Int)) : Prop where
  n1 : 1 ≤ n
  n6 : n ≤ 6
  few : ws.length ≤ 12
  ok : ∀ w ∈ ws, GW n w
/-- d deals each work to an able hand -/
structure GD (ws : List (List Int)) (d : List Int) : Prop where
  len : d.length = ws.length
  ok : ∀ (i : Nat) (w : List Int) (h : Int), ws[i]? = some w → d[i]? = some h → h ∈ w
theorem gw_len {n : Int} {w : List Int} (h : GW n w) (h6 : n ≤ 6) : w.length ≤ 6 := by
  have hn : w.Nodup := nodup_of_lt h.2.1
  have hs : ∀ x ∈ w, x ∈ upTo 6 := fun x hx => upTo_mem.mpr ⟨(h.2.2 x hx).1, by have := (h.2.2 x hx).2; omega⟩
  have := len_le hn hs
  rw [upTo_len] at this
  exact this
where
  nodup_of_lt {l : List Int} (h : l.Pairwise (· < ·)) : l.Nodup := h.imp fun {a b} q e => by subst e; exact Int.lt_irrefl _ q
  len_le : ∀ {l m : List Int}, l.Nodup → (∀ x ∈ l, x ∈ m) → l.length ≤ m.length
    | [], _, _, _ => Nat.zero_le _
    | x :: l, m, hn, hs => by
      obtain ⟨h1, h2⟩ := List.nodup_cons.mp hn
      have hx := hs x List.mem_cons_self
      have := len_le (l := l) (m := m.erase x) h2 fun y hy => (List.mem_erase_of_ne (by intro e; subst e; exact h1 hy)).mpr (hs y (List.mem_cons_of_mem _ hy))
      rw [List.length_erase_of_mem hx] at this
      have := List.length_pos_of_mem hx
      rw [List.length_cons]
      omega
theorem u_tupS {S : Store} {n : Nat} {vs : List Val} (h : S[n]? = some (.lst vs)) : uV .tuple (.loc n) S = .ok (.tup vs) S := by
  have e0 : items S (.loc n) = some vs := by
    show (match S[n]? with
      | some (.lst vs) => some vs
      | _ => none) = _
    rw [h]
  show (match items S (.loc n) with
    | some vs => R.ok (Val.tup vs) S
    | none => .bad) = _
  rw [e0]
theorem rc_loc {S : Store} {n : Nat} {vs : List Val} (h : S[n]? = some (.lst vs)) : rcv S .append (.loc n) = true := by
  show (match S[n]? with
    | some (.lst _) => true
    | _ => false) = _
  rw [h]
theorem ap_loc {S : Store} {n : Nat} {vs : List Val} {v : Val} (h : S[n]? = some (.lst vs)) (hl : vs.length < 100000) : mthV .append (.loc n) [v] S = .ok .non (S.set n (.lst (vs ++ [v]))) := by
  show (match S[n]? with
    | some (.lst xs) => if xs.length < lim then R.ok Val.non (S.set n (.lst (xs ++ [v]))) else .bad
    | _ => .bad) = _
  rw [h]
  exact if_pos hl
theorem map_one {α β : Type} (f : α → β) (xs : List α) (x : α) : xs.map f ++ [f x] = (xs ++ [x]).map f := by rw [List.map_append]; rfl
/-! ### the program's looks at books and deals -/
theorem comp_bl {f : Val → Store → R (Option Val)} {S : Store} {α : Type} (b : α → Bool) (v : α → Val) (xs : List α) (h : ∀ x ∈ xs, f (v x) S = .ok (some (.bl (b x))) S) (hl : xs.length ≤ 100000) : compGo f (xs.map v) [] S = .ok ((xs.map b).map .bl) S := by
  rw [comp_map (fun x => .bl (b x)) v xs h hl, List.map_map]
  rfl
theorem all_map {α : Type} (b : α → Bool) (xs : List α) : (xs.map b).all id = xs.all b := by rw [List.all_map]; rfl
theorem all_t {α : Type} {b : α → Bool} {xs : List α} (h : ∀ x ∈ xs, b x = true) : (xs.map b).all id = true := by rw [all_map, List.all_eq_true]; exact h
theorem ip_ints (w : List Int) : (w.map Val.int).all (ip 0) = true := by
  rw [List.all_eq_true]
  intro x hx
  obtain ⟨j, _, rfl⟩ := List.mem_map.mp hx
  rfl
theorem ip_tI (w : List Int) : ip 1 (tI w) = true := ip_ints w
theorem ip_tIs (ws : List (List Int)) : (ws.map tI).all (ip 1) = true := by
  rw [List.all_eq_true]
  intro x hx
  obtain ⟨j, _, rfl⟩ := List.mem_map.mp hx
  exact ip_tI j
theorem int_inj {v w : List Int} (h : v.map Val.int = w.map Val.int) : v = w := by
  induction v generalizing w with
  | nil => cases w with
    | nil => rfl
    | cons _ _ => cases h
  | cons x v ih => cases w with
    | nil => cases h
    | cons y w =>
      rw [List.map_cons, List.map_cons] at h
      injection h with h1 h2
      injection h1 with h3
      rw [h3, ih h2]
theorem tI_inj {v w : List Int} (h : tI v = tI w) : v = w := by
  have h2 : v.map Val.int = w.map Val.int := by injection h
  exact int_inj h2
theorem tIs_inj {v w : List (List Int)} (h : v.map tI = w.map tI) : v = w := by
  induction v generalizing w with
  | nil => cases w with
    | nil => rfl
    | cons _ _ => cases h
  | cons x v ih => cases w with
    | nil => cases h
    | cons y w =>
      rw [List.map_cons, List.map_cons] at h
      injection h with h1 h2
      rw [tI_inj h1, ih h2]
theorem get_int {w : List Int} {i : Nat} (h : i < w.length) : (w.map Val.int)[i]? = some (.int w[i]) := by
  rw [List.getElem?_map, List.getElem?_eq_getElem h]
  rfl
theorem get_tI {ws : List (List Int)} {i : Nat} (h : i < ws.length) : (ws.map tI)[i]? = some (tI ws[i]) := by
  rw [List.getElem?_map, List.getElem?_eq_getElem h]
  rfl
theorem c_whole {k : Nat} {S : Store} (i : Int) : callI (run P WW (k + 1)) false 0 [.int i] S = .ok (.bl true) S := by
  refine call_val (S' := []) rfl ?_ rfl
  rw [run_f (d := f0) rfl rfl]
  show (execS _ WW b0 [some (.int i)] []).res = _
  unfold b0
  have e1 : isT [] "int" (.int i) = some true := rfl
  have e2 : isT [] "bool" (.int i) = some false := rfl
  simp only [m_non, m_yes, m_bl, m_int, m_str, m_tup, m_lst, m_bin, m_neg, m_cmp, m_chain, m_and, m_or, m_not, m_ite, m_call, m_callR, m_blt, m_isx, m_isi, m_ix, m_sl, m_comp, m_mth, m_rep, m_cat, m_u, m_rl1, m_rl2, m_gs, m_tx, m_gv, m_edcF, m_edcT, m_dsp, m_compL, m_turn, m_anil, m_acons, m_onil, m_part, m_rng, m_rng2, m_enum, m_zip, m_vals, k_tup, k_lst, k_mkT, k_mkF, k_bin1, k_bin2, k_of, k_neg, k_cmp1, k_cmp2, k_ch1, k_ch2, k_ch3T, k_ch3F, k_andT, k_andF, k_orT, k_orF, k_not, k_iteT, k_iteF, k_callR, k_call, k_blt, k_isi, k_ix1, k_ix2, k_sl1, k_sl2, k_sl3, k_part, k_cons1, k_cons2, k_comp1, k_comp2, k_mth1, k_mth2, k_mth3, k_rng1, k_enum, k_enumT, k_zip1, k_zipL, k_zipT, k_zipM1, k_zipM2, k_dsp1, k_dsp2, k_valsD, k_valsS, k_tx1, k_tx2, k_valsT, k_valsL, k_rep1, k_rep2, k_cat1, k_cat2, k_u, k_rl2, k_rl3, k_rlT, k_rlL, k_compL, k_trn1, k_trn2T, k_trn2F, k_trn3, w_nil, w_cons, s_forL, k_forL, k_forLT, k_forLF, s_nil, s_seq, s_expr, s_asg, s_par, s_unp, s_sub, s_pas, s_if, s_for, s_while, s_ret, s_raise, s_retN, s_pass, s_brk, s_cnt, k_seqN, k_seqR, k_seqB, k_seqC, k_expr, k_asg, k_par1, k_par2, k_unp, k_unp2, k_pas1, k_pas2, k_pas3, k_sub1, k_sub2, k_sub3, k_sub4, k_ifT, k_ifF, k_ret, k_for, k_forSet, k_turnN, k_turnC, k_turnB, k_turnR, k_whT, k_whF, k_wh2N, k_wh2C, k_wh2B, k_wh2R, o_nxt, o_ret, v_add, v_sub, v_fdiv, v_mod, v_lt, v_le, v_gt, v_ge, v_eqI, v_neI, v_eqB, v_neB, v_isB, v_isnotB, v_lenT, v_lenL, v_abs, v_max2, v_min2, v_ixT, v_ixL, v_slL, v_slT, at_0, at_1, at_2, m_v0, m_v1, m_v2, m_v3, m_v4, m_v5, m_v6, m_v7, m_v8, m_v9, m_v10, m_v11, m_v12, m_v13, m_v14, m_v15, l_s0, l_s1, l_s2, l_s3, l_s4, l_s5, l_s6, l_s7, l_s8, l_s9, l_s10, l_s11, l_s12, l_s13, l_s14, l_s15, l_g0, l_g1, l_g2, l_g3, l_g4, l_g5, l_g6, l_g7, l_g8, l_g9, l_g10, l_g11, l_g12, l_g13, l_g14, l_g15, List.length_cons, List.length_nil, Option.map_some, Bool.not_true, Bool.not_false, if_true, decide_true, decide_false, ite_true, setTg, reduceIte, Nat.zero_add, lim, Nat.reduceLeDiff, List.nil_append, List.append_nil, String.reduceEq, or_false, or_true, or_self, Nat.zero_le, List.map_cons, List.map_nil, List.foldl_cons, List.foldl_nil, List.zip_cons_cons, List.zip_nil_left, u_tupL, u_tupT, u_lstL, u_lstT, u_intB, u_intI, u_rvsT, u_rvsL, t_tupT, t_boolB, t_intI, t_boolI, e1, e2]
theorem c_below {k : Nat} {S : Store} (i m : Int) : callI (run P WW (k + 2)) false 1 [.int i, .int m] S = .ok (.bl (decide (0 ≤ i) && decide (i < m))) S := by
  refine call_val (S' := []) rfl ?_ rfl
  rw [run_f (d := f1) rfl rfl]
  show (execS _ WW b1 [some (.int i), some (.int m)] []).res = _
  unfold b1
  by_cases h : 0 ≤ i
  · simp only [m_non, m_yes, m_bl, m_int, m_str, m_tup, m_lst, m_bin, m_neg, m_cmp, m_chain, m_and, m_or, m_not, m_ite, m_call, m_callR, m_blt, m_isx, m_isi, m_ix, m_sl, m_comp, m_mth, m_rep, m_cat, m_u, m_rl1, m_rl2, m_gs, m_tx, m_gv, m_edcF, m_edcT, m_dsp, m_compL, m_turn, m_anil, m_acons, m_onil, m_part, m_rng, m_rng2, m_enum, m_zip, m_vals, k_tup, k_lst, k_mkT, k_mkF, k_bin1, k_bin2, k_of, k_neg, k_cmp1, k_cmp2, k_ch1, k_ch2, k_ch3T, k_ch3F, k_andT, k_andF, k_orT, k_orF, k_not, k_iteT, k_iteF, k_callR, k_call, k_blt, k_isi, k_ix1, k_ix2, k_sl1, k_sl2, k_sl3, k_part, k_cons1, k_cons2, k_comp1, k_comp2, k_mth1, k_mth2, k_mth3, k_rng1, k_enum, k_enumT, k_zip1, k_zipL, k_zipT, k_zipM1, k_zipM2, k_dsp1, k_dsp2, k_valsD, k_valsS, k_tx1, k_tx2, k_valsT, k_valsL, k_rep1, k_rep2, k_cat1, k_cat2, k_u, k_rl2, k_rl3, k_rlT, k_rlL, k_compL, k_trn1, k_trn2T, k_trn2F, k_trn3, w_nil, w_cons, s_forL, k_forL, k_forLT, k_forLF, s_nil, s_seq, s_expr, s_asg, s_par, s_unp, s_sub, s_pas, s_if, s_for, s_while, s_ret, s_raise, s_retN, s_pass, s_brk, s_cnt, k_seqN, k_seqR, k_seqB, k_seqC, k_expr, k_asg, k_par1, k_par2, k_unp, k_unp2, k_pas1, k_pas2, k_pas3, k_sub1, k_sub2, k_sub3, k_sub4, k_ifT, k_ifF, k_ret, k_for, k_forSet, k_turnN, k_turnC, k_turnB, k_turnR, k_whT, k_whF, k_wh2N, k_wh2C, k_wh2B, k_wh2R, o_nxt, o_ret, v_add, v_sub, v_fdiv, v_mod, v_lt, v_le, v_gt, v_ge, v_eqI, v_neI, v_eqB, v_neB, v_isB, v_isnotB, v_lenT, v_lenL, v_abs, v_max2, v_min2, v_ixT, v_ixL, v_slL, v_slT, at_0, at_1, at_2, m_v0, m_v1, m_v2, m_v3, m_v4, m_v5, m_v6, m_v7, m_v8, m_v9, m_v10, m_v11, m_v12, m_v13, m_v14, m_v15, l_s0, l_s1, l_s2, l_s3, l_s4, l_s5, l_s6, l_s7, l_s8, l_s9, l_s10, l_s11, l_s12, l_s13, l_s14, l_s15, l_g0, l_g1, l_g2, l_g3, l_g4, l_g5, l_g6, l_g7, l_g8, l_g9, l_g10, l_g11, l_g12, l_g13, l_g14, l_g15, List.length_cons, List.length_nil, Option.map_some, Bool.not_true, Bool.not_false, if_true, decide_true, decide_false, ite_true, setTg, reduceIte, Nat.zero_add, lim, Nat.reduceLeDiff, List.nil_append, List.append_nil, String.reduceEq, or_false, or_true, or_self, Nat.zero_le, List.map_cons, List.map_nil, List.foldl_cons, List.foldl_nil, List.zip_cons_cons, List.zip_nil_left, u_tupL, u_tupT, u_lstL, u_lstT, u_intB, u_intI, u_rvsT, u_rvsL, t_tupT, t_boolB, t_intI, t_boolI, c_whole, h, Bool.true_and]
  · simp only [m_non, m_yes, m_bl, m_int, m_str, m_tup, m_lst, m_bin, m_neg, m_cmp, m_chain, m_and, m_or, m_not, m_ite, m_call, m_callR, m_blt, m_isx, m_isi, m_ix, m_sl, m_comp, m_mth, m_rep, m_cat, m_u, m_rl1, m_rl2, m_gs, m_tx, m_gv, m_edcF, m_edcT, m_dsp, m_compL, m_turn, m_anil, m_acons, m_onil, m_part, m_rng, m_rng2, m_enum, m_zip, m_vals, k_tup, k_lst, k_mkT, k_mkF, k_bin1, k_bin2, k_of, k_neg, k_cmp1, k_cmp2, k_ch1, k_ch2, k_ch3T, k_ch3F, k_andT, k_andF, k_orT, k_orF, k_not, k_iteT, k_iteF, k_callR, k_call, k_blt, k_isi, k_ix1, k_ix2, k_sl1, k_sl2, k_sl3, k_part, k_cons1, k_cons2, k_comp1, k_comp2, k_mth1, k_mth2, k_mth3, k_rng1, k_enum, k_enumT, k_zip1, k_zipL, k_zipT, k_zipM1, k_zipM2, k_dsp1, k_dsp2, k_valsD, k_valsS, k_tx1, k_tx2, k_valsT, k_valsL, k_rep1, k_rep2, k_cat1, k_cat2, k_u, k_rl2, k_rl3, k_rlT, k_rlL, k_compL, k_trn1, k_trn2T, k_trn2F, k_trn3, w_nil, w_cons, s_forL, k_forL, k_forLT, k_forLF, s_nil, s_seq, s_expr, s_asg, s_par, s_unp, s_sub, s_pas, s_if, s_for, s_while, s_ret, s_raise, s_retN, s_pass, s_brk, s_cnt, k_seqN, k_seqR, k_seqB, k_seqC, k_expr, k_asg, k_par1, k_par2, k_unp, k_unp2, k_pas1, k_pas2, k_pas3, k_sub1, k_sub2, k_sub3, k_sub4, k_ifT, k_ifF, k_ret, k_for, k_forSet, k_turnN, k_turnC, k_turnB, k_turnR, k_whT, k_whF, k_wh2N, k_wh2C, k_wh2B, k_wh2R, o_nxt, o_ret, v_add, v_sub, v_fdiv, v_mod, v_lt, v_le, v_gt, v_ge, v_eqI, v_neI, v_eqB, v_neB, v_isB, v_isnotB, v_lenT, v_lenL, v_abs, v_max2, v_min2, v_ixT, v_ixL, v_slL, v_slT, at_0, at_1, at_2, m_v0, m_v1, m_v2, m_v3, m_v4, m_v5, m_v6, m_v7, m_v8, m_v9, m_v10, m_v11, m_v12, m_v13, m_v14, m_v15, l_s0, l_s1, l_s2, l_s3, l_s4, l_s5, l_s6, l_s7, l_s8, l_s9, l_s10, l_s11, l_s12, l_s13, l_s14, l_s15, l_g0, l_g1, l_g2, l_g3, l_g4, l_g5, l_g6, l_g7, l_g8, l_g9, l_g10, l_g11, l_g12, l_g13, l_g14, l_g15, List.length_cons, List.length_nil, Option.map_some, Bool.not_true, Bool.not_false, if_true, decide_true, decide_false, ite_true, setTg, reduceIte, Nat.zero_add, lim, Nat.reduceLeDiff, List.nil_append, List.append_nil, String.reduceEq, or_false, or_true, or_self, Nat.zero_le, List.map_cons, List.map_nil, List.foldl_cons, List.foldl_nil, List.zip_cons_cons, List.zip_nil_left, u_tupL, u_tupT, u_lstL, u_lstT, u_intB, u_intI, u_rvsT, u_rvsL, t_tupT, t_boolB, t_intI, t_boolI, c_whole, h, Bool.false_and]
theorem c_hands {k : Nat} {S : Store} (i : Int) (h1 : 1 ≤ i) (h6 : i ≤ 6) : callI (run P WW (k + 2)) false 2 [.int i] S = .ok (.bl true) S := by
  refine call_val (S' := []) rfl ?_ rfl
  rw [run_f (d := f2) rfl rfl]
  show (execS _ WW b2 [some (.int i)] []).res = _
  unfold b2
  simp only [m_non, m_yes, m_bl, m_int, m_str, m_tup, m_lst, m_bin, m_neg, m_cmp, m_chain, m_and, m_or, m_not, m_ite, m_call, m_callR, m_blt, m_isx, m_isi, m_ix, m_sl, m_comp, m_mth, m_rep, m_cat, m_u, m_rl1, m_rl2, m_gs, m_tx, m_gv, m_edcF, m_edcT, m_dsp, m_compL, m_turn, m_anil, m_acons, m_onil, m_part, m_rng, m_rng2, m_enum, m_zip, m_vals, k_tup, k_lst, k_mkT, k_mkF, k_bin1, k_bin2, k_of, k_neg, k_cmp1, k_cmp2, k_ch1, k_ch2, k_ch3T, k_ch3F, k_andT, k_andF, k_orT, k_orF, k_not, k_iteT, k_iteF, k_callR, k_call, k_blt, k_isi, k_ix1, k_ix2, k_sl1, k_sl2, k_sl3, k_part, k_cons1, k_cons2, k_comp1, k_comp2, k_mth1, k_mth2, k_mth3, k_rng1, k_enum, k_enumT, k_zip1, k_zipL, k_zipT, k_zipM1, k_zipM2, k_dsp1, k_dsp2, k_valsD, k_valsS, k_tx1, k_tx2, k_valsT, k_valsL, k_rep1, k_rep2, k_cat1, k_cat2, k_u, k_rl2, k_rl3, k_rlT, k_rlL, k_compL, k_trn1, k_trn2T, k_trn2F, k_trn3, w_nil, w_cons, s_forL, k_forL, k_forLT, k_forLF, s_nil, s_seq, s_expr, s_asg, s_par, s_unp, s_sub, s_pas, s_if, s_for, s_while, s_ret, s_raise, s_retN, s_pass, s_brk, s_cnt, k_seqN, k_seqR, k_seqB, k_seqC, k_expr, k_asg, k_par1, k_par2, k_unp, k_unp2, k_pas1, k_pas2, k_pas3, k_sub1, k_sub2, k_sub3, k_sub4, k_ifT, k_ifF, k_ret, k_for, k_forSet, k_turnN, k_turnC, k_turnB, k_turnR, k_whT, k_whF, k_wh2N, k_wh2C, k_wh2B, k_wh2R, o_nxt, o_ret, v_add, v_sub, v_fdiv, v_mod, v_lt, v_le, v_gt, v_ge, v_eqI, v_neI, v_eqB, v_neB, v_isB, v_isnotB, v_lenT, v_lenL, v_abs, v_max2, v_min2, v_ixT, v_ixL, v_slL, v_slT, at_0, at_1, at_2, m_v0, m_v1, m_v2, m_v3, m_v4, m_v5, m_v6, m_v7, m_v8, m_v9, m_v10, m_v11, m_v12, m_v13, m_v14, m_v15, l_s0, l_s1, l_s2, l_s3, l_s4, l_s5, l_s6, l_s7, l_s8, l_s9, l_s10, l_s11, l_s12, l_s13, l_s14, l_s15, l_g0, l_g1, l_g2, l_g3, l_g4, l_g5, l_g6, l_g7, l_g8, l_g9, l_g10, l_g11, l_g12, l_g13, l_g14, l_g15, List.length_cons, List.length_nil, Option.map_some, Bool.not_true, Bool.not_false, if_true, decide_true, decide_false, ite_true, setTg, reduceIte, Nat.zero_add, lim, Nat.reduceLeDiff, List.nil_append, List.append_nil, String.reduceEq, or_false, or_true, or_self, Nat.zero_le, List.map_cons, List.map_nil, List.foldl_cons, List.foldl_nil, List.zip_cons_cons, List.zip_nil_left, u_tupL, u_tupT, u_lstL, u_lstT, u_intB, u_intI, u_rvsT, u_rvsL, t_tupT, t_boolB, t_intI, t_boolI, c_whole, h1, h6]
theorem c_iswork {k : Nat} {S : Store} (n : Int) (w : List Int) (hw : GW n w) (n6 : n ≤ 6) : callI (run P WW (k + 3)) false 3 [.int n, tI w] S = .ok (.bl true) S := by
  refine call_val (S' := []) (fr_all fun x hx => ?_) ?_ rfl
  · rcases List.mem_cons.mp hx with e | e
    · rw [e]; rfl
    · rw [List.mem_singleton.mp e]; exact tI_free w
  rw [run_f (d := f3) rfl rfl]
  show (execS _ WW b3 [some (.int n), some (tI w), none, none] []).res = _
  have hl := gw_len hw n6
  obtain ⟨c, hc, hc2⟩ := v_eqP (S := []) (k := 1) (by decide) (ip_tI w) (show ip 1 (.tup []) = true from rfl)
  have cf : c = false := by
    cases c with
    | false => rfl
    | true => exact absurd (tI_inj (w := []) (hc2.mp rfl)) hw.1
  rw [cf] at hc
  have h1 := comp_bl (f := compTurn (callI (run P WW (k + 2))) (.nm 3) [("hand", 3)] .yes e3_0 [some (.int n), some (tI w), none, none]) (S := []) (fun x => decide (0 ≤ x) && decide (x < n)) Val.int w (fun x _ => by
    rw [m_turn]
    unfold e3_0
    simp only [m_non, m_yes, m_bl, m_int, m_str, m_tup, m_lst, m_bin, m_neg, m_cmp, m_chain, m_and, m_or, m_not, m_ite, m_call, m_callR, m_blt, m_isx, m_isi, m_ix, m_sl, m_comp, m_mth, m_rep, m_cat, m_u, m_rl1, m_rl2, m_gs, m_tx, m_gv, m_edcF, m_edcT, m_dsp, m_compL, m_turn, m_anil, m_acons, m_onil, m_part, m_rng, m_rng2, m_enum, m_zip, m_vals, k_tup, k_lst, k_mkT, k_mkF, k_bin1, k_bin2, k_of, k_neg, k_cmp1, k_cmp2, k_ch1, k_ch2, k_ch3T, k_ch3F, k_andT, k_andF, k_orT, k_orF, k_not, k_iteT, k_iteF, k_callR, k_call, k_blt, k_isi, k_ix1, k_ix2, k_sl1, k_sl2, k_sl3, k_part, k_cons1, k_cons2, k_comp1, k_comp2, k_mth1, k_mth2, k_mth3, k_rng1, k_enum, k_enumT, k_zip1, k_zipL, k_zipT, k_zipM1, k_zipM2, k_dsp1, k_dsp2, k_valsD, k_valsS, k_tx1, k_tx2, k_valsT, k_valsL, k_rep1, k_rep2, k_cat1, k_cat2, k_u, k_rl2, k_rl3, k_rlT, k_rlL, k_compL, k_trn1, k_trn2T, k_trn2F, k_trn3, w_nil, w_cons, s_forL, k_forL, k_forLT, k_forLF, s_nil, s_seq, s_expr, s_asg, s_par, s_unp, s_sub, s_pas, s_if, s_for, s_while, s_ret, s_raise, s_retN, s_pass, s_brk, s_cnt, k_seqN, k_seqR, k_seqB, k_seqC, k_expr, k_asg, k_par1, k_par2, k_unp, k_unp2, k_pas1, k_pas2, k_pas3, k_sub1, k_sub2, k_sub3, k_sub4, k_ifT, k_ifF, k_ret, k_for, k_forSet, k_turnN, k_turnC, k_turnB, k_turnR, k_whT, k_whF, k_wh2N, k_wh2C, k_wh2B, k_wh2R, o_nxt, o_ret, v_add, v_sub, v_fdiv, v_mod, v_lt, v_le, v_gt, v_ge, v_eqI, v_neI, v_eqB, v_neB, v_isB, v_isnotB, v_lenT, v_lenL, v_abs, v_max2, v_min2, v_ixT, v_ixL, v_slL, v_slT, at_0, at_1, at_2, m_v0, m_v1, m_v2, m_v3, m_v4, m_v5, m_v6, m_v7, m_v8, m_v9, m_v10, m_v11, m_v12, m_v13, m_v14, m_v15, l_s0, l_s1, l_s2, l_s3, l_s4, l_s5, l_s6, l_s7, l_s8, l_s9, l_s10, l_s11, l_s12, l_s13, l_s14, l_s15, l_g0, l_g1, l_g2, l_g3, l_g4, l_g5, l_g6, l_g7, l_g8, l_g9, l_g10, l_g11, l_g12, l_g13, l_g14, l_g15, List.length_cons, List.length_nil, Option.map_some, Bool.not_true, Bool.not_false, if_true, decide_true, decide_false, ite_true, setTg, reduceIte, Nat.zero_add, lim, Nat.reduceLeDiff, List.nil_append, List.append_nil, String.reduceEq, or_false, or_true, or_self, Nat.zero_le, List.map_cons, List.map_nil, List.foldl_cons, List.foldl_nil, List.zip_cons_cons, List.zip_nil_left, u_tupL, u_tupT, u_lstL, u_lstT, u_intB, u_intI, u_rvsT, u_rvsL, t_tupT, t_boolB, t_intI, t_boolI, c_below]) (by omega)
  have a1 : (w.map fun x => decide (0 ≤ x) && decide (x < n)).all id = true := all_t fun x hx => by
    rw [decide_eq_true (hw.2.2 x hx).1, decide_eq_true (hw.2.2 x hx).2]
    rfl
  generalize hL : ((w.length : Nat) : Int) = L
  have h2 := comp_bl (f := compTurn (callI (run P WW (k + 2))) (.nm 2) [("at", 2)] .yes e3_1 [some (.int n), some (tI w), none, none]) (S := []) (fun _ => true) Val.int (upTo (L - 1)) (fun x hx => by
    obtain ⟨x0, x1⟩ := upTo_mem.mp hx
    have g1 := get_int (w := w) (i := x.toNat) (by omega)
    have g2 := get_int (w := w) (i := (x + 1).toNat) (by omega)
    have lt : w[x.toNat]'(by omega) < w[(x + 1).toNat]'(by omega) := (List.pairwise_iff_getElem.mp hw.2.1) _ _ (by omega) (by omega) (by omega)
    rw [m_turn]
    unfold e3_1 tI
    simp only [m_non, m_yes, m_bl, m_int, m_str, m_tup, m_lst, m_bin, m_neg, m_cmp, m_chain, m_and, m_or, m_not, m_ite, m_call, m_callR, m_blt, m_isx, m_isi, m_ix, m_sl, m_comp, m_mth, m_rep, m_cat, m_u, m_rl1, m_rl2, m_gs, m_tx, m_gv, m_edcF, m_edcT, m_dsp, m_compL, m_turn, m_anil, m_acons, m_onil, m_part, m_rng, m_rng2, m_enum, m_zip, m_vals, k_tup, k_lst, k_mkT, k_mkF, k_bin1, k_bin2, k_of, k_neg, k_cmp1, k_cmp2, k_ch1, k_ch2, k_ch3T, k_ch3F, k_andT, k_andF, k_orT, k_orF, k_not, k_iteT, k_iteF, k_callR, k_call, k_blt, k_isi, k_ix1, k_ix2, k_sl1, k_sl2, k_sl3, k_part, k_cons1, k_cons2, k_comp1, k_comp2, k_mth1, k_mth2, k_mth3, k_rng1, k_enum, k_enumT, k_zip1, k_zipL, k_zipT, k_zipM1, k_zipM2, k_dsp1, k_dsp2, k_valsD, k_valsS, k_tx1, k_tx2, k_valsT, k_valsL, k_rep1, k_rep2, k_cat1, k_cat2, k_u, k_rl2, k_rl3, k_rlT, k_rlL, k_compL, k_trn1, k_trn2T, k_trn2F, k_trn3, w_nil, w_cons, s_forL, k_forL, k_forLT, k_forLF, s_nil, s_seq, s_expr, s_asg, s_par, s_unp, s_sub, s_pas, s_if, s_for, s_while, s_ret, s_raise, s_retN, s_pass, s_brk, s_cnt, k_seqN, k_seqR, k_seqB, k_seqC, k_expr, k_asg, k_par1, k_par2, k_unp, k_unp2, k_pas1, k_pas2, k_pas3, k_sub1, k_sub2, k_sub3, k_sub4, k_ifT, k_ifF, k_ret, k_for, k_forSet, k_turnN, k_turnC, k_turnB, k_turnR, k_whT, k_whF, k_wh2N, k_wh2C, k_wh2B, k_wh2R, o_nxt, o_ret, v_add, v_sub, v_fdiv, v_mod, v_lt, v_le, v_gt, v_ge, v_eqI, v_neI, v_eqB, v_neB, v_isB, v_isnotB, v_lenT, v_lenL, v_abs, v_max2, v_min2, v_ixT, v_ixL, v_slL, v_slT, at_0, at_1, at_2, m_v0, m_v1, m_v2, m_v3, m_v4, m_v5, m_v6, m_v7, m_v8, m_v9, m_v10, m_v11, m_v12, m_v13, m_v14, m_v15, l_s0, l_s1, l_s2, l_s3, l_s4, l_s5, l_s6, l_s7, l_s8, l_s9, l_s10, l_s11, l_s12, l_s13, l_s14, l_s15, l_g0, l_g1, l_g2, l_g3, l_g4, l_g5, l_g6, l_g7, l_g8, l_g9, l_g10, l_g11, l_g12, l_g13, l_g14, l_g15, List.length_cons, List.length_nil, Option.map_some, Bool.not_true, Bool.not_false, if_true, decide_true, decide_false, ite_true, setTg, reduceIte, Nat.zero_add, lim, Nat.reduceLeDiff, List.nil_append, List.append_nil, String.reduceEq, or_false, or_true, or_self, Nat.zero_le, List.map_cons, List.map_nil, List.foldl_cons, List.foldl_nil, List.zip_cons_cons, List.zip_nil_left, u_tupL, u_tupT, u_lstL, u_lstT, u_intB, u_intI, u_rvsT, u_rvsL, t_tupT, t_boolB, t_intI, t_boolI, at_int _ x0, g1, at_int _ (show 0 ≤ x + 1 by omega), g2, lt]) (by rw [upTo_len]; omega)
  have a2 : ((upTo (L - 1)).map fun _ => true).all id = true := all_t fun _ _ => rfl
  have hb : -(2 ^ 62) ≤ L - 1 ∧ L - 1 < 2 ^ 62 := by omega
  unfold b3 tI
  unfold tI at hc h1 h2
  have t1 : isT [] "tuple" (.tup (w.map .int)) = some true := rfl
  simp only [m_non, m_yes, m_bl, m_int, m_str, m_tup, m_lst, m_bin, m_neg, m_cmp, m_chain, m_and, m_or, m_not, m_ite, m_call, m_callR, m_blt, m_isx, m_isi, m_ix, m_sl, m_comp, m_mth, m_rep, m_cat, m_u, m_rl1, m_rl2, m_gs, m_tx, m_gv, m_edcF, m_edcT, m_dsp, m_compL, m_turn, m_anil, m_acons, m_onil, m_part, m_rng, m_rng2, m_enum, m_zip, m_vals, k_tup, k_lst, k_mkT, k_mkF, k_bin1, k_bin2, k_of, k_neg, k_cmp1, k_cmp2, k_ch1, k_ch2, k_ch3T, k_ch3F, k_andT, k_andF, k_orT, k_orF, k_not, k_iteT, k_iteF, k_callR, k_call, k_blt, k_isi, k_ix1, k_ix2, k_sl1, k_sl2, k_sl3, k_part, k_cons1, k_cons2, k_comp1, k_comp2, k_mth1, k_mth2, k_mth3, k_rng1, k_enum, k_enumT, k_zip1, k_zipL, k_zipT, k_zipM1, k_zipM2, k_dsp1, k_dsp2, k_valsD, k_valsS, k_tx1, k_tx2, k_valsT, k_valsL, k_rep1, k_rep2, k_cat1, k_cat2, k_u, k_rl2, k_rl3, k_rlT, k_rlL, k_compL, k_trn1, k_trn2T, k_trn2F, k_trn3, w_nil, w_cons, s_forL, k_forL, k_forLT, k_forLF, s_nil, s_seq, s_expr, s_asg, s_par, s_unp, s_sub, s_pas, s_if, s_for, s_while, s_ret, s_raise, s_retN, s_pass, s_brk, s_cnt, k_seqN, k_seqR, k_seqB, k_seqC, k_expr, k_asg, k_par1, k_par2, k_unp, k_unp2, k_pas1, k_pas2, k_pas3, k_sub1, k_sub2, k_sub3, k_sub4, k_ifT, k_ifF, k_ret, k_for, k_forSet, k_turnN, k_turnC, k_turnB, k_turnR, k_whT, k_whF, k_wh2N, k_wh2C, k_wh2B, k_wh2R, o_nxt, o_ret, v_add, v_sub, v_fdiv, v_mod, v_lt, v_le, v_gt, v_ge, v_eqI, v_neI, v_eqB, v_neB, v_isB, v_isnotB, v_lenT, v_lenL, v_abs, v_max2, v_min2, v_ixT, v_ixL, v_slL, v_slT, at_0, at_1, at_2, m_v0, m_v1, m_v2, m_v3, m_v4, m_v5, m_v6, m_v7, m_v8, m_v9, m_v10, m_v11, m_v12, m_v13, m_v14, m_v15, l_s0, l_s1, l_s2, l_s3, l_s4, l_s5, l_s6, l_s7, l_s8, l_s9, l_s10, l_s11, l_s12, l_s13, l_s14, l_s15, l_g0, l_g1, l_g2, l_g3, l_g4, l_g5, l_g6, l_g7, l_g8, l_g9, l_g10, l_g11, l_g12, l_g13, l_g14, l_g15, List.length_cons, List.length_nil, Option.map_some, Bool.not_true, Bool.not_false, if_true, decide_true, decide_false, ite_true, setTg, reduceIte, Nat.zero_add, lim, Nat.reduceLeDiff, List.nil_append, List.append_nil, String.reduceEq, or_false, or_true, or_self, Nat.zero_le, List.map_cons, List.map_nil, List.foldl_cons, List.foldl_nil, List.zip_cons_cons, List.zip_nil_left, u_tupL, u_tupT, u_lstL, u_lstT, u_intB, u_intI, u_rvsT, u_rvsL, t_tupT, t_boolB, t_intI, t_boolI, t1, hc, h1, u_all, a1, List.length_map, hL, rg1 hb, upTo_V, h2, a2]
theorem c_isbook {k : Nat} {S : Store} {n : Int} {ws : List (List Int)} (hB : GB n ws) : callI (run P WW (k + 4)) false 4 [bookV n ws] S = .ok (.bl true) S := by
  refine call_val (S' := []) (fr_all fun x hx => by rw [List.mem_singleton.mp hx]; exact book_free n ws) ?_ rfl
  rw [run_f (d := f4) rfl rfl]
  show (execS _ WW b4 [some (bookV n ws), none] []).res = _
  have t0 : isT [] "tuple" (bookV n ws) = some true := rfl
  have t1 : isT [] "tuple" (.tup (ws.map tI)) = some true := rfl
  have e0 : ∀ S : Store, ixV S (bookV n ws) (.int 0) = some (.int n) := fun _ => rfl
  have e1 : ∀ S : Store, ixV S (bookV n ws) (.int 1) = some (.tup (ws.map tI)) := fun _ => rfl
  have e2 : ∀ S : Store, bltV S .len [bookV n ws] = some (.int 2) := fun _ => rfl
  have e3 : ((2 : Int) == 2) = true := rfl
  have few := hB.few
  generalize hL : ((ws.length : Nat) : Int) = L
  have f1 : ¬ 12 < L := by omega
  have h1 := comp_bl (f := compTurn (callI (run P WW (k + 3))) (.nm 1) [("work", 1)] .yes e4_0 [some (bookV n ws), none]) (S := []) (fun _ => true) tI ws (fun w hw => by
    rw [m_turn]
    unfold e4_0
    simp only [m_non, m_yes, m_bl, m_int, m_str, m_tup, m_lst, m_bin, m_neg, m_cmp, m_chain, m_and, m_or, m_not, m_ite, m_call, m_callR, m_blt, m_isx, m_isi, m_ix, m_sl, m_comp, m_mth, m_rep, m_cat, m_u, m_rl1, m_rl2, m_gs, m_tx, m_gv, m_edcF, m_edcT, m_dsp, m_compL, m_turn, m_anil, m_acons, m_onil, m_part, m_rng, m_rng2, m_enum, m_zip, m_vals, k_tup, k_lst, k_mkT, k_mkF, k_bin1, k_bin2, k_of, k_neg, k_cmp1, k_cmp2, k_ch1, k_ch2, k_ch3T, k_ch3F, k_andT, k_andF, k_orT, k_orF, k_not, k_iteT, k_iteF, k_callR, k_call, k_blt, k_isi, k_ix1, k_ix2, k_sl1, k_sl2, k_sl3, k_part, k_cons1, k_cons2, k_comp1, k_comp2, k_mth1, k_mth2, k_mth3, k_rng1, k_enum, k_enumT, k_zip1, k_zipL, k_zipT, k_zipM1, k_zipM2, k_dsp1, k_dsp2, k_valsD, k_valsS, k_tx1, k_tx2, k_valsT, k_valsL, k_rep1, k_rep2, k_cat1, k_cat2, k_u, k_rl2, k_rl3, k_rlT, k_rlL, k_compL, k_trn1, k_trn2T, k_trn2F, k_trn3, w_nil, w_cons, s_forL, k_forL, k_forLT, k_forLF, s_nil, s_seq, s_expr, s_asg, s_par, s_unp, s_sub, s_pas, s_if, s_for, s_while, s_ret, s_raise, s_retN, s_pass, s_brk, s_cnt, k_seqN, k_seqR, k_seqB, k_seqC, k_expr, k_asg, k_par1, k_par2, k_unp, k_unp2, k_pas1, k_pas2, k_pas3, k_sub1, k_sub2, k_sub3, k_sub4, k_ifT, k_ifF, k_ret, k_for, k_forSet, k_turnN, k_turnC, k_turnB, k_turnR, k_whT, k_whF, k_wh2N, k_wh2C, k_wh2B, k_wh2R, o_nxt, o_ret, v_add, v_sub, v_fdiv, v_mod, v_lt, v_le, v_gt, v_ge, v_eqI, v_neI, v_eqB, v_neB, v_isB, v_isnotB, v_lenT, v_lenL, v_abs, v_max2, v_min2, v_ixT, v_ixL, v_slL, v_slT, at_0, at_1, at_2, m_v0, m_v1, m_v2, m_v3, m_v4, m_v5, m_v6, m_v7, m_v8, m_v9, m_v10, m_v11, m_v12, m_v13, m_v14, m_v15, l_s0, l_s1, l_s2, l_s3, l_s4, l_s5, l_s6, l_s7, l_s8, l_s9, l_s10, l_s11, l_s12, l_s13, l_s14, l_s15, l_g0, l_g1, l_g2, l_g3, l_g4, l_g5, l_g6, l_g7, l_g8, l_g9, l_g10, l_g11, l_g12, l_g13, l_g14, l_g15, List.length_cons, List.length_nil, Option.map_some, Bool.not_true, Bool.not_false, if_true, decide_true, decide_false, ite_true, setTg, reduceIte, Nat.zero_add, lim, Nat.reduceLeDiff, List.nil_append, List.append_nil, String.reduceEq, or_false, or_true, or_self, Nat.zero_le, List.map_cons, List.map_nil, List.foldl_cons, List.foldl_nil, List.zip_cons_cons, List.zip_nil_left, u_tupL, u_tupT, u_lstL, u_lstT, u_intB, u_intI, u_rvsT, u_rvsL, t_tupT, t_boolB, t_intI, t_boolI, e0, c_iswork n w (hB.ok w hw) hB.n6]) (by omega)
  have a1 : (ws.map fun _ => true).all id = true := all_t fun _ _ => rfl
  unfold b4
  simp only [m_non, m_yes, m_bl, m_int, m_str, m_tup, m_lst, m_bin, m_neg, m_cmp, m_chain, m_and, m_or, m_not, m_ite, m_call, m_callR, m_blt, m_isx, m_isi, m_ix, m_sl, m_comp, m_mth, m_rep, m_cat, m_u, m_rl1, m_rl2, m_gs, m_tx, m_gv, m_edcF, m_edcT, m_dsp, m_compL, m_turn, m_anil, m_acons, m_onil, m_part, m_rng, m_rng2, m_enum, m_zip, m_vals, k_tup, k_lst, k_mkT, k_mkF, k_bin1, k_bin2, k_of, k_neg, k_cmp1, k_cmp2, k_ch1, k_ch2, k_ch3T, k_ch3F, k_andT, k_andF, k_orT, k_orF, k_not, k_iteT, k_iteF, k_callR, k_call, k_blt, k_isi, k_ix1, k_ix2, k_sl1, k_sl2, k_sl3, k_part, k_cons1, k_cons2, k_comp1, k_comp2, k_mth1, k_mth2, k_mth3, k_rng1, k_enum, k_enumT, k_zip1, k_zipL, k_zipT, k_zipM1, k_zipM2, k_dsp1, k_dsp2, k_valsD, k_valsS, k_tx1, k_tx2, k_valsT, k_valsL, k_rep1, k_rep2, k_cat1, k_cat2, k_u, k_rl2, k_rl3, k_rlT, k_rlL, k_compL, k_trn1, k_trn2T, k_trn2F, k_trn3, w_nil, w_cons, s_forL, k_forL, k_forLT, k_forLF, s_nil, s_seq, s_expr, s_asg, s_par, s_unp, s_sub, s_pas, s_if, s_for, s_while, s_ret, s_raise, s_retN, s_pass, s_brk, s_cnt, k_seqN, k_seqR, k_seqB, k_seqC, k_expr, k_asg, k_par1, k_par2, k_unp, k_unp2, k_pas1, k_pas2, k_pas3, k_sub1, k_sub2, k_sub3, k_sub4, k_ifT, k_ifF, k_ret, k_for, k_forSet, k_turnN, k_turnC, k_turnB, k_turnR, k_whT, k_whF, k_wh2N, k_wh2C, k_wh2B, k_wh2R, o_nxt, o_ret, v_add, v_sub, v_fdiv, v_mod, v_lt, v_le, v_gt, v_ge, v_eqI, v_neI, v_eqB, v_neB, v_isB, v_isnotB, v_lenT, v_lenL, v_abs, v_max2, v_min2, v_ixT, v_ixL, v_slL, v_slT, at_0, at_1, at_2, m_v0, m_v1, m_v2, m_v3, m_v4, m_v5, m_v6, m_v7, m_v8, m_v9, m_v10, m_v11, m_v12, m_v13, m_v14, m_v15, l_s0, l_s1, l_s2, l_s3, l_s4, l_s5, l_s6, l_s7, l_s8, l_s9, l_s10, l_s11, l_s12, l_s13, l_s14, l_s15, l_g0, l_g1, l_g2, l_g3, l_g4, l_g5, l_g6, l_g7, l_g8, l_g9, l_g10, l_g11, l_g12, l_g13, l_g14, l_g15, List.length_cons, List.length_nil, Option.map_some, Bool.not_true, Bool.not_false, if_true, decide_true, decide_false, ite_true, setTg, reduceIte, Nat.zero_add, lim, Nat.reduceLeDiff, List.nil_append, List.append_nil, String.reduceEq, or_false, or_true, or_self, Nat.zero_le, List.map_cons, List.map_nil, List.foldl_cons, List.foldl_nil, List.zip_cons_cons, List.zip_nil_left, u_tupL, u_tupT, u_lstL, u_lstT, u_intB, u_intI, u_rvsT, u_rvsL, t_tupT, t_boolB, t_intI, t_boolI, t0, e2, e3, e0, e1, c_hands n hB.n1 hB.n6, t1, List.length_map, hL, f1, h1, u_all, a1]
theorem c_needbook {k : Nat} {S : Store} {n : Int} {ws : List (List Int)} (hB : GB n ws) : callI (run P WW (k + 5)) false 5 [bookV n ws] S = .ok .non S := by
  refine call_val (S' := []) (fr_all fun x hx => by rw [List.mem_singleton.mp hx]; exact book_free n ws) ?_ rfl
  rw [run_f (d := f5) rfl rfl]
  show (execS _ WW b5 [some (bookV n ws)] []).res = _
  unfold b5
  simp only [m_non, m_yes, m_bl, m_int, m_str, m_tup, m_lst, m_bin, m_neg, m_cmp, m_chain, m_and, m_or, m_not, m_ite, m_call, m_callR, m_blt, m_isx, m_isi, m_ix, m_sl, m_comp, m_mth, m_rep, m_cat, m_u, m_rl1, m_rl2, m_gs, m_tx, m_gv, m_edcF, m_edcT, m_dsp, m_compL, m_turn, m_anil, m_acons, m_onil, m_part, m_rng, m_rng2, m_enum, m_zip, m_vals, k_tup, k_lst, k_mkT, k_mkF, k_bin1, k_bin2, k_of, k_neg, k_cmp1, k_cmp2, k_ch1, k_ch2, k_ch3T, k_ch3F, k_andT, k_andF, k_orT, k_orF, k_not, k_iteT, k_iteF, k_callR, k_call, k_blt, k_isi, k_ix1, k_ix2, k_sl1, k_sl2, k_sl3, k_part, k_cons1, k_cons2, k_comp1, k_comp2, k_mth1, k_mth2, k_mth3, k_rng1, k_enum, k_enumT, k_zip1, k_zipL, k_zipT, k_zipM1, k_zipM2, k_dsp1, k_dsp2, k_valsD, k_valsS, k_tx1, k_tx2, k_valsT, k_valsL, k_rep1, k_rep2, k_cat1, k_cat2, k_u, k_rl2, k_rl3, k_rlT, k_rlL, k_compL, k_trn1, k_trn2T, k_trn2F, k_trn3, w_nil, w_cons, s_forL, k_forL, k_forLT, k_forLF, s_nil, s_seq, s_expr, s_asg, s_par, s_unp, s_sub, s_pas, s_if, s_for, s_while, s_ret, s_raise, s_retN, s_pass, s_brk, s_cnt, k_seqN, k_seqR, k_seqB, k_seqC, k_expr, k_asg, k_par1, k_par2, k_unp, k_unp2, k_pas1, k_pas2, k_pas3, k_sub1, k_sub2, k_sub3, k_sub4, k_ifT, k_ifF, k_ret, k_for, k_forSet, k_turnN, k_turnC, k_turnB, k_turnR, k_whT, k_whF, k_wh2N, k_wh2C, k_wh2B, k_wh2R, o_nxt, o_ret, v_add, v_sub, v_fdiv, v_mod, v_lt, v_le, v_gt, v_ge, v_eqI, v_neI, v_eqB, v_neB, v_isB, v_isnotB, v_lenT, v_lenL, v_abs, v_max2, v_min2, v_ixT, v_ixL, v_slL, v_slT, at_0, at_1, at_2, m_v0, m_v1, m_v2, m_v3, m_v4, m_v5, m_v6, m_v7, m_v8, m_v9, m_v10, m_v11, m_v12, m_v13, m_v14, m_v15, l_s0, l_s1, l_s2, l_s3, l_s4, l_s5, l_s6, l_s7, l_s8, l_s9, l_s10, l_s11, l_s12, l_s13, l_s14, l_s15, l_g0, l_g1, l_g2, l_g3, l_g4, l_g5, l_g6, l_g7, l_g8, l_g9, l_g10, l_g11, l_g12, l_g13, l_g14, l_g15, List.length_cons, List.length_nil, Option.map_some, Bool.not_true, Bool.not_false, if_true, decide_true, decide_false, ite_true, setTg, reduceIte, Nat.zero_add, lim, Nat.reduceLeDiff, List.nil_append, List.append_nil, String.reduceEq, or_false, or_true, or_self, Nat.zero_le, List.map_cons, List.map_nil, List.foldl_cons, List.foldl_nil, List.zip_cons_cons, List.zip_nil_left, u_tupL, u_tupT, u_lstL, u_lstT, u_intB, u_intI, u_rvsT, u_rvsL, t_tupT, t_boolB, t_intI, t_boolI, c_isbook hB]
theorem zipV_map {α β : Type} (f : α → Val) (g : β → Val) : ∀ (xs : List α) (ys : List β), zipV (xs.map f) (ys.map g) = (xs.zip ys).map fun p => .tup [f p.1, g p.2]
  | [], _ => by simp [zipV]
  | _ :: _, [] => by simp [zipV]
  | x :: xs, y :: ys => by
    rw [List.zip_cons_cons, List.map_cons, List.map_cons, List.map_cons]
    show Val.tup [f x, g y] :: zipV (xs.map f) (ys.map g) = _
    rw [zipV_map f g xs ys]
theorem two_free {n : Int} {ws : List (List Int)} (d : List Int) : Val.frees [bookV n ws, tI d] = true := by
  show ((bookV n ws).free && ((tI d).free && true)) = true
  rw [book_free, tI_free]
  rfl
theorem v_catL {a b : List Val} (h : a.length + b.length ≤ 100000) : binV .add (.lst a) (.lst b) = some (.lst (a ++ b)) := by
  show (if a.length + b.length ≤ lim then some (Val.lst (a ++ b)) else none) = _
  exact if_pos h
theorem v_catT {a b : List Val} (h : a.length + b.length ≤ 100000) : binV .add (.tup a) (.tup b) = some (.tup (a ++ b)) := by
  show (if a.length + b.length ≤ lim then some (Val.tup (a ++ b)) else none) = _
  exact if_pos h
theorem for_anyI {Φ : Option Bool → Nat → List Val → Store → R Val} {W : Nat} {g : Tg} {b : St} (I : Nat → Env → Store → Prop) (E : Val → Store → Prop) : ∀ (xs : List Val) (i : Nat) (ρ : Env) (S : Store), I i ρ S →
    (∀ j x ρ S, xs[j]? = some x → I (i + j) ρ S → ∃ ρ1, setTg ρ g x = some ρ1 ∧ ((∃ ρ2 S2, execS Φ W b ρ1 S = .nxt ρ2 S2 ∧ I (i + j + 1) ρ2 S2) ∨ ∃ v S2, execS Φ W b ρ1 S = .ret v S2 ∧ E v S2)) →
    (∃ ρ' S', forS Φ W g b xs ρ S = .nxt ρ' S' ∧ I (i + xs.length) ρ' S') ∨ ∃ v S', forS Φ W g b xs ρ S = .ret v S' ∧ E v S'
  | [], i, ρ, S, h, _ => .inl ⟨ρ, S, rfl, h⟩
  | x :: xs, i, ρ, S, h, hs => by
    obtain ⟨ρ1, h1, h2⟩ := hs 0 x ρ S rfl h
    rw [f_cons, h1]
    show (∃ ρ' S', kTurn Φ W g b xs (execS Φ W b ρ1 S) = .nxt ρ' S' ∧ I (i + (x :: xs).length) ρ' S') ∨ ∃ v S', kTurn Φ W g b xs (execS Φ W b ρ1 S) = .ret v S' ∧ E v S'
    rcases h2 with ⟨ρ2, S2, h2, h3⟩ | ⟨v, S2, h2, h3⟩
    · rw [h2, List.length_cons, show i + (xs.length + 1) = i + 1 + xs.length by omega]
      exact for_anyI I E xs (i + 1) ρ2 S2 h3 fun j y ρ S hj hI => by
        have := hs (j + 1) y ρ S (by simpa using hj) (by rw [← Nat.add_assoc, Nat.add_right_comm]; exact hI)
        rw [show i + 1 + j + 1 = i + (j + 1) + 1 by omega]
        exact this
    · rw [h2]
      exact .inr ⟨v, S2, rfl, h3⟩
theorem v_lenS {S : Store} {n : Nat} {vs : List Val} (h : S[n]? = some (.lst vs)) : bltV S .len [.loc n] = some (.int vs.length) := by
  have e0 : items S (.loc n) = some vs := by
    show (match S[n]? with
      | some (.lst vs) => some vs
      | _ => none) = _
    rw [h]
  show (match items S (.loc n) with
    | some vs => some (Val.int vs.length)
    | none => none) = _
  rw [e0]
/-! numbers, each once -/
theorem getD_at {α : Type} {l : List α} {i : Nat} {x y : α} (h : l[i]? = some x) : l.getD i y = x := by rw [List.getD_eq_getElem?_getD, h]; rfl
theorem len_tI (d : List Int) (S : Store) : bltV S .len [tI d] = some (.int (d.length : Nat)) := by rw [← List.length_map (f := Val.int)]; rfl
theorem ix_tI {d : List Int} {w : Int} (S : Store) (w0 : 0 ≤ w) (h : w.toNat < d.length) : ixV S (tI d) (.int w) = some (.int (d.getD w.toNat 0)) := by
  show L2.atI (d.map Val.int) w = _
  rw [at_int _ w0, get_int h, List.getD_eq_getElem?_getD, List.getElem?_eq_getElem h]
  rfl
theorem ix_ws {ws : List (List Int)} {w : Int} (S : Store) (w0 : 0 ≤ w) (h : w.toNat < ws.length) : ixV S (.tup (ws.map tI)) (.int w) = some (tI (ws.getD w.toNat [])) := by
  show L2.atI (ws.map tI) w = _
  rw [at_int _ w0, get_tI h, List.getD_eq_getElem?_getD, List.getElem?_eq_getElem h]
  rfl
theorem q_seq {Φ : Option Bool → Nat → List Val → Store → R Val} {W : Nat} {a b : St} {ρ ρ1 : Env} {S S1 : Store} (h : execS Φ W a ρ S = .nxt ρ1 S1) : execS Φ W (.seq a b) ρ S = execS Φ W b ρ1 S1 := by
  show (execS Φ W a ρ S).then (fun ρ1 S1 => execS Φ W b ρ1 S1) = _
  rw [h]
  rfl
theorem bd62 {i : Int} (h0 : 0 ≤ i) (h1 : i ≤ 1000) : -(2 ^ 62) ≤ i ∧ i < 2 ^ 62 := by omega
theorem bd62n {i : Int} (h0 : 0 ≤ i) (h1 : i ≤ 1000) : -(2 ^ 62) ≤ i ∧ i < 2 ^ 62 ∧ i.toNat ≤ 100000 := by omega
theorem q_end {Φ : Option Bool → Nat → List Val → Store → R Val} {W : Nat} {a b : St} {ρ : Env} {S S1 : Store} {v : Val} (h : execS Φ W a ρ S = .ret v S1) : execS Φ W (.seq a b) ρ S = .ret v S1 := by
  show (execS Φ W a ρ S).then (fun ρ1 S1 => execS Φ W b ρ1 S1) = _
  rw [h]
  rfl
theorem book1 (n : Int) (ws : List (List Int)) (S : Store) : ixV S (bookV n ws) (.int 1) = some (.tup (ws.map tI)) := rfl
theorem book0 (n : Int) (ws : List (List Int)) (S : Store) : ixV S (bookV n ws) (.int 0) = some (.int n) := rfl
theorem for_all3 {Φ : Option Bool → Nat → List Val → Store → R Val} {W : Nat} {g : Tg} {b : St} (I : Env → Store → Prop) : ∀ (xs : List Val) (ρ : Env) (S : Store), I ρ S →
  (∀ x ∈ xs, ∀ ρ S, I ρ S → ∃ ρ1 ρ2 S2, setTg ρ g x = some ρ1 ∧ (execS Φ W b ρ1 S = .nxt ρ2 S2 ∨ execS Φ W b ρ1 S = .brk ρ2 S2) ∧ I ρ2 S2) → ∃ ρ' S', forS Φ W g b xs ρ S = .nxt ρ' S' ∧ I ρ' S'
  | [], ρ, S, h, _ => ⟨ρ, S, rfl, h⟩
  | x :: xs, ρ, S, h, hs => by
    obtain ⟨ρ1, ρ2, S2, h1, h2, h3⟩ := hs x List.mem_cons_self ρ S h
    rcases h2 with h2 | h2
    · obtain ⟨ρ', S', h4, h5⟩ := for_all3 I xs ρ2 S2 h3 fun y hy => hs y (List.mem_cons_of_mem _ hy)
      exact ⟨ρ', S', by rw [f_cons, h1, k_forSet, h2, k_turnN, h4], h5⟩
    · exact ⟨ρ2, S2, by rw [f_cons, h1, k_forSet, h2, k_turnB], h3⟩
theorem cut_lo (ws : List (List Int)) {x : Int} (h : 0 ≤ x) : cutL (ws.map tI) none (some x) = (ws.take x.toNat).map tI := by
  have e := cut_to (ws.map tI) x.toNat
  rw [Int.toNat_of_nonneg h] at e
  rw [e, List.map_take]
theorem cut_hi (ws : List (List Int)) {x : Int} (h : 0 ≤ x) : cutL (ws.map tI) (some x) none = (ws.drop x.toNat).map tI := by
  have e := cut_from (ws.map tI) x.toNat
  rw [Int.toNat_of_nonneg h] at e
  rw [e, List.map_drop]
theorem ob_cons {S : Store} {vs ws : List Val} (h : (S ++ [Obj.lst vs])[S.length]? = some (.lst ws)) : vs = ws := by
  rw [List.getElem?_append_right (Nat.le_refl _), Nat.sub_self] at h
  cases h
  rfl
theorem ob_last (S : Store) (vs : List Val) : (S ++ [Obj.lst vs])[S.length]? = some (.lst vs) := by
  rw [List.getElem?_append_right (Nat.le_refl _), Nat.sub_self]
  rfl
theorem sub0 {S : Store} {m : Nat} {v : Val} {vs : List Val} (x : Val) (h : S[m]? = some (.lst (v :: vs))) : storeSub S (.loc m) (.int 0) x = some (S.set m (.lst (x :: vs))) := by
  unfold storeSub
  have e : L2.ixN (v :: vs).length 0 = some 0 := by
    unfold L2.ixN
    rw [List.length_cons, if_pos (Int.le_refl 0), if_pos (by omega)]
    rfl
  simp only [h, e]
  rfl
theorem gd_in {n : Int} {ws : List (List Int)} (hB : GB n ws) {d : List Int} (hd : GD ws d) : ∀ h ∈ d, 0 ≤ h ∧ h < n := fun h hh => by
  obtain ⟨i, hi⟩ := List.getElem?_of_mem hh
  have l := (List.getElem?_eq_some_iff.mp hi).1
  rw [hd.len] at l
  have hw := List.getElem?_eq_getElem l
  exact (hB.ok _ (List.getElem_mem l)).2.2 h (hd.ok i _ h hw hi)
theorem fr1 {v : Val} (h : v.free = true) : Val.frees [v] = true := by
  show (v.free && true) = true
  rw [h]
  rfl
theorem wp_of {o : Out} {ρ : Env} {S : Store} {Q : Po} (h : o = .nxt ρ S) (q : Q.N ρ S) : Wp o Q := by
  subst h
  exact ⟨q⟩
theorem wp_ofr {o : Out} {v : Val} {S : Store} {Q : Po} (h : o = .ret v S) (q : Q.R v S) : Wp o Q := by
  subst h
  exact ⟨q⟩
theorem turn_test {Φ : Option Bool → Nat → List Val → Store → R Val} (A : List Val) (x : Int) {S : Store} {o : List Val} (hS : S[0]? = some (.lst o)) (ho : IsTp o) (r : Env) : ∃ c : Bool, evalE Φ (.and (.cmp .gt (.var 2) (.int 1)) (.cmp .ge (.ix (.var 1) (.int 1)) (.blt .len (.cons (.var 0) .nil)))) (some (.lst A) :: some (.loc 0) :: some (.int x) :: r) S = .ok (.bl c) S := by
  obtain ⟨ms, a, l, a0, rfl⟩ := ho
  have x1 : ixV S (.loc 0) (.int 1) = some (.int a) := by
    rw [v_ixS 0 _ 1 hS]
    rfl
  by_cases hx : x > 1
  · refine ⟨decide (a ≥ ((A.length : Nat) : Int)), ?_⟩
    generalize hL : ((A.length : Nat) : Int) = L
    simp only [m_non, m_yes, m_bl, m_int, m_str, m_tup, m_lst, m_bin, m_neg, m_cmp, m_chain, m_and, m_or, m_not, m_ite, m_call, m_callR, m_blt, m_isx, m_isi, m_ix, m_sl, m_comp, m_mth, m_rep, m_cat, m_u, m_rl1, m_rl2, m_gs, m_tx, m_gv, m_edcF, m_edcT, m_dsp, m_compL, m_turn, m_anil, m_acons, m_onil, m_part, m_rng, m_rng2, m_enum, m_zip, m_vals, k_tup, k_lst, k_mkT, k_mkF, k_bin1, k_bin2, k_of, k_neg, k_cmp1, k_cmp2, k_ch1, k_ch2, k_ch3T, k_ch3F, k_andT, k_andF, k_orT, k_orF, k_not, k_iteT, k_iteF, k_callR, k_call, k_blt, k_isi, k_ix1, k_ix2, k_sl1, k_sl2, k_sl3, k_part, k_cons1, k_cons2, k_comp1, k_comp2, k_mth1, k_mth2, k_mth3, k_rng1, k_enum, k_enumT, k_zip1, k_zipL, k_zipT, k_zipM1, k_zipM2, k_dsp1, k_dsp2, k_valsD, k_valsS, k_tx1, k_tx2, k_valsT, k_valsL, k_rep1, k_rep2, k_cat1, k_cat2, k_u, k_rl2, k_rl3, k_rlT, k_rlL, k_compL, k_trn1, k_trn2T, k_trn2F, k_trn3, w_nil, w_cons, s_forL, k_forL, k_forLT, k_forLF, s_nil, s_seq, s_expr, s_asg, s_par, s_unp, s_sub, s_pas, s_if, s_for, s_while, s_ret, s_raise, s_retN, s_pass, s_brk, s_cnt, k_seqN, k_seqR, k_seqB, k_seqC, k_expr, k_asg, k_par1, k_par2, k_unp, k_unp2, k_pas1, k_pas2, k_pas3, k_sub1, k_sub2, k_sub3, k_sub4, k_ifT, k_ifF, k_ret, k_for, k_forSet, k_turnN, k_turnC, k_turnB, k_turnR, k_whT, k_whF, k_wh2N, k_wh2C, k_wh2B, k_wh2R, o_nxt, o_ret, v_add, v_sub, v_fdiv, v_mod, v_lt, v_le, v_gt, v_ge, v_eqI, v_neI, v_eqB, v_neB, v_isB, v_isnotB, v_lenT, v_lenL, v_abs, v_max2, v_min2, v_ixT, v_ixL, v_slL, v_slT, at_0, at_1, at_2, m_v0, m_v1, m_v2, m_v3, m_v4, m_v5, m_v6, m_v7, m_v8, m_v9, m_v10, m_v11, m_v12, m_v13, m_v14, m_v15, l_s0, l_s1, l_s2, l_s3, l_s4, l_s5, l_s6, l_s7, l_s8, l_s9, l_s10, l_s11, l_s12, l_s13, l_s14, l_s15, l_g0, l_g1, l_g2, l_g3, l_g4, l_g5, l_g6, l_g7, l_g8, l_g9, l_g10, l_g11, l_g12, l_g13, l_g14, l_g15, List.length_cons, List.length_nil, Option.map_some, Bool.not_true, Bool.not_false, if_true, decide_true, decide_false, ite_true, setTg, reduceIte, Nat.zero_add, lim, Nat.reduceLeDiff, List.nil_append, List.append_nil, String.reduceEq, or_false, or_true, or_self, Nat.zero_le, List.map_cons, List.map_nil, List.foldl_cons, List.foldl_nil, List.zip_cons_cons, List.zip_nil_left, u_tupL, u_tupT, u_lstL, u_lstT, u_intB, u_intI, u_rvsT, u_rvsL, t_tupT, t_boolB, t_intI, t_boolI, hx, hL, x1]
  · refine ⟨false, ?_⟩
    simp only [m_non, m_yes, m_bl, m_int, m_str, m_tup, m_lst, m_bin, m_neg, m_cmp, m_chain, m_and, m_or, m_not, m_ite, m_call, m_callR, m_blt, m_isx, m_isi, m_ix, m_sl, m_comp, m_mth, m_rep, m_cat, m_u, m_rl1, m_rl2, m_gs, m_tx, m_gv, m_edcF, m_edcT, m_dsp, m_compL, m_turn, m_anil, m_acons, m_onil, m_part, m_rng, m_rng2, m_enum, m_zip, m_vals, k_tup, k_lst, k_mkT, k_mkF, k_bin1, k_bin2, k_of, k_neg, k_cmp1, k_cmp2, k_ch1, k_ch2, k_ch3T, k_ch3F, k_andT, k_andF, k_orT, k_orF, k_not, k_iteT, k_iteF, k_callR, k_call, k_blt, k_isi, k_ix1, k_ix2, k_sl1, k_sl2, k_sl3, k_part, k_cons1, k_cons2, k_comp1, k_comp2, k_mth1, k_mth2, k_mth3, k_rng1, k_enum, k_enumT, k_zip1, k_zipL, k_zipT, k_zipM1, k_zipM2, k_dsp1, k_dsp2, k_valsD, k_valsS, k_tx1, k_tx2, k_valsT, k_valsL, k_rep1, k_rep2, k_cat1, k_cat2, k_u, k_rl2, k_rl3, k_rlT, k_rlL, k_compL, k_trn1, k_trn2T, k_trn2F, k_trn3, w_nil, w_cons, s_forL, k_forL, k_forLT, k_forLF, s_nil, s_seq, s_expr, s_asg, s_par, s_unp, s_sub, s_pas, s_if, s_for, s_while, s_ret, s_raise, s_retN, s_pass, s_brk, s_cnt, k_seqN, k_seqR, k_seqB, k_seqC, k_expr, k_asg, k_par1, k_par2, k_unp, k_unp2, k_pas1, k_pas2, k_pas3, k_sub1, k_sub2, k_sub3, k_sub4, k_ifT, k_ifF, k_ret, k_for, k_forSet, k_turnN, k_turnC, k_turnB, k_turnR, k_whT, k_whF, k_wh2N, k_wh2C, k_wh2B, k_wh2R, o_nxt, o_ret, v_add, v_sub, v_fdiv, v_mod, v_lt, v_le, v_gt, v_ge, v_eqI, v_neI, v_eqB, v_neB, v_isB, v_isnotB, v_lenT, v_lenL, v_abs, v_max2, v_min2, v_ixT, v_ixL, v_slL, v_slT, at_0, at_1, at_2, m_v0, m_v1, m_v2, m_v3, m_v4, m_v5, m_v6, m_v7, m_v8, m_v9, m_v10, m_v11, m_v12, m_v13, m_v14, m_v15, l_s0, l_s1, l_s2, l_s3, l_s4, l_s5, l_s6, l_s7, l_s8, l_s9, l_s10, l_s11, l_s12, l_s13, l_s14, l_s15, l_g0, l_g1, l_g2, l_g3, l_g4, l_g5, l_g6, l_g7, l_g8, l_g9, l_g10, l_g11, l_g12, l_g13, l_g14, l_g15, List.length_cons, List.length_nil, Option.map_some, Bool.not_true, Bool.not_false, if_true, decide_true, decide_false, ite_true, setTg, reduceIte, Nat.zero_add, lim, Nat.reduceLeDiff, List.nil_append, List.append_nil, String.reduceEq, or_false, or_true, or_self, Nat.zero_le, List.map_cons, List.map_nil, List.foldl_cons, List.foldl_nil, List.zip_cons_cons, List.zip_nil_left, u_tupL, u_tupT, u_lstL, u_lstT, u_intB, u_intI, u_rvsT, u_rvsL, t_tupT, t_boolB, t_intI, t_boolI, hx]
/-! ### texts joined and split -/
def stL (l : List Nat) : PySem.Str := ⟨l.toArray⟩
theorem stL_len (l : List Nat) : (stL l).length = l.length := by
  show l.toArray.size = _
  rw [List.size_toArray]
theorem stL_list (l : List Nat) : (stL l).cps.toList = l := rfl
theorem stL_app (a b : List Nat) : (stL a ++ stL b : PySem.Str) = stL (a ++ b) := by
  show (⟨a.toArray ++ b.toArray⟩ : PySem.Str) = ⟨(a ++ b).toArray⟩
  rw [List.append_toArray]
theorem stL_eta (s : PySem.Str) : stL s.cps.toList = s := by
  obtain ⟨⟨l⟩⟩ := s
  rfl
/-- the signs of texts joined -/
def jnL (y : List Nat) : List (List Nat) → List Nat
  | [] => []
  | [p] => p
  | p :: q :: r => p ++ y ++ jnL y (q :: r)
theorem join_L (y : List Nat) : ∀ ps : List (List Nat), PySem.Str.join (stL y) (ps.map stL) = stL (jnL y ps)
  | [] => rfl
  | [p] => rfl
  | p :: q :: r => by
    show stL p ++ stL y ++ PySem.Str.join (stL y) ((q :: r).map stL) = _
    rw [join_L y (q :: r), stL_app, stL_app]
    rfl
theorem txt_join (y : List Nat) (ps : List (List Nat)) : PySem.Txt.join (stL y) (ps.map stL) = stL (jnL y ps) := by
  show PySem.Builtin.Str.glued _ _ = _
  rw [PySem.StrLaws.glued_eq_join, join_L]
theorem jn_len (y : List Nat) : ∀ ps : List (List Nat), ((ps.map stL).map (·.length)).sum + (ps.map stL).length * (stL y).length = (ps.map List.length).sum + ps.length * y.length := fun ps => by
  rw [List.length_map, stL_len, List.map_map]
  congr 2
theorem at_iff {x : PySem.Str} {y : List Nat} {i : Nat} : PySem.StrLaws.At x (stL y) x.length i ↔ i + y.length ≤ x.cps.toList.length ∧ (x.cps.toList.drop i).take y.length = y := by
  obtain ⟨⟨l⟩⟩ := x
  show (i + (stL y).length ≤ l.toArray.size ∧ (l.toArray.extract i (i + (stL y).length) == y.toArray) = true) ↔ _
  rw [stL_len, List.size_toArray, beq_iff_eq]
  show _ ↔ i + y.length ≤ l.length ∧ (l.drop i).take y.length = y
  have e : l.toArray.extract i (i + y.length) = ((l.drop i).take y.length).toArray := by
    rw [List.extract_toArray]
    congr 1
    show List.extract l i (i + y.length) = _
    unfold List.extract
    congr 1
    omega
  rw [e]
  constructor
  · rintro ⟨h1, h2⟩
    exact ⟨h1, by simpa using congrArg Array.toList h2⟩
  · rintro ⟨h1, h2⟩
    exact ⟨h1, by rw [h2]⟩
theorem sub_L (x : PySem.Str) (a b : Nat) : PySem.Builtin.Str.strSub x a b = stL ((x.cps.toList.drop a).take (b - a)) := by
  rw [← PySem.StrLaws.strSub_toList, stL_eta]
/-- the parts between are the texts -/
theorem parts_L (x : PySem.Str) (c : Nat) (y : List Nat) : ∀ (ps : List (List Nat)) (p : List Nat) (a : Nat) (cuts : List Nat) (f : Nat), x.cps.toList.drop a = jnL (c :: y) (p :: ps) → a ≤ x.length → (∀ q ∈ p :: ps, c ∉ q) → PySem.StrLaws.ChainG x (stL (c :: y)) x.length a cuts f → (∀ k, f ≤ k → ¬ PySem.StrLaws.At x (stL (c :: y)) x.length k) →
    PySem.StrLaws.partsFrom x (stL (c :: y)).length a cuts = (p :: ps).map stL := by
  have xl : x.length = x.cps.toList.length := by
    obtain ⟨⟨l⟩⟩ := x
    rfl
  -- no text holds a sign of the separator
  have no : ∀ (p r : List Nat) (a i : Nat), x.cps.toList.drop a = p ++ r → c ∉ p → a ≤ i → i < a + p.length → ¬ PySem.StrLaws.At x (stL (c :: y)) x.length i := fun p r a i h hc h1 h2 h3 => by
    obtain ⟨h4, h5⟩ := at_iff.mp h3
    have e1 : x.cps.toList[i]? = some c := by
      have : ((x.cps.toList.drop i).take (c :: y).length)[0]? = some c := by rw [h5]; rfl
      rw [List.getElem?_take_of_lt (by simp), List.getElem?_drop, Nat.add_zero] at this
      exact this
    have e2 : x.cps.toList[i]? = p[i - a]? := by
      have : (x.cps.toList.drop a)[i - a]? = (p ++ r)[i - a]? := by rw [h]
      rw [List.getElem?_drop, List.getElem?_append_left (by omega)] at this
      rw [← this]
      congr 1
      omega
    rw [e2] at e1
    exact hc (List.mem_of_getElem? e1)
  intro ps
  induction ps with
  | nil =>
    intro p a cuts f h ha hp ch hf
    have h' : x.cps.toList.drop a = p ++ [] := by rw [List.append_nil]; exact h
    cases cuts with
    | nil =>
      show [PySem.Builtin.Str.strSub x a x.length] = [stL p]
      rw [sub_L, xl, List.take_of_length_le (by rw [List.length_drop]; exact Nat.le_refl _)]
      rw [show x.cps.toList.drop a = p from h]
    | cons i r =>
      obtain ⟨h1, h2, _, _⟩ := (show a ≤ i ∧ PySem.StrLaws.At x (stL (c :: y)) x.length i ∧ _ ∧ _ from ch)
      have h3 := (at_iff.mp h2).1
      have h4 : p.length = x.cps.toList.length - a := by rw [← List.length_drop, show x.cps.toList.drop a = p from h]
      exact absurd h2 (no p [] a i h' (hp p List.mem_cons_self) h1 (by simp only [List.length_cons] at h3; omega))
  | cons q ps ih =>
    intro p a cuts f h ha hp ch hf
    have h' : x.cps.toList.drop a = p ++ ((c :: y) ++ jnL (c :: y) (q :: ps)) := by rw [h, ← List.append_assoc]; rfl
    have hl := congrArg List.length h'
    rw [List.length_drop, List.length_append, List.length_append] at hl
    have hd : x.cps.toList.drop (a + p.length) = (c :: y) ++ jnL (c :: y) (q :: ps) := by
      rw [← List.drop_drop, h', List.drop_left' rfl]
    have here : PySem.StrLaws.At x (stL (c :: y)) x.length (a + p.length) := at_iff.mpr ⟨by omega, by rw [hd, List.take_left' rfl]⟩
    cases cuts with
    | nil =>
      have e : f = a := ch
      exact absurd here (hf _ (by omega))
    | cons i r =>
      obtain ⟨h1, h2, h3, h4⟩ := (show a ≤ i ∧ PySem.StrLaws.At x (stL (c :: y)) x.length i ∧ (∀ k, a ≤ k → k < i → ¬ PySem.StrLaws.At x (stL (c :: y)) x.length k) ∧ PySem.StrLaws.ChainG x (stL (c :: y)) x.length (i + (stL (c :: y)).length) r f from ch)
      have e : i = a + p.length := by
        by_cases c1 : i < a + p.length
        · exact absurd h2 (no p _ a i h' (hp p List.mem_cons_self) h1 c1)
        · by_cases c2 : a + p.length < i
          · exact absurd here (h3 _ (by omega) c2)
          · omega
      subst e
      show PySem.Builtin.Str.strSub x a (a + p.length) :: PySem.StrLaws.partsFrom x (stL (c :: y)).length (a + p.length + (stL (c :: y)).length) r = stL p :: (q :: ps).map stL
      congr 1
      · rw [sub_L, h', show a + p.length - a = p.length by omega, List.take_left' rfl]
      · refine ih q _ r f ?_ ?_ (fun z hz => hp z (List.mem_cons_of_mem _ hz)) h4 hf
        · rw [stL_len, ← List.drop_drop, hd, List.drop_left' rfl]
        · rw [stL_len]
          omega
theorem split_L {c : Nat} {y : List Nat} {p : List Nat} {ps : List (List Nat)} (hp : ∀ q ∈ p :: ps, c ∉ q) (hk : ∀ z ∈ c :: y, z < 256) : PySem.Txt.split (stL (jnL (c :: y) (p :: ps))) (stL (c :: y)) = (p :: ps).map stL := by
  generalize hx : stL (jnL (c :: y) (p :: ps)) = x
  have hxl : x.cps.toList = jnL (c :: y) (p :: ps) := by rw [← hx]; rfl
  have key : PySem.StrLaws.partsFrom x (stL (c :: y)).length 0 (PySem.Builtin.Str.occurrences x (stL (c :: y)) 0 x.length (x.length + 1)) = (p :: ps).map stL := by
    obtain ⟨f, h1, h2⟩ := PySem.StrLaws.occ_tight x (stL (c :: y)) (by rw [stL_len]; simp)
    exact parts_L x c y ps p 0 _ f (by rw [List.drop_zero, hxl]) (Nat.zero_le _) hp h1 h2
  have one : PySem.Builtin.Str.occurrences x (stL (c :: y)) 0 x.length (x.length + 1) = [] → [x] = (p :: ps).map stL := fun e => by
    rw [e] at key
    rw [← key]
    show [x] = [PySem.Builtin.Str.strSub x 0 x.length]
    rw [PySem.StrLaws.sub_whole]
  have occ0 : (decide (x.length < (stL (c :: y)).length) || decide (PySem.Builtin.Str.strKind x < PySem.Builtin.Str.strKind (stL (c :: y)))) = true → PySem.Builtin.Str.occurrences x (stL (c :: y)) 0 x.length (x.length + 1) = [] := fun e => by
    rcases (Bool.or_eq_true _ _).mp e with e | e
    · have e := of_decide_eq_true e
      rcases PySem.StrLaws.occ_head x (stL (c :: y)) (x.length + 1) (by omega) with h | ⟨i, r, _, h, _⟩
      · exact h.1
      · have := h.1
        omega
    · have e := of_decide_eq_true e
      exfalso
      have k1 : PySem.Builtin.Str.strKind (stL (c :: y)) = 1 := by
        unfold PySem.Builtin.Str.strKind
        rw [if_pos]
        show ((c :: y).toArray.all fun x => decide (x < 256)) = true
        rw [List.all_toArray]
        exact List.all_eq_true.mpr fun z hz => decide_eq_true (hk z hz)
      rw [k1] at e
      have k2 : 1 ≤ PySem.Builtin.Str.strKind x := by
        unfold PySem.Builtin.Str.strKind
        split
        · exact Nat.le_refl _
        · split <;> decide
      omega
  unfold PySem.Txt.split
  by_cases h1 : (decide (x.length < (stL (c :: y)).length) || decide (PySem.Builtin.Str.strKind x < PySem.Builtin.Str.strKind (stL (c :: y)))) = true
  · rw [if_pos h1]
    exact one (occ0 h1)
  · rw [if_neg h1]
    by_cases h2 : (PySem.Builtin.Str.occurrences x (stL (c :: y)) 0 x.length (x.length + 1)).isEmpty = true
    · rw [if_pos h2]
      exact one (List.isEmpty_iff.mp h2)
    · rw [if_neg h2, PySem.StrLaws.partsBetween_eq]
      exact key
/-! ### draws from a jar -/
def Jr (N : Nat) (o : List Val) : Prop := ∃ (ns : List Int) (a l : Int), 0 ≤ a ∧ a ≤ (N : Int) ∧ o = tpV ns a l
theorem Jr.tp {N : Nat} {o : List Val} (h : Jr N o) : IsTp o := by
  obtain ⟨ns, a, l, h1, _, h2⟩ := h
  exact ⟨ns, a, l, h1, h2⟩
theorem Jr.up {N M : Nat} {o : List Val} (h : Jr N o) (hm : N ≤ M) : Jr M o := by
  obtain ⟨ns, a, l, h1, h2, h3⟩ := h
  exact ⟨ns, a, l, h1, by omega, h3⟩
theorem c_whirl {k : Nat} {S : Store} (c a : Int) (a0 : 0 ≤ a) (a1 : a < 2 ^ 60) : ∃ r : Int, callI (run P WW (k + 1)) false 12 [.int c, .int a] S = .ok (.int r) S := by
  have p18 : binV .pow (.int 10) (.int 18) = some (.int 1000000000000000000) := rfl
  by_cases h : 1000000000000000000 ≤ c
  · refine ⟨c, call_val (S' := []) rfl ?_ rfl⟩
    rw [run_f (d := f12) rfl rfl]
    show (execS _ WW b12 [some (.int c), some (.int a), none, none, none] []).res = _
    unfold b12
    simp only [m_non, m_yes, m_bl, m_int, m_str, m_tup, m_lst, m_bin, m_neg, m_cmp, m_chain, m_and, m_or, m_not, m_ite, m_call, m_callR, m_blt, m_isx, m_isi, m_ix, m_sl, m_comp, m_mth, m_rep, m_cat, m_u, m_rl1, m_rl2, m_gs, m_tx, m_gv, m_edcF, m_edcT, m_dsp, m_compL, m_turn, m_anil, m_acons, m_onil, m_part, m_rng, m_rng2, m_enum, m_zip, m_vals, k_tup, k_lst, k_mkT, k_mkF, k_bin1, k_bin2, k_of, k_neg, k_cmp1, k_cmp2, k_ch1, k_ch2, k_ch3T, k_ch3F, k_andT, k_andF, k_orT, k_orF, k_not, k_iteT, k_iteF, k_callR, k_call, k_blt, k_isi, k_ix1, k_ix2, k_sl1, k_sl2, k_sl3, k_part, k_cons1, k_cons2, k_comp1, k_comp2, k_mth1, k_mth2, k_mth3, k_rng1, k_enum, k_enumT, k_zip1, k_zipL, k_zipT, k_zipM1, k_zipM2, k_dsp1, k_dsp2, k_valsD, k_valsS, k_tx1, k_tx2, k_valsT, k_valsL, k_rep1, k_rep2, k_cat1, k_cat2, k_u, k_rl2, k_rl3, k_rlT, k_rlL, k_compL, k_trn1, k_trn2T, k_trn2F, k_trn3, w_nil, w_cons, s_forL, k_forL, k_forLT, k_forLF, s_nil, s_seq, s_expr, s_asg, s_par, s_unp, s_sub, s_pas, s_if, s_for, s_while, s_ret, s_raise, s_retN, s_pass, s_brk, s_cnt, k_seqN, k_seqR, k_seqB, k_seqC, k_expr, k_asg, k_par1, k_par2, k_unp, k_unp2, k_pas1, k_pas2, k_pas3, k_sub1, k_sub2, k_sub3, k_sub4, k_ifT, k_ifF, k_ret, k_for, k_forSet, k_turnN, k_turnC, k_turnB, k_turnR, k_whT, k_whF, k_wh2N, k_wh2C, k_wh2B, k_wh2R, o_nxt, o_ret, v_add, v_sub, v_fdiv, v_mod, v_lt, v_le, v_gt, v_ge, v_eqI, v_neI, v_eqB, v_neB, v_isB, v_isnotB, v_lenT, v_lenL, v_abs, v_max2, v_min2, v_ixT, v_ixL, v_slL, v_slT, at_0, at_1, at_2, m_v0, m_v1, m_v2, m_v3, m_v4, m_v5, m_v6, m_v7, m_v8, m_v9, m_v10, m_v11, m_v12, m_v13, m_v14, m_v15, l_s0, l_s1, l_s2, l_s3, l_s4, l_s5, l_s6, l_s7, l_s8, l_s9, l_s10, l_s11, l_s12, l_s13, l_s14, l_s15, l_g0, l_g1, l_g2, l_g3, l_g4, l_g5, l_g6, l_g7, l_g8, l_g9, l_g10, l_g11, l_g12, l_g13, l_g14, l_g15, List.length_cons, List.length_nil, Option.map_some, Bool.not_true, Bool.not_false, if_true, decide_true, decide_false, ite_true, setTg, reduceIte, Nat.zero_add, lim, Nat.reduceLeDiff, List.nil_append, List.append_nil, String.reduceEq, or_false, or_true, or_self, Nat.zero_le, List.map_cons, List.map_nil, List.foldl_cons, List.foldl_nil, List.zip_cons_cons, List.zip_nil_left, u_tupL, u_tupT, u_lstL, u_lstT, u_intB, u_intI, u_rvsT, u_rvsL, t_tupT, t_boolB, t_intI, t_boolI, p18, h]
  · suffices hs : ∃ r : Int, run P WW (k + 1) 12 [.int c, .int a] [] = .ok (.int r) [] by
      obtain ⟨r, hr⟩ := hs
      exact ⟨r, call_val (S' := []) rfl hr rfl⟩
    rw [run_f (d := f12) rfl rfl]
    show ∃ r : Int, (execS _ WW b12 [some (.int c), some (.int a), none, none, none] []).res = .ok (.int r) []
    unfold b12
    have m1 := v_mod c 2147483423 (by decide)
    have m2 := v_mul (c % 2147483423) 40013 (mul_okR _ (by decide) (by decide))
    have m3 := v_mul (a : Int) 15073 (mul_okR _ (by decide) (by decide))
    generalize hx : (c % 2147483423 * 40013 + (a : Int) * 15073 + 83) % 2147483399 = x
    have x1 : 0 ≤ x := by rw [← hx]; exact Int.emod_nonneg _ (by decide)
    have x2 : x < 2147483399 := by rw [← hx]; exact Int.emod_lt_of_pos _ (by decide)
    have m4 := v_mul x x (mul_okR _ (by omega) (by omega))
    have m5 := v_mul 521 (a : Int) (mul_okL _ (by decide) (by decide))
    have m6 := v_mul (521 * a) a (mul_okR _ (by omega) (by omega))
    have m7 := v_mul 11 x (mul_okL _ (by decide) (by decide))
    generalize hy : (x * x + 521 * a * a + 11 * x + 7) % 2147483353 = y
    have y1 : 0 ≤ y := by rw [← hy]; exact Int.emod_nonneg _ (by decide)
    have y2 : y < 2147483353 := by rw [← hy]; exact Int.emod_lt_of_pos _ (by decide)
    have m8 := v_mul y y (mul_okR _ (by omega) (by omega))
    have m9 := v_mul 947 y (mul_okL _ (by decide) (by decide))
    have m10 := v_mul 3 a (mul_okL _ (by decide) (by decide))
    have m11 := v_mul y 2147483323 (mul_okR _ (by decide) (by decide))
    refine ⟨y * 2147483323 + (y * y + 947 * y + x + 3 * a) % 2147483323, ?_⟩
    simp only [m_non, m_yes, m_bl, m_int, m_str, m_tup, m_lst, m_bin, m_neg, m_cmp, m_chain, m_and, m_or, m_not, m_ite, m_call, m_callR, m_blt, m_isx, m_isi, m_ix, m_sl, m_comp, m_mth, m_rep, m_cat, m_u, m_rl1, m_rl2, m_gs, m_tx, m_gv, m_edcF, m_edcT, m_dsp, m_compL, m_turn, m_anil, m_acons, m_onil, m_part, m_rng, m_rng2, m_enum, m_zip, m_vals, k_tup, k_lst, k_mkT, k_mkF, k_bin1, k_bin2, k_of, k_neg, k_cmp1, k_cmp2, k_ch1, k_ch2, k_ch3T, k_ch3F, k_andT, k_andF, k_orT, k_orF, k_not, k_iteT, k_iteF, k_callR, k_call, k_blt, k_isi, k_ix1, k_ix2, k_sl1, k_sl2, k_sl3, k_part, k_cons1, k_cons2, k_comp1, k_comp2, k_mth1, k_mth2, k_mth3, k_rng1, k_enum, k_enumT, k_zip1, k_zipL, k_zipT, k_zipM1, k_zipM2, k_dsp1, k_dsp2, k_valsD, k_valsS, k_tx1, k_tx2, k_valsT, k_valsL, k_rep1, k_rep2, k_cat1, k_cat2, k_u, k_rl2, k_rl3, k_rlT, k_rlL, k_compL, k_trn1, k_trn2T, k_trn2F, k_trn3, w_nil, w_cons, s_forL, k_forL, k_forLT, k_forLF, s_nil, s_seq, s_expr, s_asg, s_par, s_unp, s_sub, s_pas, s_if, s_for, s_while, s_ret, s_raise, s_retN, s_pass, s_brk, s_cnt, k_seqN, k_seqR, k_seqB, k_seqC, k_expr, k_asg, k_par1, k_par2, k_unp, k_unp2, k_pas1, k_pas2, k_pas3, k_sub1, k_sub2, k_sub3, k_sub4, k_ifT, k_ifF, k_ret, k_for, k_forSet, k_turnN, k_turnC, k_turnB, k_turnR, k_whT, k_whF, k_wh2N, k_wh2C, k_wh2B, k_wh2R, o_nxt, o_ret, v_add, v_sub, v_fdiv, v_mod, v_lt, v_le, v_gt, v_ge, v_eqI, v_neI, v_eqB, v_neB, v_isB, v_isnotB, v_lenT, v_lenL, v_abs, v_max2, v_min2, v_ixT, v_ixL, v_slL, v_slT, at_0, at_1, at_2, m_v0, m_v1, m_v2, m_v3, m_v4, m_v5, m_v6, m_v7, m_v8, m_v9, m_v10, m_v11, m_v12, m_v13, m_v14, m_v15, l_s0, l_s1, l_s2, l_s3, l_s4, l_s5, l_s6, l_s7, l_s8, l_s9, l_s10, l_s11, l_s12, l_s13, l_s14, l_s15, l_g0, l_g1, l_g2, l_g3, l_g4, l_g5, l_g6, l_g7, l_g8, l_g9, l_g10, l_g11, l_g12, l_g13, l_g14, l_g15, List.length_cons, List.length_nil, Option.map_some, Bool.not_true, Bool.not_false, if_true, decide_true, decide_false, ite_true, setTg, reduceIte, Nat.zero_add, lim, Nat.reduceLeDiff, List.nil_append, List.append_nil, String.reduceEq, or_false, or_true, or_self, Nat.zero_le, List.map_cons, List.map_nil, List.foldl_cons, List.foldl_nil, List.zip_cons_cons, List.zip_nil_left, u_tupL, u_tupT, u_lstL, u_lstT, u_intB, u_intI, u_rvsT, u_rvsL, t_tupT, t_boolB, t_intI, t_boolI, p18, h, m1, m2, m3, v_mod _ 2147483399 (by decide), hx, m4, m5, m6, m7, v_mod _ 2147483353 (by decide), hy, m8, m9, m10, v_mod _ 2147483323 (by decide), m11]
/-- a draw below m -/
theorem r_scoop {k N : Nat} {o : List Val} (ho : Jr N o) (hN : N < 2 ^ 50) (m : Int) (h1 : 0 < m) (h2 : m.natAbs.log2 < 9000) : ∃ (r : Int) (o' : List Val), 0 ≤ r ∧ r < m ∧ Jr (N + 1) o' ∧ run P WW (k + 2) 13 [.loc 0, .int m] [.lst o] = .ok (.int r) [.lst o'] := by
  obtain ⟨ns, a, l, a0, aN, rfl⟩ := ho
  have hN2 : (N : Int) < 2 ^ 50 := by exact_mod_cast hN
  have a9 : a < 2 ^ 60 := by omega
  have i0 : ∀ x y z : Val, ixV [.lst [x, y, z]] (.loc 0) (.int 0) = some x := fun _ _ _ => rfl
  have i1 : ∀ x y z : Val, ixV [.lst [x, y, z]] (.loc 0) (.int 1) = some y := fun _ _ _ => rfl
  have i2 : ∀ x y z : Val, ixV [.lst [x, y, z]] (.loc 0) (.int 2) = some z := fun _ _ _ => rfl
  have t1 : ∀ x y z v : Val, storeSub [.lst [x, y, z]] (.loc 0) (.int 1) v = some [.lst [x, v, z]] := fun _ _ _ _ => rfl
  have t2 : ∀ x y z v : Val, storeSub [.lst [x, y, z]] (.loc 0) (.int 2) v = some [.lst [x, y, v]] := fun _ _ _ _ => rfl
  have hr0 := fun l : Int => Int.emod_nonneg l (show m ≠ 0 by omega)
  have hr1 := fun l : Int => Int.emod_lt_of_pos l h1
  by_cases c : l < m
  · suffices hs : ∃ l' : Int, run P WW (k + 2) 13 [.loc 0, .int m] [.lst (tpV ns a l)] = .ok (.int (l' % m)) [.lst (tpV ns (a + 1) (l' / m))] by
      obtain ⟨l', h⟩ := hs
      exact ⟨l' % m, _, hr0 l', hr1 l', ⟨ns, a + 1, l' / m, by omega, by omega, rfl⟩, h⟩
    have m1 := v_mul 13 a (mul_okL _ (by decide) (by decide))
    have lA : ∀ S, bltV S .len [.lst (ns.map .int)] = some (.int (ns.length : Nat)) := fun S => by
      show some (Val.int _) = _
      rw [List.length_map]
    generalize hL : ((ns.length : Nat) : Int) = L at lA
    by_cases c1 : a < L
    · obtain ⟨l', hs⟩ := c_whirl (k := k) (S := [.lst [.lst (ns.map .int), .int (a + 1), .int l]]) (ns[a.toNat]'(by omega)) a a0 a9
      refine ⟨l', ?_⟩
      have hg : ∀ S, ixV S (.lst (ns.map Val.int)) (.int a) = some (.int (ns[a.toNat]'(by omega))) := fun S => by
        show L2.atI (ns.map Val.int) a = _
        rw [at_int _ a0, List.getElem?_map, List.getElem?_eq_getElem (by omega)]
        rfl
      have c1 := decide_eq_true c1
      rw [run_f (d := f13) rfl rfl]
      show (execS _ WW b13 [some (.loc 0), some (.int m), none, none, none] [.lst [.lst (ns.map .int), .int a, .int l]]).res = _
      unfold b13 tpV
      generalize Val.lst (ns.map .int) = A at *
      simp only [m_non, m_yes, m_bl, m_int, m_str, m_tup, m_lst, m_bin, m_neg, m_cmp, m_chain, m_and, m_or, m_not, m_ite, m_call, m_callR, m_blt, m_isx, m_isi, m_ix, m_sl, m_comp, m_mth, m_rep, m_cat, m_u, m_rl1, m_rl2, m_gs, m_tx, m_gv, m_edcF, m_edcT, m_dsp, m_compL, m_turn, m_anil, m_acons, m_onil, m_part, m_rng, m_rng2, m_enum, m_zip, m_vals, k_tup, k_lst, k_mkT, k_mkF, k_bin1, k_bin2, k_of, k_neg, k_cmp1, k_cmp2, k_ch1, k_ch2, k_ch3T, k_ch3F, k_andT, k_andF, k_orT, k_orF, k_not, k_iteT, k_iteF, k_callR, k_call, k_blt, k_isi, k_ix1, k_ix2, k_sl1, k_sl2, k_sl3, k_part, k_cons1, k_cons2, k_comp1, k_comp2, k_mth1, k_mth2, k_mth3, k_rng1, k_enum, k_enumT, k_zip1, k_zipL, k_zipT, k_zipM1, k_zipM2, k_dsp1, k_dsp2, k_valsD, k_valsS, k_tx1, k_tx2, k_valsT, k_valsL, k_rep1, k_rep2, k_cat1, k_cat2, k_u, k_rl2, k_rl3, k_rlT, k_rlL, k_compL, k_trn1, k_trn2T, k_trn2F, k_trn3, w_nil, w_cons, s_forL, k_forL, k_forLT, k_forLF, s_nil, s_seq, s_expr, s_asg, s_par, s_unp, s_sub, s_pas, s_if, s_for, s_while, s_ret, s_raise, s_retN, s_pass, s_brk, s_cnt, k_seqN, k_seqR, k_seqB, k_seqC, k_expr, k_asg, k_par1, k_par2, k_unp, k_unp2, k_pas1, k_pas2, k_pas3, k_sub1, k_sub2, k_sub3, k_sub4, k_ifT, k_ifF, k_ret, k_for, k_forSet, k_turnN, k_turnC, k_turnB, k_turnR, k_whT, k_whF, k_wh2N, k_wh2C, k_wh2B, k_wh2R, o_nxt, o_ret, v_add, v_sub, v_fdiv, v_mod, v_lt, v_le, v_gt, v_ge, v_eqI, v_neI, v_eqB, v_neB, v_isB, v_isnotB, v_lenT, v_lenL, v_abs, v_max2, v_min2, v_ixT, v_ixL, v_slL, v_slT, at_0, at_1, at_2, m_v0, m_v1, m_v2, m_v3, m_v4, m_v5, m_v6, m_v7, m_v8, m_v9, m_v10, m_v11, m_v12, m_v13, m_v14, m_v15, l_s0, l_s1, l_s2, l_s3, l_s4, l_s5, l_s6, l_s7, l_s8, l_s9, l_s10, l_s11, l_s12, l_s13, l_s14, l_s15, l_g0, l_g1, l_g2, l_g3, l_g4, l_g5, l_g6, l_g7, l_g8, l_g9, l_g10, l_g11, l_g12, l_g13, l_g14, l_g15, List.length_cons, List.length_nil, Option.map_some, Bool.not_true, Bool.not_false, if_true, decide_true, decide_false, ite_true, setTg, reduceIte, Nat.zero_add, lim, Nat.reduceLeDiff, List.nil_append, List.append_nil, String.reduceEq, or_false, or_true, or_self, Nat.zero_le, List.map_cons, List.map_nil, List.foldl_cons, List.foldl_nil, List.zip_cons_cons, List.zip_nil_left, u_tupL, u_tupT, u_lstL, u_lstT, u_intB, u_intI, u_rvsT, u_rvsL, t_tupT, t_boolB, t_intI, t_boolI, i0, i1, i2, c, m1, lA, c1, hg, t1, hs, t2, v_mod _ _ h1, v_fdiv _ _ h1 h2]
    · have c1 := decide_eq_false c1
      by_cases c2 : 0 < L
      · have q0 := Int.emod_nonneg (7 * a + 3) (show L ≠ 0 by omega)
        have q1 := Int.emod_lt_of_pos (7 * a + 3) c2
        generalize hq : (7 * a + 3) % L = q at q0 q1
        have hqn : q.toNat < ns.length := by omega
        have hg : ∀ S, ixV S (.lst (ns.map Val.int)) (.int q) = some (.int ns[q.toNat]) := fun S => by
          show L2.atI (ns.map Val.int) q = _
          rw [at_int _ q0, List.getElem?_map, List.getElem?_eq_getElem hqn]
          rfl
        obtain ⟨l', hs⟩ := c_whirl (k := k) (S := [.lst [.lst (ns.map .int), .int (a + 1), .int l]]) (ns[q.toNat] % 666666667 + a * 6000011) a a0 a9
        refine ⟨l', ?_⟩
        have vq := v_mod (7 * a + 3) L c2
        rw [hq] at vq
        have c2 := decide_eq_true c2
        have m2 := v_mul 7 a (mul_okL _ (by decide) (by decide))
        have m3 := v_mul a 6000011 (mul_okR _ (by decide) (by decide))
        rw [run_f (d := f13) rfl rfl]
        show (execS _ WW b13 [some (.loc 0), some (.int m), none, none, none] [.lst [.lst (ns.map .int), .int a, .int l]]).res = _
        unfold b13 tpV
        generalize Val.lst (ns.map .int) = A at *
        simp only [m_non, m_yes, m_bl, m_int, m_str, m_tup, m_lst, m_bin, m_neg, m_cmp, m_chain, m_and, m_or, m_not, m_ite, m_call, m_callR, m_blt, m_isx, m_isi, m_ix, m_sl, m_comp, m_mth, m_rep, m_cat, m_u, m_rl1, m_rl2, m_gs, m_tx, m_gv, m_edcF, m_edcT, m_dsp, m_compL, m_turn, m_anil, m_acons, m_onil, m_part, m_rng, m_rng2, m_enum, m_zip, m_vals, k_tup, k_lst, k_mkT, k_mkF, k_bin1, k_bin2, k_of, k_neg, k_cmp1, k_cmp2, k_ch1, k_ch2, k_ch3T, k_ch3F, k_andT, k_andF, k_orT, k_orF, k_not, k_iteT, k_iteF, k_callR, k_call, k_blt, k_isi, k_ix1, k_ix2, k_sl1, k_sl2, k_sl3, k_part, k_cons1, k_cons2, k_comp1, k_comp2, k_mth1, k_mth2, k_mth3, k_rng1, k_enum, k_enumT, k_zip1, k_zipL, k_zipT, k_zipM1, k_zipM2, k_dsp1, k_dsp2, k_valsD, k_valsS, k_tx1, k_tx2, k_valsT, k_valsL, k_rep1, k_rep2, k_cat1, k_cat2, k_u, k_rl2, k_rl3, k_rlT, k_rlL, k_compL, k_trn1, k_trn2T, k_trn2F, k_trn3, w_nil, w_cons, s_forL, k_forL, k_forLT, k_forLF, s_nil, s_seq, s_expr, s_asg, s_par, s_unp, s_sub, s_pas, s_if, s_for, s_while, s_ret, s_raise, s_retN, s_pass, s_brk, s_cnt, k_seqN, k_seqR, k_seqB, k_seqC, k_expr, k_asg, k_par1, k_par2, k_unp, k_unp2, k_pas1, k_pas2, k_pas3, k_sub1, k_sub2, k_sub3, k_sub4, k_ifT, k_ifF, k_ret, k_for, k_forSet, k_turnN, k_turnC, k_turnB, k_turnR, k_whT, k_whF, k_wh2N, k_wh2C, k_wh2B, k_wh2R, o_nxt, o_ret, v_add, v_sub, v_fdiv, v_mod, v_lt, v_le, v_gt, v_ge, v_eqI, v_neI, v_eqB, v_neB, v_isB, v_isnotB, v_lenT, v_lenL, v_abs, v_max2, v_min2, v_ixT, v_ixL, v_slL, v_slT, at_0, at_1, at_2, m_v0, m_v1, m_v2, m_v3, m_v4, m_v5, m_v6, m_v7, m_v8, m_v9, m_v10, m_v11, m_v12, m_v13, m_v14, m_v15, l_s0, l_s1, l_s2, l_s3, l_s4, l_s5, l_s6, l_s7, l_s8, l_s9, l_s10, l_s11, l_s12, l_s13, l_s14, l_s15, l_g0, l_g1, l_g2, l_g3, l_g4, l_g5, l_g6, l_g7, l_g8, l_g9, l_g10, l_g11, l_g12, l_g13, l_g14, l_g15, List.length_cons, List.length_nil, Option.map_some, Bool.not_true, Bool.not_false, if_true, decide_true, decide_false, ite_true, setTg, reduceIte, Nat.zero_add, lim, Nat.reduceLeDiff, List.nil_append, List.append_nil, String.reduceEq, or_false, or_true, or_self, Nat.zero_le, List.map_cons, List.map_nil, List.foldl_cons, List.foldl_nil, List.zip_cons_cons, List.zip_nil_left, u_tupL, u_tupT, u_lstL, u_lstT, u_intB, u_intI, u_rvsT, u_rvsL, t_tupT, t_boolB, t_intI, t_boolI, i0, i1, i2, c, m1, lA, c1, c2, m2, vq, hg, v_mod _ 666666667 (by decide), m3, t1, hs, t2, v_mod _ _ h1, v_fdiv _ _ h1 h2]
      · have c2 := decide_eq_false c2
        obtain ⟨l', hs⟩ := c_whirl (k := k) (S := [.lst [.lst (ns.map .int), .int (a + 1), .int l]]) (13 * a + 4) a a0 a9
        refine ⟨l', ?_⟩
        rw [run_f (d := f13) rfl rfl]
        show (execS _ WW b13 [some (.loc 0), some (.int m), none, none, none] [.lst [.lst (ns.map .int), .int a, .int l]]).res = _
        unfold b13 tpV
        generalize Val.lst (ns.map .int) = A at *
        simp only [m_non, m_yes, m_bl, m_int, m_str, m_tup, m_lst, m_bin, m_neg, m_cmp, m_chain, m_and, m_or, m_not, m_ite, m_call, m_callR, m_blt, m_isx, m_isi, m_ix, m_sl, m_comp, m_mth, m_rep, m_cat, m_u, m_rl1, m_rl2, m_gs, m_tx, m_gv, m_edcF, m_edcT, m_dsp, m_compL, m_turn, m_anil, m_acons, m_onil, m_part, m_rng, m_rng2, m_enum, m_zip, m_vals, k_tup, k_lst, k_mkT, k_mkF, k_bin1, k_bin2, k_of, k_neg, k_cmp1, k_cmp2, k_ch1, k_ch2, k_ch3T, k_ch3F, k_andT, k_andF, k_orT, k_orF, k_not, k_iteT, k_iteF, k_callR, k_call, k_blt, k_isi, k_ix1, k_ix2, k_sl1, k_sl2, k_sl3, k_part, k_cons1, k_cons2, k_comp1, k_comp2, k_mth1, k_mth2, k_mth3, k_rng1, k_enum, k_enumT, k_zip1, k_zipL, k_zipT, k_zipM1, k_zipM2, k_dsp1, k_dsp2, k_valsD, k_valsS, k_tx1, k_tx2, k_valsT, k_valsL, k_rep1, k_rep2, k_cat1, k_cat2, k_u, k_rl2, k_rl3, k_rlT, k_rlL, k_compL, k_trn1, k_trn2T, k_trn2F, k_trn3, w_nil, w_cons, s_forL, k_forL, k_forLT, k_forLF, s_nil, s_seq, s_expr, s_asg, s_par, s_unp, s_sub, s_pas, s_if, s_for, s_while, s_ret, s_raise, s_retN, s_pass, s_brk, s_cnt, k_seqN, k_seqR, k_seqB, k_seqC, k_expr, k_asg, k_par1, k_par2, k_unp, k_unp2, k_pas1, k_pas2, k_pas3, k_sub1, k_sub2, k_sub3, k_sub4, k_ifT, k_ifF, k_ret, k_for, k_forSet, k_turnN, k_turnC, k_turnB, k_turnR, k_whT, k_whF, k_wh2N, k_wh2C, k_wh2B, k_wh2R, o_nxt, o_ret, v_add, v_sub, v_fdiv, v_mod, v_lt, v_le, v_gt, v_ge, v_eqI, v_neI, v_eqB, v_neB, v_isB, v_isnotB, v_lenT, v_lenL, v_abs, v_max2, v_min2, v_ixT, v_ixL, v_slL, v_slT, at_0, at_1, at_2, m_v0, m_v1, m_v2, m_v3, m_v4, m_v5, m_v6, m_v7, m_v8, m_v9, m_v10, m_v11, m_v12, m_v13, m_v14, m_v15, l_s0, l_s1, l_s2, l_s3, l_s4, l_s5, l_s6, l_s7, l_s8, l_s9, l_s10, l_s11, l_s12, l_s13, l_s14, l_s15, l_g0, l_g1, l_g2, l_g3, l_g4, l_g5, l_g6, l_g7, l_g8, l_g9, l_g10, l_g11, l_g12, l_g13, l_g14, l_g15, List.length_cons, List.length_nil, Option.map_some, Bool.not_true, Bool.not_false, if_true, decide_true, decide_false, ite_true, setTg, reduceIte, Nat.zero_add, lim, Nat.reduceLeDiff, List.nil_append, List.append_nil, String.reduceEq, or_false, or_true, or_self, Nat.zero_le, List.map_cons, List.map_nil, List.foldl_cons, List.foldl_nil, List.zip_cons_cons, List.zip_nil_left, u_tupL, u_tupT, u_lstL, u_lstT, u_intB, u_intI, u_rvsT, u_rvsL, t_tupT, t_boolB, t_intI, t_boolI, i0, i1, i2, c, m1, lA, c1, c2, t1, hs, t2, v_mod _ _ h1, v_fdiv _ _ h1 h2]
  · refine ⟨l % m, tpV ns a (l / m), hr0 l, hr1 l, ⟨ns, a, l / m, a0, by omega, rfl⟩, ?_⟩
    rw [run_f (d := f13) rfl rfl]
    show (execS _ WW b13 [some (.loc 0), some (.int m), none, none, none] [.lst [.lst (ns.map .int), .int a, .int l]]).res = _
    unfold b13 tpV
    simp only [m_non, m_yes, m_bl, m_int, m_str, m_tup, m_lst, m_bin, m_neg, m_cmp, m_chain, m_and, m_or, m_not, m_ite, m_call, m_callR, m_blt, m_isx, m_isi, m_ix, m_sl, m_comp, m_mth, m_rep, m_cat, m_u, m_rl1, m_rl2, m_gs, m_tx, m_gv, m_edcF, m_edcT, m_dsp, m_compL, m_turn, m_anil, m_acons, m_onil, m_part, m_rng, m_rng2, m_enum, m_zip, m_vals, k_tup, k_lst, k_mkT, k_mkF, k_bin1, k_bin2, k_of, k_neg, k_cmp1, k_cmp2, k_ch1, k_ch2, k_ch3T, k_ch3F, k_andT, k_andF, k_orT, k_orF, k_not, k_iteT, k_iteF, k_callR, k_call, k_blt, k_isi, k_ix1, k_ix2, k_sl1, k_sl2, k_sl3, k_part, k_cons1, k_cons2, k_comp1, k_comp2, k_mth1, k_mth2, k_mth3, k_rng1, k_enum, k_enumT, k_zip1, k_zipL, k_zipT, k_zipM1, k_zipM2, k_dsp1, k_dsp2, k_valsD, k_valsS, k_tx1, k_tx2, k_valsT, k_valsL, k_rep1, k_rep2, k_cat1, k_cat2, k_u, k_rl2, k_rl3, k_rlT, k_rlL, k_compL, k_trn1, k_trn2T, k_trn2F, k_trn3, w_nil, w_cons, s_forL, k_forL, k_forLT, k_forLF, s_nil, s_seq, s_expr, s_asg, s_par, s_unp, s_sub, s_pas, s_if, s_for, s_while, s_ret, s_raise, s_retN, s_pass, s_brk, s_cnt, k_seqN, k_seqR, k_seqB, k_seqC, k_expr, k_asg, k_par1, k_par2, k_unp, k_unp2, k_pas1, k_pas2, k_pas3, k_sub1, k_sub2, k_sub3, k_sub4, k_ifT, k_ifF, k_ret, k_for, k_forSet, k_turnN, k_turnC, k_turnB, k_turnR, k_whT, k_whF, k_wh2N, k_wh2C, k_wh2B, k_wh2R, o_nxt, o_ret, v_add, v_sub, v_fdiv, v_mod, v_lt, v_le, v_gt, v_ge, v_eqI, v_neI, v_eqB, v_neB, v_isB, v_isnotB, v_lenT, v_lenL, v_abs, v_max2, v_min2, v_ixT, v_ixL, v_slL, v_slT, at_0, at_1, at_2, m_v0, m_v1, m_v2, m_v3, m_v4, m_v5, m_v6, m_v7, m_v8, m_v9, m_v10, m_v11, m_v12, m_v13, m_v14, m_v15, l_s0, l_s1, l_s2, l_s3, l_s4, l_s5, l_s6, l_s7, l_s8, l_s9, l_s10, l_s11, l_s12, l_s13, l_s14, l_s15, l_g0, l_g1, l_g2, l_g3, l_g4, l_g5, l_g6, l_g7, l_g8, l_g9, l_g10, l_g11, l_g12, l_g13, l_g14, l_g15, List.length_cons, List.length_nil, Option.map_some, Bool.not_true, Bool.not_false, if_true, decide_true, decide_false, ite_true, setTg, reduceIte, Nat.zero_add, lim, Nat.reduceLeDiff, List.nil_append, List.append_nil, String.reduceEq, or_false, or_true, or_self, Nat.zero_le, List.map_cons, List.map_nil, List.foldl_cons, List.foldl_nil, List.zip_cons_cons, List.zip_nil_left, u_tupL, u_tupT, u_lstL, u_lstT, u_intB, u_intI, u_rvsT, u_rvsL, t_tupT, t_boolB, t_intI, t_boolI, i0, i1, i2, c, t2, v_mod _ _ h1, v_fdiv _ _ h1 h2]
theorem c_scoop {k n N : Nat} {S : Store} {o : List Val} (hn : S[n]? = some (.lst o)) (ho : Jr N o) (hN : N < 2 ^ 50) (m : Int) (h1 : 0 < m) (h2 : m.natAbs.log2 < 9000) : ∃ (r : Int) (o' : List Val), 0 ≤ r ∧ r < m ∧ Jr (N + 1) o' ∧ callI (run P WW (k + 2)) false 13 [.loc n, .int m] S = .ok (.int r) (S.set n (.lst o')) := by
  obtain ⟨r, o', a1, a2, a3, a4⟩ := r_scoop (k := k) ho hN m h1 h2
  exact ⟨r, o', a1, a2, a3, call_loc rfl hn (tp_free ho.tp) a4 rfl (tp_free a3.tp) rfl⟩
/-- what is drawn of the hands below i -/
def JdI (N : Nat) (i : Nat) (acc : List Val) (S : Store) : Prop := ∃ (w : List Int) (o : List Val), acc = w.map Val.int ∧ S = [.lst o] ∧ Jr (N + i) o ∧ w.Pairwise (· < ·) ∧ ∀ h ∈ w, 0 ≤ h ∧ h < (i : Int)
theorem c_eable {k m N : Nat} {S : Store} {o : List Val} (hm : S[m]? = some (.lst o)) (ho : Jr N o) (hN : N < 2 ^ 40) (n : Int) (n1 : 1 ≤ n) (n6 : n ≤ 6) : ∃ (w : List Int) (o' : List Val), GW n w ∧ Jr (N + 8) o' ∧ callI (run P WW (k + 3)) false 14 [.loc m, .int n] S = .ok (tI w) (S.set m (.lst o')) := by
  suffices h : ∃ (w : List Int) (o' : List Val), GW n w ∧ Jr (N + 8) o' ∧ run P WW (k + 3) 14 [.loc 0, .int n] [.lst o] = .ok (tI w) [.lst o'] by
    obtain ⟨w, o', h1, h2, h3⟩ := h
    exact ⟨w, o', h1, h2, call_loc rfl hm (tp_free ho.tp) h3 rfl (tp_free h2.tp) (tI_free w)⟩
  rw [run_f (d := f14) rfl rfl]
  show ∃ (w : List Int) (o' : List Val), GW n w ∧ Jr (N + 8) o' ∧ (execS _ WW b14 [some (.loc 0), some (.int n), none, none, none] [.lst o]).res = _
  suffices hw : Wp (execS (callI (run P WW (k + 2))) WW b14 [some (.loc 0), some (.int n), none, none, none] [.lst o]) (Rt fun v S' => ∃ (w : List Int) (o' : List Val), v = tI w ∧ GW n w ∧ Jr (N + 8) o' ∧ S' = [.lst o']) by
    obtain ⟨v, S', h1, w, o', rfl, h2, h3, rfl⟩ := wp_res hw
    exact ⟨w, o', h2, h3, h1⟩
  obtain ⟨q, o1, q0, q1, ho1, t1⟩ := c_scoop (k := k) (n := 0) (S := [.lst o]) rfl ho (by omega) 3 (by decide) (by decide)
  have t1 : callI (run P WW (k + 2)) false 13 [.loc 0, .int 3] [.lst o] = .ok (.int q) [.lst o1] := t1
  unfold b14
  refine wp_st (ρ1 := [some (.loc 0), some (.int n), some (.int (2 + q)), none, none]) (S1 := [.lst o1]) (by
    generalize ([.lst o1] : Store) = SA at *
    generalize ([.lst o] : Store) = SB at *
    simp only [m_non, m_yes, m_bl, m_int, m_str, m_tup, m_lst, m_bin, m_neg, m_cmp, m_chain, m_and, m_or, m_not, m_ite, m_call, m_callR, m_blt, m_isx, m_isi, m_ix, m_sl, m_comp, m_mth, m_rep, m_cat, m_u, m_rl1, m_rl2, m_gs, m_tx, m_gv, m_edcF, m_edcT, m_dsp, m_compL, m_turn, m_anil, m_acons, m_onil, m_part, m_rng, m_rng2, m_enum, m_zip, m_vals, k_tup, k_lst, k_mkT, k_mkF, k_bin1, k_bin2, k_of, k_neg, k_cmp1, k_cmp2, k_ch1, k_ch2, k_ch3T, k_ch3F, k_andT, k_andF, k_orT, k_orF, k_not, k_iteT, k_iteF, k_callR, k_call, k_blt, k_isi, k_ix1, k_ix2, k_sl1, k_sl2, k_sl3, k_part, k_cons1, k_cons2, k_comp1, k_comp2, k_mth1, k_mth2, k_mth3, k_rng1, k_enum, k_enumT, k_zip1, k_zipL, k_zipT, k_zipM1, k_zipM2, k_dsp1, k_dsp2, k_valsD, k_valsS, k_tx1, k_tx2, k_valsT, k_valsL, k_rep1, k_rep2, k_cat1, k_cat2, k_u, k_rl2, k_rl3, k_rlT, k_rlL, k_compL, k_trn1, k_trn2T, k_trn2F, k_trn3, w_nil, w_cons, s_forL, k_forL, k_forLT, k_forLF, s_nil, s_seq, s_expr, s_asg, s_par, s_unp, s_sub, s_pas, s_if, s_for, s_while, s_ret, s_raise, s_retN, s_pass, s_brk, s_cnt, k_seqN, k_seqR, k_seqB, k_seqC, k_expr, k_asg, k_par1, k_par2, k_unp, k_unp2, k_pas1, k_pas2, k_pas3, k_sub1, k_sub2, k_sub3, k_sub4, k_ifT, k_ifF, k_ret, k_for, k_forSet, k_turnN, k_turnC, k_turnB, k_turnR, k_whT, k_whF, k_wh2N, k_wh2C, k_wh2B, k_wh2R, o_nxt, o_ret, v_add, v_sub, v_fdiv, v_mod, v_lt, v_le, v_gt, v_ge, v_eqI, v_neI, v_eqB, v_neB, v_isB, v_isnotB, v_lenT, v_lenL, v_abs, v_max2, v_min2, v_ixT, v_ixL, v_slL, v_slT, at_0, at_1, at_2, m_v0, m_v1, m_v2, m_v3, m_v4, m_v5, m_v6, m_v7, m_v8, m_v9, m_v10, m_v11, m_v12, m_v13, m_v14, m_v15, l_s0, l_s1, l_s2, l_s3, l_s4, l_s5, l_s6, l_s7, l_s8, l_s9, l_s10, l_s11, l_s12, l_s13, l_s14, l_s15, l_g0, l_g1, l_g2, l_g3, l_g4, l_g5, l_g6, l_g7, l_g8, l_g9, l_g10, l_g11, l_g12, l_g13, l_g14, l_g15, List.length_cons, List.length_nil, Option.map_some, Bool.not_true, Bool.not_false, if_true, decide_true, decide_false, ite_true, setTg, reduceIte, Nat.zero_add, lim, Nat.reduceLeDiff, List.nil_append, List.append_nil, String.reduceEq, or_false, or_true, or_self, Nat.zero_le, List.map_cons, List.map_nil, List.foldl_cons, List.foldl_nil, List.zip_cons_cons, List.zip_nil_left, u_tupL, u_tupT, u_lstL, u_lstT, u_intB, u_intI, u_rvsT, u_rvsL, t_tupT, t_boolB, t_intI, t_boolI, t1]) ?_
  generalize hq : 2 + q = q'
  have rg := rg1 (S := [.lst o1]) (n := n) (by omega)
  rw [upTo_V] at rg
  obtain ⟨acc, S2, hc, w, o2, e1, e2, ho2, w1, w2⟩ := comp_invI (f := compTurn (callI (run P WW (k + 2))) (.nm 4) [("hand", 4)] c14_0 e14_1 [some (.loc 0), some (.int n), some (.int q'), none, none])
    (JdI (N + 1)) ((upTo n).map .int) 0 [] [.lst o1] (fun i x acc S hi ⟨w, o, e1, e2, ho, w1, w2⟩ => by
      rw [List.getElem?_map] at hi
      cases e : (upTo n)[i]? with
      | none => rw [e] at hi; cases hi
      | some y =>
        rw [e] at hi
        cases hi
        have il : i < n.toNat := by
          have := (List.getElem?_eq_some_iff.mp e).1
          rwa [upTo_len] at this
        obtain ⟨y1, y2⟩ := upTo_at e
        subst e2
        rw [Nat.zero_add] at ho w2
        obtain ⟨g, o', g0, g1, ho', t⟩ := c_scoop (k := k) (n := 0) (S := [.lst o]) rfl ho (by omega) q' (by omega) (log_c (by omega))
        have t : callI (run P WW (k + 2)) false 13 [.loc 0, .int q'] [.lst o] = .ok (.int g) [.lst o'] := t
        rw [Nat.zero_add]
        by_cases c : g = 0
        · refine ⟨some (.int y), [.lst o'], ?_, w ++ [y], o', by rw [e1]; exact map_one Val.int w y, rfl, ho'.up (by omega), ?_, fun h hh => ?_⟩
          · have c := beq_t c
            generalize ([.lst o'] : Store) = SA at t ⊢
            generalize ([.lst o] : Store) = SB at t ⊢
            rw [m_turn]
            unfold c14_0 e14_1
            simp only [m_non, m_yes, m_bl, m_int, m_str, m_tup, m_lst, m_bin, m_neg, m_cmp, m_chain, m_and, m_or, m_not, m_ite, m_call, m_callR, m_blt, m_isx, m_isi, m_ix, m_sl, m_comp, m_mth, m_rep, m_cat, m_u, m_rl1, m_rl2, m_gs, m_tx, m_gv, m_edcF, m_edcT, m_dsp, m_compL, m_turn, m_anil, m_acons, m_onil, m_part, m_rng, m_rng2, m_enum, m_zip, m_vals, k_tup, k_lst, k_mkT, k_mkF, k_bin1, k_bin2, k_of, k_neg, k_cmp1, k_cmp2, k_ch1, k_ch2, k_ch3T, k_ch3F, k_andT, k_andF, k_orT, k_orF, k_not, k_iteT, k_iteF, k_callR, k_call, k_blt, k_isi, k_ix1, k_ix2, k_sl1, k_sl2, k_sl3, k_part, k_cons1, k_cons2, k_comp1, k_comp2, k_mth1, k_mth2, k_mth3, k_rng1, k_enum, k_enumT, k_zip1, k_zipL, k_zipT, k_zipM1, k_zipM2, k_dsp1, k_dsp2, k_valsD, k_valsS, k_tx1, k_tx2, k_valsT, k_valsL, k_rep1, k_rep2, k_cat1, k_cat2, k_u, k_rl2, k_rl3, k_rlT, k_rlL, k_compL, k_trn1, k_trn2T, k_trn2F, k_trn3, w_nil, w_cons, s_forL, k_forL, k_forLT, k_forLF, s_nil, s_seq, s_expr, s_asg, s_par, s_unp, s_sub, s_pas, s_if, s_for, s_while, s_ret, s_raise, s_retN, s_pass, s_brk, s_cnt, k_seqN, k_seqR, k_seqB, k_seqC, k_expr, k_asg, k_par1, k_par2, k_unp, k_unp2, k_pas1, k_pas2, k_pas3, k_sub1, k_sub2, k_sub3, k_sub4, k_ifT, k_ifF, k_ret, k_for, k_forSet, k_turnN, k_turnC, k_turnB, k_turnR, k_whT, k_whF, k_wh2N, k_wh2C, k_wh2B, k_wh2R, o_nxt, o_ret, v_add, v_sub, v_fdiv, v_mod, v_lt, v_le, v_gt, v_ge, v_eqI, v_neI, v_eqB, v_neB, v_isB, v_isnotB, v_lenT, v_lenL, v_abs, v_max2, v_min2, v_ixT, v_ixL, v_slL, v_slT, at_0, at_1, at_2, m_v0, m_v1, m_v2, m_v3, m_v4, m_v5, m_v6, m_v7, m_v8, m_v9, m_v10, m_v11, m_v12, m_v13, m_v14, m_v15, l_s0, l_s1, l_s2, l_s3, l_s4, l_s5, l_s6, l_s7, l_s8, l_s9, l_s10, l_s11, l_s12, l_s13, l_s14, l_s15, l_g0, l_g1, l_g2, l_g3, l_g4, l_g5, l_g6, l_g7, l_g8, l_g9, l_g10, l_g11, l_g12, l_g13, l_g14, l_g15, List.length_cons, List.length_nil, Option.map_some, Bool.not_true, Bool.not_false, if_true, decide_true, decide_false, ite_true, setTg, reduceIte, Nat.zero_add, lim, Nat.reduceLeDiff, List.nil_append, List.append_nil, String.reduceEq, or_false, or_true, or_self, Nat.zero_le, List.map_cons, List.map_nil, List.foldl_cons, List.foldl_nil, List.zip_cons_cons, List.zip_nil_left, u_tupL, u_tupT, u_lstL, u_lstT, u_intB, u_intI, u_rvsT, u_rvsL, t_tupT, t_boolB, t_intI, t_boolI, t, c]
          · rw [List.pairwise_append]
            refine ⟨w1, List.pairwise_singleton _ _, fun a ha b hb => ?_⟩
            rw [List.mem_singleton.mp hb, y1]
            exact (w2 a ha).2
          · rcases List.mem_append.mp hh with h' | h'
            · have := w2 h h'
              omega
            · rw [List.mem_singleton.mp h']
              omega
        · refine ⟨none, [.lst o'], ?_, w, o', by rw [e1]; exact List.append_nil _, rfl, ho'.up (by omega), w1, fun h hh => by have := w2 h hh; omega⟩
          have c := beq_f c
          generalize ([.lst o'] : Store) = SA at t ⊢
          generalize ([.lst o] : Store) = SB at t ⊢
          rw [m_turn]
          unfold c14_0 e14_1
          simp only [m_non, m_yes, m_bl, m_int, m_str, m_tup, m_lst, m_bin, m_neg, m_cmp, m_chain, m_and, m_or, m_not, m_ite, m_call, m_callR, m_blt, m_isx, m_isi, m_ix, m_sl, m_comp, m_mth, m_rep, m_cat, m_u, m_rl1, m_rl2, m_gs, m_tx, m_gv, m_edcF, m_edcT, m_dsp, m_compL, m_turn, m_anil, m_acons, m_onil, m_part, m_rng, m_rng2, m_enum, m_zip, m_vals, k_tup, k_lst, k_mkT, k_mkF, k_bin1, k_bin2, k_of, k_neg, k_cmp1, k_cmp2, k_ch1, k_ch2, k_ch3T, k_ch3F, k_andT, k_andF, k_orT, k_orF, k_not, k_iteT, k_iteF, k_callR, k_call, k_blt, k_isi, k_ix1, k_ix2, k_sl1, k_sl2, k_sl3, k_part, k_cons1, k_cons2, k_comp1, k_comp2, k_mth1, k_mth2, k_mth3, k_rng1, k_enum, k_enumT, k_zip1, k_zipL, k_zipT, k_zipM1, k_zipM2, k_dsp1, k_dsp2, k_valsD, k_valsS, k_tx1, k_tx2, k_valsT, k_valsL, k_rep1, k_rep2, k_cat1, k_cat2, k_u, k_rl2, k_rl3, k_rlT, k_rlL, k_compL, k_trn1, k_trn2T, k_trn2F, k_trn3, w_nil, w_cons, s_forL, k_forL, k_forLT, k_forLF, s_nil, s_seq, s_expr, s_asg, s_par, s_unp, s_sub, s_pas, s_if, s_for, s_while, s_ret, s_raise, s_retN, s_pass, s_brk, s_cnt, k_seqN, k_seqR, k_seqB, k_seqC, k_expr, k_asg, k_par1, k_par2, k_unp, k_unp2, k_pas1, k_pas2, k_pas3, k_sub1, k_sub2, k_sub3, k_sub4, k_ifT, k_ifF, k_ret, k_for, k_forSet, k_turnN, k_turnC, k_turnB, k_turnR, k_whT, k_whF, k_wh2N, k_wh2C, k_wh2B, k_wh2R, o_nxt, o_ret, v_add, v_sub, v_fdiv, v_mod, v_lt, v_le, v_gt, v_ge, v_eqI, v_neI, v_eqB, v_neB, v_isB, v_isnotB, v_lenT, v_lenL, v_abs, v_max2, v_min2, v_ixT, v_ixL, v_slL, v_slT, at_0, at_1, at_2, m_v0, m_v1, m_v2, m_v3, m_v4, m_v5, m_v6, m_v7, m_v8, m_v9, m_v10, m_v11, m_v12, m_v13, m_v14, m_v15, l_s0, l_s1, l_s2, l_s3, l_s4, l_s5, l_s6, l_s7, l_s8, l_s9, l_s10, l_s11, l_s12, l_s13, l_s14, l_s15, l_g0, l_g1, l_g2, l_g3, l_g4, l_g5, l_g6, l_g7, l_g8, l_g9, l_g10, l_g11, l_g12, l_g13, l_g14, l_g15, List.length_cons, List.length_nil, Option.map_some, Bool.not_true, Bool.not_false, if_true, decide_true, decide_false, ite_true, setTg, reduceIte, Nat.zero_add, lim, Nat.reduceLeDiff, List.nil_append, List.append_nil, String.reduceEq, or_false, or_true, or_self, Nat.zero_le, List.map_cons, List.map_nil, List.foldl_cons, List.foldl_nil, List.zip_cons_cons, List.zip_nil_left, u_tupL, u_tupT, u_lstL, u_lstT, u_intB, u_intI, u_rvsT, u_rvsL, t_tupT, t_boolB, t_intI, t_boolI, t, c]) ⟨[], o1, rfl, rfl, ho1.up (by omega), List.Pairwise.nil, fun _ h => by cases h⟩ (by
      rw [List.length_map, upTo_len]
      show 0 + n.toNat ≤ 100000
      omega)
  subst e1 e2
  rw [Nat.zero_add, List.length_map, upTo_len] at w2 ho2
  have ut : ∀ S, uV .tuple (.lst (w.map .int)) S = .ok (tI w) S := fun _ => rfl
  refine wp_st (ρ1 := [some (.loc 0), some (.int n), some (.int q'), some (tI w), none]) (S1 := [.lst o2]) (by
    generalize ([.lst o2] : Store) = SA at *
    generalize ([.lst o1] : Store) = SB at *
    generalize tI w = T at *
    generalize (upTo n).map Val.int = U at *
    generalize w.map Val.int = WI at *
    simp only [m_non, m_yes, m_bl, m_int, m_str, m_tup, m_lst, m_bin, m_neg, m_cmp, m_chain, m_and, m_or, m_not, m_ite, m_call, m_callR, m_blt, m_isx, m_isi, m_ix, m_sl, m_comp, m_mth, m_rep, m_cat, m_u, m_rl1, m_rl2, m_gs, m_tx, m_gv, m_edcF, m_edcT, m_dsp, m_compL, m_turn, m_anil, m_acons, m_onil, m_part, m_rng, m_rng2, m_enum, m_zip, m_vals, k_tup, k_lst, k_mkT, k_mkF, k_bin1, k_bin2, k_of, k_neg, k_cmp1, k_cmp2, k_ch1, k_ch2, k_ch3T, k_ch3F, k_andT, k_andF, k_orT, k_orF, k_not, k_iteT, k_iteF, k_callR, k_call, k_blt, k_isi, k_ix1, k_ix2, k_sl1, k_sl2, k_sl3, k_part, k_cons1, k_cons2, k_comp1, k_comp2, k_mth1, k_mth2, k_mth3, k_rng1, k_enum, k_enumT, k_zip1, k_zipL, k_zipT, k_zipM1, k_zipM2, k_dsp1, k_dsp2, k_valsD, k_valsS, k_tx1, k_tx2, k_valsT, k_valsL, k_rep1, k_rep2, k_cat1, k_cat2, k_u, k_rl2, k_rl3, k_rlT, k_rlL, k_compL, k_trn1, k_trn2T, k_trn2F, k_trn3, w_nil, w_cons, s_forL, k_forL, k_forLT, k_forLF, s_nil, s_seq, s_expr, s_asg, s_par, s_unp, s_sub, s_pas, s_if, s_for, s_while, s_ret, s_raise, s_retN, s_pass, s_brk, s_cnt, k_seqN, k_seqR, k_seqB, k_seqC, k_expr, k_asg, k_par1, k_par2, k_unp, k_unp2, k_pas1, k_pas2, k_pas3, k_sub1, k_sub2, k_sub3, k_sub4, k_ifT, k_ifF, k_ret, k_for, k_forSet, k_turnN, k_turnC, k_turnB, k_turnR, k_whT, k_whF, k_wh2N, k_wh2C, k_wh2B, k_wh2R, o_nxt, o_ret, v_add, v_sub, v_fdiv, v_mod, v_lt, v_le, v_gt, v_ge, v_eqI, v_neI, v_eqB, v_neB, v_isB, v_isnotB, v_lenT, v_lenL, v_abs, v_max2, v_min2, v_ixT, v_ixL, v_slL, v_slT, at_0, at_1, at_2, m_v0, m_v1, m_v2, m_v3, m_v4, m_v5, m_v6, m_v7, m_v8, m_v9, m_v10, m_v11, m_v12, m_v13, m_v14, m_v15, l_s0, l_s1, l_s2, l_s3, l_s4, l_s5, l_s6, l_s7, l_s8, l_s9, l_s10, l_s11, l_s12, l_s13, l_s14, l_s15, l_g0, l_g1, l_g2, l_g3, l_g4, l_g5, l_g6, l_g7, l_g8, l_g9, l_g10, l_g11, l_g12, l_g13, l_g14, l_g15, List.length_cons, List.length_nil, Option.map_some, Bool.not_true, Bool.not_false, if_true, decide_true, decide_false, ite_true, setTg, reduceIte, Nat.zero_add, lim, Nat.reduceLeDiff, List.nil_append, List.append_nil, String.reduceEq, or_false, or_true, or_self, Nat.zero_le, List.map_cons, List.map_nil, List.foldl_cons, List.foldl_nil, List.zip_cons_cons, List.zip_nil_left, u_tupL, u_tupT, u_lstL, u_lstT, u_intB, u_intI, u_rvsT, u_rvsL, t_tupT, t_boolB, t_intI, t_boolI, rg, hc, k_comp2, k_mkF, ut]) ?_
  obtain ⟨cb, c1, c2⟩ := v_eqP (S := [.lst o2]) (k := 1) (v := tI w) (w := .tup []) (by decide) (ip_tI w) rfl
  have tt : evalE (callI (run P WW (k + 2))) (.cmp .eq (.var 3) (.tup .nil)) [some (.loc 0), some (.int n), some (.int q'), some (tI w), none] [.lst o2] = .ok (.bl cb) [.lst o2] := by
    generalize ([.lst o2] : Store) = SA at *
    generalize tI w = T at *
    simp only [m_non, m_yes, m_bl, m_int, m_str, m_tup, m_lst, m_bin, m_neg, m_cmp, m_chain, m_and, m_or, m_not, m_ite, m_call, m_callR, m_blt, m_isx, m_isi, m_ix, m_sl, m_comp, m_mth, m_rep, m_cat, m_u, m_rl1, m_rl2, m_gs, m_tx, m_gv, m_edcF, m_edcT, m_dsp, m_compL, m_turn, m_anil, m_acons, m_onil, m_part, m_rng, m_rng2, m_enum, m_zip, m_vals, k_tup, k_lst, k_mkT, k_mkF, k_bin1, k_bin2, k_of, k_neg, k_cmp1, k_cmp2, k_ch1, k_ch2, k_ch3T, k_ch3F, k_andT, k_andF, k_orT, k_orF, k_not, k_iteT, k_iteF, k_callR, k_call, k_blt, k_isi, k_ix1, k_ix2, k_sl1, k_sl2, k_sl3, k_part, k_cons1, k_cons2, k_comp1, k_comp2, k_mth1, k_mth2, k_mth3, k_rng1, k_enum, k_enumT, k_zip1, k_zipL, k_zipT, k_zipM1, k_zipM2, k_dsp1, k_dsp2, k_valsD, k_valsS, k_tx1, k_tx2, k_valsT, k_valsL, k_rep1, k_rep2, k_cat1, k_cat2, k_u, k_rl2, k_rl3, k_rlT, k_rlL, k_compL, k_trn1, k_trn2T, k_trn2F, k_trn3, w_nil, w_cons, s_forL, k_forL, k_forLT, k_forLF, s_nil, s_seq, s_expr, s_asg, s_par, s_unp, s_sub, s_pas, s_if, s_for, s_while, s_ret, s_raise, s_retN, s_pass, s_brk, s_cnt, k_seqN, k_seqR, k_seqB, k_seqC, k_expr, k_asg, k_par1, k_par2, k_unp, k_unp2, k_pas1, k_pas2, k_pas3, k_sub1, k_sub2, k_sub3, k_sub4, k_ifT, k_ifF, k_ret, k_for, k_forSet, k_turnN, k_turnC, k_turnB, k_turnR, k_whT, k_whF, k_wh2N, k_wh2C, k_wh2B, k_wh2R, o_nxt, o_ret, v_add, v_sub, v_fdiv, v_mod, v_lt, v_le, v_gt, v_ge, v_eqI, v_neI, v_eqB, v_neB, v_isB, v_isnotB, v_lenT, v_lenL, v_abs, v_max2, v_min2, v_ixT, v_ixL, v_slL, v_slT, at_0, at_1, at_2, m_v0, m_v1, m_v2, m_v3, m_v4, m_v5, m_v6, m_v7, m_v8, m_v9, m_v10, m_v11, m_v12, m_v13, m_v14, m_v15, l_s0, l_s1, l_s2, l_s3, l_s4, l_s5, l_s6, l_s7, l_s8, l_s9, l_s10, l_s11, l_s12, l_s13, l_s14, l_s15, l_g0, l_g1, l_g2, l_g3, l_g4, l_g5, l_g6, l_g7, l_g8, l_g9, l_g10, l_g11, l_g12, l_g13, l_g14, l_g15, List.length_cons, List.length_nil, Option.map_some, Bool.not_true, Bool.not_false, if_true, decide_true, decide_false, ite_true, setTg, reduceIte, Nat.zero_add, lim, Nat.reduceLeDiff, List.nil_append, List.append_nil, String.reduceEq, or_false, or_true, or_self, Nat.zero_le, List.map_cons, List.map_nil, List.foldl_cons, List.foldl_nil, List.zip_cons_cons, List.zip_nil_left, u_tupL, u_tupT, u_lstL, u_lstT, u_intB, u_intI, u_rvsT, u_rvsL, t_tupT, t_boolB, t_intI, t_boolI, c1]
  refine wp_if tt (fun e => ?_) (fun e => wp_nil ?_)
  · obtain ⟨g, o3, g0, g1, ho3, t3⟩ := c_scoop (k := k) (n := 0) (S := [.lst o2]) rfl ho2 (by omega) n (by omega) (log_c (by omega))
    have t3 : callI (run P WW (k + 2)) false 13 [.loc 0, .int n] [.lst o2] = .ok (.int g) [.lst o3] := t3
    refine wp_st (ρ1 := [some (.loc 0), some (.int n), some (.int q'), some (tI [g]), none]) (S1 := [.lst o3]) (by
      have e : tI [g] = .tup [.int g] := rfl
      rw [e]
      generalize ([.lst o3] : Store) = SA at *
      generalize ([.lst o2] : Store) = SB at *
      generalize tI w = T at *
      simp only [m_non, m_yes, m_bl, m_int, m_str, m_tup, m_lst, m_bin, m_neg, m_cmp, m_chain, m_and, m_or, m_not, m_ite, m_call, m_callR, m_blt, m_isx, m_isi, m_ix, m_sl, m_comp, m_mth, m_rep, m_cat, m_u, m_rl1, m_rl2, m_gs, m_tx, m_gv, m_edcF, m_edcT, m_dsp, m_compL, m_turn, m_anil, m_acons, m_onil, m_part, m_rng, m_rng2, m_enum, m_zip, m_vals, k_tup, k_lst, k_mkT, k_mkF, k_bin1, k_bin2, k_of, k_neg, k_cmp1, k_cmp2, k_ch1, k_ch2, k_ch3T, k_ch3F, k_andT, k_andF, k_orT, k_orF, k_not, k_iteT, k_iteF, k_callR, k_call, k_blt, k_isi, k_ix1, k_ix2, k_sl1, k_sl2, k_sl3, k_part, k_cons1, k_cons2, k_comp1, k_comp2, k_mth1, k_mth2, k_mth3, k_rng1, k_enum, k_enumT, k_zip1, k_zipL, k_zipT, k_zipM1, k_zipM2, k_dsp1, k_dsp2, k_valsD, k_valsS, k_tx1, k_tx2, k_valsT, k_valsL, k_rep1, k_rep2, k_cat1, k_cat2, k_u, k_rl2, k_rl3, k_rlT, k_rlL, k_compL, k_trn1, k_trn2T, k_trn2F, k_trn3, w_nil, w_cons, s_forL, k_forL, k_forLT, k_forLF, s_nil, s_seq, s_expr, s_asg, s_par, s_unp, s_sub, s_pas, s_if, s_for, s_while, s_ret, s_raise, s_retN, s_pass, s_brk, s_cnt, k_seqN, k_seqR, k_seqB, k_seqC, k_expr, k_asg, k_par1, k_par2, k_unp, k_unp2, k_pas1, k_pas2, k_pas3, k_sub1, k_sub2, k_sub3, k_sub4, k_ifT, k_ifF, k_ret, k_for, k_forSet, k_turnN, k_turnC, k_turnB, k_turnR, k_whT, k_whF, k_wh2N, k_wh2C, k_wh2B, k_wh2R, o_nxt, o_ret, v_add, v_sub, v_fdiv, v_mod, v_lt, v_le, v_gt, v_ge, v_eqI, v_neI, v_eqB, v_neB, v_isB, v_isnotB, v_lenT, v_lenL, v_abs, v_max2, v_min2, v_ixT, v_ixL, v_slL, v_slT, at_0, at_1, at_2, m_v0, m_v1, m_v2, m_v3, m_v4, m_v5, m_v6, m_v7, m_v8, m_v9, m_v10, m_v11, m_v12, m_v13, m_v14, m_v15, l_s0, l_s1, l_s2, l_s3, l_s4, l_s5, l_s6, l_s7, l_s8, l_s9, l_s10, l_s11, l_s12, l_s13, l_s14, l_s15, l_g0, l_g1, l_g2, l_g3, l_g4, l_g5, l_g6, l_g7, l_g8, l_g9, l_g10, l_g11, l_g12, l_g13, l_g14, l_g15, List.length_cons, List.length_nil, Option.map_some, Bool.not_true, Bool.not_false, if_true, decide_true, decide_false, ite_true, setTg, reduceIte, Nat.zero_add, lim, Nat.reduceLeDiff, List.nil_append, List.append_nil, String.reduceEq, or_false, or_true, or_self, Nat.zero_le, List.map_cons, List.map_nil, List.foldl_cons, List.foldl_nil, List.zip_cons_cons, List.zip_nil_left, u_tupL, u_tupT, u_lstL, u_lstT, u_intB, u_intI, u_rvsT, u_rvsL, t_tupT, t_boolB, t_intI, t_boolI, t3]) (wp_nil ?_)
    exact wp_ret (v := tI [g]) (S1 := [.lst o3]) rfl ⟨[g], o3, rfl, ⟨by simp, List.pairwise_singleton _ _, fun h hh => by rw [List.mem_singleton.mp hh]; exact ⟨g0, g1⟩⟩, ho3.up (by omega), rfl⟩
  · refine wp_ret (v := tI w) (S1 := [.lst o2]) rfl ⟨w, o2, rfl, ⟨fun z => ?_, w1, fun h hh => by have := w2 h hh; omega⟩, ho2.up (by omega), rfl⟩
    rw [z] at c2
    have := c2.mpr rfl
    rw [e] at this
    cases this
theorem c_ebook {k m N : Nat} {S : Store} {o : List Val} (hm : S[m]? = some (.lst o)) (ho : Jr N o) (hN : N < 2 ^ 30) (K : Int) (k0 : 0 ≤ K) (k12 : K ≤ 12) : ∃ (n : Int) (ws : List (List Int)) (o' : List Val), GB n ws ∧ (ws.length : Int) ≤ K ∧ Jr (N + 120) o' ∧ callI (run P WW (k + 4)) false 15 [.loc m, .int K] S = .ok (bookV n ws) (S.set m (.lst o')) := by
  suffices h : ∃ (n : Int) (ws : List (List Int)) (o' : List Val), GB n ws ∧ (ws.length : Int) ≤ K ∧ Jr (N + 120) o' ∧ run P WW (k + 4) 15 [.loc 0, .int K] [.lst o] = .ok (bookV n ws) [.lst o'] by
    obtain ⟨n, ws, o', h1, h2, h3, h4⟩ := h
    exact ⟨n, ws, o', h1, h2, h3, call_loc rfl hm (tp_free ho.tp) h4 rfl (tp_free h3.tp) (book_free n ws)⟩
  rw [run_f (d := f15) rfl rfl]
  show ∃ (n : Int) (ws : List (List Int)) (o' : List Val), GB n ws ∧ (ws.length : Int) ≤ K ∧ Jr (N + 120) o' ∧ (execS _ WW b15 [some (.loc 0), some (.int K), none, none] [.lst o]).res = _
  suffices hw : Wp (execS (callI (run P WW (k + 3))) WW b15 [some (.loc 0), some (.int K), none, none] [.lst o]) (Rt fun v S' => ∃ (n : Int) (ws : List (List Int)) (o' : List Val), v = bookV n ws ∧ GB n ws ∧ (ws.length : Int) ≤ K ∧ Jr (N + 120) o' ∧ S' = [.lst o']) by
    obtain ⟨v, S', h1, n, ws, o', rfl, h2, h3, h4, rfl⟩ := wp_res hw
    exact ⟨n, ws, o', h2, h3, h4, h1⟩
  obtain ⟨q, o1, q0, q1, ho1, t1⟩ := c_scoop (k := k + 1) (n := 0) (S := [.lst o]) rfl ho (by omega) 6 (by decide) (by decide)
  have t1 : callI (run P WW (k + 3)) false 13 [.loc 0, .int 6] [.lst o] = .ok (.int q) [.lst o1] := t1
  unfold b15
  refine wp_st (ρ1 := [some (.loc 0), some (.int K), some (.int (1 + q)), none]) (S1 := [.lst o1]) (by
    generalize ([.lst o1] : Store) = SA at *
    generalize ([.lst o] : Store) = SB at *
    simp only [m_non, m_yes, m_bl, m_int, m_str, m_tup, m_lst, m_bin, m_neg, m_cmp, m_chain, m_and, m_or, m_not, m_ite, m_call, m_callR, m_blt, m_isx, m_isi, m_ix, m_sl, m_comp, m_mth, m_rep, m_cat, m_u, m_rl1, m_rl2, m_gs, m_tx, m_gv, m_edcF, m_edcT, m_dsp, m_compL, m_turn, m_anil, m_acons, m_onil, m_part, m_rng, m_rng2, m_enum, m_zip, m_vals, k_tup, k_lst, k_mkT, k_mkF, k_bin1, k_bin2, k_of, k_neg, k_cmp1, k_cmp2, k_ch1, k_ch2, k_ch3T, k_ch3F, k_andT, k_andF, k_orT, k_orF, k_not, k_iteT, k_iteF, k_callR, k_call, k_blt, k_isi, k_ix1, k_ix2, k_sl1, k_sl2, k_sl3, k_part, k_cons1, k_cons2, k_comp1, k_comp2, k_mth1, k_mth2, k_mth3, k_rng1, k_enum, k_enumT, k_zip1, k_zipL, k_zipT, k_zipM1, k_zipM2, k_dsp1, k_dsp2, k_valsD, k_valsS, k_tx1, k_tx2, k_valsT, k_valsL, k_rep1, k_rep2, k_cat1, k_cat2, k_u, k_rl2, k_rl3, k_rlT, k_rlL, k_compL, k_trn1, k_trn2T, k_trn2F, k_trn3, w_nil, w_cons, s_forL, k_forL, k_forLT, k_forLF, s_nil, s_seq, s_expr, s_asg, s_par, s_unp, s_sub, s_pas, s_if, s_for, s_while, s_ret, s_raise, s_retN, s_pass, s_brk, s_cnt, k_seqN, k_seqR, k_seqB, k_seqC, k_expr, k_asg, k_par1, k_par2, k_unp, k_unp2, k_pas1, k_pas2, k_pas3, k_sub1, k_sub2, k_sub3, k_sub4, k_ifT, k_ifF, k_ret, k_for, k_forSet, k_turnN, k_turnC, k_turnB, k_turnR, k_whT, k_whF, k_wh2N, k_wh2C, k_wh2B, k_wh2R, o_nxt, o_ret, v_add, v_sub, v_fdiv, v_mod, v_lt, v_le, v_gt, v_ge, v_eqI, v_neI, v_eqB, v_neB, v_isB, v_isnotB, v_lenT, v_lenL, v_abs, v_max2, v_min2, v_ixT, v_ixL, v_slL, v_slT, at_0, at_1, at_2, m_v0, m_v1, m_v2, m_v3, m_v4, m_v5, m_v6, m_v7, m_v8, m_v9, m_v10, m_v11, m_v12, m_v13, m_v14, m_v15, l_s0, l_s1, l_s2, l_s3, l_s4, l_s5, l_s6, l_s7, l_s8, l_s9, l_s10, l_s11, l_s12, l_s13, l_s14, l_s15, l_g0, l_g1, l_g2, l_g3, l_g4, l_g5, l_g6, l_g7, l_g8, l_g9, l_g10, l_g11, l_g12, l_g13, l_g14, l_g15, List.length_cons, List.length_nil, Option.map_some, Bool.not_true, Bool.not_false, if_true, decide_true, decide_false, ite_true, setTg, reduceIte, Nat.zero_add, lim, Nat.reduceLeDiff, List.nil_append, List.append_nil, String.reduceEq, or_false, or_true, or_self, Nat.zero_le, List.map_cons, List.map_nil, List.foldl_cons, List.foldl_nil, List.zip_cons_cons, List.zip_nil_left, u_tupL, u_tupT, u_lstL, u_lstT, u_intB, u_intI, u_rvsT, u_rvsL, t_tupT, t_boolB, t_intI, t_boolI, t1]) ?_
  generalize hn : 1 + q = n
  obtain ⟨z, o2, z0, z1, ho2, t2⟩ := c_scoop (k := k + 1) (n := 0) (S := [.lst o1]) rfl ho1 (by omega) (K + 1) (by omega) (log_c (by omega))
  have t2 : callI (run P WW (k + 3)) false 13 [.loc 0, .int (K + 1)] [.lst o1] = .ok (.int z) [.lst o2] := t2
  have rg := rg1 (S := [.lst o2]) (n := z) (by omega)
  rw [upTo_V] at rg
  obtain ⟨acc, S2, hc, ws, o3, e1, e2, ho3, w1, w2⟩ := comp_invI (f := compTurn (callI (run P WW (k + 3))) (.nm 3) [("turn", 3)] .yes e15_0 [some (.loc 0), some (.int K), some (.int n), none])
    (fun i acc S => ∃ (ws : List (List Int)) (o : List Val), acc = ws.map tI ∧ S = [.lst o] ∧ Jr (N + 2 + 8 * i) o ∧ (∀ w ∈ ws, GW n w) ∧ ws.length = i) ((upTo z).map .int) 0 [] [.lst o2] (fun i x acc S hi ⟨ws, o, e1, e2, ho, w1, w2⟩ => by
      have il : i < z.toNat := by
        have := (List.getElem?_eq_some_iff.mp hi).1
        rwa [List.length_map, upTo_len] at this
      subst e2
      rw [Nat.zero_add] at ho w2
      obtain ⟨w, o', gw, ho', t⟩ := c_eable (k := k) (m := 0) (S := [.lst o]) rfl ho (by omega) n (by omega) (by omega)
      have t : callI (run P WW (k + 3)) false 14 [.loc 0, .int n] [.lst o] = .ok (tI w) [.lst o'] := t
      refine ⟨some (tI w), [.lst o'], ?_, ws ++ [w], o', by rw [e1]; exact map_one tI ws w, rfl, ho'.up (by omega), fun v hv => ?_, by rw [List.length_append, w2]; show i + 1 = _; omega⟩
      · generalize ([.lst o'] : Store) = SA at t ⊢
        generalize ([.lst o] : Store) = SB at t ⊢
        generalize tI w = T at *
        rw [m_turn]
        unfold e15_0
        simp only [m_non, m_yes, m_bl, m_int, m_str, m_tup, m_lst, m_bin, m_neg, m_cmp, m_chain, m_and, m_or, m_not, m_ite, m_call, m_callR, m_blt, m_isx, m_isi, m_ix, m_sl, m_comp, m_mth, m_rep, m_cat, m_u, m_rl1, m_rl2, m_gs, m_tx, m_gv, m_edcF, m_edcT, m_dsp, m_compL, m_turn, m_anil, m_acons, m_onil, m_part, m_rng, m_rng2, m_enum, m_zip, m_vals, k_tup, k_lst, k_mkT, k_mkF, k_bin1, k_bin2, k_of, k_neg, k_cmp1, k_cmp2, k_ch1, k_ch2, k_ch3T, k_ch3F, k_andT, k_andF, k_orT, k_orF, k_not, k_iteT, k_iteF, k_callR, k_call, k_blt, k_isi, k_ix1, k_ix2, k_sl1, k_sl2, k_sl3, k_part, k_cons1, k_cons2, k_comp1, k_comp2, k_mth1, k_mth2, k_mth3, k_rng1, k_enum, k_enumT, k_zip1, k_zipL, k_zipT, k_zipM1, k_zipM2, k_dsp1, k_dsp2, k_valsD, k_valsS, k_tx1, k_tx2, k_valsT, k_valsL, k_rep1, k_rep2, k_cat1, k_cat2, k_u, k_rl2, k_rl3, k_rlT, k_rlL, k_compL, k_trn1, k_trn2T, k_trn2F, k_trn3, w_nil, w_cons, s_forL, k_forL, k_forLT, k_forLF, s_nil, s_seq, s_expr, s_asg, s_par, s_unp, s_sub, s_pas, s_if, s_for, s_while, s_ret, s_raise, s_retN, s_pass, s_brk, s_cnt, k_seqN, k_seqR, k_seqB, k_seqC, k_expr, k_asg, k_par1, k_par2, k_unp, k_unp2, k_pas1, k_pas2, k_pas3, k_sub1, k_sub2, k_sub3, k_sub4, k_ifT, k_ifF, k_ret, k_for, k_forSet, k_turnN, k_turnC, k_turnB, k_turnR, k_whT, k_whF, k_wh2N, k_wh2C, k_wh2B, k_wh2R, o_nxt, o_ret, v_add, v_sub, v_fdiv, v_mod, v_lt, v_le, v_gt, v_ge, v_eqI, v_neI, v_eqB, v_neB, v_isB, v_isnotB, v_lenT, v_lenL, v_abs, v_max2, v_min2, v_ixT, v_ixL, v_slL, v_slT, at_0, at_1, at_2, m_v0, m_v1, m_v2, m_v3, m_v4, m_v5, m_v6, m_v7, m_v8, m_v9, m_v10, m_v11, m_v12, m_v13, m_v14, m_v15, l_s0, l_s1, l_s2, l_s3, l_s4, l_s5, l_s6, l_s7, l_s8, l_s9, l_s10, l_s11, l_s12, l_s13, l_s14, l_s15, l_g0, l_g1, l_g2, l_g3, l_g4, l_g5, l_g6, l_g7, l_g8, l_g9, l_g10, l_g11, l_g12, l_g13, l_g14, l_g15, List.length_cons, List.length_nil, Option.map_some, Bool.not_true, Bool.not_false, if_true, decide_true, decide_false, ite_true, setTg, reduceIte, Nat.zero_add, lim, Nat.reduceLeDiff, List.nil_append, List.append_nil, String.reduceEq, or_false, or_true, or_self, Nat.zero_le, List.map_cons, List.map_nil, List.foldl_cons, List.foldl_nil, List.zip_cons_cons, List.zip_nil_left, u_tupL, u_tupT, u_lstL, u_lstT, u_intB, u_intI, u_rvsT, u_rvsL, t_tupT, t_boolB, t_intI, t_boolI, t]
      · rcases List.mem_append.mp hv with h | h
        · exact w1 v h
        · rw [List.mem_singleton.mp h]; exact gw) ⟨[], o2, rfl, rfl, ho2.up (by omega), (fun _ h => by cases h), rfl⟩ (by
      rw [List.length_map, upTo_len]
      show 0 + z.toNat ≤ 100000
      omega)
  subst e1 e2
  rw [Nat.zero_add, List.length_map, upTo_len] at w2 ho3
  have ut : ∀ S, uV .tuple (.lst (ws.map tI)) S = .ok (.tup (ws.map tI)) S := fun _ => rfl
  have tb : bookV n ws = .tup [.int n, .tup (ws.map tI)] := rfl
  refine wp_ret (v := bookV n ws) (S1 := [.lst o3]) (by
    rw [tb]
    generalize ([.lst o3] : Store) = SA at *
    generalize ([.lst o2] : Store) = SB at *
    generalize ([.lst o1] : Store) = SC at *
    generalize Val.tup (ws.map tI) = T at *
    generalize ws.map tI = WI at *
    generalize (upTo z).map Val.int = U at *
    simp only [m_non, m_yes, m_bl, m_int, m_str, m_tup, m_lst, m_bin, m_neg, m_cmp, m_chain, m_and, m_or, m_not, m_ite, m_call, m_callR, m_blt, m_isx, m_isi, m_ix, m_sl, m_comp, m_mth, m_rep, m_cat, m_u, m_rl1, m_rl2, m_gs, m_tx, m_gv, m_edcF, m_edcT, m_dsp, m_compL, m_turn, m_anil, m_acons, m_onil, m_part, m_rng, m_rng2, m_enum, m_zip, m_vals, k_tup, k_lst, k_mkT, k_mkF, k_bin1, k_bin2, k_of, k_neg, k_cmp1, k_cmp2, k_ch1, k_ch2, k_ch3T, k_ch3F, k_andT, k_andF, k_orT, k_orF, k_not, k_iteT, k_iteF, k_callR, k_call, k_blt, k_isi, k_ix1, k_ix2, k_sl1, k_sl2, k_sl3, k_part, k_cons1, k_cons2, k_comp1, k_comp2, k_mth1, k_mth2, k_mth3, k_rng1, k_enum, k_enumT, k_zip1, k_zipL, k_zipT, k_zipM1, k_zipM2, k_dsp1, k_dsp2, k_valsD, k_valsS, k_tx1, k_tx2, k_valsT, k_valsL, k_rep1, k_rep2, k_cat1, k_cat2, k_u, k_rl2, k_rl3, k_rlT, k_rlL, k_compL, k_trn1, k_trn2T, k_trn2F, k_trn3, w_nil, w_cons, s_forL, k_forL, k_forLT, k_forLF, s_nil, s_seq, s_expr, s_asg, s_par, s_unp, s_sub, s_pas, s_if, s_for, s_while, s_ret, s_raise, s_retN, s_pass, s_brk, s_cnt, k_seqN, k_seqR, k_seqB, k_seqC, k_expr, k_asg, k_par1, k_par2, k_unp, k_unp2, k_pas1, k_pas2, k_pas3, k_sub1, k_sub2, k_sub3, k_sub4, k_ifT, k_ifF, k_ret, k_for, k_forSet, k_turnN, k_turnC, k_turnB, k_turnR, k_whT, k_whF, k_wh2N, k_wh2C, k_wh2B, k_wh2R, o_nxt, o_ret, v_add, v_sub, v_fdiv, v_mod, v_lt, v_le, v_gt, v_ge, v_eqI, v_neI, v_eqB, v_neB, v_isB, v_isnotB, v_lenT, v_lenL, v_abs, v_max2, v_min2, v_ixT, v_ixL, v_slL, v_slT, at_0, at_1, at_2, m_v0, m_v1, m_v2, m_v3, m_v4, m_v5, m_v6, m_v7, m_v8, m_v9, m_v10, m_v11, m_v12, m_v13, m_v14, m_v15, l_s0, l_s1, l_s2, l_s3, l_s4, l_s5, l_s6, l_s7, l_s8, l_s9, l_s10, l_s11, l_s12, l_s13, l_s14, l_s15, l_g0, l_g1, l_g2, l_g3, l_g4, l_g5, l_g6, l_g7, l_g8, l_g9, l_g10, l_g11, l_g12, l_g13, l_g14, l_g15, List.length_cons, List.length_nil, Option.map_some, Bool.not_true, Bool.not_false, if_true, decide_true, decide_false, ite_true, setTg, reduceIte, Nat.zero_add, lim, Nat.reduceLeDiff, List.nil_append, List.append_nil, String.reduceEq, or_false, or_true, or_self, Nat.zero_le, List.map_cons, List.map_nil, List.foldl_cons, List.foldl_nil, List.zip_cons_cons, List.zip_nil_left, u_tupL, u_tupT, u_lstL, u_lstT, u_intB, u_intI, u_rvsT, u_rvsL, t_tupT, t_boolB, t_intI, t_boolI, t2, rg, hc, k_comp2, k_mkF, ut]) ⟨n, ws, o3, rfl, ⟨by omega, by omega, by omega, w1⟩, by omega, ho3.up (by omega), rfl⟩
/-! ### numbers and books as texts -/
theorem num_L {i : Int} (h0 : 0 ≤ i) (h9 : i ≤ 9) : (PySem.Str.ofString (toString i)) = stL [48 + i.toNat] := by
  have : i = 0 ∨ i = 1 ∨ i = 2 ∨ i = 3 ∨ i = 4 ∨ i = 5 ∨ i = 6 ∨ i = 7 ∨ i = 8 ∨ i = 9 := by omega
  rcases this with rfl | rfl | rfl | rfl | rfl | rfl | rfl | rfl | rfl | rfl <;> decide +kernel
theorem log_small {i : Int} (h0 : 0 ≤ i) (h9 : i ≤ 9) : i.natAbs.log2 < 1920 := Nat.lt_of_le_of_lt (Nat.log2_le_self _) (by omega)
theorem u_str {S : Store} {i : Int} (h : i.natAbs.log2 < 1920) : uV .str (.int i) S = .ok (.str (PySem.Str.ofString (toString i))) S := by
  show (if i.natAbs.log2 < 1920 then R.ok (Val.str (PySem.Str.ofString (toString i))) S else .bad) = _
  rw [if_pos h]
theorem u_num {S : Store} {i : Int} (h0 : 0 ≤ i) (h9 : i ≤ 9) : uV .str (.int i) S = .ok (.str (stL [48 + i.toNat])) S := by
  rw [u_str (log_small h0 h9), num_L h0 h9]
theorem v_catS {a b : PySem.Str} (h : a.length + b.length ≤ 100000) : binV .add (.str a) (.str b) = some (.str (a ++ b)) := by
  show (if a.length + b.length ≤ lim then some (Val.str (a ++ b)) else none) = _
  exact if_pos h
theorem cat_sL {a b : List Nat} (h : a.length + b.length ≤ 100000) : binV .add (.str (stL a)) (.str (stL b)) = some (.str (stL (a ++ b))) := by
  rw [v_catS (by rw [stL_len, stL_len]; exact h), stL_app]
def strV (ps : List (List Nat)) : List Val := (ps.map stL).map .str
theorem strs_of (ys : List PySem.Str) : strsOf (ys.map .str) = some ys := by
  induction ys with
  | nil => rfl
  | cons y ys ih =>
    show (match strsOf (ys.map .str) with
      | some ss => some (y :: ss)
      | none => none) = _
    rw [ih]
theorem tx_join {S : Store} {y : List Nat} {ps : List (List Nat)} (h : (ps.map List.length).sum + ps.length * y.length ≤ 1000000) : txR true (stL y) (.lst (strV ps)) S = .ok (.str (stL (jnL y ps))) S := by
  show (match strsOf (strV ps) with
    | some ys => if (ys.map fun z : PySem.Str => z.length).sum + ys.length * (stL y).length ≤ 1000000 then R.ok (Val.str (PySem.Txt.join (stL y) ys)) S else .bad
    | none => .bad) = _
  unfold strV
  rw [strs_of]
  dsimp only
  rw [if_pos (by rw [jn_len]; exact h), txt_join]
theorem tx_split {S : Store} {c : Nat} {y : List Nat} {p : List Nat} {ps : List (List Nat)} (hp : ∀ q ∈ p :: ps, c ∉ q) (hk : ∀ z ∈ c :: y, z < 256) (hl : (jnL (c :: y) (p :: ps)).length ≤ 100000) : txR false (stL (jnL (c :: y) (p :: ps))) (.str (stL (c :: y))) S = .ok (.lst (strV (p :: ps))) S := by
  show (if ((stL (c :: y)).length == 0) = false ∧ (stL (jnL (c :: y) (p :: ps))).length ≤ lim then R.ok (Val.lst ((PySem.Txt.split (stL (jnL (c :: y) (p :: ps))) (stL (c :: y))).map .str)) S else .bad) = _
  rw [if_pos ⟨by rw [stL_len]; rfl, by rw [stL_len]; exact hl⟩, split_L hp hk]
  rfl
theorem jn_flat (y p : List Nat) : ∀ ps : List (List Nat), jnL y (p :: ps) = p ++ ps.flatMap (y ++ ·) := fun ps => by
  induction ps generalizing p with
  | nil => show p = p ++ []; rw [List.append_nil]
  | cons q ps ih =>
    show p ++ y ++ jnL y (q :: ps) = p ++ ((y ++ q) ++ ps.flatMap (y ++ ·))
    rw [ih, List.append_assoc, List.append_assoc]
theorem flat_len (y : List Nat) (b : Nat) : ∀ ps : List (List Nat), (∀ p ∈ ps, p.length ≤ b) → (ps.flatMap (y ++ ·)).length ≤ ps.length * (y.length + b)
  | [], _ => Nat.zero_le _
  | p :: ps, h => by
    rw [List.flatMap_cons, List.length_append, List.length_append, List.length_cons, Nat.succ_mul]
    have h1 := h p List.mem_cons_self
    have h2 := flat_len y b ps (fun q hq => h q (List.mem_cons_of_mem _ hq))
    omega
theorem jn_le (y p : List Nat) (b : Nat) (ps : List (List Nat)) (h : ∀ q ∈ p :: ps, q.length ≤ b) : (jnL y (p :: ps)).length ≤ b + ps.length * (y.length + b) := by
  rw [jn_flat, List.length_append]
  have h1 := h p List.mem_cons_self
  have h2 := flat_len y b ps (fun q hq => h q (List.mem_cons_of_mem _ hq))
  omega
theorem sum_le (b : Nat) : ∀ ps : List (List Nat), (∀ p ∈ ps, p.length ≤ b) → (ps.map List.length).sum ≤ ps.length * b
  | [], _ => Nat.zero_le _
  | p :: ps, h => by
    rw [List.map_cons, List.sum_cons, List.length_cons, Nat.succ_mul]
    have h1 := h p List.mem_cons_self
    have h2 := sum_le b ps (fun q hq => h q (List.mem_cons_of_mem _ hq))
    omega
/-- one number's signs; a work's; the head's; a book's -/
def dgT (h : Int) : List Nat := [48 + h.toNat]
def wkT (w : List Int) : List Nat := jnL [32] (w.map dgT)
def hdT (n : Int) : List Nat := [104, 97, 110, 100, 115, 32, 48 + n.toNat]
def bkT (n : Int) (ws : List (List Int)) : List Nat := jnL [59, 32] (hdT n :: ws.map wkT)
theorem wk_len {n : Int} {w : List Int} (h : GW n w) (n6 : n ≤ 6) : (wkT w).length ≤ 13 := by
  have hl := gw_len h n6
  unfold wkT
  cases w with
  | nil => exact absurd rfl h.1
  | cons a t =>
    have := jn_le [32] (dgT a) 1 (t.map dgT) (fun q hq => by
      have hq : q ∈ (a :: t).map dgT := hq
      obtain ⟨i, _, rfl⟩ := List.mem_map.mp hq
      exact Nat.le_refl _)
    rw [List.length_map] at this
    rw [List.length_cons] at hl
    show (jnL [32] (dgT a :: t.map dgT)).length ≤ 13
    have e : ([32] : List Nat).length = 1 := rfl
    rw [e] at this
    omega
theorem bk_len {n : Int} {ws : List (List Int)} (hB : GB n ws) : (bkT n ws).length ≤ 400 := by
  have few := hB.few
  have n6 := hB.n6
  have := jn_le [59, 32] (hdT n) 13 (ws.map wkT) (fun q hq => by
    rcases List.mem_cons.mp hq with rfl | hq
    · show 7 ≤ 13; decide
    · obtain ⟨w, hw, rfl⟩ := List.mem_map.mp hq
      exact wk_len (hB.ok w hw) n6)
  rw [List.length_map] at this
  have e : ([59, 32] : List Nat).length = 2 := rfl
  rw [e] at this
  unfold bkT
  omega
theorem wk_no {w : List Int} (h : ∀ i ∈ w, 0 ≤ i ∧ i ≤ 9) : 59 ∉ wkT w := by
  cases w with
  | nil => intro z; cases z
  | cons a t =>
    show 59 ∉ jnL [32] (dgT a :: t.map dgT)
    rw [jn_flat]
    intro z
    rcases List.mem_append.mp z with z | z
    · have e := List.mem_singleton.mp z
      have := h a List.mem_cons_self
      omega
    · obtain ⟨p, hp, z⟩ := List.mem_flatMap.mp z
      obtain ⟨i, hi, rfl⟩ := List.mem_map.mp hp
      have := h i (List.mem_cons_of_mem _ hi)
      rcases List.mem_append.mp z with z | z
      · have e := List.mem_singleton.mp z
        omega
      · have e := List.mem_singleton.mp z
        omega
theorem sp_lit : (PySem.Str.ofString " ") = stL [32] := by decide +kernel
theorem se_lit : (PySem.Str.ofString "; ") = stL [59, 32] := by decide +kernel
theorem hd_lit : (PySem.Str.ofString "hands ") = stL [104, 97, 110, 100, 115, 32] := by decide +kernel
theorem ha_lit : (PySem.Str.ofString "hands") = stL [104, 97, 110, 100, 115] := by decide +kernel
theorem ze_lit : (PySem.Str.ofString "0") = stL [48] := by decide +kernel
theorem fi_lit : (PySem.Str.ofString "0123456789") = stL [48, 49, 50, 51, 52, 53, 54, 55, 56, 57] := by decide +kernel
theorem gw_dig {n : Int} {w : List Int} (h : GW n w) (n6 : n ≤ 6) : ∀ i ∈ w, 0 ≤ i ∧ i ≤ 9 := fun i hi => by
  have := h.2.2 i hi
  omega
theorem c_shownumbers {k : Nat} {S : Store} {w : List Int} (hw : ∀ i ∈ w, 0 ≤ i ∧ i ≤ 9) (hl : w.length ≤ 100) : callI (run P WW (k + 1)) false 8 [tI w] S = .ok (.str (stL (wkT w))) S := by
  refine call_val (S' := []) (fr1 (tI_free w)) ?_ rfl
  rw [run_f (d := f8) rfl rfl]
  show (execS _ WW b8 [some (tI w), none] []).res = _
  have h1 := comp_map (f := compTurn (callI (run P WW k)) (.nm 1) [("number", 1)] .yes e8_0 [some (tI w), none]) (S := []) (fun i => .str (stL (dgT i))) Val.int w (fun i hi => by
    have u := u_num (S := []) (hw i hi).1 (hw i hi).2
    rw [m_turn]
    unfold e8_0 dgT
    generalize stL [48 + i.toNat] = Z at *
    generalize tI w = D at *
    simp only [m_non, m_yes, m_bl, m_int, m_str, m_tup, m_lst, m_bin, m_neg, m_cmp, m_chain, m_and, m_or, m_not, m_ite, m_call, m_callR, m_blt, m_isx, m_isi, m_ix, m_sl, m_comp, m_mth, m_rep, m_cat, m_u, m_rl1, m_rl2, m_gs, m_tx, m_gv, m_edcF, m_edcT, m_dsp, m_compL, m_turn, m_anil, m_acons, m_onil, m_part, m_rng, m_rng2, m_enum, m_zip, m_vals, k_tup, k_lst, k_mkT, k_mkF, k_bin1, k_bin2, k_of, k_neg, k_cmp1, k_cmp2, k_ch1, k_ch2, k_ch3T, k_ch3F, k_andT, k_andF, k_orT, k_orF, k_not, k_iteT, k_iteF, k_callR, k_call, k_blt, k_isi, k_ix1, k_ix2, k_sl1, k_sl2, k_sl3, k_part, k_cons1, k_cons2, k_comp1, k_comp2, k_mth1, k_mth2, k_mth3, k_rng1, k_enum, k_enumT, k_zip1, k_zipL, k_zipT, k_zipM1, k_zipM2, k_dsp1, k_dsp2, k_valsD, k_valsS, k_tx1, k_tx2, k_valsT, k_valsL, k_rep1, k_rep2, k_cat1, k_cat2, k_u, k_rl2, k_rl3, k_rlT, k_rlL, k_compL, k_trn1, k_trn2T, k_trn2F, k_trn3, w_nil, w_cons, s_forL, k_forL, k_forLT, k_forLF, s_nil, s_seq, s_expr, s_asg, s_par, s_unp, s_sub, s_pas, s_if, s_for, s_while, s_ret, s_raise, s_retN, s_pass, s_brk, s_cnt, k_seqN, k_seqR, k_seqB, k_seqC, k_expr, k_asg, k_par1, k_par2, k_unp, k_unp2, k_pas1, k_pas2, k_pas3, k_sub1, k_sub2, k_sub3, k_sub4, k_ifT, k_ifF, k_ret, k_for, k_forSet, k_turnN, k_turnC, k_turnB, k_turnR, k_whT, k_whF, k_wh2N, k_wh2C, k_wh2B, k_wh2R, o_nxt, o_ret, v_add, v_sub, v_fdiv, v_mod, v_lt, v_le, v_gt, v_ge, v_eqI, v_neI, v_eqB, v_neB, v_isB, v_isnotB, v_lenT, v_lenL, v_abs, v_max2, v_min2, v_ixT, v_ixL, v_slL, v_slT, at_0, at_1, at_2, m_v0, m_v1, m_v2, m_v3, m_v4, m_v5, m_v6, m_v7, m_v8, m_v9, m_v10, m_v11, m_v12, m_v13, m_v14, m_v15, l_s0, l_s1, l_s2, l_s3, l_s4, l_s5, l_s6, l_s7, l_s8, l_s9, l_s10, l_s11, l_s12, l_s13, l_s14, l_s15, l_g0, l_g1, l_g2, l_g3, l_g4, l_g5, l_g6, l_g7, l_g8, l_g9, l_g10, l_g11, l_g12, l_g13, l_g14, l_g15, List.length_cons, List.length_nil, Option.map_some, Bool.not_true, Bool.not_false, if_true, decide_true, decide_false, ite_true, setTg, reduceIte, Nat.zero_add, lim, Nat.reduceLeDiff, List.nil_append, List.append_nil, String.reduceEq, or_false, or_true, or_self, Nat.zero_le, List.map_cons, List.map_nil, List.foldl_cons, List.foldl_nil, List.zip_cons_cons, List.zip_nil_left, u_tupL, u_tupT, u_lstL, u_lstT, u_intB, u_intI, u_rvsT, u_rvsL, t_tupT, t_boolB, t_intI, t_boolI, u]) (by show _ ≤ 100000; omega)
  have e1 : w.map (fun i => Val.str (stL (dgT i))) = strV (w.map dgT) := by
    unfold strV
    rw [List.map_map, List.map_map]
    rfl
  rw [e1] at h1
  have j := tx_join (S := []) (y := [32]) (ps := w.map dgT) (by
    have := sum_le 1 (w.map dgT) (fun p hp => by
      obtain ⟨i, _, rfl⟩ := List.mem_map.mp hp
      exact Nat.le_refl _)
    rw [List.length_map] at this ⊢
    show _ + w.length * 1 ≤ _
    omega)
  have kv : kVals (.ok (tI w) []) = .ok (w.map .int) [] := rfl
  unfold b8
  rw [sp_lit]
  show (execS _ WW _ _ _).res = .ok (.str (stL (jnL [32] (w.map dgT)))) []
  generalize stL (jnL [32] (w.map dgT)) = Z at *
  generalize strV (w.map dgT) = Y at *
  generalize w.map Val.int = WI at *
  generalize tI w = D at *
  generalize stL [32] = SP at *
  simp only [m_non, m_yes, m_bl, m_int, m_str, m_tup, m_lst, m_bin, m_neg, m_cmp, m_chain, m_and, m_or, m_not, m_ite, m_call, m_callR, m_blt, m_isx, m_isi, m_ix, m_sl, m_comp, m_mth, m_rep, m_cat, m_u, m_rl1, m_rl2, m_gs, m_tx, m_gv, m_edcF, m_edcT, m_dsp, m_compL, m_turn, m_anil, m_acons, m_onil, m_part, m_rng, m_rng2, m_enum, m_zip, m_vals, k_tup, k_lst, k_mkT, k_mkF, k_bin1, k_bin2, k_of, k_neg, k_cmp1, k_cmp2, k_ch1, k_ch2, k_ch3T, k_ch3F, k_andT, k_andF, k_orT, k_orF, k_not, k_iteT, k_iteF, k_callR, k_call, k_blt, k_isi, k_ix1, k_ix2, k_sl1, k_sl2, k_sl3, k_part, k_cons1, k_cons2, k_comp1, k_comp2, k_mth1, k_mth2, k_mth3, k_rng1, k_enum, k_enumT, k_zip1, k_zipL, k_zipT, k_zipM1, k_zipM2, k_dsp1, k_dsp2, k_valsD, k_valsS, k_tx1, k_tx2, k_valsT, k_valsL, k_rep1, k_rep2, k_cat1, k_cat2, k_u, k_rl2, k_rl3, k_rlT, k_rlL, k_compL, k_trn1, k_trn2T, k_trn2F, k_trn3, w_nil, w_cons, s_forL, k_forL, k_forLT, k_forLF, s_nil, s_seq, s_expr, s_asg, s_par, s_unp, s_sub, s_pas, s_if, s_for, s_while, s_ret, s_raise, s_retN, s_pass, s_brk, s_cnt, k_seqN, k_seqR, k_seqB, k_seqC, k_expr, k_asg, k_par1, k_par2, k_unp, k_unp2, k_pas1, k_pas2, k_pas3, k_sub1, k_sub2, k_sub3, k_sub4, k_ifT, k_ifF, k_ret, k_for, k_forSet, k_turnN, k_turnC, k_turnB, k_turnR, k_whT, k_whF, k_wh2N, k_wh2C, k_wh2B, k_wh2R, o_nxt, o_ret, v_add, v_sub, v_fdiv, v_mod, v_lt, v_le, v_gt, v_ge, v_eqI, v_neI, v_eqB, v_neB, v_isB, v_isnotB, v_lenT, v_lenL, v_abs, v_max2, v_min2, v_ixT, v_ixL, v_slL, v_slT, at_0, at_1, at_2, m_v0, m_v1, m_v2, m_v3, m_v4, m_v5, m_v6, m_v7, m_v8, m_v9, m_v10, m_v11, m_v12, m_v13, m_v14, m_v15, l_s0, l_s1, l_s2, l_s3, l_s4, l_s5, l_s6, l_s7, l_s8, l_s9, l_s10, l_s11, l_s12, l_s13, l_s14, l_s15, l_g0, l_g1, l_g2, l_g3, l_g4, l_g5, l_g6, l_g7, l_g8, l_g9, l_g10, l_g11, l_g12, l_g13, l_g14, l_g15, List.length_cons, List.length_nil, Option.map_some, Bool.not_true, Bool.not_false, if_true, decide_true, decide_false, ite_true, setTg, reduceIte, Nat.zero_add, lim, Nat.reduceLeDiff, List.nil_append, List.append_nil, String.reduceEq, or_false, or_true, or_self, Nat.zero_le, List.map_cons, List.map_nil, List.foldl_cons, List.foldl_nil, List.zip_cons_cons, List.zip_nil_left, u_tupL, u_tupT, u_lstL, u_lstT, u_intB, u_intI, u_rvsT, u_rvsL, t_tupT, t_boolB, t_intI, t_boolI, kv, h1, k_comp2, k_mkF, j]
theorem c_showbook {k : Nat} {S : Store} {n : Int} {ws : List (List Int)} (hB : GB n ws) : callI (run P WW (k + 6)) false 9 [bookV n ws] S = .ok (.str (stL (bkT n ws))) S := by
  refine call_val (S' := []) (fr1 (book_free n ws)) ?_ rfl
  rw [run_f (d := f9) rfl rfl]
  show (execS _ WW b9 [some (bookV n ws), none] []).res = _
  have n1 := hB.n1
  have n6 := hB.n6
  have few := hB.few
  have c0 : callI (run P WW (k + 5)) _ _ _ _ = _ := c_needbook (k := k) (S := []) hB
  have b0 := book0 n ws []
  have b1 := book1 n ws []
  have un := u_num (S := []) (i := n) (by omega) (by omega)
  have ca := cat_sL (a := [104, 97, 110, 100, 115, 32]) (b := [48 + n.toNat]) (by show 6 + 1 ≤ _; omega)
  have h1 := comp_map (f := compTurn (callI (run P WW (k + 5))) (.nm 1) [("work", 1)] .yes e9_0 [some (bookV n ws), none]) (S := []) (fun w => .str (stL (wkT w))) tI ws (fun w hw => by
    have gw := hB.ok w hw
    have c : callI (run P WW (k + 5)) _ _ _ _ = _ := c_shownumbers (k := k + 4) (S := []) (gw_dig gw n6) (by have := gw_len gw n6; omega)
    rw [m_turn]
    unfold e9_0
    generalize stL (wkT w) = Z at *
    generalize tI w = T at *
    generalize bookV n ws = B at *
    simp only [m_non, m_yes, m_bl, m_int, m_str, m_tup, m_lst, m_bin, m_neg, m_cmp, m_chain, m_and, m_or, m_not, m_ite, m_call, m_callR, m_blt, m_isx, m_isi, m_ix, m_sl, m_comp, m_mth, m_rep, m_cat, m_u, m_rl1, m_rl2, m_gs, m_tx, m_gv, m_edcF, m_edcT, m_dsp, m_compL, m_turn, m_anil, m_acons, m_onil, m_part, m_rng, m_rng2, m_enum, m_zip, m_vals, k_tup, k_lst, k_mkT, k_mkF, k_bin1, k_bin2, k_of, k_neg, k_cmp1, k_cmp2, k_ch1, k_ch2, k_ch3T, k_ch3F, k_andT, k_andF, k_orT, k_orF, k_not, k_iteT, k_iteF, k_callR, k_call, k_blt, k_isi, k_ix1, k_ix2, k_sl1, k_sl2, k_sl3, k_part, k_cons1, k_cons2, k_comp1, k_comp2, k_mth1, k_mth2, k_mth3, k_rng1, k_enum, k_enumT, k_zip1, k_zipL, k_zipT, k_zipM1, k_zipM2, k_dsp1, k_dsp2, k_valsD, k_valsS, k_tx1, k_tx2, k_valsT, k_valsL, k_rep1, k_rep2, k_cat1, k_cat2, k_u, k_rl2, k_rl3, k_rlT, k_rlL, k_compL, k_trn1, k_trn2T, k_trn2F, k_trn3, w_nil, w_cons, s_forL, k_forL, k_forLT, k_forLF, s_nil, s_seq, s_expr, s_asg, s_par, s_unp, s_sub, s_pas, s_if, s_for, s_while, s_ret, s_raise, s_retN, s_pass, s_brk, s_cnt, k_seqN, k_seqR, k_seqB, k_seqC, k_expr, k_asg, k_par1, k_par2, k_unp, k_unp2, k_pas1, k_pas2, k_pas3, k_sub1, k_sub2, k_sub3, k_sub4, k_ifT, k_ifF, k_ret, k_for, k_forSet, k_turnN, k_turnC, k_turnB, k_turnR, k_whT, k_whF, k_wh2N, k_wh2C, k_wh2B, k_wh2R, o_nxt, o_ret, v_add, v_sub, v_fdiv, v_mod, v_lt, v_le, v_gt, v_ge, v_eqI, v_neI, v_eqB, v_neB, v_isB, v_isnotB, v_lenT, v_lenL, v_abs, v_max2, v_min2, v_ixT, v_ixL, v_slL, v_slT, at_0, at_1, at_2, m_v0, m_v1, m_v2, m_v3, m_v4, m_v5, m_v6, m_v7, m_v8, m_v9, m_v10, m_v11, m_v12, m_v13, m_v14, m_v15, l_s0, l_s1, l_s2, l_s3, l_s4, l_s5, l_s6, l_s7, l_s8, l_s9, l_s10, l_s11, l_s12, l_s13, l_s14, l_s15, l_g0, l_g1, l_g2, l_g3, l_g4, l_g5, l_g6, l_g7, l_g8, l_g9, l_g10, l_g11, l_g12, l_g13, l_g14, l_g15, List.length_cons, List.length_nil, Option.map_some, Bool.not_true, Bool.not_false, if_true, decide_true, decide_false, ite_true, setTg, reduceIte, Nat.zero_add, lim, Nat.reduceLeDiff, List.nil_append, List.append_nil, String.reduceEq, or_false, or_true, or_self, Nat.zero_le, List.map_cons, List.map_nil, List.foldl_cons, List.foldl_nil, List.zip_cons_cons, List.zip_nil_left, u_tupL, u_tupT, u_lstL, u_lstT, u_intB, u_intI, u_rvsT, u_rvsL, t_tupT, t_boolB, t_intI, t_boolI, c]) (by show _ ≤ 100000; omega)
  have kv : kVals (.ok (.tup (ws.map tI)) []) = .ok (ws.map tI) [] := rfl
  have cl : binV .add (.lst [.str (stL (hdT n))]) (.lst (ws.map fun w => .str (stL (wkT w)))) = some (.lst (strV (hdT n :: ws.map wkT))) := by
    rw [v_catL (by rw [List.length_map]; simp only [List.length_cons, List.length_nil]; omega)]
    unfold strV
    rw [List.map_cons, List.map_cons, List.map_map, List.map_map]
    rfl
  have j := tx_join (S := []) (y := [59, 32]) (ps := hdT n :: ws.map wkT) (by
    have := sum_le 13 (hdT n :: ws.map wkT) (fun q hq => by
      rcases List.mem_cons.mp hq with rfl | hq
      · show 7 ≤ 13; decide
      · obtain ⟨w, hw, rfl⟩ := List.mem_map.mp hq
        exact wk_len (hB.ok w hw) n6)
    rw [List.length_cons, List.length_map] at this ⊢
    show _ + (ws.length + 1) * 2 ≤ _
    omega)
  have hh : ([104, 97, 110, 100, 115, 32] ++ [48 + n.toNat] : List Nat) = hdT n := rfl
  rw [hh] at ca
  unfold b9
  rw [se_lit, hd_lit]
  show (execS _ WW _ _ _).res = .ok (.str (stL (jnL [59, 32] (hdT n :: ws.map wkT)))) []
  generalize stL (jnL [59, 32] (hdT n :: ws.map wkT)) = Z at *
  generalize strV (hdT n :: ws.map wkT) = Y at *
  generalize (ws.map fun w => Val.str (stL (wkT w))) = Y2 at *
  generalize stL (hdT n) = HD at *
  generalize stL [104, 97, 110, 100, 115, 32] = H0 at *
  generalize stL [48 + n.toNat] = N0 at *
  generalize stL [59, 32] = SE at *
  generalize Val.tup (ws.map tI) = W at *
  generalize ws.map tI = WI at *
  generalize bookV n ws = B at *
  simp only [m_non, m_yes, m_bl, m_int, m_str, m_tup, m_lst, m_bin, m_neg, m_cmp, m_chain, m_and, m_or, m_not, m_ite, m_call, m_callR, m_blt, m_isx, m_isi, m_ix, m_sl, m_comp, m_mth, m_rep, m_cat, m_u, m_rl1, m_rl2, m_gs, m_tx, m_gv, m_edcF, m_edcT, m_dsp, m_compL, m_turn, m_anil, m_acons, m_onil, m_part, m_rng, m_rng2, m_enum, m_zip, m_vals, k_tup, k_lst, k_mkT, k_mkF, k_bin1, k_bin2, k_of, k_neg, k_cmp1, k_cmp2, k_ch1, k_ch2, k_ch3T, k_ch3F, k_andT, k_andF, k_orT, k_orF, k_not, k_iteT, k_iteF, k_callR, k_call, k_blt, k_isi, k_ix1, k_ix2, k_sl1, k_sl2, k_sl3, k_part, k_cons1, k_cons2, k_comp1, k_comp2, k_mth1, k_mth2, k_mth3, k_rng1, k_enum, k_enumT, k_zip1, k_zipL, k_zipT, k_zipM1, k_zipM2, k_dsp1, k_dsp2, k_valsD, k_valsS, k_tx1, k_tx2, k_valsT, k_valsL, k_rep1, k_rep2, k_cat1, k_cat2, k_u, k_rl2, k_rl3, k_rlT, k_rlL, k_compL, k_trn1, k_trn2T, k_trn2F, k_trn3, w_nil, w_cons, s_forL, k_forL, k_forLT, k_forLF, s_nil, s_seq, s_expr, s_asg, s_par, s_unp, s_sub, s_pas, s_if, s_for, s_while, s_ret, s_raise, s_retN, s_pass, s_brk, s_cnt, k_seqN, k_seqR, k_seqB, k_seqC, k_expr, k_asg, k_par1, k_par2, k_unp, k_unp2, k_pas1, k_pas2, k_pas3, k_sub1, k_sub2, k_sub3, k_sub4, k_ifT, k_ifF, k_ret, k_for, k_forSet, k_turnN, k_turnC, k_turnB, k_turnR, k_whT, k_whF, k_wh2N, k_wh2C, k_wh2B, k_wh2R, o_nxt, o_ret, v_add, v_sub, v_fdiv, v_mod, v_lt, v_le, v_gt, v_ge, v_eqI, v_neI, v_eqB, v_neB, v_isB, v_isnotB, v_lenT, v_lenL, v_abs, v_max2, v_min2, v_ixT, v_ixL, v_slL, v_slT, at_0, at_1, at_2, m_v0, m_v1, m_v2, m_v3, m_v4, m_v5, m_v6, m_v7, m_v8, m_v9, m_v10, m_v11, m_v12, m_v13, m_v14, m_v15, l_s0, l_s1, l_s2, l_s3, l_s4, l_s5, l_s6, l_s7, l_s8, l_s9, l_s10, l_s11, l_s12, l_s13, l_s14, l_s15, l_g0, l_g1, l_g2, l_g3, l_g4, l_g5, l_g6, l_g7, l_g8, l_g9, l_g10, l_g11, l_g12, l_g13, l_g14, l_g15, List.length_cons, List.length_nil, Option.map_some, Bool.not_true, Bool.not_false, if_true, decide_true, decide_false, ite_true, setTg, reduceIte, Nat.zero_add, lim, Nat.reduceLeDiff, List.nil_append, List.append_nil, String.reduceEq, or_false, or_true, or_self, Nat.zero_le, List.map_cons, List.map_nil, List.foldl_cons, List.foldl_nil, List.zip_cons_cons, List.zip_nil_left, u_tupL, u_tupT, u_lstL, u_lstT, u_intB, u_intI, u_rvsT, u_rvsL, t_tupT, t_boolB, t_intI, t_boolI, c0, b0, b1, un, ca, kv, h1, k_comp2, k_mkF, cl, j]
theorem c_etext {k : Nat} {S : Store} {n : Int} {ws : List (List Int)} (hB : GB n ws) : callI (run P WW (k + 1)) false 16 [bookV n ws] S = .ok (.str (stL (bkT n ws))) S := by
  refine call_val (S' := []) (fr1 (book_free n ws)) ?_ rfl
  rw [run_f (d := f16) rfl rfl]
  show (execS _ WW b16 [some (bookV n ws), none, none, none] []).res = _
  suffices hw : Wp (execS (callI (run P WW k)) WW b16 [some (bookV n ws), none, none, none] []) (Rt fun v S' => v = .str (stL (bkT n ws)) ∧ S' = []) by
    obtain ⟨v, S', h1, rfl, rfl⟩ := wp_res hw
    exact h1
  have n1 := hB.n1
  have n6 := hB.n6
  have few := hB.few
  have b0 := book0 n ws []
  have b1 := book1 n ws []
  have un := u_num (S := []) (i := n) (by omega) (by omega)
  have ca := cat_sL (a := [104, 97, 110, 100, 115, 32]) (b := [48 + n.toNat]) (by show 6 + 1 ≤ _; omega)
  have hh : ([104, 97, 110, 100, 115, 32] ++ [48 + n.toNat] : List Nat) = hdT n := rfl
  rw [hh] at ca
  unfold b16
  rw [hd_lit]
  refine wp_st (ρ1 := [some (bookV n ws), some (.str (stL (hdT n))), none, none]) (S1 := []) (by
    generalize stL (hdT n) = HD at *
    generalize stL [104, 97, 110, 100, 115, 32] = H0 at *
    generalize stL [48 + n.toNat] = N0 at *
    generalize bookV n ws = B at *
    simp only [m_non, m_yes, m_bl, m_int, m_str, m_tup, m_lst, m_bin, m_neg, m_cmp, m_chain, m_and, m_or, m_not, m_ite, m_call, m_callR, m_blt, m_isx, m_isi, m_ix, m_sl, m_comp, m_mth, m_rep, m_cat, m_u, m_rl1, m_rl2, m_gs, m_tx, m_gv, m_edcF, m_edcT, m_dsp, m_compL, m_turn, m_anil, m_acons, m_onil, m_part, m_rng, m_rng2, m_enum, m_zip, m_vals, k_tup, k_lst, k_mkT, k_mkF, k_bin1, k_bin2, k_of, k_neg, k_cmp1, k_cmp2, k_ch1, k_ch2, k_ch3T, k_ch3F, k_andT, k_andF, k_orT, k_orF, k_not, k_iteT, k_iteF, k_callR, k_call, k_blt, k_isi, k_ix1, k_ix2, k_sl1, k_sl2, k_sl3, k_part, k_cons1, k_cons2, k_comp1, k_comp2, k_mth1, k_mth2, k_mth3, k_rng1, k_enum, k_enumT, k_zip1, k_zipL, k_zipT, k_zipM1, k_zipM2, k_dsp1, k_dsp2, k_valsD, k_valsS, k_tx1, k_tx2, k_valsT, k_valsL, k_rep1, k_rep2, k_cat1, k_cat2, k_u, k_rl2, k_rl3, k_rlT, k_rlL, k_compL, k_trn1, k_trn2T, k_trn2F, k_trn3, w_nil, w_cons, s_forL, k_forL, k_forLT, k_forLF, s_nil, s_seq, s_expr, s_asg, s_par, s_unp, s_sub, s_pas, s_if, s_for, s_while, s_ret, s_raise, s_retN, s_pass, s_brk, s_cnt, k_seqN, k_seqR, k_seqB, k_seqC, k_expr, k_asg, k_par1, k_par2, k_unp, k_unp2, k_pas1, k_pas2, k_pas3, k_sub1, k_sub2, k_sub3, k_sub4, k_ifT, k_ifF, k_ret, k_for, k_forSet, k_turnN, k_turnC, k_turnB, k_turnR, k_whT, k_whF, k_wh2N, k_wh2C, k_wh2B, k_wh2R, o_nxt, o_ret, v_add, v_sub, v_fdiv, v_mod, v_lt, v_le, v_gt, v_ge, v_eqI, v_neI, v_eqB, v_neB, v_isB, v_isnotB, v_lenT, v_lenL, v_abs, v_max2, v_min2, v_ixT, v_ixL, v_slL, v_slT, at_0, at_1, at_2, m_v0, m_v1, m_v2, m_v3, m_v4, m_v5, m_v6, m_v7, m_v8, m_v9, m_v10, m_v11, m_v12, m_v13, m_v14, m_v15, l_s0, l_s1, l_s2, l_s3, l_s4, l_s5, l_s6, l_s7, l_s8, l_s9, l_s10, l_s11, l_s12, l_s13, l_s14, l_s15, l_g0, l_g1, l_g2, l_g3, l_g4, l_g5, l_g6, l_g7, l_g8, l_g9, l_g10, l_g11, l_g12, l_g13, l_g14, l_g15, List.length_cons, List.length_nil, Option.map_some, Bool.not_true, Bool.not_false, if_true, decide_true, decide_false, ite_true, setTg, reduceIte, Nat.zero_add, lim, Nat.reduceLeDiff, List.nil_append, List.append_nil, String.reduceEq, or_false, or_true, or_self, Nat.zero_le, List.map_cons, List.map_nil, List.foldl_cons, List.foldl_nil, List.zip_cons_cons, List.zip_nil_left, u_tupL, u_tupT, u_lstL, u_lstT, u_intB, u_intI, u_rvsT, u_rvsL, t_tupT, t_boolB, t_intI, t_boolI, b0, un, ca]) ?_
  have kv : kVals (.ok (.tup (ws.map tI)) []) = .ok (ws.map tI) [] := rfl
  refine wp_forI (xs := ws.map tI) (S1 := []) (fun i ρ S => ∃ z2 z3, ρ = [some (bookV n ws), some (.str (stL (hdT n ++ ((ws.take i).map wkT).flatMap ([59, 32] ++ ·)))), z2, z3] ∧ S = []) (by
    generalize Val.tup (ws.map tI) = W at *
    generalize ws.map tI = WI at *
    generalize stL (hdT n) = HD at *
    generalize bookV n ws = B at *
    simp only [m_non, m_yes, m_bl, m_int, m_str, m_tup, m_lst, m_bin, m_neg, m_cmp, m_chain, m_and, m_or, m_not, m_ite, m_call, m_callR, m_blt, m_isx, m_isi, m_ix, m_sl, m_comp, m_mth, m_rep, m_cat, m_u, m_rl1, m_rl2, m_gs, m_tx, m_gv, m_edcF, m_edcT, m_dsp, m_compL, m_turn, m_anil, m_acons, m_onil, m_part, m_rng, m_rng2, m_enum, m_zip, m_vals, k_tup, k_lst, k_mkT, k_mkF, k_bin1, k_bin2, k_of, k_neg, k_cmp1, k_cmp2, k_ch1, k_ch2, k_ch3T, k_ch3F, k_andT, k_andF, k_orT, k_orF, k_not, k_iteT, k_iteF, k_callR, k_call, k_blt, k_isi, k_ix1, k_ix2, k_sl1, k_sl2, k_sl3, k_part, k_cons1, k_cons2, k_comp1, k_comp2, k_mth1, k_mth2, k_mth3, k_rng1, k_enum, k_enumT, k_zip1, k_zipL, k_zipT, k_zipM1, k_zipM2, k_dsp1, k_dsp2, k_valsD, k_valsS, k_tx1, k_tx2, k_valsT, k_valsL, k_rep1, k_rep2, k_cat1, k_cat2, k_u, k_rl2, k_rl3, k_rlT, k_rlL, k_compL, k_trn1, k_trn2T, k_trn2F, k_trn3, w_nil, w_cons, s_forL, k_forL, k_forLT, k_forLF, s_nil, s_seq, s_expr, s_asg, s_par, s_unp, s_sub, s_pas, s_if, s_for, s_while, s_ret, s_raise, s_retN, s_pass, s_brk, s_cnt, k_seqN, k_seqR, k_seqB, k_seqC, k_expr, k_asg, k_par1, k_par2, k_unp, k_unp2, k_pas1, k_pas2, k_pas3, k_sub1, k_sub2, k_sub3, k_sub4, k_ifT, k_ifF, k_ret, k_for, k_forSet, k_turnN, k_turnC, k_turnB, k_turnR, k_whT, k_whF, k_wh2N, k_wh2C, k_wh2B, k_wh2R, o_nxt, o_ret, v_add, v_sub, v_fdiv, v_mod, v_lt, v_le, v_gt, v_ge, v_eqI, v_neI, v_eqB, v_neB, v_isB, v_isnotB, v_lenT, v_lenL, v_abs, v_max2, v_min2, v_ixT, v_ixL, v_slL, v_slT, at_0, at_1, at_2, m_v0, m_v1, m_v2, m_v3, m_v4, m_v5, m_v6, m_v7, m_v8, m_v9, m_v10, m_v11, m_v12, m_v13, m_v14, m_v15, l_s0, l_s1, l_s2, l_s3, l_s4, l_s5, l_s6, l_s7, l_s8, l_s9, l_s10, l_s11, l_s12, l_s13, l_s14, l_s15, l_g0, l_g1, l_g2, l_g3, l_g4, l_g5, l_g6, l_g7, l_g8, l_g9, l_g10, l_g11, l_g12, l_g13, l_g14, l_g15, List.length_cons, List.length_nil, Option.map_some, Bool.not_true, Bool.not_false, if_true, decide_true, decide_false, ite_true, setTg, reduceIte, Nat.zero_add, lim, Nat.reduceLeDiff, List.nil_append, List.append_nil, String.reduceEq, or_false, or_true, or_self, Nat.zero_le, List.map_cons, List.map_nil, List.foldl_cons, List.foldl_nil, List.zip_cons_cons, List.zip_nil_left, u_tupL, u_tupT, u_lstL, u_lstT, u_intB, u_intI, u_rvsT, u_rvsL, t_tupT, t_boolB, t_intI, t_boolI, b1, kv]) ⟨_, _, by rw [List.take_zero]; show _ = [some (bookV n ws), some (.str (stL (hdT n ++ []))), none, none]; rw [List.append_nil], rfl⟩ ?_ ?_
  · rintro i x ρ S hx ⟨z2, z3, rfl, rfl⟩
    rw [List.getElem?_map] at hx
    cases e : ws[i]? with
    | none => rw [e] at hx; cases hx
    | some w =>
      rw [e] at hx
      cases hx
      have hi := (List.getElem?_eq_some_iff.mp e).1
      have gw := hB.ok w (List.mem_of_getElem? e)
      have lw := gw_len gw n6
      have dw := gw_dig gw n6
      refine ⟨_, rfl, ?_⟩
      unfold b16_0
      simp only [l_s0, l_s1, l_s2, l_s3, l_s4, l_s5, l_s6, l_s7, l_s8, l_s9, l_s10, l_s11, l_s12, l_s13, l_s14, l_s15, List.zip_cons_cons, List.zip_nil_left, List.foldl_cons, List.foldl_nil]
      rw [se_lit, sp_lit]
      have h1 := comp_map (f := compTurn (callI (run P WW k)) (.nm 3) [("hand", 3)] .yes e16_0 [some (bookV n ws), some (.str (stL (hdT n ++ ((ws.take i).map wkT).flatMap ([59, 32] ++ ·)))), some (tI w), z3]) (S := []) (fun i => .str (stL (dgT i))) Val.int w (fun j hj => by
        have u := u_num (S := []) (dw j hj).1 (dw j hj).2
        rw [m_turn]
        unfold e16_0 dgT
        generalize stL (hdT n ++ ((ws.take i).map wkT).flatMap ([59, 32] ++ ·)) = Z2 at *
        generalize stL [48 + j.toNat] = Z at *
        generalize tI w = D at *
        generalize bookV n ws = B at *
        simp only [m_non, m_yes, m_bl, m_int, m_str, m_tup, m_lst, m_bin, m_neg, m_cmp, m_chain, m_and, m_or, m_not, m_ite, m_call, m_callR, m_blt, m_isx, m_isi, m_ix, m_sl, m_comp, m_mth, m_rep, m_cat, m_u, m_rl1, m_rl2, m_gs, m_tx, m_gv, m_edcF, m_edcT, m_dsp, m_compL, m_turn, m_anil, m_acons, m_onil, m_part, m_rng, m_rng2, m_enum, m_zip, m_vals, k_tup, k_lst, k_mkT, k_mkF, k_bin1, k_bin2, k_of, k_neg, k_cmp1, k_cmp2, k_ch1, k_ch2, k_ch3T, k_ch3F, k_andT, k_andF, k_orT, k_orF, k_not, k_iteT, k_iteF, k_callR, k_call, k_blt, k_isi, k_ix1, k_ix2, k_sl1, k_sl2, k_sl3, k_part, k_cons1, k_cons2, k_comp1, k_comp2, k_mth1, k_mth2, k_mth3, k_rng1, k_enum, k_enumT, k_zip1, k_zipL, k_zipT, k_zipM1, k_zipM2, k_dsp1, k_dsp2, k_valsD, k_valsS, k_tx1, k_tx2, k_valsT, k_valsL, k_rep1, k_rep2, k_cat1, k_cat2, k_u, k_rl2, k_rl3, k_rlT, k_rlL, k_compL, k_trn1, k_trn2T, k_trn2F, k_trn3, w_nil, w_cons, s_forL, k_forL, k_forLT, k_forLF, s_nil, s_seq, s_expr, s_asg, s_par, s_unp, s_sub, s_pas, s_if, s_for, s_while, s_ret, s_raise, s_retN, s_pass, s_brk, s_cnt, k_seqN, k_seqR, k_seqB, k_seqC, k_expr, k_asg, k_par1, k_par2, k_unp, k_unp2, k_pas1, k_pas2, k_pas3, k_sub1, k_sub2, k_sub3, k_sub4, k_ifT, k_ifF, k_ret, k_for, k_forSet, k_turnN, k_turnC, k_turnB, k_turnR, k_whT, k_whF, k_wh2N, k_wh2C, k_wh2B, k_wh2R, o_nxt, o_ret, v_add, v_sub, v_fdiv, v_mod, v_lt, v_le, v_gt, v_ge, v_eqI, v_neI, v_eqB, v_neB, v_isB, v_isnotB, v_lenT, v_lenL, v_abs, v_max2, v_min2, v_ixT, v_ixL, v_slL, v_slT, at_0, at_1, at_2, m_v0, m_v1, m_v2, m_v3, m_v4, m_v5, m_v6, m_v7, m_v8, m_v9, m_v10, m_v11, m_v12, m_v13, m_v14, m_v15, l_s0, l_s1, l_s2, l_s3, l_s4, l_s5, l_s6, l_s7, l_s8, l_s9, l_s10, l_s11, l_s12, l_s13, l_s14, l_s15, l_g0, l_g1, l_g2, l_g3, l_g4, l_g5, l_g6, l_g7, l_g8, l_g9, l_g10, l_g11, l_g12, l_g13, l_g14, l_g15, List.length_cons, List.length_nil, Option.map_some, Bool.not_true, Bool.not_false, if_true, decide_true, decide_false, ite_true, setTg, reduceIte, Nat.zero_add, lim, Nat.reduceLeDiff, List.nil_append, List.append_nil, String.reduceEq, or_false, or_true, or_self, Nat.zero_le, List.map_cons, List.map_nil, List.foldl_cons, List.foldl_nil, List.zip_cons_cons, List.zip_nil_left, u_tupL, u_tupT, u_lstL, u_lstT, u_intB, u_intI, u_rvsT, u_rvsL, t_tupT, t_boolB, t_intI, t_boolI, u]) (by show _ ≤ 100000; omega)
      have e1 : w.map (fun i => Val.str (stL (dgT i))) = strV (w.map dgT) := by
        unfold strV
        rw [List.map_map, List.map_map]
        rfl
      rw [e1] at h1
      have j := tx_join (S := []) (y := [32]) (ps := w.map dgT) (by
        have := sum_le 1 (w.map dgT) (fun p hp => by
          obtain ⟨i, _, rfl⟩ := List.mem_map.mp hp
          exact Nat.le_refl _)
        rw [List.length_map] at this ⊢
        show _ + w.length * 1 ≤ _
        omega)
      have kw : kVals (.ok (tI w) []) = .ok (w.map .int) [] := rfl
      have fl : (((ws.take i).map wkT).flatMap ([59, 32] ++ ·)).length ≤ 12 * 15 := by
        have := flat_len [59, 32] 13 ((ws.take i).map wkT) (fun p hp => by
          obtain ⟨v, hv, rfl⟩ := List.mem_map.mp hp
          exact wk_len (hB.ok v (List.mem_of_mem_take hv)) n6)
        rw [List.length_map, List.length_take] at this
        have e : ([59, 32] : List Nat).length = 2 := rfl
        rw [e] at this
        omega
      have hd : (hdT n).length = 7 := rfl
      have c1 := cat_sL (a := hdT n ++ ((ws.take i).map wkT).flatMap ([59, 32] ++ ·)) (b := [59, 32]) (by rw [List.length_append]; simp only [List.length_cons, List.length_nil]; omega)
      have wl := wk_len gw n6
      have c2 := cat_sL (a := hdT n ++ ((ws.take i).map wkT).flatMap ([59, 32] ++ ·) ++ [59, 32]) (b := wkT w) (by rw [List.length_append, List.length_append]; simp only [List.length_cons, List.length_nil]; omega)
      have e2 : hdT n ++ ((ws.take i).map wkT).flatMap ([59, 32] ++ ·) ++ [59, 32] ++ wkT w = hdT n ++ ((ws.take (i + 1)).map wkT).flatMap ([59, 32] ++ ·) := by
        rw [List.take_add_one, e, List.map_append, List.flatMap_append, List.append_assoc, List.append_assoc]
        congr 2
        show [59, 32] ++ wkT w = ([59, 32] ++ wkT w) ++ []
        rw [List.append_nil]
      rw [e2] at c2
      have e3 : jnL [32] (w.map dgT) = wkT w := rfl
      rw [e3] at j
      refine wp_st (ρ1 := [some (bookV n ws), some (.str (stL (hdT n ++ ((ws.take (i + 1)).map wkT).flatMap ([59, 32] ++ ·)))), some (tI w), z3]) (S1 := []) (by
        generalize stL (hdT n ++ ((ws.take (i + 1)).map wkT).flatMap ([59, 32] ++ ·)) = Z1 at *
        generalize stL (hdT n ++ ((ws.take i).map wkT).flatMap ([59, 32] ++ ·) ++ [59, 32]) = Z2 at *
        generalize stL (hdT n ++ ((ws.take i).map wkT).flatMap ([59, 32] ++ ·)) = Z3 at *
        generalize stL (wkT w) = Z4 at *
        generalize strV (w.map dgT) = Y at *
        generalize w.map Val.int = WI at *
        generalize stL [32] = SP at *
        generalize stL [59, 32] = SE at *
        generalize tI w = D at *
        generalize bookV n ws = B at *
        simp only [m_non, m_yes, m_bl, m_int, m_str, m_tup, m_lst, m_bin, m_neg, m_cmp, m_chain, m_and, m_or, m_not, m_ite, m_call, m_callR, m_blt, m_isx, m_isi, m_ix, m_sl, m_comp, m_mth, m_rep, m_cat, m_u, m_rl1, m_rl2, m_gs, m_tx, m_gv, m_edcF, m_edcT, m_dsp, m_compL, m_turn, m_anil, m_acons, m_onil, m_part, m_rng, m_rng2, m_enum, m_zip, m_vals, k_tup, k_lst, k_mkT, k_mkF, k_bin1, k_bin2, k_of, k_neg, k_cmp1, k_cmp2, k_ch1, k_ch2, k_ch3T, k_ch3F, k_andT, k_andF, k_orT, k_orF, k_not, k_iteT, k_iteF, k_callR, k_call, k_blt, k_isi, k_ix1, k_ix2, k_sl1, k_sl2, k_sl3, k_part, k_cons1, k_cons2, k_comp1, k_comp2, k_mth1, k_mth2, k_mth3, k_rng1, k_enum, k_enumT, k_zip1, k_zipL, k_zipT, k_zipM1, k_zipM2, k_dsp1, k_dsp2, k_valsD, k_valsS, k_tx1, k_tx2, k_valsT, k_valsL, k_rep1, k_rep2, k_cat1, k_cat2, k_u, k_rl2, k_rl3, k_rlT, k_rlL, k_compL, k_trn1, k_trn2T, k_trn2F, k_trn3, w_nil, w_cons, s_forL, k_forL, k_forLT, k_forLF, s_nil, s_seq, s_expr, s_asg, s_par, s_unp, s_sub, s_pas, s_if, s_for, s_while, s_ret, s_raise, s_retN, s_pass, s_brk, s_cnt, k_seqN, k_seqR, k_seqB, k_seqC, k_expr, k_asg, k_par1, k_par2, k_unp, k_unp2, k_pas1, k_pas2, k_pas3, k_sub1, k_sub2, k_sub3, k_sub4, k_ifT, k_ifF, k_ret, k_for, k_forSet, k_turnN, k_turnC, k_turnB, k_turnR, k_whT, k_whF, k_wh2N, k_wh2C, k_wh2B, k_wh2R, o_nxt, o_ret, v_add, v_sub, v_fdiv, v_mod, v_lt, v_le, v_gt, v_ge, v_eqI, v_neI, v_eqB, v_neB, v_isB, v_isnotB, v_lenT, v_lenL, v_abs, v_max2, v_min2, v_ixT, v_ixL, v_slL, v_slT, at_0, at_1, at_2, m_v0, m_v1, m_v2, m_v3, m_v4, m_v5, m_v6, m_v7, m_v8, m_v9, m_v10, m_v11, m_v12, m_v13, m_v14, m_v15, l_s0, l_s1, l_s2, l_s3, l_s4, l_s5, l_s6, l_s7, l_s8, l_s9, l_s10, l_s11, l_s12, l_s13, l_s14, l_s15, l_g0, l_g1, l_g2, l_g3, l_g4, l_g5, l_g6, l_g7, l_g8, l_g9, l_g10, l_g11, l_g12, l_g13, l_g14, l_g15, List.length_cons, List.length_nil, Option.map_some, Bool.not_true, Bool.not_false, if_true, decide_true, decide_false, ite_true, setTg, reduceIte, Nat.zero_add, lim, Nat.reduceLeDiff, List.nil_append, List.append_nil, String.reduceEq, or_false, or_true, or_self, Nat.zero_le, List.map_cons, List.map_nil, List.foldl_cons, List.foldl_nil, List.zip_cons_cons, List.zip_nil_left, u_tupL, u_tupT, u_lstL, u_lstT, u_intB, u_intI, u_rvsT, u_rvsL, t_tupT, t_boolB, t_intI, t_boolI, c1, kw, h1, k_comp2, k_mkF, j, c2]) (wp_nil ⟨_, _, rfl, rfl⟩)
  · rintro ρ S ⟨z2, z3, rfl, rfl⟩
    have e : bkT n ws = hdT n ++ ((ws.take (ws.map tI).length).map wkT).flatMap ([59, 32] ++ ·) := by
      rw [List.length_map, List.take_length]
      exact jn_flat _ _ _
    rw [← e]
    exact wp_ret (v := .str (stL (bkT n ws))) (S1 := []) (by
      generalize stL (bkT n ws) = Z
      generalize bookV n ws = B
      simp only [m_non, m_yes, m_bl, m_int, m_str, m_tup, m_lst, m_bin, m_neg, m_cmp, m_chain, m_and, m_or, m_not, m_ite, m_call, m_callR, m_blt, m_isx, m_isi, m_ix, m_sl, m_comp, m_mth, m_rep, m_cat, m_u, m_rl1, m_rl2, m_gs, m_tx, m_gv, m_edcF, m_edcT, m_dsp, m_compL, m_turn, m_anil, m_acons, m_onil, m_part, m_rng, m_rng2, m_enum, m_zip, m_vals, k_tup, k_lst, k_mkT, k_mkF, k_bin1, k_bin2, k_of, k_neg, k_cmp1, k_cmp2, k_ch1, k_ch2, k_ch3T, k_ch3F, k_andT, k_andF, k_orT, k_orF, k_not, k_iteT, k_iteF, k_callR, k_call, k_blt, k_isi, k_ix1, k_ix2, k_sl1, k_sl2, k_sl3, k_part, k_cons1, k_cons2, k_comp1, k_comp2, k_mth1, k_mth2, k_mth3, k_rng1, k_enum, k_enumT, k_zip1, k_zipL, k_zipT, k_zipM1, k_zipM2, k_dsp1, k_dsp2, k_valsD, k_valsS, k_tx1, k_tx2, k_valsT, k_valsL, k_rep1, k_rep2, k_cat1, k_cat2, k_u, k_rl2, k_rl3, k_rlT, k_rlL, k_compL, k_trn1, k_trn2T, k_trn2F, k_trn3, w_nil, w_cons, s_forL, k_forL, k_forLT, k_forLF, s_nil, s_seq, s_expr, s_asg, s_par, s_unp, s_sub, s_pas, s_if, s_for, s_while, s_ret, s_raise, s_retN, s_pass, s_brk, s_cnt, k_seqN, k_seqR, k_seqB, k_seqC, k_expr, k_asg, k_par1, k_par2, k_unp, k_unp2, k_pas1, k_pas2, k_pas3, k_sub1, k_sub2, k_sub3, k_sub4, k_ifT, k_ifF, k_ret, k_for, k_forSet, k_turnN, k_turnC, k_turnB, k_turnR, k_whT, k_whF, k_wh2N, k_wh2C, k_wh2B, k_wh2R, o_nxt, o_ret, v_add, v_sub, v_fdiv, v_mod, v_lt, v_le, v_gt, v_ge, v_eqI, v_neI, v_eqB, v_neB, v_isB, v_isnotB, v_lenT, v_lenL, v_abs, v_max2, v_min2, v_ixT, v_ixL, v_slL, v_slT, at_0, at_1, at_2, m_v0, m_v1, m_v2, m_v3, m_v4, m_v5, m_v6, m_v7, m_v8, m_v9, m_v10, m_v11, m_v12, m_v13, m_v14, m_v15, l_s0, l_s1, l_s2, l_s3, l_s4, l_s5, l_s6, l_s7, l_s8, l_s9, l_s10, l_s11, l_s12, l_s13, l_s14, l_s15, l_g0, l_g1, l_g2, l_g3, l_g4, l_g5, l_g6, l_g7, l_g8, l_g9, l_g10, l_g11, l_g12, l_g13, l_g14, l_g15, List.length_cons, List.length_nil, Option.map_some, Bool.not_true, Bool.not_false, if_true, decide_true, decide_false, ite_true, setTg, reduceIte, Nat.zero_add, lim, Nat.reduceLeDiff, List.nil_append, List.append_nil, String.reduceEq, or_false, or_true, or_self, Nat.zero_le, List.map_cons, List.map_nil, List.foldl_cons, List.foldl_nil, List.zip_cons_cons, List.zip_nil_left, u_tupL, u_tupT, u_lstL, u_lstT, u_intB, u_intI, u_rvsT, u_rvsL, t_tupT, t_boolB, t_intI, t_boolI]) ⟨rfl, rfl⟩
/-! ### texts read -/
theorem fig_ix {S : Store} (d : Nat) : ixV S (.str (stL [d])) (.int 0) = some (.str (stL [d])) := rfl
theorem len_dg {S : Store} (d : Nat) : bltV S .len [.str (stL [d])] = some (.int 1) := rfl
theorem st_inj {a b : List Nat} (h : stL a = stL b) : a = b := by
  have := congrArg (fun s : PySem.Str => s.cps.toList) h
  exact this
theorem v_eqsL {S : Store} {a b : List Nat} : cmpV S .eqs (.str (stL a)) (.str (stL b)) = some (decide (a = b)) := by
  show some (decide (stL a = stL b)) = _
  by_cases h : a = b
  · rw [decide_eq_true h, decide_eq_true (by rw [h])]
  · rw [decide_eq_false h, decide_eq_false fun e => h (st_inj e)]
theorem v_nesL {S : Store} {a b : List Nat} : cmpV S .nes (.str (stL a)) (.str (stL b)) = some (!decide (a = b)) := by
  show some (!decide (stL a = stL b)) = _
  by_cases h : a = b
  · rw [decide_eq_true h, decide_eq_true (by rw [h])]
  · rw [decide_eq_false h, decide_eq_false fun e => h (st_inj e)]
theorem c_isfigures {k : Nat} {S : Store} {i : Int} (h0 : 0 ≤ i) (h9 : i ≤ 9) : callI (run P WW (k + 1)) false 6 [.str (stL (dgT i))] S = .ok (.bl true) S := by
  refine call_val (S' := []) rfl ?_ rfl
  rw [run_f (d := f6) rfl rfl]
  show (execS _ WW b6 [some (.str (stL (dgT i))), none] []).res = _
  have l1 : bltV [] .len [.str (stL (dgT i))] = some (.int 1) := rfl
  have kv : kVals (.ok (.str (stL (dgT i))) []) = .ok [.str (stL (dgT i))] [] := rfl
  have sg : cmpV [] .isin (.str (stL (dgT i))) (.str (stL [48, 49, 50, 51, 52, 53, 54, 55, 56, 57])) = some true := by
    show some (decide ((48 + i.toNat) ∈ [48, 49, 50, 51, 52, 53, 54, 55, 56, 57])) = _
    rw [decide_eq_true]
    have : i.toNat ≤ 9 := by omega
    simp only [List.mem_cons, List.not_mem_nil, or_false]
    omega
  have h1 := comp_bl (f := compTurn (callI (run P WW k)) (.nm 1) [("sign", 1)] .yes e6_0 [some (.str (stL (dgT i))), none]) (S := []) (fun _ : Unit => true) (fun _ : Unit => .str (stL (dgT i))) [()] (fun x hx => by
    rw [m_turn]
    unfold e6_0
    rw [fi_lit]
    generalize stL [48, 49, 50, 51, 52, 53, 54, 55, 56, 57] = F at *
    generalize stL (dgT i) = D at *
    simp only [m_non, m_yes, m_bl, m_int, m_str, m_tup, m_lst, m_bin, m_neg, m_cmp, m_chain, m_and, m_or, m_not, m_ite, m_call, m_callR, m_blt, m_isx, m_isi, m_ix, m_sl, m_comp, m_mth, m_rep, m_cat, m_u, m_rl1, m_rl2, m_gs, m_tx, m_gv, m_edcF, m_edcT, m_dsp, m_compL, m_turn, m_anil, m_acons, m_onil, m_part, m_rng, m_rng2, m_enum, m_zip, m_vals, k_tup, k_lst, k_mkT, k_mkF, k_bin1, k_bin2, k_of, k_neg, k_cmp1, k_cmp2, k_ch1, k_ch2, k_ch3T, k_ch3F, k_andT, k_andF, k_orT, k_orF, k_not, k_iteT, k_iteF, k_callR, k_call, k_blt, k_isi, k_ix1, k_ix2, k_sl1, k_sl2, k_sl3, k_part, k_cons1, k_cons2, k_comp1, k_comp2, k_mth1, k_mth2, k_mth3, k_rng1, k_enum, k_enumT, k_zip1, k_zipL, k_zipT, k_zipM1, k_zipM2, k_dsp1, k_dsp2, k_valsD, k_valsS, k_tx1, k_tx2, k_valsT, k_valsL, k_rep1, k_rep2, k_cat1, k_cat2, k_u, k_rl2, k_rl3, k_rlT, k_rlL, k_compL, k_trn1, k_trn2T, k_trn2F, k_trn3, w_nil, w_cons, s_forL, k_forL, k_forLT, k_forLF, s_nil, s_seq, s_expr, s_asg, s_par, s_unp, s_sub, s_pas, s_if, s_for, s_while, s_ret, s_raise, s_retN, s_pass, s_brk, s_cnt, k_seqN, k_seqR, k_seqB, k_seqC, k_expr, k_asg, k_par1, k_par2, k_unp, k_unp2, k_pas1, k_pas2, k_pas3, k_sub1, k_sub2, k_sub3, k_sub4, k_ifT, k_ifF, k_ret, k_for, k_forSet, k_turnN, k_turnC, k_turnB, k_turnR, k_whT, k_whF, k_wh2N, k_wh2C, k_wh2B, k_wh2R, o_nxt, o_ret, v_add, v_sub, v_fdiv, v_mod, v_lt, v_le, v_gt, v_ge, v_eqI, v_neI, v_eqB, v_neB, v_isB, v_isnotB, v_lenT, v_lenL, v_abs, v_max2, v_min2, v_ixT, v_ixL, v_slL, v_slT, at_0, at_1, at_2, m_v0, m_v1, m_v2, m_v3, m_v4, m_v5, m_v6, m_v7, m_v8, m_v9, m_v10, m_v11, m_v12, m_v13, m_v14, m_v15, l_s0, l_s1, l_s2, l_s3, l_s4, l_s5, l_s6, l_s7, l_s8, l_s9, l_s10, l_s11, l_s12, l_s13, l_s14, l_s15, l_g0, l_g1, l_g2, l_g3, l_g4, l_g5, l_g6, l_g7, l_g8, l_g9, l_g10, l_g11, l_g12, l_g13, l_g14, l_g15, List.length_cons, List.length_nil, Option.map_some, Bool.not_true, Bool.not_false, if_true, decide_true, decide_false, ite_true, setTg, reduceIte, Nat.zero_add, lim, Nat.reduceLeDiff, List.nil_append, List.append_nil, String.reduceEq, or_false, or_true, or_self, Nat.zero_le, List.map_cons, List.map_nil, List.foldl_cons, List.foldl_nil, List.zip_cons_cons, List.zip_nil_left, u_tupL, u_tupT, u_lstL, u_lstT, u_intB, u_intI, u_rvsT, u_rvsL, t_tupT, t_boolB, t_intI, t_boolI, sg]) (by decide)
  have h1 : compGo (compTurn (callI (run P WW k)) (.nm 1) [("sign", 1)] .yes e6_0 [some (.str (stL (dgT i))), none]) [.str (stL (dgT i))] [] [] = .ok [.bl true] [] := h1
  have ua : uV .all (.lst [.bl true]) [] = .ok (.bl true) [] := rfl
  have e1 : cmpV [] .eqs (.str (stL (dgT i))) (.str (stL [48])) = some (decide (dgT i = [48])) := v_eqsL
  have x0 : ixV [] (.str (stL (dgT i))) (.int 0) = some (.str (stL (dgT i))) := rfl
  have e2 : cmpV [] .nes (.str (stL (dgT i))) (.str (stL [48])) = some (!decide (dgT i = [48])) := v_nesL
  have d1 : decide ((1 : Int) ≤ 1) = true := rfl
  have d2 : decide ((1 : Int) ≤ 6) = true := rfl
  unfold b6
  rw [ze_lit]
  generalize stL [48] = Z at *
  generalize stL (dgT i) = D at *
  generalize decide (dgT i = [48]) = q at *
  cases q with
  | true => simp only [m_non, m_yes, m_bl, m_int, m_str, m_tup, m_lst, m_bin, m_neg, m_cmp, m_chain, m_and, m_or, m_not, m_ite, m_call, m_callR, m_blt, m_isx, m_isi, m_ix, m_sl, m_comp, m_mth, m_rep, m_cat, m_u, m_rl1, m_rl2, m_gs, m_tx, m_gv, m_edcF, m_edcT, m_dsp, m_compL, m_turn, m_anil, m_acons, m_onil, m_part, m_rng, m_rng2, m_enum, m_zip, m_vals, k_tup, k_lst, k_mkT, k_mkF, k_bin1, k_bin2, k_of, k_neg, k_cmp1, k_cmp2, k_ch1, k_ch2, k_ch3T, k_ch3F, k_andT, k_andF, k_orT, k_orF, k_not, k_iteT, k_iteF, k_callR, k_call, k_blt, k_isi, k_ix1, k_ix2, k_sl1, k_sl2, k_sl3, k_part, k_cons1, k_cons2, k_comp1, k_comp2, k_mth1, k_mth2, k_mth3, k_rng1, k_enum, k_enumT, k_zip1, k_zipL, k_zipT, k_zipM1, k_zipM2, k_dsp1, k_dsp2, k_valsD, k_valsS, k_tx1, k_tx2, k_valsT, k_valsL, k_rep1, k_rep2, k_cat1, k_cat2, k_u, k_rl2, k_rl3, k_rlT, k_rlL, k_compL, k_trn1, k_trn2T, k_trn2F, k_trn3, w_nil, w_cons, s_forL, k_forL, k_forLT, k_forLF, s_nil, s_seq, s_expr, s_asg, s_par, s_unp, s_sub, s_pas, s_if, s_for, s_while, s_ret, s_raise, s_retN, s_pass, s_brk, s_cnt, k_seqN, k_seqR, k_seqB, k_seqC, k_expr, k_asg, k_par1, k_par2, k_unp, k_unp2, k_pas1, k_pas2, k_pas3, k_sub1, k_sub2, k_sub3, k_sub4, k_ifT, k_ifF, k_ret, k_for, k_forSet, k_turnN, k_turnC, k_turnB, k_turnR, k_whT, k_whF, k_wh2N, k_wh2C, k_wh2B, k_wh2R, o_nxt, o_ret, v_add, v_sub, v_fdiv, v_mod, v_lt, v_le, v_gt, v_ge, v_eqI, v_neI, v_eqB, v_neB, v_isB, v_isnotB, v_lenT, v_lenL, v_abs, v_max2, v_min2, v_ixT, v_ixL, v_slL, v_slT, at_0, at_1, at_2, m_v0, m_v1, m_v2, m_v3, m_v4, m_v5, m_v6, m_v7, m_v8, m_v9, m_v10, m_v11, m_v12, m_v13, m_v14, m_v15, l_s0, l_s1, l_s2, l_s3, l_s4, l_s5, l_s6, l_s7, l_s8, l_s9, l_s10, l_s11, l_s12, l_s13, l_s14, l_s15, l_g0, l_g1, l_g2, l_g3, l_g4, l_g5, l_g6, l_g7, l_g8, l_g9, l_g10, l_g11, l_g12, l_g13, l_g14, l_g15, List.length_cons, List.length_nil, Option.map_some, Bool.not_true, Bool.not_false, if_true, decide_true, decide_false, ite_true, setTg, reduceIte, Nat.zero_add, lim, Nat.reduceLeDiff, List.nil_append, List.append_nil, String.reduceEq, or_false, or_true, or_self, Nat.zero_le, List.map_cons, List.map_nil, List.foldl_cons, List.foldl_nil, List.zip_cons_cons, List.zip_nil_left, u_tupL, u_tupT, u_lstL, u_lstT, u_intB, u_intI, u_rvsT, u_rvsL, t_tupT, t_boolB, t_intI, t_boolI, l1, d1, d2, kv, h1, k_comp2, k_mkF, ua, e1, e2, x0]
  | false => simp only [m_non, m_yes, m_bl, m_int, m_str, m_tup, m_lst, m_bin, m_neg, m_cmp, m_chain, m_and, m_or, m_not, m_ite, m_call, m_callR, m_blt, m_isx, m_isi, m_ix, m_sl, m_comp, m_mth, m_rep, m_cat, m_u, m_rl1, m_rl2, m_gs, m_tx, m_gv, m_edcF, m_edcT, m_dsp, m_compL, m_turn, m_anil, m_acons, m_onil, m_part, m_rng, m_rng2, m_enum, m_zip, m_vals, k_tup, k_lst, k_mkT, k_mkF, k_bin1, k_bin2, k_of, k_neg, k_cmp1, k_cmp2, k_ch1, k_ch2, k_ch3T, k_ch3F, k_andT, k_andF, k_orT, k_orF, k_not, k_iteT, k_iteF, k_callR, k_call, k_blt, k_isi, k_ix1, k_ix2, k_sl1, k_sl2, k_sl3, k_part, k_cons1, k_cons2, k_comp1, k_comp2, k_mth1, k_mth2, k_mth3, k_rng1, k_enum, k_enumT, k_zip1, k_zipL, k_zipT, k_zipM1, k_zipM2, k_dsp1, k_dsp2, k_valsD, k_valsS, k_tx1, k_tx2, k_valsT, k_valsL, k_rep1, k_rep2, k_cat1, k_cat2, k_u, k_rl2, k_rl3, k_rlT, k_rlL, k_compL, k_trn1, k_trn2T, k_trn2F, k_trn3, w_nil, w_cons, s_forL, k_forL, k_forLT, k_forLF, s_nil, s_seq, s_expr, s_asg, s_par, s_unp, s_sub, s_pas, s_if, s_for, s_while, s_ret, s_raise, s_retN, s_pass, s_brk, s_cnt, k_seqN, k_seqR, k_seqB, k_seqC, k_expr, k_asg, k_par1, k_par2, k_unp, k_unp2, k_pas1, k_pas2, k_pas3, k_sub1, k_sub2, k_sub3, k_sub4, k_ifT, k_ifF, k_ret, k_for, k_forSet, k_turnN, k_turnC, k_turnB, k_turnR, k_whT, k_whF, k_wh2N, k_wh2C, k_wh2B, k_wh2R, o_nxt, o_ret, v_add, v_sub, v_fdiv, v_mod, v_lt, v_le, v_gt, v_ge, v_eqI, v_neI, v_eqB, v_neB, v_isB, v_isnotB, v_lenT, v_lenL, v_abs, v_max2, v_min2, v_ixT, v_ixL, v_slL, v_slT, at_0, at_1, at_2, m_v0, m_v1, m_v2, m_v3, m_v4, m_v5, m_v6, m_v7, m_v8, m_v9, m_v10, m_v11, m_v12, m_v13, m_v14, m_v15, l_s0, l_s1, l_s2, l_s3, l_s4, l_s5, l_s6, l_s7, l_s8, l_s9, l_s10, l_s11, l_s12, l_s13, l_s14, l_s15, l_g0, l_g1, l_g2, l_g3, l_g4, l_g5, l_g6, l_g7, l_g8, l_g9, l_g10, l_g11, l_g12, l_g13, l_g14, l_g15, List.length_cons, List.length_nil, Option.map_some, Bool.not_true, Bool.not_false, if_true, decide_true, decide_false, ite_true, setTg, reduceIte, Nat.zero_add, lim, Nat.reduceLeDiff, List.nil_append, List.append_nil, String.reduceEq, or_false, or_true, or_self, Nat.zero_le, List.map_cons, List.map_nil, List.foldl_cons, List.foldl_nil, List.zip_cons_cons, List.zip_nil_left, u_tupL, u_tupT, u_lstL, u_lstT, u_intB, u_intI, u_rvsT, u_rvsL, t_tupT, t_boolB, t_intI, t_boolI, l1, d1, d2, kv, h1, k_comp2, k_mkF, ua, e1, e2, x0]
theorem int_dg {S : Store} {i : Int} (h0 : 0 ≤ i) (h9 : i ≤ 9) : uV .int (.str (stL (dgT i))) S = .ok (.int i) S := by
  show (match PySem.intText? (stL (dgT i)) with
    | some n => if (stL (dgT i)).length ≤ 640 then R.ok (Val.int n) S else .bad
    | none => .bad) = _
  have e := PySem.intText_digits (x := stL (dgT i)) (fun c hc => by
    have : c = 48 + i.toNat := List.mem_singleton.mp hc
    omega) (fun e => by cases e) (by rw [stL_len]; show 1 ≤ _; decide)
  rw [e]
  dsimp only
  rw [if_pos (by rw [stL_len]; show 1 ≤ _; decide)]
  have e2 : ((PySem.NumText.digitsVal (stL (dgT i)).cps.toList : Nat) : Int) = i := by
    show (((0 * 10 + (48 + i.toNat - 48) : Nat)) : Int) = i
    omega
  rw [e2]
theorem c_readnumbers {k : Nat} {S : Store} {w : List Int} (hw : ∀ i ∈ w, 0 ≤ i ∧ i ≤ 9) (hl : w.length ≤ 100) : callI (run P WW (k + 2)) false 10 [.lst (strV (w.map dgT))] S = .ok (tI w) S := by
  have fr : Val.frees [.lst (strV (w.map dgT))] = true := fr1 (fr_all fun v hv => by
    unfold strV at hv
    obtain ⟨s, _, rfl⟩ := List.mem_map.mp hv
    rfl)
  refine call_val (S' := []) fr ?_ (tI_free w)
  rw [run_f (d := f10) rfl rfl]
  show (execS _ WW b10 [some (.lst (strV (w.map dgT))), none] []).res = _
  have e0 : strV (w.map dgT) = w.map fun i => .str (stL (dgT i)) := by
    unfold strV
    rw [List.map_map, List.map_map]
    rfl
  have kv : kVals (.ok (.lst (strV (w.map dgT))) []) = .ok (w.map fun i => .str (stL (dgT i))) [] := by rw [← e0]; rfl
  have h1 := comp_bl (f := compTurn (callI (run P WW (k + 1))) (.nm 1) [("word", 1)] .yes e10_0 [some (.lst (strV (w.map dgT))), none]) (S := []) (fun _ => true) (fun i => .str (stL (dgT i))) w (fun i hi => by
    have c : callI (run P WW (k + 1)) _ _ _ _ = _ := c_isfigures (k := k) (S := []) (hw i hi).1 (hw i hi).2
    rw [m_turn]
    unfold e10_0
    generalize Val.lst (strV (w.map dgT)) = L at *
    generalize stL (dgT i) = D at *
    simp only [m_non, m_yes, m_bl, m_int, m_str, m_tup, m_lst, m_bin, m_neg, m_cmp, m_chain, m_and, m_or, m_not, m_ite, m_call, m_callR, m_blt, m_isx, m_isi, m_ix, m_sl, m_comp, m_mth, m_rep, m_cat, m_u, m_rl1, m_rl2, m_gs, m_tx, m_gv, m_edcF, m_edcT, m_dsp, m_compL, m_turn, m_anil, m_acons, m_onil, m_part, m_rng, m_rng2, m_enum, m_zip, m_vals, k_tup, k_lst, k_mkT, k_mkF, k_bin1, k_bin2, k_of, k_neg, k_cmp1, k_cmp2, k_ch1, k_ch2, k_ch3T, k_ch3F, k_andT, k_andF, k_orT, k_orF, k_not, k_iteT, k_iteF, k_callR, k_call, k_blt, k_isi, k_ix1, k_ix2, k_sl1, k_sl2, k_sl3, k_part, k_cons1, k_cons2, k_comp1, k_comp2, k_mth1, k_mth2, k_mth3, k_rng1, k_enum, k_enumT, k_zip1, k_zipL, k_zipT, k_zipM1, k_zipM2, k_dsp1, k_dsp2, k_valsD, k_valsS, k_tx1, k_tx2, k_valsT, k_valsL, k_rep1, k_rep2, k_cat1, k_cat2, k_u, k_rl2, k_rl3, k_rlT, k_rlL, k_compL, k_trn1, k_trn2T, k_trn2F, k_trn3, w_nil, w_cons, s_forL, k_forL, k_forLT, k_forLF, s_nil, s_seq, s_expr, s_asg, s_par, s_unp, s_sub, s_pas, s_if, s_for, s_while, s_ret, s_raise, s_retN, s_pass, s_brk, s_cnt, k_seqN, k_seqR, k_seqB, k_seqC, k_expr, k_asg, k_par1, k_par2, k_unp, k_unp2, k_pas1, k_pas2, k_pas3, k_sub1, k_sub2, k_sub3, k_sub4, k_ifT, k_ifF, k_ret, k_for, k_forSet, k_turnN, k_turnC, k_turnB, k_turnR, k_whT, k_whF, k_wh2N, k_wh2C, k_wh2B, k_wh2R, o_nxt, o_ret, v_add, v_sub, v_fdiv, v_mod, v_lt, v_le, v_gt, v_ge, v_eqI, v_neI, v_eqB, v_neB, v_isB, v_isnotB, v_lenT, v_lenL, v_abs, v_max2, v_min2, v_ixT, v_ixL, v_slL, v_slT, at_0, at_1, at_2, m_v0, m_v1, m_v2, m_v3, m_v4, m_v5, m_v6, m_v7, m_v8, m_v9, m_v10, m_v11, m_v12, m_v13, m_v14, m_v15, l_s0, l_s1, l_s2, l_s3, l_s4, l_s5, l_s6, l_s7, l_s8, l_s9, l_s10, l_s11, l_s12, l_s13, l_s14, l_s15, l_g0, l_g1, l_g2, l_g3, l_g4, l_g5, l_g6, l_g7, l_g8, l_g9, l_g10, l_g11, l_g12, l_g13, l_g14, l_g15, List.length_cons, List.length_nil, Option.map_some, Bool.not_true, Bool.not_false, if_true, decide_true, decide_false, ite_true, setTg, reduceIte, Nat.zero_add, lim, Nat.reduceLeDiff, List.nil_append, List.append_nil, String.reduceEq, or_false, or_true, or_self, Nat.zero_le, List.map_cons, List.map_nil, List.foldl_cons, List.foldl_nil, List.zip_cons_cons, List.zip_nil_left, u_tupL, u_tupT, u_lstL, u_lstT, u_intB, u_intI, u_rvsT, u_rvsL, t_tupT, t_boolB, t_intI, t_boolI, c]) (by omega)
  have a1 := u_all (S := []) (w.map fun _ => true)
  have a2 : (w.map fun _ => true).all id = true := by
    rw [List.all_eq_true]
    intro b hb
    obtain ⟨_, _, rfl⟩ := List.mem_map.mp hb
    rfl
  rw [a2] at a1
  have h2 := comp_map (f := compTurn (callI (run P WW (k + 1))) (.nm 1) [("word", 1)] .yes e10_1 [some (.lst (strV (w.map dgT))), none]) (S := []) Val.int (fun i => .str (stL (dgT i))) w (fun i hi => by
    have c := int_dg (S := []) (hw i hi).1 (hw i hi).2
    rw [m_turn]
    unfold e10_1
    generalize Val.lst (strV (w.map dgT)) = L at *
    generalize stL (dgT i) = D at *
    simp only [m_non, m_yes, m_bl, m_int, m_str, m_tup, m_lst, m_bin, m_neg, m_cmp, m_chain, m_and, m_or, m_not, m_ite, m_call, m_callR, m_blt, m_isx, m_isi, m_ix, m_sl, m_comp, m_mth, m_rep, m_cat, m_u, m_rl1, m_rl2, m_gs, m_tx, m_gv, m_edcF, m_edcT, m_dsp, m_compL, m_turn, m_anil, m_acons, m_onil, m_part, m_rng, m_rng2, m_enum, m_zip, m_vals, k_tup, k_lst, k_mkT, k_mkF, k_bin1, k_bin2, k_of, k_neg, k_cmp1, k_cmp2, k_ch1, k_ch2, k_ch3T, k_ch3F, k_andT, k_andF, k_orT, k_orF, k_not, k_iteT, k_iteF, k_callR, k_call, k_blt, k_isi, k_ix1, k_ix2, k_sl1, k_sl2, k_sl3, k_part, k_cons1, k_cons2, k_comp1, k_comp2, k_mth1, k_mth2, k_mth3, k_rng1, k_enum, k_enumT, k_zip1, k_zipL, k_zipT, k_zipM1, k_zipM2, k_dsp1, k_dsp2, k_valsD, k_valsS, k_tx1, k_tx2, k_valsT, k_valsL, k_rep1, k_rep2, k_cat1, k_cat2, k_u, k_rl2, k_rl3, k_rlT, k_rlL, k_compL, k_trn1, k_trn2T, k_trn2F, k_trn3, w_nil, w_cons, s_forL, k_forL, k_forLT, k_forLF, s_nil, s_seq, s_expr, s_asg, s_par, s_unp, s_sub, s_pas, s_if, s_for, s_while, s_ret, s_raise, s_retN, s_pass, s_brk, s_cnt, k_seqN, k_seqR, k_seqB, k_seqC, k_expr, k_asg, k_par1, k_par2, k_unp, k_unp2, k_pas1, k_pas2, k_pas3, k_sub1, k_sub2, k_sub3, k_sub4, k_ifT, k_ifF, k_ret, k_for, k_forSet, k_turnN, k_turnC, k_turnB, k_turnR, k_whT, k_whF, k_wh2N, k_wh2C, k_wh2B, k_wh2R, o_nxt, o_ret, v_add, v_sub, v_fdiv, v_mod, v_lt, v_le, v_gt, v_ge, v_eqI, v_neI, v_eqB, v_neB, v_isB, v_isnotB, v_lenT, v_lenL, v_abs, v_max2, v_min2, v_ixT, v_ixL, v_slL, v_slT, at_0, at_1, at_2, m_v0, m_v1, m_v2, m_v3, m_v4, m_v5, m_v6, m_v7, m_v8, m_v9, m_v10, m_v11, m_v12, m_v13, m_v14, m_v15, l_s0, l_s1, l_s2, l_s3, l_s4, l_s5, l_s6, l_s7, l_s8, l_s9, l_s10, l_s11, l_s12, l_s13, l_s14, l_s15, l_g0, l_g1, l_g2, l_g3, l_g4, l_g5, l_g6, l_g7, l_g8, l_g9, l_g10, l_g11, l_g12, l_g13, l_g14, l_g15, List.length_cons, List.length_nil, Option.map_some, Bool.not_true, Bool.not_false, if_true, decide_true, decide_false, ite_true, setTg, reduceIte, Nat.zero_add, lim, Nat.reduceLeDiff, List.nil_append, List.append_nil, String.reduceEq, or_false, or_true, or_self, Nat.zero_le, List.map_cons, List.map_nil, List.foldl_cons, List.foldl_nil, List.zip_cons_cons, List.zip_nil_left, u_tupL, u_tupT, u_lstL, u_lstT, u_intB, u_intI, u_rvsT, u_rvsL, t_tupT, t_boolB, t_intI, t_boolI, c]) (by show _ ≤ 100000; omega)
  have ut : uV .tuple (.lst (w.map .int)) [] = .ok (tI w) [] := rfl
  unfold b10
  generalize (w.map fun i => Val.str (stL (dgT i))) = Y at *
  generalize Val.lst (strV (w.map dgT)) = L at *
  generalize (w.map fun _ => true).map Val.bl = BL at *
  generalize w.map Val.int = WI at *
  generalize tI w = T at *
  simp only [m_non, m_yes, m_bl, m_int, m_str, m_tup, m_lst, m_bin, m_neg, m_cmp, m_chain, m_and, m_or, m_not, m_ite, m_call, m_callR, m_blt, m_isx, m_isi, m_ix, m_sl, m_comp, m_mth, m_rep, m_cat, m_u, m_rl1, m_rl2, m_gs, m_tx, m_gv, m_edcF, m_edcT, m_dsp, m_compL, m_turn, m_anil, m_acons, m_onil, m_part, m_rng, m_rng2, m_enum, m_zip, m_vals, k_tup, k_lst, k_mkT, k_mkF, k_bin1, k_bin2, k_of, k_neg, k_cmp1, k_cmp2, k_ch1, k_ch2, k_ch3T, k_ch3F, k_andT, k_andF, k_orT, k_orF, k_not, k_iteT, k_iteF, k_callR, k_call, k_blt, k_isi, k_ix1, k_ix2, k_sl1, k_sl2, k_sl3, k_part, k_cons1, k_cons2, k_comp1, k_comp2, k_mth1, k_mth2, k_mth3, k_rng1, k_enum, k_enumT, k_zip1, k_zipL, k_zipT, k_zipM1, k_zipM2, k_dsp1, k_dsp2, k_valsD, k_valsS, k_tx1, k_tx2, k_valsT, k_valsL, k_rep1, k_rep2, k_cat1, k_cat2, k_u, k_rl2, k_rl3, k_rlT, k_rlL, k_compL, k_trn1, k_trn2T, k_trn2F, k_trn3, w_nil, w_cons, s_forL, k_forL, k_forLT, k_forLF, s_nil, s_seq, s_expr, s_asg, s_par, s_unp, s_sub, s_pas, s_if, s_for, s_while, s_ret, s_raise, s_retN, s_pass, s_brk, s_cnt, k_seqN, k_seqR, k_seqB, k_seqC, k_expr, k_asg, k_par1, k_par2, k_unp, k_unp2, k_pas1, k_pas2, k_pas3, k_sub1, k_sub2, k_sub3, k_sub4, k_ifT, k_ifF, k_ret, k_for, k_forSet, k_turnN, k_turnC, k_turnB, k_turnR, k_whT, k_whF, k_wh2N, k_wh2C, k_wh2B, k_wh2R, o_nxt, o_ret, v_add, v_sub, v_fdiv, v_mod, v_lt, v_le, v_gt, v_ge, v_eqI, v_neI, v_eqB, v_neB, v_isB, v_isnotB, v_lenT, v_lenL, v_abs, v_max2, v_min2, v_ixT, v_ixL, v_slL, v_slT, at_0, at_1, at_2, m_v0, m_v1, m_v2, m_v3, m_v4, m_v5, m_v6, m_v7, m_v8, m_v9, m_v10, m_v11, m_v12, m_v13, m_v14, m_v15, l_s0, l_s1, l_s2, l_s3, l_s4, l_s5, l_s6, l_s7, l_s8, l_s9, l_s10, l_s11, l_s12, l_s13, l_s14, l_s15, l_g0, l_g1, l_g2, l_g3, l_g4, l_g5, l_g6, l_g7, l_g8, l_g9, l_g10, l_g11, l_g12, l_g13, l_g14, l_g15, List.length_cons, List.length_nil, Option.map_some, Bool.not_true, Bool.not_false, if_true, decide_true, decide_false, ite_true, setTg, reduceIte, Nat.zero_add, lim, Nat.reduceLeDiff, List.nil_append, List.append_nil, String.reduceEq, or_false, or_true, or_self, Nat.zero_le, List.map_cons, List.map_nil, List.foldl_cons, List.foldl_nil, List.zip_cons_cons, List.zip_nil_left, u_tupL, u_tupT, u_lstL, u_lstT, u_intB, u_intI, u_rvsT, u_rvsL, t_tupT, t_boolB, t_intI, t_boolI, kv, h1, k_comp2, k_mkF, a1, h2, ut]
theorem split_wk {S : Store} {n : Int} {w : List Int} (h : GW n w) (n6 : n ≤ 6) : txR false (stL (wkT w)) (.str (stL [32])) S = .ok (.lst (strV (w.map dgT))) S := by
  cases w with
  | nil => exact absurd rfl h.1
  | cons a t =>
    have wl := wk_len h n6
    have dw := gw_dig h n6
    exact tx_split (c := 32) (y := []) (p := dgT a) (ps := t.map dgT) (fun q hq => by
      have hq : q ∈ (a :: t).map dgT := hq
      obtain ⟨i, hi, rfl⟩ := List.mem_map.mp hq
      have := dw i hi
      intro z
      have e := List.mem_singleton.mp z
      omega) (by decide) (Nat.le_trans wl (by decide))
theorem split_hd {S : Store} {n : Int} (h0 : 0 ≤ n) (h9 : n ≤ 9) : txR false (stL (hdT n)) (.str (stL [32])) S = .ok (.lst [.str (stL [104, 97, 110, 100, 115]), .str (stL (dgT n))]) S :=
  tx_split (c := 32) (y := []) (p := [104, 97, 110, 100, 115]) (ps := [dgT n]) (fun q hq => by
    simp only [List.mem_cons, List.not_mem_nil, or_false] at hq
    rcases hq with rfl | rfl
    · decide
    · intro z
      have e := List.mem_singleton.mp z
      omega) (by decide) (by show 7 ≤ 100000; decide)
theorem split_bk {S : Store} {n : Int} {ws : List (List Int)} (hB : GB n ws) : txR false (stL (bkT n ws)) (.str (stL [59, 32])) S = .ok (.lst (strV (hdT n :: ws.map wkT))) S := by
  have n1 := hB.n1
  have n6 := hB.n6
  exact tx_split (c := 59) (y := [32]) (p := hdT n) (ps := ws.map wkT) (fun q hq => by
    rcases List.mem_cons.mp hq with rfl | hq
    · unfold hdT
      simp only [List.mem_cons, List.not_mem_nil, or_false, not_or]
      omega
    · obtain ⟨w, hw, rfl⟩ := List.mem_map.mp hq
      exact wk_no (gw_dig (hB.ok w hw) n6)) (by decide) (Nat.le_trans (bk_len hB) (by decide))
theorem c_readbook {k : Nat} {S : Store} {n : Int} {ws : List (List Int)} (hB : GB n ws) : callI (run P WW (k + 5)) false 11 [.str (stL (bkT n ws))] S = .ok (bookV n ws) S := by
  refine call_val (S' := []) rfl ?_ (book_free n ws)
  rw [run_f (d := f11) rfl rfl]
  show (execS _ WW b11 [some (.str (stL (bkT n ws))), none, none, none, none, none] []).res = _
  suffices hw : Wp (execS (callI (run P WW (k + 4))) WW b11 [some (.str (stL (bkT n ws))), none, none, none, none, none] []) (Rt fun v S' => v = bookV n ws ∧ S' = []) by
    obtain ⟨v, S', h1, rfl, rfl⟩ := wp_res hw
    exact h1
  have n1 := hB.n1
  have n6 := hB.n6
  have few := hB.few
  have s1 := split_bk (S := []) hB
  unfold b11
  rw [se_lit, sp_lit, ha_lit]
  refine wp_st (ρ1 := [some (.str (stL (bkT n ws))), some (.lst (strV (hdT n :: ws.map wkT))), none, none, none, none]) (S1 := []) (by
    generalize stL (bkT n ws) = Z at *
    generalize Val.lst (strV (hdT n :: ws.map wkT)) = L at *
    generalize stL [59, 32] = SE at *
    simp only [m_non, m_yes, m_bl, m_int, m_str, m_tup, m_lst, m_bin, m_neg, m_cmp, m_chain, m_and, m_or, m_not, m_ite, m_call, m_callR, m_blt, m_isx, m_isi, m_ix, m_sl, m_comp, m_mth, m_rep, m_cat, m_u, m_rl1, m_rl2, m_gs, m_tx, m_gv, m_edcF, m_edcT, m_dsp, m_compL, m_turn, m_anil, m_acons, m_onil, m_part, m_rng, m_rng2, m_enum, m_zip, m_vals, k_tup, k_lst, k_mkT, k_mkF, k_bin1, k_bin2, k_of, k_neg, k_cmp1, k_cmp2, k_ch1, k_ch2, k_ch3T, k_ch3F, k_andT, k_andF, k_orT, k_orF, k_not, k_iteT, k_iteF, k_callR, k_call, k_blt, k_isi, k_ix1, k_ix2, k_sl1, k_sl2, k_sl3, k_part, k_cons1, k_cons2, k_comp1, k_comp2, k_mth1, k_mth2, k_mth3, k_rng1, k_enum, k_enumT, k_zip1, k_zipL, k_zipT, k_zipM1, k_zipM2, k_dsp1, k_dsp2, k_valsD, k_valsS, k_tx1, k_tx2, k_valsT, k_valsL, k_rep1, k_rep2, k_cat1, k_cat2, k_u, k_rl2, k_rl3, k_rlT, k_rlL, k_compL, k_trn1, k_trn2T, k_trn2F, k_trn3, w_nil, w_cons, s_forL, k_forL, k_forLT, k_forLF, s_nil, s_seq, s_expr, s_asg, s_par, s_unp, s_sub, s_pas, s_if, s_for, s_while, s_ret, s_raise, s_retN, s_pass, s_brk, s_cnt, k_seqN, k_seqR, k_seqB, k_seqC, k_expr, k_asg, k_par1, k_par2, k_unp, k_unp2, k_pas1, k_pas2, k_pas3, k_sub1, k_sub2, k_sub3, k_sub4, k_ifT, k_ifF, k_ret, k_for, k_forSet, k_turnN, k_turnC, k_turnB, k_turnR, k_whT, k_whF, k_wh2N, k_wh2C, k_wh2B, k_wh2R, o_nxt, o_ret, v_add, v_sub, v_fdiv, v_mod, v_lt, v_le, v_gt, v_ge, v_eqI, v_neI, v_eqB, v_neB, v_isB, v_isnotB, v_lenT, v_lenL, v_abs, v_max2, v_min2, v_ixT, v_ixL, v_slL, v_slT, at_0, at_1, at_2, m_v0, m_v1, m_v2, m_v3, m_v4, m_v5, m_v6, m_v7, m_v8, m_v9, m_v10, m_v11, m_v12, m_v13, m_v14, m_v15, l_s0, l_s1, l_s2, l_s3, l_s4, l_s5, l_s6, l_s7, l_s8, l_s9, l_s10, l_s11, l_s12, l_s13, l_s14, l_s15, l_g0, l_g1, l_g2, l_g3, l_g4, l_g5, l_g6, l_g7, l_g8, l_g9, l_g10, l_g11, l_g12, l_g13, l_g14, l_g15, List.length_cons, List.length_nil, Option.map_some, Bool.not_true, Bool.not_false, if_true, decide_true, decide_false, ite_true, setTg, reduceIte, Nat.zero_add, lim, Nat.reduceLeDiff, List.nil_append, List.append_nil, String.reduceEq, or_false, or_true, or_self, Nat.zero_le, List.map_cons, List.map_nil, List.foldl_cons, List.foldl_nil, List.zip_cons_cons, List.zip_nil_left, u_tupL, u_tupT, u_lstL, u_lstT, u_intB, u_intI, u_rvsT, u_rvsL, t_tupT, t_boolB, t_intI, t_boolI, s1]) ?_
  have x0 : ixV [] (.lst (strV (hdT n :: ws.map wkT))) (.int 0) = some (.str (stL (hdT n))) := by
    show L2.atI _ _ = _
    rw [at_int _ (by decide)]
    rfl
  have s2 := split_hd (S := []) (n := n) (by omega) (by omega)
  refine wp_st (ρ1 := [some (.str (stL (bkT n ws))), some (.lst (strV (hdT n :: ws.map wkT))), some (.lst [.str (stL [104, 97, 110, 100, 115]), .str (stL (dgT n))]), none, none, none]) (S1 := []) (by
    generalize stL (bkT n ws) = Z at *
    generalize Val.lst (strV (hdT n :: ws.map wkT)) = L at *
    generalize Val.lst [.str (stL [104, 97, 110, 100, 115]), .str (stL (dgT n))] = L2 at *
    generalize stL (hdT n) = HD at *
    generalize stL [32] = SP at *
    simp only [m_non, m_yes, m_bl, m_int, m_str, m_tup, m_lst, m_bin, m_neg, m_cmp, m_chain, m_and, m_or, m_not, m_ite, m_call, m_callR, m_blt, m_isx, m_isi, m_ix, m_sl, m_comp, m_mth, m_rep, m_cat, m_u, m_rl1, m_rl2, m_gs, m_tx, m_gv, m_edcF, m_edcT, m_dsp, m_compL, m_turn, m_anil, m_acons, m_onil, m_part, m_rng, m_rng2, m_enum, m_zip, m_vals, k_tup, k_lst, k_mkT, k_mkF, k_bin1, k_bin2, k_of, k_neg, k_cmp1, k_cmp2, k_ch1, k_ch2, k_ch3T, k_ch3F, k_andT, k_andF, k_orT, k_orF, k_not, k_iteT, k_iteF, k_callR, k_call, k_blt, k_isi, k_ix1, k_ix2, k_sl1, k_sl2, k_sl3, k_part, k_cons1, k_cons2, k_comp1, k_comp2, k_mth1, k_mth2, k_mth3, k_rng1, k_enum, k_enumT, k_zip1, k_zipL, k_zipT, k_zipM1, k_zipM2, k_dsp1, k_dsp2, k_valsD, k_valsS, k_tx1, k_tx2, k_valsT, k_valsL, k_rep1, k_rep2, k_cat1, k_cat2, k_u, k_rl2, k_rl3, k_rlT, k_rlL, k_compL, k_trn1, k_trn2T, k_trn2F, k_trn3, w_nil, w_cons, s_forL, k_forL, k_forLT, k_forLF, s_nil, s_seq, s_expr, s_asg, s_par, s_unp, s_sub, s_pas, s_if, s_for, s_while, s_ret, s_raise, s_retN, s_pass, s_brk, s_cnt, k_seqN, k_seqR, k_seqB, k_seqC, k_expr, k_asg, k_par1, k_par2, k_unp, k_unp2, k_pas1, k_pas2, k_pas3, k_sub1, k_sub2, k_sub3, k_sub4, k_ifT, k_ifF, k_ret, k_for, k_forSet, k_turnN, k_turnC, k_turnB, k_turnR, k_whT, k_whF, k_wh2N, k_wh2C, k_wh2B, k_wh2R, o_nxt, o_ret, v_add, v_sub, v_fdiv, v_mod, v_lt, v_le, v_gt, v_ge, v_eqI, v_neI, v_eqB, v_neB, v_isB, v_isnotB, v_lenT, v_lenL, v_abs, v_max2, v_min2, v_ixT, v_ixL, v_slL, v_slT, at_0, at_1, at_2, m_v0, m_v1, m_v2, m_v3, m_v4, m_v5, m_v6, m_v7, m_v8, m_v9, m_v10, m_v11, m_v12, m_v13, m_v14, m_v15, l_s0, l_s1, l_s2, l_s3, l_s4, l_s5, l_s6, l_s7, l_s8, l_s9, l_s10, l_s11, l_s12, l_s13, l_s14, l_s15, l_g0, l_g1, l_g2, l_g3, l_g4, l_g5, l_g6, l_g7, l_g8, l_g9, l_g10, l_g11, l_g12, l_g13, l_g14, l_g15, List.length_cons, List.length_nil, Option.map_some, Bool.not_true, Bool.not_false, if_true, decide_true, decide_false, ite_true, setTg, reduceIte, Nat.zero_add, lim, Nat.reduceLeDiff, List.nil_append, List.append_nil, String.reduceEq, or_false, or_true, or_self, Nat.zero_le, List.map_cons, List.map_nil, List.foldl_cons, List.foldl_nil, List.zip_cons_cons, List.zip_nil_left, u_tupL, u_tupT, u_lstL, u_lstT, u_intB, u_intI, u_rvsT, u_rvsL, t_tupT, t_boolB, t_intI, t_boolI, x0, s2]) ?_
  have l2 : bltV [] .len [.lst [.str (stL [104, 97, 110, 100, 115]), .str (stL (dgT n))]] = some (.int 2) := rfl
  have y0 : ixV [] (.lst [.str (stL [104, 97, 110, 100, 115]), .str (stL (dgT n))]) (.int 0) = some (.str (stL [104, 97, 110, 100, 115])) := rfl
  have y1 : sliceV [] (.lst [.str (stL [104, 97, 110, 100, 115]), .str (stL (dgT n))]) (some 1) none = some (.lst (strV ([n].map dgT))) := rfl
  have e1 : cmpV [] .nes (.str (stL [104, 97, 110, 100, 115])) (.str (stL [104, 97, 110, 100, 115])) = some false := by
    rw [v_nesL, decide_eq_true rfl]
    rfl
  have q2 : ((2 : Int) == 2) = true := rfl
  have rn : callI (run P WW (k + 4)) _ _ _ _ = _ := c_readnumbers (k := k + 2) (S := []) (w := [n]) (fun i hi => by rw [List.mem_singleton.mp hi]; omega) (by show 1 ≤ 100; decide)
  have t0 : ixV [] (tI [n]) (.int 0) = some (.int n) := rfl
  refine wp_st (ρ1 := [some (.str (stL (bkT n ws))), some (.lst (strV (hdT n :: ws.map wkT))), some (.lst [.str (stL [104, 97, 110, 100, 115]), .str (stL (dgT n))]), none, none, none]) (S1 := []) (by
    generalize stL (bkT n ws) = Z at *
    generalize Val.lst (strV (hdT n :: ws.map wkT)) = L at *
    generalize Val.lst [.str (stL [104, 97, 110, 100, 115]), .str (stL (dgT n))] = L2 at *
    generalize stL [104, 97, 110, 100, 115] = HA at *
    simp only [m_non, m_yes, m_bl, m_int, m_str, m_tup, m_lst, m_bin, m_neg, m_cmp, m_chain, m_and, m_or, m_not, m_ite, m_call, m_callR, m_blt, m_isx, m_isi, m_ix, m_sl, m_comp, m_mth, m_rep, m_cat, m_u, m_rl1, m_rl2, m_gs, m_tx, m_gv, m_edcF, m_edcT, m_dsp, m_compL, m_turn, m_anil, m_acons, m_onil, m_part, m_rng, m_rng2, m_enum, m_zip, m_vals, k_tup, k_lst, k_mkT, k_mkF, k_bin1, k_bin2, k_of, k_neg, k_cmp1, k_cmp2, k_ch1, k_ch2, k_ch3T, k_ch3F, k_andT, k_andF, k_orT, k_orF, k_not, k_iteT, k_iteF, k_callR, k_call, k_blt, k_isi, k_ix1, k_ix2, k_sl1, k_sl2, k_sl3, k_part, k_cons1, k_cons2, k_comp1, k_comp2, k_mth1, k_mth2, k_mth3, k_rng1, k_enum, k_enumT, k_zip1, k_zipL, k_zipT, k_zipM1, k_zipM2, k_dsp1, k_dsp2, k_valsD, k_valsS, k_tx1, k_tx2, k_valsT, k_valsL, k_rep1, k_rep2, k_cat1, k_cat2, k_u, k_rl2, k_rl3, k_rlT, k_rlL, k_compL, k_trn1, k_trn2T, k_trn2F, k_trn3, w_nil, w_cons, s_forL, k_forL, k_forLT, k_forLF, s_nil, s_seq, s_expr, s_asg, s_par, s_unp, s_sub, s_pas, s_if, s_for, s_while, s_ret, s_raise, s_retN, s_pass, s_brk, s_cnt, k_seqN, k_seqR, k_seqB, k_seqC, k_expr, k_asg, k_par1, k_par2, k_unp, k_unp2, k_pas1, k_pas2, k_pas3, k_sub1, k_sub2, k_sub3, k_sub4, k_ifT, k_ifF, k_ret, k_for, k_forSet, k_turnN, k_turnC, k_turnB, k_turnR, k_whT, k_whF, k_wh2N, k_wh2C, k_wh2B, k_wh2R, o_nxt, o_ret, v_add, v_sub, v_fdiv, v_mod, v_lt, v_le, v_gt, v_ge, v_eqI, v_neI, v_eqB, v_neB, v_isB, v_isnotB, v_lenT, v_lenL, v_abs, v_max2, v_min2, v_ixT, v_ixL, v_slL, v_slT, at_0, at_1, at_2, m_v0, m_v1, m_v2, m_v3, m_v4, m_v5, m_v6, m_v7, m_v8, m_v9, m_v10, m_v11, m_v12, m_v13, m_v14, m_v15, l_s0, l_s1, l_s2, l_s3, l_s4, l_s5, l_s6, l_s7, l_s8, l_s9, l_s10, l_s11, l_s12, l_s13, l_s14, l_s15, l_g0, l_g1, l_g2, l_g3, l_g4, l_g5, l_g6, l_g7, l_g8, l_g9, l_g10, l_g11, l_g12, l_g13, l_g14, l_g15, List.length_cons, List.length_nil, Option.map_some, Bool.not_true, Bool.not_false, if_true, decide_true, decide_false, ite_true, setTg, reduceIte, Nat.zero_add, lim, Nat.reduceLeDiff, List.nil_append, List.append_nil, String.reduceEq, or_false, or_true, or_self, Nat.zero_le, List.map_cons, List.map_nil, List.foldl_cons, List.foldl_nil, List.zip_cons_cons, List.zip_nil_left, u_tupL, u_tupT, u_lstL, u_lstT, u_intB, u_intI, u_rvsT, u_rvsL, t_tupT, t_boolB, t_intI, t_boolI, l2, q2, y0, e1]) ?_
  refine wp_st (ρ1 := [some (.str (stL (bkT n ws))), some (.lst (strV (hdT n :: ws.map wkT))), some (.lst [.str (stL [104, 97, 110, 100, 115]), .str (stL (dgT n))]), some (.int n), none, none]) (S1 := []) (by
    generalize stL (bkT n ws) = Z at *
    generalize Val.lst (strV (hdT n :: ws.map wkT)) = L at *
    generalize Val.lst [.str (stL [104, 97, 110, 100, 115]), .str (stL (dgT n))] = L2 at *
    generalize Val.lst (strV ([n].map dgT)) = L3 at *
    generalize tI [n] = T at *
    simp only [m_non, m_yes, m_bl, m_int, m_str, m_tup, m_lst, m_bin, m_neg, m_cmp, m_chain, m_and, m_or, m_not, m_ite, m_call, m_callR, m_blt, m_isx, m_isi, m_ix, m_sl, m_comp, m_mth, m_rep, m_cat, m_u, m_rl1, m_rl2, m_gs, m_tx, m_gv, m_edcF, m_edcT, m_dsp, m_compL, m_turn, m_anil, m_acons, m_onil, m_part, m_rng, m_rng2, m_enum, m_zip, m_vals, k_tup, k_lst, k_mkT, k_mkF, k_bin1, k_bin2, k_of, k_neg, k_cmp1, k_cmp2, k_ch1, k_ch2, k_ch3T, k_ch3F, k_andT, k_andF, k_orT, k_orF, k_not, k_iteT, k_iteF, k_callR, k_call, k_blt, k_isi, k_ix1, k_ix2, k_sl1, k_sl2, k_sl3, k_part, k_cons1, k_cons2, k_comp1, k_comp2, k_mth1, k_mth2, k_mth3, k_rng1, k_enum, k_enumT, k_zip1, k_zipL, k_zipT, k_zipM1, k_zipM2, k_dsp1, k_dsp2, k_valsD, k_valsS, k_tx1, k_tx2, k_valsT, k_valsL, k_rep1, k_rep2, k_cat1, k_cat2, k_u, k_rl2, k_rl3, k_rlT, k_rlL, k_compL, k_trn1, k_trn2T, k_trn2F, k_trn3, w_nil, w_cons, s_forL, k_forL, k_forLT, k_forLF, s_nil, s_seq, s_expr, s_asg, s_par, s_unp, s_sub, s_pas, s_if, s_for, s_while, s_ret, s_raise, s_retN, s_pass, s_brk, s_cnt, k_seqN, k_seqR, k_seqB, k_seqC, k_expr, k_asg, k_par1, k_par2, k_unp, k_unp2, k_pas1, k_pas2, k_pas3, k_sub1, k_sub2, k_sub3, k_sub4, k_ifT, k_ifF, k_ret, k_for, k_forSet, k_turnN, k_turnC, k_turnB, k_turnR, k_whT, k_whF, k_wh2N, k_wh2C, k_wh2B, k_wh2R, o_nxt, o_ret, v_add, v_sub, v_fdiv, v_mod, v_lt, v_le, v_gt, v_ge, v_eqI, v_neI, v_eqB, v_neB, v_isB, v_isnotB, v_lenT, v_lenL, v_abs, v_max2, v_min2, v_ixT, v_ixL, v_slL, v_slT, at_0, at_1, at_2, m_v0, m_v1, m_v2, m_v3, m_v4, m_v5, m_v6, m_v7, m_v8, m_v9, m_v10, m_v11, m_v12, m_v13, m_v14, m_v15, l_s0, l_s1, l_s2, l_s3, l_s4, l_s5, l_s6, l_s7, l_s8, l_s9, l_s10, l_s11, l_s12, l_s13, l_s14, l_s15, l_g0, l_g1, l_g2, l_g3, l_g4, l_g5, l_g6, l_g7, l_g8, l_g9, l_g10, l_g11, l_g12, l_g13, l_g14, l_g15, List.length_cons, List.length_nil, Option.map_some, Bool.not_true, Bool.not_false, if_true, decide_true, decide_false, ite_true, setTg, reduceIte, Nat.zero_add, lim, Nat.reduceLeDiff, List.nil_append, List.append_nil, String.reduceEq, or_false, or_true, or_self, Nat.zero_le, List.map_cons, List.map_nil, List.foldl_cons, List.foldl_nil, List.zip_cons_cons, List.zip_nil_left, u_tupL, u_tupT, u_lstL, u_lstT, u_intB, u_intI, u_rvsT, u_rvsL, t_tupT, t_boolB, t_intI, t_boolI, y1, rn, t0]) ?_
  -- the works
  have e3 : cutL (strV (hdT n :: ws.map wkT)) (some 1) none = ws.map fun w => .str (stL (wkT w)) := by
    have := cut_from (strV (hdT n :: ws.map wkT)) 1
    have z : cutL (strV (hdT n :: ws.map wkT)) (some 1) none = (strV (hdT n :: ws.map wkT)).drop 1 := this
    rw [z]
    show strV (ws.map wkT) = _
    unfold strV
    rw [List.map_map, List.map_map]
    rfl
  have y2 : sliceV [] (.lst (strV (hdT n :: ws.map wkT))) (some 1) none = some (.lst (ws.map fun w => .str (stL (wkT w)))) := by
    show some (Val.lst (cutL (strV (hdT n :: ws.map wkT)) (some 1) none)) = _
    rw [e3]
  have kv : kVals (.ok (.lst (ws.map fun w => .str (stL (wkT w)))) []) = .ok (ws.map fun w => .str (stL (wkT w))) [] := rfl
  have h1 := comp_map (f := compTurn (callI (run P WW (k + 4))) (.nm 5) [("part", 5)] .yes e11_0 [some (.str (stL (bkT n ws))), some (.lst (strV (hdT n :: ws.map wkT))), some (.lst [.str (stL [104, 97, 110, 100, 115]), .str (stL (dgT n))]), some (.int n), none, none]) (S := []) tI (fun w => .str (stL (wkT w))) ws (fun w hw => by
    have gw := hB.ok w hw
    have sw := split_wk (S := []) gw n6
    have c : callI (run P WW (k + 4)) _ _ _ _ = _ := c_readnumbers (k := k + 2) (S := []) (w := w) (gw_dig gw n6) (by have := gw_len gw n6; omega)
    rw [m_turn]
    unfold e11_0
    rw [sp_lit]
    generalize stL (bkT n ws) = Z at *
    generalize Val.lst (strV (hdT n :: ws.map wkT)) = L at *
    generalize Val.lst [.str (stL [104, 97, 110, 100, 115]), .str (stL (dgT n))] = L2 at *
    generalize Val.lst (strV (w.map dgT)) = L3 at *
    generalize stL (wkT w) = WK at *
    generalize tI w = T at *
    generalize stL [32] = SP at *
    simp only [m_non, m_yes, m_bl, m_int, m_str, m_tup, m_lst, m_bin, m_neg, m_cmp, m_chain, m_and, m_or, m_not, m_ite, m_call, m_callR, m_blt, m_isx, m_isi, m_ix, m_sl, m_comp, m_mth, m_rep, m_cat, m_u, m_rl1, m_rl2, m_gs, m_tx, m_gv, m_edcF, m_edcT, m_dsp, m_compL, m_turn, m_anil, m_acons, m_onil, m_part, m_rng, m_rng2, m_enum, m_zip, m_vals, k_tup, k_lst, k_mkT, k_mkF, k_bin1, k_bin2, k_of, k_neg, k_cmp1, k_cmp2, k_ch1, k_ch2, k_ch3T, k_ch3F, k_andT, k_andF, k_orT, k_orF, k_not, k_iteT, k_iteF, k_callR, k_call, k_blt, k_isi, k_ix1, k_ix2, k_sl1, k_sl2, k_sl3, k_part, k_cons1, k_cons2, k_comp1, k_comp2, k_mth1, k_mth2, k_mth3, k_rng1, k_enum, k_enumT, k_zip1, k_zipL, k_zipT, k_zipM1, k_zipM2, k_dsp1, k_dsp2, k_valsD, k_valsS, k_tx1, k_tx2, k_valsT, k_valsL, k_rep1, k_rep2, k_cat1, k_cat2, k_u, k_rl2, k_rl3, k_rlT, k_rlL, k_compL, k_trn1, k_trn2T, k_trn2F, k_trn3, w_nil, w_cons, s_forL, k_forL, k_forLT, k_forLF, s_nil, s_seq, s_expr, s_asg, s_par, s_unp, s_sub, s_pas, s_if, s_for, s_while, s_ret, s_raise, s_retN, s_pass, s_brk, s_cnt, k_seqN, k_seqR, k_seqB, k_seqC, k_expr, k_asg, k_par1, k_par2, k_unp, k_unp2, k_pas1, k_pas2, k_pas3, k_sub1, k_sub2, k_sub3, k_sub4, k_ifT, k_ifF, k_ret, k_for, k_forSet, k_turnN, k_turnC, k_turnB, k_turnR, k_whT, k_whF, k_wh2N, k_wh2C, k_wh2B, k_wh2R, o_nxt, o_ret, v_add, v_sub, v_fdiv, v_mod, v_lt, v_le, v_gt, v_ge, v_eqI, v_neI, v_eqB, v_neB, v_isB, v_isnotB, v_lenT, v_lenL, v_abs, v_max2, v_min2, v_ixT, v_ixL, v_slL, v_slT, at_0, at_1, at_2, m_v0, m_v1, m_v2, m_v3, m_v4, m_v5, m_v6, m_v7, m_v8, m_v9, m_v10, m_v11, m_v12, m_v13, m_v14, m_v15, l_s0, l_s1, l_s2, l_s3, l_s4, l_s5, l_s6, l_s7, l_s8, l_s9, l_s10, l_s11, l_s12, l_s13, l_s14, l_s15, l_g0, l_g1, l_g2, l_g3, l_g4, l_g5, l_g6, l_g7, l_g8, l_g9, l_g10, l_g11, l_g12, l_g13, l_g14, l_g15, List.length_cons, List.length_nil, Option.map_some, Bool.not_true, Bool.not_false, if_true, decide_true, decide_false, ite_true, setTg, reduceIte, Nat.zero_add, lim, Nat.reduceLeDiff, List.nil_append, List.append_nil, String.reduceEq, or_false, or_true, or_self, Nat.zero_le, List.map_cons, List.map_nil, List.foldl_cons, List.foldl_nil, List.zip_cons_cons, List.zip_nil_left, u_tupL, u_tupT, u_lstL, u_lstT, u_intB, u_intI, u_rvsT, u_rvsL, t_tupT, t_boolB, t_intI, t_boolI, sw, c]) (by show _ ≤ 100000; omega)
  have ut : uV .tuple (.lst (ws.map tI)) [] = .ok (.tup (ws.map tI)) [] := rfl
  have tb : bookV n ws = .tup [.int n, .tup (ws.map tI)] := rfl
  have ib : callI (run P WW (k + 4)) _ _ _ _ = _ := c_isbook (k := k) (S := []) hB
  refine wp_st (ρ1 := [some (.str (stL (bkT n ws))), some (.lst (strV (hdT n :: ws.map wkT))), some (.lst [.str (stL [104, 97, 110, 100, 115]), .str (stL (dgT n))]), some (.int n), some (bookV n ws), none]) (S1 := []) (by
    rw [tb]
    generalize stL (bkT n ws) = Z at *
    generalize Val.lst (strV (hdT n :: ws.map wkT)) = L at *
    generalize Val.lst [.str (stL [104, 97, 110, 100, 115]), .str (stL (dgT n))] = L2 at *
    generalize Val.lst (ws.map fun w => Val.str (stL (wkT w))) = L3 at *
    generalize (ws.map fun w => Val.str (stL (wkT w))) = WT at *
    generalize Val.tup (ws.map tI) = T at *
    generalize ws.map tI = WI at *
    simp only [m_non, m_yes, m_bl, m_int, m_str, m_tup, m_lst, m_bin, m_neg, m_cmp, m_chain, m_and, m_or, m_not, m_ite, m_call, m_callR, m_blt, m_isx, m_isi, m_ix, m_sl, m_comp, m_mth, m_rep, m_cat, m_u, m_rl1, m_rl2, m_gs, m_tx, m_gv, m_edcF, m_edcT, m_dsp, m_compL, m_turn, m_anil, m_acons, m_onil, m_part, m_rng, m_rng2, m_enum, m_zip, m_vals, k_tup, k_lst, k_mkT, k_mkF, k_bin1, k_bin2, k_of, k_neg, k_cmp1, k_cmp2, k_ch1, k_ch2, k_ch3T, k_ch3F, k_andT, k_andF, k_orT, k_orF, k_not, k_iteT, k_iteF, k_callR, k_call, k_blt, k_isi, k_ix1, k_ix2, k_sl1, k_sl2, k_sl3, k_part, k_cons1, k_cons2, k_comp1, k_comp2, k_mth1, k_mth2, k_mth3, k_rng1, k_enum, k_enumT, k_zip1, k_zipL, k_zipT, k_zipM1, k_zipM2, k_dsp1, k_dsp2, k_valsD, k_valsS, k_tx1, k_tx2, k_valsT, k_valsL, k_rep1, k_rep2, k_cat1, k_cat2, k_u, k_rl2, k_rl3, k_rlT, k_rlL, k_compL, k_trn1, k_trn2T, k_trn2F, k_trn3, w_nil, w_cons, s_forL, k_forL, k_forLT, k_forLF, s_nil, s_seq, s_expr, s_asg, s_par, s_unp, s_sub, s_pas, s_if, s_for, s_while, s_ret, s_raise, s_retN, s_pass, s_brk, s_cnt, k_seqN, k_seqR, k_seqB, k_seqC, k_expr, k_asg, k_par1, k_par2, k_unp, k_unp2, k_pas1, k_pas2, k_pas3, k_sub1, k_sub2, k_sub3, k_sub4, k_ifT, k_ifF, k_ret, k_for, k_forSet, k_turnN, k_turnC, k_turnB, k_turnR, k_whT, k_whF, k_wh2N, k_wh2C, k_wh2B, k_wh2R, o_nxt, o_ret, v_add, v_sub, v_fdiv, v_mod, v_lt, v_le, v_gt, v_ge, v_eqI, v_neI, v_eqB, v_neB, v_isB, v_isnotB, v_lenT, v_lenL, v_abs, v_max2, v_min2, v_ixT, v_ixL, v_slL, v_slT, at_0, at_1, at_2, m_v0, m_v1, m_v2, m_v3, m_v4, m_v5, m_v6, m_v7, m_v8, m_v9, m_v10, m_v11, m_v12, m_v13, m_v14, m_v15, l_s0, l_s1, l_s2, l_s3, l_s4, l_s5, l_s6, l_s7, l_s8, l_s9, l_s10, l_s11, l_s12, l_s13, l_s14, l_s15, l_g0, l_g1, l_g2, l_g3, l_g4, l_g5, l_g6, l_g7, l_g8, l_g9, l_g10, l_g11, l_g12, l_g13, l_g14, l_g15, List.length_cons, List.length_nil, Option.map_some, Bool.not_true, Bool.not_false, if_true, decide_true, decide_false, ite_true, setTg, reduceIte, Nat.zero_add, lim, Nat.reduceLeDiff, List.nil_append, List.append_nil, String.reduceEq, or_false, or_true, or_self, Nat.zero_le, List.map_cons, List.map_nil, List.foldl_cons, List.foldl_nil, List.zip_cons_cons, List.zip_nil_left, u_tupL, u_tupT, u_lstL, u_lstT, u_intB, u_intI, u_rvsT, u_rvsL, t_tupT, t_boolB, t_intI, t_boolI, y2, kv, h1, k_comp2, k_mkF, ut]) ?_
  refine wp_st (ρ1 := [some (.str (stL (bkT n ws))), some (.lst (strV (hdT n :: ws.map wkT))), some (.lst [.str (stL [104, 97, 110, 100, 115]), .str (stL (dgT n))]), some (.int n), some (bookV n ws), none]) (S1 := []) (by
    generalize stL (bkT n ws) = Z at *
    generalize Val.lst (strV (hdT n :: ws.map wkT)) = L at *
    generalize Val.lst [.str (stL [104, 97, 110, 100, 115]), .str (stL (dgT n))] = L2 at *
    generalize bookV n ws = B at *
    simp only [m_non, m_yes, m_bl, m_int, m_str, m_tup, m_lst, m_bin, m_neg, m_cmp, m_chain, m_and, m_or, m_not, m_ite, m_call, m_callR, m_blt, m_isx, m_isi, m_ix, m_sl, m_comp, m_mth, m_rep, m_cat, m_u, m_rl1, m_rl2, m_gs, m_tx, m_gv, m_edcF, m_edcT, m_dsp, m_compL, m_turn, m_anil, m_acons, m_onil, m_part, m_rng, m_rng2, m_enum, m_zip, m_vals, k_tup, k_lst, k_mkT, k_mkF, k_bin1, k_bin2, k_of, k_neg, k_cmp1, k_cmp2, k_ch1, k_ch2, k_ch3T, k_ch3F, k_andT, k_andF, k_orT, k_orF, k_not, k_iteT, k_iteF, k_callR, k_call, k_blt, k_isi, k_ix1, k_ix2, k_sl1, k_sl2, k_sl3, k_part, k_cons1, k_cons2, k_comp1, k_comp2, k_mth1, k_mth2, k_mth3, k_rng1, k_enum, k_enumT, k_zip1, k_zipL, k_zipT, k_zipM1, k_zipM2, k_dsp1, k_dsp2, k_valsD, k_valsS, k_tx1, k_tx2, k_valsT, k_valsL, k_rep1, k_rep2, k_cat1, k_cat2, k_u, k_rl2, k_rl3, k_rlT, k_rlL, k_compL, k_trn1, k_trn2T, k_trn2F, k_trn3, w_nil, w_cons, s_forL, k_forL, k_forLT, k_forLF, s_nil, s_seq, s_expr, s_asg, s_par, s_unp, s_sub, s_pas, s_if, s_for, s_while, s_ret, s_raise, s_retN, s_pass, s_brk, s_cnt, k_seqN, k_seqR, k_seqB, k_seqC, k_expr, k_asg, k_par1, k_par2, k_unp, k_unp2, k_pas1, k_pas2, k_pas3, k_sub1, k_sub2, k_sub3, k_sub4, k_ifT, k_ifF, k_ret, k_for, k_forSet, k_turnN, k_turnC, k_turnB, k_turnR, k_whT, k_whF, k_wh2N, k_wh2C, k_wh2B, k_wh2R, o_nxt, o_ret, v_add, v_sub, v_fdiv, v_mod, v_lt, v_le, v_gt, v_ge, v_eqI, v_neI, v_eqB, v_neB, v_isB, v_isnotB, v_lenT, v_lenL, v_abs, v_max2, v_min2, v_ixT, v_ixL, v_slL, v_slT, at_0, at_1, at_2, m_v0, m_v1, m_v2, m_v3, m_v4, m_v5, m_v6, m_v7, m_v8, m_v9, m_v10, m_v11, m_v12, m_v13, m_v14, m_v15, l_s0, l_s1, l_s2, l_s3, l_s4, l_s5, l_s6, l_s7, l_s8, l_s9, l_s10, l_s11, l_s12, l_s13, l_s14, l_s15, l_g0, l_g1, l_g2, l_g3, l_g4, l_g5, l_g6, l_g7, l_g8, l_g9, l_g10, l_g11, l_g12, l_g13, l_g14, l_g15, List.length_cons, List.length_nil, Option.map_some, Bool.not_true, Bool.not_false, if_true, decide_true, decide_false, ite_true, setTg, reduceIte, Nat.zero_add, lim, Nat.reduceLeDiff, List.nil_append, List.append_nil, String.reduceEq, or_false, or_true, or_self, Nat.zero_le, List.map_cons, List.map_nil, List.foldl_cons, List.foldl_nil, List.zip_cons_cons, List.zip_nil_left, u_tupL, u_tupT, u_lstL, u_lstT, u_intB, u_intI, u_rvsT, u_rvsL, t_tupT, t_boolB, t_intI, t_boolI, ib]) ?_
  exact wp_ret (v := bookV n ws) (S1 := []) (by
    generalize stL (bkT n ws) = Z at *
    generalize Val.lst (strV (hdT n :: ws.map wkT)) = L at *
    generalize Val.lst [.str (stL [104, 97, 110, 100, 115]), .str (stL (dgT n))] = L2 at *
    generalize bookV n ws = B at *
    simp only [m_non, m_yes, m_bl, m_int, m_str, m_tup, m_lst, m_bin, m_neg, m_cmp, m_chain, m_and, m_or, m_not, m_ite, m_call, m_callR, m_blt, m_isx, m_isi, m_ix, m_sl, m_comp, m_mth, m_rep, m_cat, m_u, m_rl1, m_rl2, m_gs, m_tx, m_gv, m_edcF, m_edcT, m_dsp, m_compL, m_turn, m_anil, m_acons, m_onil, m_part, m_rng, m_rng2, m_enum, m_zip, m_vals, k_tup, k_lst, k_mkT, k_mkF, k_bin1, k_bin2, k_of, k_neg, k_cmp1, k_cmp2, k_ch1, k_ch2, k_ch3T, k_ch3F, k_andT, k_andF, k_orT, k_orF, k_not, k_iteT, k_iteF, k_callR, k_call, k_blt, k_isi, k_ix1, k_ix2, k_sl1, k_sl2, k_sl3, k_part, k_cons1, k_cons2, k_comp1, k_comp2, k_mth1, k_mth2, k_mth3, k_rng1, k_enum, k_enumT, k_zip1, k_zipL, k_zipT, k_zipM1, k_zipM2, k_dsp1, k_dsp2, k_valsD, k_valsS, k_tx1, k_tx2, k_valsT, k_valsL, k_rep1, k_rep2, k_cat1, k_cat2, k_u, k_rl2, k_rl3, k_rlT, k_rlL, k_compL, k_trn1, k_trn2T, k_trn2F, k_trn3, w_nil, w_cons, s_forL, k_forL, k_forLT, k_forLF, s_nil, s_seq, s_expr, s_asg, s_par, s_unp, s_sub, s_pas, s_if, s_for, s_while, s_ret, s_raise, s_retN, s_pass, s_brk, s_cnt, k_seqN, k_seqR, k_seqB, k_seqC, k_expr, k_asg, k_par1, k_par2, k_unp, k_unp2, k_pas1, k_pas2, k_pas3, k_sub1, k_sub2, k_sub3, k_sub4, k_ifT, k_ifF, k_ret, k_for, k_forSet, k_turnN, k_turnC, k_turnB, k_turnR, k_whT, k_whF, k_wh2N, k_wh2C, k_wh2B, k_wh2R, o_nxt, o_ret, v_add, v_sub, v_fdiv, v_mod, v_lt, v_le, v_gt, v_ge, v_eqI, v_neI, v_eqB, v_neB, v_isB, v_isnotB, v_lenT, v_lenL, v_abs, v_max2, v_min2, v_ixT, v_ixL, v_slL, v_slT, at_0, at_1, at_2, m_v0, m_v1, m_v2, m_v3, m_v4, m_v5, m_v6, m_v7, m_v8, m_v9, m_v10, m_v11, m_v12, m_v13, m_v14, m_v15, l_s0, l_s1, l_s2, l_s3, l_s4, l_s5, l_s6, l_s7, l_s8, l_s9, l_s10, l_s11, l_s12, l_s13, l_s14, l_s15, l_g0, l_g1, l_g2, l_g3, l_g4, l_g5, l_g6, l_g7, l_g8, l_g9, l_g10, l_g11, l_g12, l_g13, l_g14, l_g15, List.length_cons, List.length_nil, Option.map_some, Bool.not_true, Bool.not_false, if_true, decide_true, decide_false, ite_true, setTg, reduceIte, Nat.zero_add, lim, Nat.reduceLeDiff, List.nil_append, List.append_nil, String.reduceEq, or_false, or_true, or_self, Nat.zero_le, List.map_cons, List.map_nil, List.foldl_cons, List.foldl_nil, List.zip_cons_cons, List.zip_nil_left, u_tupL, u_tupT, u_lstL, u_lstT, u_intB, u_intI, u_rvsT, u_rvsL, t_tupT, t_boolB, t_intI, t_boolI]) ⟨rfl, rfl⟩
/-! ### fractions -/
theorem str_len {i : Int} (h : i.natAbs.log2 < 300) : (PySem.Str.ofString (toString i)).length ≤ 301 := by
  rw [PySem.ofString_length]
  exact PySem.int_text_length_le (by decide) h
theorem lg_of {i : Int} (h : i.natAbs < 2 ^ 300) : i.natAbs.log2 < 300 := by
  by_cases z : i.natAbs = 0
  · rw [z]; decide
  · exact (Nat.log2_lt z).mpr h
def sT (i : Int) : PySem.Str := PySem.Str.ofString (toString i)
theorem u_sT {S : Store} {i : Int} (h : i.natAbs < 2 ^ 300) : uV .str (.int i) S = .ok (.str (sT i)) S := u_str (Nat.lt_trans (lg_of h) (by decide))
theorem sT_len {i : Int} (h : i.natAbs < 2 ^ 300) : (sT i).length ≤ 301 := str_len (lg_of h)
theorem bar_lit : (PySem.Str.ofString "/") = stL [47] := by decide +kernel
theorem nil_lit : (PySem.Str.ofString "") = stL [] := by decide +kernel
theorem len_app (a b : PySem.Str) : (a ++ b : PySem.Str).length = a.length + b.length := by
  rw [← stL_eta a, ← stL_eta b, stL_app, stL_len, stL_len, stL_len, List.length_append]
theorem app_assoc (a b c : PySem.Str) : (a ++ b ++ c : PySem.Str) = a ++ (b ++ c) := by
  rw [← stL_eta a, ← stL_eta b, ← stL_eta c, stL_app, stL_app, stL_app, stL_app, List.append_assoc]
theorem app_nil (a : PySem.Str) : (a ++ stL [] : PySem.Str) = a := by
  rw [← stL_eta a, stL_app, List.append_nil]
/-- a fraction's text -/
def frT (a b : Int) : PySem.Str := if b = 1 then sT a else sT a ++ stL [47] ++ sT b
theorem c_showfraction {k : Nat} {S : Store} {a b : Int} (ha : a.natAbs < 2 ^ 300) (hb : b.natAbs < 2 ^ 300) : callI (run P WW (k + 1)) false 7 [.tup [.int a, .int b]] S = .ok (.str (frT a b)) S := by
  refine call_val (S' := []) rfl ?_ rfl
  rw [run_f (d := f7) rfl rfl]
  show (execS _ WW b7 [some (.tup [.int a, .int b])] []).res = _
  have x0 : ixV [] (.tup [.int a, .int b]) (.int 0) = some (.int a) := rfl
  have x1 : ixV [] (.tup [.int a, .int b]) (.int 1) = some (.int b) := rfl
  have ua := u_sT (S := []) ha
  have ub := u_sT (S := []) hb
  have la := sT_len ha
  have lb := sT_len hb
  have c1 := v_catS (a := sT a) (b := stL [47]) (by rw [stL_len]; show _ + 1 ≤ _; omega)
  have c2 := v_catS (a := sT a ++ stL [47]) (b := sT b) (by rw [len_app, stL_len]; show _ + 1 + _ ≤ _; omega)
  unfold b7 frT
  rw [bar_lit]
  by_cases h : b = 1
  · rw [if_pos h]
    have h := beq_t h
    generalize Val.tup [.int a, .int b] = T at *
    simp only [m_non, m_yes, m_bl, m_int, m_str, m_tup, m_lst, m_bin, m_neg, m_cmp, m_chain, m_and, m_or, m_not, m_ite, m_call, m_callR, m_blt, m_isx, m_isi, m_ix, m_sl, m_comp, m_mth, m_rep, m_cat, m_u, m_rl1, m_rl2, m_gs, m_tx, m_gv, m_edcF, m_edcT, m_dsp, m_compL, m_turn, m_anil, m_acons, m_onil, m_part, m_rng, m_rng2, m_enum, m_zip, m_vals, k_tup, k_lst, k_mkT, k_mkF, k_bin1, k_bin2, k_of, k_neg, k_cmp1, k_cmp2, k_ch1, k_ch2, k_ch3T, k_ch3F, k_andT, k_andF, k_orT, k_orF, k_not, k_iteT, k_iteF, k_callR, k_call, k_blt, k_isi, k_ix1, k_ix2, k_sl1, k_sl2, k_sl3, k_part, k_cons1, k_cons2, k_comp1, k_comp2, k_mth1, k_mth2, k_mth3, k_rng1, k_enum, k_enumT, k_zip1, k_zipL, k_zipT, k_zipM1, k_zipM2, k_dsp1, k_dsp2, k_valsD, k_valsS, k_tx1, k_tx2, k_valsT, k_valsL, k_rep1, k_rep2, k_cat1, k_cat2, k_u, k_rl2, k_rl3, k_rlT, k_rlL, k_compL, k_trn1, k_trn2T, k_trn2F, k_trn3, w_nil, w_cons, s_forL, k_forL, k_forLT, k_forLF, s_nil, s_seq, s_expr, s_asg, s_par, s_unp, s_sub, s_pas, s_if, s_for, s_while, s_ret, s_raise, s_retN, s_pass, s_brk, s_cnt, k_seqN, k_seqR, k_seqB, k_seqC, k_expr, k_asg, k_par1, k_par2, k_unp, k_unp2, k_pas1, k_pas2, k_pas3, k_sub1, k_sub2, k_sub3, k_sub4, k_ifT, k_ifF, k_ret, k_for, k_forSet, k_turnN, k_turnC, k_turnB, k_turnR, k_whT, k_whF, k_wh2N, k_wh2C, k_wh2B, k_wh2R, o_nxt, o_ret, v_add, v_sub, v_fdiv, v_mod, v_lt, v_le, v_gt, v_ge, v_eqI, v_neI, v_eqB, v_neB, v_isB, v_isnotB, v_lenT, v_lenL, v_abs, v_max2, v_min2, v_ixT, v_ixL, v_slL, v_slT, at_0, at_1, at_2, m_v0, m_v1, m_v2, m_v3, m_v4, m_v5, m_v6, m_v7, m_v8, m_v9, m_v10, m_v11, m_v12, m_v13, m_v14, m_v15, l_s0, l_s1, l_s2, l_s3, l_s4, l_s5, l_s6, l_s7, l_s8, l_s9, l_s10, l_s11, l_s12, l_s13, l_s14, l_s15, l_g0, l_g1, l_g2, l_g3, l_g4, l_g5, l_g6, l_g7, l_g8, l_g9, l_g10, l_g11, l_g12, l_g13, l_g14, l_g15, List.length_cons, List.length_nil, Option.map_some, Bool.not_true, Bool.not_false, if_true, decide_true, decide_false, ite_true, setTg, reduceIte, Nat.zero_add, lim, Nat.reduceLeDiff, List.nil_append, List.append_nil, String.reduceEq, or_false, or_true, or_self, Nat.zero_le, List.map_cons, List.map_nil, List.foldl_cons, List.foldl_nil, List.zip_cons_cons, List.zip_nil_left, u_tupL, u_tupT, u_lstL, u_lstT, u_intB, u_intI, u_rvsT, u_rvsL, t_tupT, t_boolB, t_intI, t_boolI, x0, x1, h, ua]
  · rw [if_neg h]
    have h := beq_f h
    generalize Val.tup [.int a, .int b] = T at *
    generalize sT a ++ stL [47] ++ sT b = Z at *
    generalize sT a ++ stL [47] = Z1 at *
    simp only [m_non, m_yes, m_bl, m_int, m_str, m_tup, m_lst, m_bin, m_neg, m_cmp, m_chain, m_and, m_or, m_not, m_ite, m_call, m_callR, m_blt, m_isx, m_isi, m_ix, m_sl, m_comp, m_mth, m_rep, m_cat, m_u, m_rl1, m_rl2, m_gs, m_tx, m_gv, m_edcF, m_edcT, m_dsp, m_compL, m_turn, m_anil, m_acons, m_onil, m_part, m_rng, m_rng2, m_enum, m_zip, m_vals, k_tup, k_lst, k_mkT, k_mkF, k_bin1, k_bin2, k_of, k_neg, k_cmp1, k_cmp2, k_ch1, k_ch2, k_ch3T, k_ch3F, k_andT, k_andF, k_orT, k_orF, k_not, k_iteT, k_iteF, k_callR, k_call, k_blt, k_isi, k_ix1, k_ix2, k_sl1, k_sl2, k_sl3, k_part, k_cons1, k_cons2, k_comp1, k_comp2, k_mth1, k_mth2, k_mth3, k_rng1, k_enum, k_enumT, k_zip1, k_zipL, k_zipT, k_zipM1, k_zipM2, k_dsp1, k_dsp2, k_valsD, k_valsS, k_tx1, k_tx2, k_valsT, k_valsL, k_rep1, k_rep2, k_cat1, k_cat2, k_u, k_rl2, k_rl3, k_rlT, k_rlL, k_compL, k_trn1, k_trn2T, k_trn2F, k_trn3, w_nil, w_cons, s_forL, k_forL, k_forLT, k_forLF, s_nil, s_seq, s_expr, s_asg, s_par, s_unp, s_sub, s_pas, s_if, s_for, s_while, s_ret, s_raise, s_retN, s_pass, s_brk, s_cnt, k_seqN, k_seqR, k_seqB, k_seqC, k_expr, k_asg, k_par1, k_par2, k_unp, k_unp2, k_pas1, k_pas2, k_pas3, k_sub1, k_sub2, k_sub3, k_sub4, k_ifT, k_ifF, k_ret, k_for, k_forSet, k_turnN, k_turnC, k_turnB, k_turnR, k_whT, k_whF, k_wh2N, k_wh2C, k_wh2B, k_wh2R, o_nxt, o_ret, v_add, v_sub, v_fdiv, v_mod, v_lt, v_le, v_gt, v_ge, v_eqI, v_neI, v_eqB, v_neB, v_isB, v_isnotB, v_lenT, v_lenL, v_abs, v_max2, v_min2, v_ixT, v_ixL, v_slL, v_slT, at_0, at_1, at_2, m_v0, m_v1, m_v2, m_v3, m_v4, m_v5, m_v6, m_v7, m_v8, m_v9, m_v10, m_v11, m_v12, m_v13, m_v14, m_v15, l_s0, l_s1, l_s2, l_s3, l_s4, l_s5, l_s6, l_s7, l_s8, l_s9, l_s10, l_s11, l_s12, l_s13, l_s14, l_s15, l_g0, l_g1, l_g2, l_g3, l_g4, l_g5, l_g6, l_g7, l_g8, l_g9, l_g10, l_g11, l_g12, l_g13, l_g14, l_g15, List.length_cons, List.length_nil, Option.map_some, Bool.not_true, Bool.not_false, if_true, decide_true, decide_false, ite_true, setTg, reduceIte, Nat.zero_add, lim, Nat.reduceLeDiff, List.nil_append, List.append_nil, String.reduceEq, or_false, or_true, or_self, Nat.zero_le, List.map_cons, List.map_nil, List.foldl_cons, List.foldl_nil, List.zip_cons_cons, List.zip_nil_left, u_tupL, u_tupT, u_lstL, u_lstT, u_intB, u_intI, u_rvsT, u_rvsL, t_tupT, t_boolB, t_intI, t_boolI, x0, x1, h, ua, c1, ub, c2]
/-- in lowest terms, as the law does it: below the same bound -/
theorem c_elow {k : Nat} {S : Store} {a b M : Int} (a0 : 0 ≤ a) (a1 : a ≤ M) (b0 : 0 < b) (b1 : b ≤ M) (hM : M < 10 ^ 70) : ∃ x y : Int, 0 ≤ x ∧ x ≤ M ∧ 0 ≤ y ∧ y ≤ M ∧ callI (run P WW (k + 1)) false 17 [.int a, .int b] S = .ok (.tup [.int x, .int y]) S := by
  suffices h : ∃ x y : Int, 0 ≤ x ∧ x ≤ M ∧ 0 ≤ y ∧ y ≤ M ∧ run P WW (k + 1) 17 [.int a, .int b] [] = .ok (.tup [.int x, .int y]) [] by
    obtain ⟨x, y, h1, h2, h3, h4, h5⟩ := h
    exact ⟨x, y, h1, h2, h3, h4, call_val rfl h5 rfl⟩
  rw [run_f (d := f17) rfl rfl]
  show ∃ x y : Int, 0 ≤ x ∧ x ≤ M ∧ 0 ≤ y ∧ y ≤ M ∧ (execS _ WW b17 [some (.int a), some (.int b), none, none] []).res = _
  suffices hw : Wp (execS (callI (run P WW k)) WW b17 [some (.int a), some (.int b), none, none] []) (Rt fun v S' => ∃ x y : Int, v = .tup [.int x, .int y] ∧ 0 ≤ x ∧ x ≤ M ∧ 0 ≤ y ∧ y ≤ M ∧ S' = []) by
    obtain ⟨v, S', h, x, y, rfl, h1, h2, h3, h4, rfl⟩ := wp_res hw
    exact ⟨x, y, h1, h2, h3, h4, h⟩
  unfold b17
  refine wp_st (ρ1 := [some (.int a), some (.int b), some (.int a), some (.int b)]) (S1 := []) (by simp only [m_non, m_yes, m_bl, m_int, m_str, m_tup, m_lst, m_bin, m_neg, m_cmp, m_chain, m_and, m_or, m_not, m_ite, m_call, m_callR, m_blt, m_isx, m_isi, m_ix, m_sl, m_comp, m_mth, m_rep, m_cat, m_u, m_rl1, m_rl2, m_gs, m_tx, m_gv, m_edcF, m_edcT, m_dsp, m_compL, m_turn, m_anil, m_acons, m_onil, m_part, m_rng, m_rng2, m_enum, m_zip, m_vals, k_tup, k_lst, k_mkT, k_mkF, k_bin1, k_bin2, k_of, k_neg, k_cmp1, k_cmp2, k_ch1, k_ch2, k_ch3T, k_ch3F, k_andT, k_andF, k_orT, k_orF, k_not, k_iteT, k_iteF, k_callR, k_call, k_blt, k_isi, k_ix1, k_ix2, k_sl1, k_sl2, k_sl3, k_part, k_cons1, k_cons2, k_comp1, k_comp2, k_mth1, k_mth2, k_mth3, k_rng1, k_enum, k_enumT, k_zip1, k_zipL, k_zipT, k_zipM1, k_zipM2, k_dsp1, k_dsp2, k_valsD, k_valsS, k_tx1, k_tx2, k_valsT, k_valsL, k_rep1, k_rep2, k_cat1, k_cat2, k_u, k_rl2, k_rl3, k_rlT, k_rlL, k_compL, k_trn1, k_trn2T, k_trn2F, k_trn3, w_nil, w_cons, s_forL, k_forL, k_forLT, k_forLF, s_nil, s_seq, s_expr, s_asg, s_par, s_unp, s_sub, s_pas, s_if, s_for, s_while, s_ret, s_raise, s_retN, s_pass, s_brk, s_cnt, k_seqN, k_seqR, k_seqB, k_seqC, k_expr, k_asg, k_par1, k_par2, k_unp, k_unp2, k_pas1, k_pas2, k_pas3, k_sub1, k_sub2, k_sub3, k_sub4, k_ifT, k_ifF, k_ret, k_for, k_forSet, k_turnN, k_turnC, k_turnB, k_turnR, k_whT, k_whF, k_wh2N, k_wh2C, k_wh2B, k_wh2R, o_nxt, o_ret, v_add, v_sub, v_fdiv, v_mod, v_lt, v_le, v_gt, v_ge, v_eqI, v_neI, v_eqB, v_neB, v_isB, v_isnotB, v_lenT, v_lenL, v_abs, v_max2, v_min2, v_ixT, v_ixL, v_slL, v_slT, at_0, at_1, at_2, m_v0, m_v1, m_v2, m_v3, m_v4, m_v5, m_v6, m_v7, m_v8, m_v9, m_v10, m_v11, m_v12, m_v13, m_v14, m_v15, l_s0, l_s1, l_s2, l_s3, l_s4, l_s5, l_s6, l_s7, l_s8, l_s9, l_s10, l_s11, l_s12, l_s13, l_s14, l_s15, l_g0, l_g1, l_g2, l_g3, l_g4, l_g5, l_g6, l_g7, l_g8, l_g9, l_g10, l_g11, l_g12, l_g13, l_g14, l_g15, List.length_cons, List.length_nil, Option.map_some, Bool.not_true, Bool.not_false, if_true, decide_true, decide_false, ite_true, setTg, reduceIte, Nat.zero_add, lim, Nat.reduceLeDiff, List.nil_append, List.append_nil, String.reduceEq, or_false, or_true, or_self, Nat.zero_le, List.map_cons, List.map_nil, List.foldl_cons, List.foldl_nil, List.zip_cons_cons, List.zip_nil_left, u_tupL, u_tupT, u_lstL, u_lstT, u_intB, u_intI, u_rvsT, u_rvsL, t_tupT, t_boolB, t_intI, t_boolI]) ?_
  refine wp_wh (fun ρ S => ∃ u v : Int, ρ = [some (.int a), some (.int b), some (.int u), some (.int v)] ∧ S = [] ∧ 0 ≤ u ∧ u ≤ M ∧ 0 ≤ v ∧ v ≤ M ∧ (v = 0 → 0 < u)) (fun (ρ : Env) S => match ρ[3]? with
    | some (some (Val.int v)) => v.toNat
    | _ => 0) ⟨a, b, rfl, rfl, a0, a1, by omega, b1, fun e => by omega⟩ ?_ ?_
  · show b.toNat < WW
    have h1 : b.toNat < 10 ^ 70 := by
      have : b < 10 ^ 70 := Int.lt_of_le_of_lt b1 hM
      omega
    exact Nat.lt_trans h1 (by decide +kernel)
  · rintro ρ S ⟨u, v, rfl, rfl, u0, u1, v0, v1, hv⟩
    refine ⟨v != 0, [], by simp only [m_non, m_yes, m_bl, m_int, m_str, m_tup, m_lst, m_bin, m_neg, m_cmp, m_chain, m_and, m_or, m_not, m_ite, m_call, m_callR, m_blt, m_isx, m_isi, m_ix, m_sl, m_comp, m_mth, m_rep, m_cat, m_u, m_rl1, m_rl2, m_gs, m_tx, m_gv, m_edcF, m_edcT, m_dsp, m_compL, m_turn, m_anil, m_acons, m_onil, m_part, m_rng, m_rng2, m_enum, m_zip, m_vals, k_tup, k_lst, k_mkT, k_mkF, k_bin1, k_bin2, k_of, k_neg, k_cmp1, k_cmp2, k_ch1, k_ch2, k_ch3T, k_ch3F, k_andT, k_andF, k_orT, k_orF, k_not, k_iteT, k_iteF, k_callR, k_call, k_blt, k_isi, k_ix1, k_ix2, k_sl1, k_sl2, k_sl3, k_part, k_cons1, k_cons2, k_comp1, k_comp2, k_mth1, k_mth2, k_mth3, k_rng1, k_enum, k_enumT, k_zip1, k_zipL, k_zipT, k_zipM1, k_zipM2, k_dsp1, k_dsp2, k_valsD, k_valsS, k_tx1, k_tx2, k_valsT, k_valsL, k_rep1, k_rep2, k_cat1, k_cat2, k_u, k_rl2, k_rl3, k_rlT, k_rlL, k_compL, k_trn1, k_trn2T, k_trn2F, k_trn3, w_nil, w_cons, s_forL, k_forL, k_forLT, k_forLF, s_nil, s_seq, s_expr, s_asg, s_par, s_unp, s_sub, s_pas, s_if, s_for, s_while, s_ret, s_raise, s_retN, s_pass, s_brk, s_cnt, k_seqN, k_seqR, k_seqB, k_seqC, k_expr, k_asg, k_par1, k_par2, k_unp, k_unp2, k_pas1, k_pas2, k_pas3, k_sub1, k_sub2, k_sub3, k_sub4, k_ifT, k_ifF, k_ret, k_for, k_forSet, k_turnN, k_turnC, k_turnB, k_turnR, k_whT, k_whF, k_wh2N, k_wh2C, k_wh2B, k_wh2R, o_nxt, o_ret, v_add, v_sub, v_fdiv, v_mod, v_lt, v_le, v_gt, v_ge, v_eqI, v_neI, v_eqB, v_neB, v_isB, v_isnotB, v_lenT, v_lenL, v_abs, v_max2, v_min2, v_ixT, v_ixL, v_slL, v_slT, at_0, at_1, at_2, m_v0, m_v1, m_v2, m_v3, m_v4, m_v5, m_v6, m_v7, m_v8, m_v9, m_v10, m_v11, m_v12, m_v13, m_v14, m_v15, l_s0, l_s1, l_s2, l_s3, l_s4, l_s5, l_s6, l_s7, l_s8, l_s9, l_s10, l_s11, l_s12, l_s13, l_s14, l_s15, l_g0, l_g1, l_g2, l_g3, l_g4, l_g5, l_g6, l_g7, l_g8, l_g9, l_g10, l_g11, l_g12, l_g13, l_g14, l_g15, List.length_cons, List.length_nil, Option.map_some, Bool.not_true, Bool.not_false, if_true, decide_true, decide_false, ite_true, setTg, reduceIte, Nat.zero_add, lim, Nat.reduceLeDiff, List.nil_append, List.append_nil, String.reduceEq, or_false, or_true, or_self, Nat.zero_le, List.map_cons, List.map_nil, List.foldl_cons, List.foldl_nil, List.zip_cons_cons, List.zip_nil_left, u_tupL, u_tupT, u_lstL, u_lstT, u_intB, u_intI, u_rvsT, u_rvsL, t_tupT, t_boolB, t_intI, t_boolI]; rfl, fun c => ?_, fun c => ?_⟩
    · have vn : v ≠ 0 := by simpa using c
      have vp : 0 < v := by omega
      have vm := v_mod u v vp
      have m0 := Int.emod_nonneg u vn
      have m1 := Int.emod_lt_of_pos u vp
      generalize u % v = w at vm m0 m1
      unfold b17_0
      refine wp_st (ρ1 := [some (.int a), some (.int b), some (.int v), some (.int w)]) (S1 := []) (by simp only [m_non, m_yes, m_bl, m_int, m_str, m_tup, m_lst, m_bin, m_neg, m_cmp, m_chain, m_and, m_or, m_not, m_ite, m_call, m_callR, m_blt, m_isx, m_isi, m_ix, m_sl, m_comp, m_mth, m_rep, m_cat, m_u, m_rl1, m_rl2, m_gs, m_tx, m_gv, m_edcF, m_edcT, m_dsp, m_compL, m_turn, m_anil, m_acons, m_onil, m_part, m_rng, m_rng2, m_enum, m_zip, m_vals, k_tup, k_lst, k_mkT, k_mkF, k_bin1, k_bin2, k_of, k_neg, k_cmp1, k_cmp2, k_ch1, k_ch2, k_ch3T, k_ch3F, k_andT, k_andF, k_orT, k_orF, k_not, k_iteT, k_iteF, k_callR, k_call, k_blt, k_isi, k_ix1, k_ix2, k_sl1, k_sl2, k_sl3, k_part, k_cons1, k_cons2, k_comp1, k_comp2, k_mth1, k_mth2, k_mth3, k_rng1, k_enum, k_enumT, k_zip1, k_zipL, k_zipT, k_zipM1, k_zipM2, k_dsp1, k_dsp2, k_valsD, k_valsS, k_tx1, k_tx2, k_valsT, k_valsL, k_rep1, k_rep2, k_cat1, k_cat2, k_u, k_rl2, k_rl3, k_rlT, k_rlL, k_compL, k_trn1, k_trn2T, k_trn2F, k_trn3, w_nil, w_cons, s_forL, k_forL, k_forLT, k_forLF, s_nil, s_seq, s_expr, s_asg, s_par, s_unp, s_sub, s_pas, s_if, s_for, s_while, s_ret, s_raise, s_retN, s_pass, s_brk, s_cnt, k_seqN, k_seqR, k_seqB, k_seqC, k_expr, k_asg, k_par1, k_par2, k_unp, k_unp2, k_pas1, k_pas2, k_pas3, k_sub1, k_sub2, k_sub3, k_sub4, k_ifT, k_ifF, k_ret, k_for, k_forSet, k_turnN, k_turnC, k_turnB, k_turnR, k_whT, k_whF, k_wh2N, k_wh2C, k_wh2B, k_wh2R, o_nxt, o_ret, v_add, v_sub, v_fdiv, v_mod, v_lt, v_le, v_gt, v_ge, v_eqI, v_neI, v_eqB, v_neB, v_isB, v_isnotB, v_lenT, v_lenL, v_abs, v_max2, v_min2, v_ixT, v_ixL, v_slL, v_slT, at_0, at_1, at_2, m_v0, m_v1, m_v2, m_v3, m_v4, m_v5, m_v6, m_v7, m_v8, m_v9, m_v10, m_v11, m_v12, m_v13, m_v14, m_v15, l_s0, l_s1, l_s2, l_s3, l_s4, l_s5, l_s6, l_s7, l_s8, l_s9, l_s10, l_s11, l_s12, l_s13, l_s14, l_s15, l_g0, l_g1, l_g2, l_g3, l_g4, l_g5, l_g6, l_g7, l_g8, l_g9, l_g10, l_g11, l_g12, l_g13, l_g14, l_g15, List.length_cons, List.length_nil, Option.map_some, Bool.not_true, Bool.not_false, if_true, decide_true, decide_false, ite_true, setTg, reduceIte, Nat.zero_add, lim, Nat.reduceLeDiff, List.nil_append, List.append_nil, String.reduceEq, or_false, or_true, or_self, Nat.zero_le, List.map_cons, List.map_nil, List.foldl_cons, List.foldl_nil, List.zip_cons_cons, List.zip_nil_left, u_tupL, u_tupT, u_lstL, u_lstT, u_intB, u_intI, u_rvsT, u_rvsL, t_tupT, t_boolB, t_intI, t_boolI, vm]) (wp_nil ⟨⟨v, w, rfl, rfl, v0, v1, m0, by omega, fun _ => vp⟩, ?_⟩)
      show w.toNat < v.toNat
      omega
    · have vn : v = 0 := by simpa using c
      have up := hv vn
      have lu : u.natAbs.log2 < 9000 := by
        by_cases z : u.natAbs = 0
        · rw [z]; decide
        · refine (Nat.log2_lt z).mpr ?_
          have h1 : u.natAbs < 10 ^ 70 := by
            have : u < 10 ^ 70 := Int.lt_of_le_of_lt u1 hM
            omega
          exact Nat.lt_trans h1 (by decide +kernel)
      have f1 := v_fdiv a u up lu
      have f2 := v_fdiv b u up lu
      have g1 : 0 ≤ a / u := Int.ediv_nonneg a0 (by omega)
      have g2 : a / u ≤ a := Int.ediv_le_self u a0
      have g3 : 0 ≤ b / u := Int.ediv_nonneg (by omega) (by omega)
      have g4 : b / u ≤ b := Int.ediv_le_self u (by omega)
      generalize a / u = x at *
      generalize b / u = y at *
      exact wp_ret (v := .tup [.int x, .int y]) (S1 := []) (by simp only [m_non, m_yes, m_bl, m_int, m_str, m_tup, m_lst, m_bin, m_neg, m_cmp, m_chain, m_and, m_or, m_not, m_ite, m_call, m_callR, m_blt, m_isx, m_isi, m_ix, m_sl, m_comp, m_mth, m_rep, m_cat, m_u, m_rl1, m_rl2, m_gs, m_tx, m_gv, m_edcF, m_edcT, m_dsp, m_compL, m_turn, m_anil, m_acons, m_onil, m_part, m_rng, m_rng2, m_enum, m_zip, m_vals, k_tup, k_lst, k_mkT, k_mkF, k_bin1, k_bin2, k_of, k_neg, k_cmp1, k_cmp2, k_ch1, k_ch2, k_ch3T, k_ch3F, k_andT, k_andF, k_orT, k_orF, k_not, k_iteT, k_iteF, k_callR, k_call, k_blt, k_isi, k_ix1, k_ix2, k_sl1, k_sl2, k_sl3, k_part, k_cons1, k_cons2, k_comp1, k_comp2, k_mth1, k_mth2, k_mth3, k_rng1, k_enum, k_enumT, k_zip1, k_zipL, k_zipT, k_zipM1, k_zipM2, k_dsp1, k_dsp2, k_valsD, k_valsS, k_tx1, k_tx2, k_valsT, k_valsL, k_rep1, k_rep2, k_cat1, k_cat2, k_u, k_rl2, k_rl3, k_rlT, k_rlL, k_compL, k_trn1, k_trn2T, k_trn2F, k_trn3, w_nil, w_cons, s_forL, k_forL, k_forLT, k_forLF, s_nil, s_seq, s_expr, s_asg, s_par, s_unp, s_sub, s_pas, s_if, s_for, s_while, s_ret, s_raise, s_retN, s_pass, s_brk, s_cnt, k_seqN, k_seqR, k_seqB, k_seqC, k_expr, k_asg, k_par1, k_par2, k_unp, k_unp2, k_pas1, k_pas2, k_pas3, k_sub1, k_sub2, k_sub3, k_sub4, k_ifT, k_ifF, k_ret, k_for, k_forSet, k_turnN, k_turnC, k_turnB, k_turnR, k_whT, k_whF, k_wh2N, k_wh2C, k_wh2B, k_wh2R, o_nxt, o_ret, v_add, v_sub, v_fdiv, v_mod, v_lt, v_le, v_gt, v_ge, v_eqI, v_neI, v_eqB, v_neB, v_isB, v_isnotB, v_lenT, v_lenL, v_abs, v_max2, v_min2, v_ixT, v_ixL, v_slL, v_slT, at_0, at_1, at_2, m_v0, m_v1, m_v2, m_v3, m_v4, m_v5, m_v6, m_v7, m_v8, m_v9, m_v10, m_v11, m_v12, m_v13, m_v14, m_v15, l_s0, l_s1, l_s2, l_s3, l_s4, l_s5, l_s6, l_s7, l_s8, l_s9, l_s10, l_s11, l_s12, l_s13, l_s14, l_s15, l_g0, l_g1, l_g2, l_g3, l_g4, l_g5, l_g6, l_g7, l_g8, l_g9, l_g10, l_g11, l_g12, l_g13, l_g14, l_g15, List.length_cons, List.length_nil, Option.map_some, Bool.not_true, Bool.not_false, if_true, decide_true, decide_false, ite_true, setTg, reduceIte, Nat.zero_add, lim, Nat.reduceLeDiff, List.nil_append, List.append_nil, String.reduceEq, or_false, or_true, or_self, Nat.zero_le, List.map_cons, List.map_nil, List.foldl_cons, List.foldl_nil, List.zip_cons_cons, List.zip_nil_left, u_tupL, u_tupT, u_lstL, u_lstT, u_intB, u_intI, u_rvsT, u_rvsL, t_tupT, t_boolB, t_intI, t_boolI, f1, f2]) ⟨x, y, rfl, g1, by omega, g3, by omega, rfl⟩
/-- all numbers of a book are whole -/
theorem c_ewhole {k : Nat} {S : Store} {n : Int} {ws : List (List Int)} (hB : GB n ws) : callI (run P WW (k + 1)) false 18 [bookV n ws] S = .ok (.bl true) S := by
  refine call_val (S' := []) (fr1 (book_free n ws)) ?_ rfl
  rw [run_f (d := f18) rfl rfl]
  show (execS _ WW b18 [some (bookV n ws), none, none, none] []).res = _
  suffices hw : Wp (execS (callI (run P WW k)) WW b18 [some (bookV n ws), none, none, none] []) (Rt fun v S' => v = .bl true ∧ S' = []) by
    obtain ⟨v, S', h1, rfl, rfl⟩ := wp_res hw
    exact h1
  have n6 := hB.n6
  have few := hB.few
  have b0 := book0 n ws []
  have b1 := book1 n ws []
  unfold b18
  refine wp_st (ρ1 := [some (bookV n ws), some (.lst ([n].map .int)), none, none]) (S1 := []) (by
    have e : Val.lst ([n].map .int) = .lst [.int n] := rfl
    rw [e]
    generalize bookV n ws = B at *
    simp only [m_non, m_yes, m_bl, m_int, m_str, m_tup, m_lst, m_bin, m_neg, m_cmp, m_chain, m_and, m_or, m_not, m_ite, m_call, m_callR, m_blt, m_isx, m_isi, m_ix, m_sl, m_comp, m_mth, m_rep, m_cat, m_u, m_rl1, m_rl2, m_gs, m_tx, m_gv, m_edcF, m_edcT, m_dsp, m_compL, m_turn, m_anil, m_acons, m_onil, m_part, m_rng, m_rng2, m_enum, m_zip, m_vals, k_tup, k_lst, k_mkT, k_mkF, k_bin1, k_bin2, k_of, k_neg, k_cmp1, k_cmp2, k_ch1, k_ch2, k_ch3T, k_ch3F, k_andT, k_andF, k_orT, k_orF, k_not, k_iteT, k_iteF, k_callR, k_call, k_blt, k_isi, k_ix1, k_ix2, k_sl1, k_sl2, k_sl3, k_part, k_cons1, k_cons2, k_comp1, k_comp2, k_mth1, k_mth2, k_mth3, k_rng1, k_enum, k_enumT, k_zip1, k_zipL, k_zipT, k_zipM1, k_zipM2, k_dsp1, k_dsp2, k_valsD, k_valsS, k_tx1, k_tx2, k_valsT, k_valsL, k_rep1, k_rep2, k_cat1, k_cat2, k_u, k_rl2, k_rl3, k_rlT, k_rlL, k_compL, k_trn1, k_trn2T, k_trn2F, k_trn3, w_nil, w_cons, s_forL, k_forL, k_forLT, k_forLF, s_nil, s_seq, s_expr, s_asg, s_par, s_unp, s_sub, s_pas, s_if, s_for, s_while, s_ret, s_raise, s_retN, s_pass, s_brk, s_cnt, k_seqN, k_seqR, k_seqB, k_seqC, k_expr, k_asg, k_par1, k_par2, k_unp, k_unp2, k_pas1, k_pas2, k_pas3, k_sub1, k_sub2, k_sub3, k_sub4, k_ifT, k_ifF, k_ret, k_for, k_forSet, k_turnN, k_turnC, k_turnB, k_turnR, k_whT, k_whF, k_wh2N, k_wh2C, k_wh2B, k_wh2R, o_nxt, o_ret, v_add, v_sub, v_fdiv, v_mod, v_lt, v_le, v_gt, v_ge, v_eqI, v_neI, v_eqB, v_neB, v_isB, v_isnotB, v_lenT, v_lenL, v_abs, v_max2, v_min2, v_ixT, v_ixL, v_slL, v_slT, at_0, at_1, at_2, m_v0, m_v1, m_v2, m_v3, m_v4, m_v5, m_v6, m_v7, m_v8, m_v9, m_v10, m_v11, m_v12, m_v13, m_v14, m_v15, l_s0, l_s1, l_s2, l_s3, l_s4, l_s5, l_s6, l_s7, l_s8, l_s9, l_s10, l_s11, l_s12, l_s13, l_s14, l_s15, l_g0, l_g1, l_g2, l_g3, l_g4, l_g5, l_g6, l_g7, l_g8, l_g9, l_g10, l_g11, l_g12, l_g13, l_g14, l_g15, List.length_cons, List.length_nil, Option.map_some, Bool.not_true, Bool.not_false, if_true, decide_true, decide_false, ite_true, setTg, reduceIte, Nat.zero_add, lim, Nat.reduceLeDiff, List.nil_append, List.append_nil, String.reduceEq, or_false, or_true, or_self, Nat.zero_le, List.map_cons, List.map_nil, List.foldl_cons, List.foldl_nil, List.zip_cons_cons, List.zip_nil_left, u_tupL, u_tupT, u_lstL, u_lstT, u_intB, u_intI, u_rvsT, u_rvsL, t_tupT, t_boolB, t_intI, t_boolI, b0, k_mkF]) ?_
  have kv : kVals (.ok (.tup (ws.map tI)) []) = .ok (ws.map tI) [] := rfl
  refine wp_forI (xs := ws.map tI) (S1 := []) (fun i ρ S => ∃ (l : List Int) (z2 : Option Val), ρ = [some (bookV n ws), some (.lst (l.map .int)), z2, none] ∧ S = [] ∧ l.length ≤ 1 + 6 * i) (by
    generalize Val.tup (ws.map tI) = W at *
    generalize ws.map tI = WI at *
    generalize bookV n ws = B at *
    simp only [m_non, m_yes, m_bl, m_int, m_str, m_tup, m_lst, m_bin, m_neg, m_cmp, m_chain, m_and, m_or, m_not, m_ite, m_call, m_callR, m_blt, m_isx, m_isi, m_ix, m_sl, m_comp, m_mth, m_rep, m_cat, m_u, m_rl1, m_rl2, m_gs, m_tx, m_gv, m_edcF, m_edcT, m_dsp, m_compL, m_turn, m_anil, m_acons, m_onil, m_part, m_rng, m_rng2, m_enum, m_zip, m_vals, k_tup, k_lst, k_mkT, k_mkF, k_bin1, k_bin2, k_of, k_neg, k_cmp1, k_cmp2, k_ch1, k_ch2, k_ch3T, k_ch3F, k_andT, k_andF, k_orT, k_orF, k_not, k_iteT, k_iteF, k_callR, k_call, k_blt, k_isi, k_ix1, k_ix2, k_sl1, k_sl2, k_sl3, k_part, k_cons1, k_cons2, k_comp1, k_comp2, k_mth1, k_mth2, k_mth3, k_rng1, k_enum, k_enumT, k_zip1, k_zipL, k_zipT, k_zipM1, k_zipM2, k_dsp1, k_dsp2, k_valsD, k_valsS, k_tx1, k_tx2, k_valsT, k_valsL, k_rep1, k_rep2, k_cat1, k_cat2, k_u, k_rl2, k_rl3, k_rlT, k_rlL, k_compL, k_trn1, k_trn2T, k_trn2F, k_trn3, w_nil, w_cons, s_forL, k_forL, k_forLT, k_forLF, s_nil, s_seq, s_expr, s_asg, s_par, s_unp, s_sub, s_pas, s_if, s_for, s_while, s_ret, s_raise, s_retN, s_pass, s_brk, s_cnt, k_seqN, k_seqR, k_seqB, k_seqC, k_expr, k_asg, k_par1, k_par2, k_unp, k_unp2, k_pas1, k_pas2, k_pas3, k_sub1, k_sub2, k_sub3, k_sub4, k_ifT, k_ifF, k_ret, k_for, k_forSet, k_turnN, k_turnC, k_turnB, k_turnR, k_whT, k_whF, k_wh2N, k_wh2C, k_wh2B, k_wh2R, o_nxt, o_ret, v_add, v_sub, v_fdiv, v_mod, v_lt, v_le, v_gt, v_ge, v_eqI, v_neI, v_eqB, v_neB, v_isB, v_isnotB, v_lenT, v_lenL, v_abs, v_max2, v_min2, v_ixT, v_ixL, v_slL, v_slT, at_0, at_1, at_2, m_v0, m_v1, m_v2, m_v3, m_v4, m_v5, m_v6, m_v7, m_v8, m_v9, m_v10, m_v11, m_v12, m_v13, m_v14, m_v15, l_s0, l_s1, l_s2, l_s3, l_s4, l_s5, l_s6, l_s7, l_s8, l_s9, l_s10, l_s11, l_s12, l_s13, l_s14, l_s15, l_g0, l_g1, l_g2, l_g3, l_g4, l_g5, l_g6, l_g7, l_g8, l_g9, l_g10, l_g11, l_g12, l_g13, l_g14, l_g15, List.length_cons, List.length_nil, Option.map_some, Bool.not_true, Bool.not_false, if_true, decide_true, decide_false, ite_true, setTg, reduceIte, Nat.zero_add, lim, Nat.reduceLeDiff, List.nil_append, List.append_nil, String.reduceEq, or_false, or_true, or_self, Nat.zero_le, List.map_cons, List.map_nil, List.foldl_cons, List.foldl_nil, List.zip_cons_cons, List.zip_nil_left, u_tupL, u_tupT, u_lstL, u_lstT, u_intB, u_intI, u_rvsT, u_rvsL, t_tupT, t_boolB, t_intI, t_boolI, b1, kv]) ⟨[n], _, rfl, rfl, Nat.le_refl _⟩ ?_ ?_
  · rintro i x ρ S hx ⟨l, z2, rfl, rfl, hl⟩
    rw [List.getElem?_map] at hx
    cases e : ws[i]? with
    | none => rw [e] at hx; cases hx
    | some w =>
      rw [e] at hx
      cases hx
      have hi := (List.getElem?_eq_some_iff.mp e).1
      have wl := gw_len (hB.ok w (List.mem_of_getElem? e)) n6
      refine ⟨_, rfl, ?_⟩
      unfold b18_0
      simp only [l_s0, l_s1, l_s2, l_s3, l_s4, l_s5, l_s6, l_s7, l_s8, l_s9, l_s10, l_s11, l_s12, l_s13, l_s14, l_s15, List.zip_cons_cons, List.zip_nil_left, List.foldl_cons, List.foldl_nil]
      have ul : uV (.list false) (tI w) [] = .ok (.lst (w.map .int)) [] := rfl
      have cl : binV .add (.lst (l.map .int)) (.lst (w.map .int)) = some (.lst ((l ++ w).map .int)) := by
        rw [v_catL (by rw [List.length_map, List.length_map]; omega), List.map_append]
      refine wp_st (ρ1 := [some (bookV n ws), some (.lst ((l ++ w).map .int)), some (tI w), none]) (S1 := []) (by
        generalize Val.lst ((l ++ w).map .int) = Z at *
        generalize Val.lst (l.map .int) = Z1 at *
        generalize Val.lst (w.map .int) = Z2 at *
        generalize tI w = T at *
        generalize bookV n ws = B at *
        simp only [m_non, m_yes, m_bl, m_int, m_str, m_tup, m_lst, m_bin, m_neg, m_cmp, m_chain, m_and, m_or, m_not, m_ite, m_call, m_callR, m_blt, m_isx, m_isi, m_ix, m_sl, m_comp, m_mth, m_rep, m_cat, m_u, m_rl1, m_rl2, m_gs, m_tx, m_gv, m_edcF, m_edcT, m_dsp, m_compL, m_turn, m_anil, m_acons, m_onil, m_part, m_rng, m_rng2, m_enum, m_zip, m_vals, k_tup, k_lst, k_mkT, k_mkF, k_bin1, k_bin2, k_of, k_neg, k_cmp1, k_cmp2, k_ch1, k_ch2, k_ch3T, k_ch3F, k_andT, k_andF, k_orT, k_orF, k_not, k_iteT, k_iteF, k_callR, k_call, k_blt, k_isi, k_ix1, k_ix2, k_sl1, k_sl2, k_sl3, k_part, k_cons1, k_cons2, k_comp1, k_comp2, k_mth1, k_mth2, k_mth3, k_rng1, k_enum, k_enumT, k_zip1, k_zipL, k_zipT, k_zipM1, k_zipM2, k_dsp1, k_dsp2, k_valsD, k_valsS, k_tx1, k_tx2, k_valsT, k_valsL, k_rep1, k_rep2, k_cat1, k_cat2, k_u, k_rl2, k_rl3, k_rlT, k_rlL, k_compL, k_trn1, k_trn2T, k_trn2F, k_trn3, w_nil, w_cons, s_forL, k_forL, k_forLT, k_forLF, s_nil, s_seq, s_expr, s_asg, s_par, s_unp, s_sub, s_pas, s_if, s_for, s_while, s_ret, s_raise, s_retN, s_pass, s_brk, s_cnt, k_seqN, k_seqR, k_seqB, k_seqC, k_expr, k_asg, k_par1, k_par2, k_unp, k_unp2, k_pas1, k_pas2, k_pas3, k_sub1, k_sub2, k_sub3, k_sub4, k_ifT, k_ifF, k_ret, k_for, k_forSet, k_turnN, k_turnC, k_turnB, k_turnR, k_whT, k_whF, k_wh2N, k_wh2C, k_wh2B, k_wh2R, o_nxt, o_ret, v_add, v_sub, v_fdiv, v_mod, v_lt, v_le, v_gt, v_ge, v_eqI, v_neI, v_eqB, v_neB, v_isB, v_isnotB, v_lenT, v_lenL, v_abs, v_max2, v_min2, v_ixT, v_ixL, v_slL, v_slT, at_0, at_1, at_2, m_v0, m_v1, m_v2, m_v3, m_v4, m_v5, m_v6, m_v7, m_v8, m_v9, m_v10, m_v11, m_v12, m_v13, m_v14, m_v15, l_s0, l_s1, l_s2, l_s3, l_s4, l_s5, l_s6, l_s7, l_s8, l_s9, l_s10, l_s11, l_s12, l_s13, l_s14, l_s15, l_g0, l_g1, l_g2, l_g3, l_g4, l_g5, l_g6, l_g7, l_g8, l_g9, l_g10, l_g11, l_g12, l_g13, l_g14, l_g15, List.length_cons, List.length_nil, Option.map_some, Bool.not_true, Bool.not_false, if_true, decide_true, decide_false, ite_true, setTg, reduceIte, Nat.zero_add, lim, Nat.reduceLeDiff, List.nil_append, List.append_nil, String.reduceEq, or_false, or_true, or_self, Nat.zero_le, List.map_cons, List.map_nil, List.foldl_cons, List.foldl_nil, List.zip_cons_cons, List.zip_nil_left, u_tupL, u_tupT, u_lstL, u_lstT, u_intB, u_intI, u_rvsT, u_rvsL, t_tupT, t_boolB, t_intI, t_boolI, ul, cl]) (wp_nil ⟨_, _, rfl, rfl, by rw [List.length_append]; omega⟩)
  · rintro ρ S ⟨l, z2, rfl, rfl, hl⟩
    rw [List.length_map] at hl
    have h1 := comp_bl (f := compTurn (callI (run P WW k)) (.nm 3) [("number", 3)] .yes e18_0 [some (bookV n ws), some (.lst (l.map .int)), z2, none]) (S := []) (fun _ => true) Val.int l (fun i hi => by
      have i1 : isT [] "int" (.int i) = some true := rfl
      rw [m_turn]
      unfold e18_0
      generalize Val.lst (l.map .int) = Z1 at *
      generalize bookV n ws = B at *
      simp only [m_non, m_yes, m_bl, m_int, m_str, m_tup, m_lst, m_bin, m_neg, m_cmp, m_chain, m_and, m_or, m_not, m_ite, m_call, m_callR, m_blt, m_isx, m_isi, m_ix, m_sl, m_comp, m_mth, m_rep, m_cat, m_u, m_rl1, m_rl2, m_gs, m_tx, m_gv, m_edcF, m_edcT, m_dsp, m_compL, m_turn, m_anil, m_acons, m_onil, m_part, m_rng, m_rng2, m_enum, m_zip, m_vals, k_tup, k_lst, k_mkT, k_mkF, k_bin1, k_bin2, k_of, k_neg, k_cmp1, k_cmp2, k_ch1, k_ch2, k_ch3T, k_ch3F, k_andT, k_andF, k_orT, k_orF, k_not, k_iteT, k_iteF, k_callR, k_call, k_blt, k_isi, k_ix1, k_ix2, k_sl1, k_sl2, k_sl3, k_part, k_cons1, k_cons2, k_comp1, k_comp2, k_mth1, k_mth2, k_mth3, k_rng1, k_enum, k_enumT, k_zip1, k_zipL, k_zipT, k_zipM1, k_zipM2, k_dsp1, k_dsp2, k_valsD, k_valsS, k_tx1, k_tx2, k_valsT, k_valsL, k_rep1, k_rep2, k_cat1, k_cat2, k_u, k_rl2, k_rl3, k_rlT, k_rlL, k_compL, k_trn1, k_trn2T, k_trn2F, k_trn3, w_nil, w_cons, s_forL, k_forL, k_forLT, k_forLF, s_nil, s_seq, s_expr, s_asg, s_par, s_unp, s_sub, s_pas, s_if, s_for, s_while, s_ret, s_raise, s_retN, s_pass, s_brk, s_cnt, k_seqN, k_seqR, k_seqB, k_seqC, k_expr, k_asg, k_par1, k_par2, k_unp, k_unp2, k_pas1, k_pas2, k_pas3, k_sub1, k_sub2, k_sub3, k_sub4, k_ifT, k_ifF, k_ret, k_for, k_forSet, k_turnN, k_turnC, k_turnB, k_turnR, k_whT, k_whF, k_wh2N, k_wh2C, k_wh2B, k_wh2R, o_nxt, o_ret, v_add, v_sub, v_fdiv, v_mod, v_lt, v_le, v_gt, v_ge, v_eqI, v_neI, v_eqB, v_neB, v_isB, v_isnotB, v_lenT, v_lenL, v_abs, v_max2, v_min2, v_ixT, v_ixL, v_slL, v_slT, at_0, at_1, at_2, m_v0, m_v1, m_v2, m_v3, m_v4, m_v5, m_v6, m_v7, m_v8, m_v9, m_v10, m_v11, m_v12, m_v13, m_v14, m_v15, l_s0, l_s1, l_s2, l_s3, l_s4, l_s5, l_s6, l_s7, l_s8, l_s9, l_s10, l_s11, l_s12, l_s13, l_s14, l_s15, l_g0, l_g1, l_g2, l_g3, l_g4, l_g5, l_g6, l_g7, l_g8, l_g9, l_g10, l_g11, l_g12, l_g13, l_g14, l_g15, List.length_cons, List.length_nil, Option.map_some, Bool.not_true, Bool.not_false, if_true, decide_true, decide_false, ite_true, setTg, reduceIte, Nat.zero_add, lim, Nat.reduceLeDiff, List.nil_append, List.append_nil, String.reduceEq, or_false, or_true, or_self, Nat.zero_le, List.map_cons, List.map_nil, List.foldl_cons, List.foldl_nil, List.zip_cons_cons, List.zip_nil_left, u_tupL, u_tupT, u_lstL, u_lstT, u_intB, u_intI, u_rvsT, u_rvsL, t_tupT, t_boolB, t_intI, t_boolI, i1]) (by omega)
    have a1 := u_all (S := []) (l.map fun _ => true)
    have a2 : (l.map fun _ => true).all id = true := by
      rw [List.all_eq_true]
      intro b hb
      obtain ⟨_, _, rfl⟩ := List.mem_map.mp hb
      rfl
    rw [a2] at a1
    have kl : kVals (.ok (.lst (l.map .int)) []) = .ok (l.map .int) [] := rfl
    exact wp_ret (v := .bl true) (S1 := []) (by
      generalize Val.lst (l.map .int) = Z1 at *
      generalize l.map Val.int = LI at *
      generalize (l.map fun _ => true).map Val.bl = BL at *
      generalize bookV n ws = B at *
      simp only [m_non, m_yes, m_bl, m_int, m_str, m_tup, m_lst, m_bin, m_neg, m_cmp, m_chain, m_and, m_or, m_not, m_ite, m_call, m_callR, m_blt, m_isx, m_isi, m_ix, m_sl, m_comp, m_mth, m_rep, m_cat, m_u, m_rl1, m_rl2, m_gs, m_tx, m_gv, m_edcF, m_edcT, m_dsp, m_compL, m_turn, m_anil, m_acons, m_onil, m_part, m_rng, m_rng2, m_enum, m_zip, m_vals, k_tup, k_lst, k_mkT, k_mkF, k_bin1, k_bin2, k_of, k_neg, k_cmp1, k_cmp2, k_ch1, k_ch2, k_ch3T, k_ch3F, k_andT, k_andF, k_orT, k_orF, k_not, k_iteT, k_iteF, k_callR, k_call, k_blt, k_isi, k_ix1, k_ix2, k_sl1, k_sl2, k_sl3, k_part, k_cons1, k_cons2, k_comp1, k_comp2, k_mth1, k_mth2, k_mth3, k_rng1, k_enum, k_enumT, k_zip1, k_zipL, k_zipT, k_zipM1, k_zipM2, k_dsp1, k_dsp2, k_valsD, k_valsS, k_tx1, k_tx2, k_valsT, k_valsL, k_rep1, k_rep2, k_cat1, k_cat2, k_u, k_rl2, k_rl3, k_rlT, k_rlL, k_compL, k_trn1, k_trn2T, k_trn2F, k_trn3, w_nil, w_cons, s_forL, k_forL, k_forLT, k_forLF, s_nil, s_seq, s_expr, s_asg, s_par, s_unp, s_sub, s_pas, s_if, s_for, s_while, s_ret, s_raise, s_retN, s_pass, s_brk, s_cnt, k_seqN, k_seqR, k_seqB, k_seqC, k_expr, k_asg, k_par1, k_par2, k_unp, k_unp2, k_pas1, k_pas2, k_pas3, k_sub1, k_sub2, k_sub3, k_sub4, k_ifT, k_ifF, k_ret, k_for, k_forSet, k_turnN, k_turnC, k_turnB, k_turnR, k_whT, k_whF, k_wh2N, k_wh2C, k_wh2B, k_wh2R, o_nxt, o_ret, v_add, v_sub, v_fdiv, v_mod, v_lt, v_le, v_gt, v_ge, v_eqI, v_neI, v_eqB, v_neB, v_isB, v_isnotB, v_lenT, v_lenL, v_abs, v_max2, v_min2, v_ixT, v_ixL, v_slL, v_slT, at_0, at_1, at_2, m_v0, m_v1, m_v2, m_v3, m_v4, m_v5, m_v6, m_v7, m_v8, m_v9, m_v10, m_v11, m_v12, m_v13, m_v14, m_v15, l_s0, l_s1, l_s2, l_s3, l_s4, l_s5, l_s6, l_s7, l_s8, l_s9, l_s10, l_s11, l_s12, l_s13, l_s14, l_s15, l_g0, l_g1, l_g2, l_g3, l_g4, l_g5, l_g6, l_g7, l_g8, l_g9, l_g10, l_g11, l_g12, l_g13, l_g14, l_g15, List.length_cons, List.length_nil, Option.map_some, Bool.not_true, Bool.not_false, if_true, decide_true, decide_false, ite_true, setTg, reduceIte, Nat.zero_add, lim, Nat.reduceLeDiff, List.nil_append, List.append_nil, String.reduceEq, or_false, or_true, or_self, Nat.zero_le, List.map_cons, List.map_nil, List.foldl_cons, List.foldl_nil, List.zip_cons_cons, List.zip_nil_left, u_tupL, u_tupT, u_lstL, u_lstT, u_intB, u_intI, u_rvsT, u_rvsL, t_tupT, t_boolB, t_intI, t_boolI, kl, h1, k_comp2, k_mkF, a1]) ⟨rfl, rfl⟩
/-! ### the law -/
section
variable {Φ : Option Bool → Nat → List Val → Store → R Val} {S : Store} {r0 r1 r2 r3 r4 r5 r6 r7 r8 r9 r10 r11 r12 r13 : Option Val}
theorem lw_0 {n : Int} {ws : List (List Int)} {Z : PySem.Str} (c1 : Φ (some false) 9 [bookV n ws] S = .ok (.str Z) S) (c2 : Φ (some false) 16 [bookV n ws] S = .ok (.str Z) S) (c3 : Φ (some false) 11 [.str Z] S = .ok (bookV n ws) S) (c4 : Φ (some false) 18 [bookV n ws] S = .ok (.bl true) S) (ne : cmpV S .ne (bookV n ws) (bookV n ws) = some false) (ti : isT S "tuple" (bookV n ws) = some true) :
    execS Φ WW b19_0 [r0, r1, r2, some (bookV n ws), r4, r5, r6, r7, r8, r9, r10, r11, r12, r13] S = .nxt [r0, r1, r2, some (bookV n ws), r4, r5, some (.str Z), some (bookV n ws), r8, r9, r10, r11, r12, r13] S := by
  have q := v_neS (S := S) Z
  have ts : isT S "str" (.str Z) = some true := rfl
  unfold b19_0
  generalize bookV n ws = B at *
  simp only [m_non, m_yes, m_bl, m_int, m_str, m_tup, m_lst, m_bin, m_neg, m_cmp, m_chain, m_and, m_or, m_not, m_ite, m_call, m_callR, m_blt, m_isx, m_isi, m_ix, m_sl, m_comp, m_mth, m_rep, m_cat, m_u, m_rl1, m_rl2, m_gs, m_tx, m_gv, m_edcF, m_edcT, m_dsp, m_compL, m_turn, m_anil, m_acons, m_onil, m_part, m_rng, m_rng2, m_enum, m_zip, m_vals, k_tup, k_lst, k_mkT, k_mkF, k_bin1, k_bin2, k_of, k_neg, k_cmp1, k_cmp2, k_ch1, k_ch2, k_ch3T, k_ch3F, k_andT, k_andF, k_orT, k_orF, k_not, k_iteT, k_iteF, k_callR, k_call, k_blt, k_isi, k_ix1, k_ix2, k_sl1, k_sl2, k_sl3, k_part, k_cons1, k_cons2, k_comp1, k_comp2, k_mth1, k_mth2, k_mth3, k_rng1, k_enum, k_enumT, k_zip1, k_zipL, k_zipT, k_zipM1, k_zipM2, k_dsp1, k_dsp2, k_valsD, k_valsS, k_tx1, k_tx2, k_valsT, k_valsL, k_rep1, k_rep2, k_cat1, k_cat2, k_u, k_rl2, k_rl3, k_rlT, k_rlL, k_compL, k_trn1, k_trn2T, k_trn2F, k_trn3, w_nil, w_cons, s_forL, k_forL, k_forLT, k_forLF, s_nil, s_seq, s_expr, s_asg, s_par, s_unp, s_sub, s_pas, s_if, s_for, s_while, s_ret, s_raise, s_retN, s_pass, s_brk, s_cnt, k_seqN, k_seqR, k_seqB, k_seqC, k_expr, k_asg, k_par1, k_par2, k_unp, k_unp2, k_pas1, k_pas2, k_pas3, k_sub1, k_sub2, k_sub3, k_sub4, k_ifT, k_ifF, k_ret, k_for, k_forSet, k_turnN, k_turnC, k_turnB, k_turnR, k_whT, k_whF, k_wh2N, k_wh2C, k_wh2B, k_wh2R, o_nxt, o_ret, v_add, v_sub, v_fdiv, v_mod, v_lt, v_le, v_gt, v_ge, v_eqI, v_neI, v_eqB, v_neB, v_isB, v_isnotB, v_lenT, v_lenL, v_abs, v_max2, v_min2, v_ixT, v_ixL, v_slL, v_slT, at_0, at_1, at_2, m_v0, m_v1, m_v2, m_v3, m_v4, m_v5, m_v6, m_v7, m_v8, m_v9, m_v10, m_v11, m_v12, m_v13, m_v14, m_v15, l_s0, l_s1, l_s2, l_s3, l_s4, l_s5, l_s6, l_s7, l_s8, l_s9, l_s10, l_s11, l_s12, l_s13, l_s14, l_s15, l_g0, l_g1, l_g2, l_g3, l_g4, l_g5, l_g6, l_g7, l_g8, l_g9, l_g10, l_g11, l_g12, l_g13, l_g14, l_g15, List.length_cons, List.length_nil, Option.map_some, Bool.not_true, Bool.not_false, if_true, decide_true, decide_false, ite_true, setTg, reduceIte, Nat.zero_add, lim, Nat.reduceLeDiff, List.nil_append, List.append_nil, String.reduceEq, or_false, or_true, or_self, Nat.zero_le, List.map_cons, List.map_nil, List.foldl_cons, List.foldl_nil, List.zip_cons_cons, List.zip_nil_left, u_tupL, u_tupT, u_lstL, u_lstT, u_intB, u_intI, u_rvsT, u_rvsL, t_tupT, t_boolB, t_intI, t_boolI, c1, c2, ts, q, c3, ne, ti, c4]
theorem lw_1 {a b : Int} (ha : a.natAbs < 2 ^ 300) (hb : b.natAbs < 2 ^ 300) (c1 : Φ (some false) 7 [.tup [.int a, .int b]] S = .ok (.str (frT a b)) S) :
    execS Φ WW b19_1 [r0, r1, r2, r3, r4, r5, r6, r7, r8, r9, some (.tup [.int a, .int b]), r11, r12, r13] S = .nxt [r0, r1, r2, r3, r4, r5, some (.str (frT a b)), r7, r8, r9, some (.tup [.int a, .int b]), r11, r12, some (.str (frT a b))] S := by
  have q := v_neS (S := S) (frT a b)
  have ts : isT S "str" (.str (frT a b)) = some true := rfl
  have x0 : ixV S (.tup [.int a, .int b]) (.int 0) = some (.int a) := rfl
  have x1 : ixV S (.tup [.int a, .int b]) (.int 1) = some (.int b) := rfl
  have ua := u_sT (S := S) ha
  have ub := u_sT (S := S) hb
  have la := sT_len ha
  have lb := sT_len hb
  have c2 := v_catS (a := stL [47]) (b := sT b) (by rw [stL_len]; show 1 + _ ≤ _; omega)
  have s1 : execS Φ WW (.asg 13 (.bin .add (.u .str (.ix (.var 10) (.int 0))) (.ix (.lst false (.cons (.bin .add (.str "/") (.u .str (.ix (.var 10) (.int 1)))) (.cons (.str "") .nil))) (.u .int (.cmp .eq (.ix (.var 10) (.int 1)) (.int 1)))))) [r0, r1, r2, r3, r4, r5, r6, r7, r8, r9, some (.tup [.int a, .int b]), r11, r12, r13] S = .nxt [r0, r1, r2, r3, r4, r5, r6, r7, r8, r9, some (.tup [.int a, .int b]), r11, r12, some (.str (frT a b))] S := by
    rw [bar_lit, nil_lit]
    by_cases h : b = 1
    · have e : frT a b = sT a := by unfold frT; rw [if_pos h]
      have c3 := v_catS (a := sT a) (b := stL []) (by rw [stL_len]; show _ + 0 ≤ _; omega)
      rw [app_nil] at c3
      have h := beq_t h
      have ui : uV .int (.bl true) S = .ok (.int 1) S := rfl
      have y : ∀ Z : PySem.Str, ixV S (.lst [.str Z, .str (stL [])]) (.int 1) = some (.str (stL [])) := fun _ => rfl
      rw [e]
      have y := y (stL [47] ++ sT b)
      generalize stL [47] ++ sT b = Z at *
      generalize Val.tup [.int a, .int b] = T at *
      generalize stL [] = NL at *
      generalize stL [47] = BA at *
      generalize sT a = SA at *
      generalize sT b = SB at *
      simp only [m_non, m_yes, m_bl, m_int, m_str, m_tup, m_lst, m_bin, m_neg, m_cmp, m_chain, m_and, m_or, m_not, m_ite, m_call, m_callR, m_blt, m_isx, m_isi, m_ix, m_sl, m_comp, m_mth, m_rep, m_cat, m_u, m_rl1, m_rl2, m_gs, m_tx, m_gv, m_edcF, m_edcT, m_dsp, m_compL, m_turn, m_anil, m_acons, m_onil, m_part, m_rng, m_rng2, m_enum, m_zip, m_vals, k_tup, k_lst, k_mkT, k_mkF, k_bin1, k_bin2, k_of, k_neg, k_cmp1, k_cmp2, k_ch1, k_ch2, k_ch3T, k_ch3F, k_andT, k_andF, k_orT, k_orF, k_not, k_iteT, k_iteF, k_callR, k_call, k_blt, k_isi, k_ix1, k_ix2, k_sl1, k_sl2, k_sl3, k_part, k_cons1, k_cons2, k_comp1, k_comp2, k_mth1, k_mth2, k_mth3, k_rng1, k_enum, k_enumT, k_zip1, k_zipL, k_zipT, k_zipM1, k_zipM2, k_dsp1, k_dsp2, k_valsD, k_valsS, k_tx1, k_tx2, k_valsT, k_valsL, k_rep1, k_rep2, k_cat1, k_cat2, k_u, k_rl2, k_rl3, k_rlT, k_rlL, k_compL, k_trn1, k_trn2T, k_trn2F, k_trn3, w_nil, w_cons, s_forL, k_forL, k_forLT, k_forLF, s_nil, s_seq, s_expr, s_asg, s_par, s_unp, s_sub, s_pas, s_if, s_for, s_while, s_ret, s_raise, s_retN, s_pass, s_brk, s_cnt, k_seqN, k_seqR, k_seqB, k_seqC, k_expr, k_asg, k_par1, k_par2, k_unp, k_unp2, k_pas1, k_pas2, k_pas3, k_sub1, k_sub2, k_sub3, k_sub4, k_ifT, k_ifF, k_ret, k_for, k_forSet, k_turnN, k_turnC, k_turnB, k_turnR, k_whT, k_whF, k_wh2N, k_wh2C, k_wh2B, k_wh2R, o_nxt, o_ret, v_add, v_sub, v_fdiv, v_mod, v_lt, v_le, v_gt, v_ge, v_eqI, v_neI, v_eqB, v_neB, v_isB, v_isnotB, v_lenT, v_lenL, v_abs, v_max2, v_min2, v_ixT, v_ixL, v_slL, v_slT, at_0, at_1, at_2, m_v0, m_v1, m_v2, m_v3, m_v4, m_v5, m_v6, m_v7, m_v8, m_v9, m_v10, m_v11, m_v12, m_v13, m_v14, m_v15, l_s0, l_s1, l_s2, l_s3, l_s4, l_s5, l_s6, l_s7, l_s8, l_s9, l_s10, l_s11, l_s12, l_s13, l_s14, l_s15, l_g0, l_g1, l_g2, l_g3, l_g4, l_g5, l_g6, l_g7, l_g8, l_g9, l_g10, l_g11, l_g12, l_g13, l_g14, l_g15, List.length_cons, List.length_nil, Option.map_some, Bool.not_true, Bool.not_false, if_true, decide_true, decide_false, ite_true, setTg, reduceIte, Nat.zero_add, lim, Nat.reduceLeDiff, List.nil_append, List.append_nil, String.reduceEq, or_false, or_true, or_self, Nat.zero_le, List.map_cons, List.map_nil, List.foldl_cons, List.foldl_nil, List.zip_cons_cons, List.zip_nil_left, u_tupL, u_tupT, u_lstL, u_lstT, u_intB, u_intI, u_rvsT, u_rvsL, t_tupT, t_boolB, t_intI, t_boolI, x0, x1, ua, ub, c2, k_mkF, h, ui, y, c3]
    · have e : frT a b = sT a ++ (stL [47] ++ sT b) := by unfold frT; rw [if_neg h, app_assoc]
      have c3 := v_catS (a := sT a) (b := stL [47] ++ sT b) (by rw [len_app, stL_len]; show _ + (1 + _) ≤ _; omega)
      have h := beq_f h
      have ui : uV .int (.bl false) S = .ok (.int 0) S := rfl
      have y : ∀ Z : PySem.Str, ixV S (.lst [.str Z, .str (stL [])]) (.int 0) = some (.str Z) := fun _ => rfl
      rw [e]
      have y := y (stL [47] ++ sT b)
      generalize hZ2 : sT a ++ (stL [47] ++ sT b) = Z2 at *
      generalize stL [47] ++ sT b = Z at *
      generalize Val.tup [.int a, .int b] = T at *
      generalize stL [] = NL at *
      generalize stL [47] = BA at *
      generalize sT a = SA at *
      generalize sT b = SB at *
      simp only [m_non, m_yes, m_bl, m_int, m_str, m_tup, m_lst, m_bin, m_neg, m_cmp, m_chain, m_and, m_or, m_not, m_ite, m_call, m_callR, m_blt, m_isx, m_isi, m_ix, m_sl, m_comp, m_mth, m_rep, m_cat, m_u, m_rl1, m_rl2, m_gs, m_tx, m_gv, m_edcF, m_edcT, m_dsp, m_compL, m_turn, m_anil, m_acons, m_onil, m_part, m_rng, m_rng2, m_enum, m_zip, m_vals, k_tup, k_lst, k_mkT, k_mkF, k_bin1, k_bin2, k_of, k_neg, k_cmp1, k_cmp2, k_ch1, k_ch2, k_ch3T, k_ch3F, k_andT, k_andF, k_orT, k_orF, k_not, k_iteT, k_iteF, k_callR, k_call, k_blt, k_isi, k_ix1, k_ix2, k_sl1, k_sl2, k_sl3, k_part, k_cons1, k_cons2, k_comp1, k_comp2, k_mth1, k_mth2, k_mth3, k_rng1, k_enum, k_enumT, k_zip1, k_zipL, k_zipT, k_zipM1, k_zipM2, k_dsp1, k_dsp2, k_valsD, k_valsS, k_tx1, k_tx2, k_valsT, k_valsL, k_rep1, k_rep2, k_cat1, k_cat2, k_u, k_rl2, k_rl3, k_rlT, k_rlL, k_compL, k_trn1, k_trn2T, k_trn2F, k_trn3, w_nil, w_cons, s_forL, k_forL, k_forLT, k_forLF, s_nil, s_seq, s_expr, s_asg, s_par, s_unp, s_sub, s_pas, s_if, s_for, s_while, s_ret, s_raise, s_retN, s_pass, s_brk, s_cnt, k_seqN, k_seqR, k_seqB, k_seqC, k_expr, k_asg, k_par1, k_par2, k_unp, k_unp2, k_pas1, k_pas2, k_pas3, k_sub1, k_sub2, k_sub3, k_sub4, k_ifT, k_ifF, k_ret, k_for, k_forSet, k_turnN, k_turnC, k_turnB, k_turnR, k_whT, k_whF, k_wh2N, k_wh2C, k_wh2B, k_wh2R, o_nxt, o_ret, v_add, v_sub, v_fdiv, v_mod, v_lt, v_le, v_gt, v_ge, v_eqI, v_neI, v_eqB, v_neB, v_isB, v_isnotB, v_lenT, v_lenL, v_abs, v_max2, v_min2, v_ixT, v_ixL, v_slL, v_slT, at_0, at_1, at_2, m_v0, m_v1, m_v2, m_v3, m_v4, m_v5, m_v6, m_v7, m_v8, m_v9, m_v10, m_v11, m_v12, m_v13, m_v14, m_v15, l_s0, l_s1, l_s2, l_s3, l_s4, l_s5, l_s6, l_s7, l_s8, l_s9, l_s10, l_s11, l_s12, l_s13, l_s14, l_s15, l_g0, l_g1, l_g2, l_g3, l_g4, l_g5, l_g6, l_g7, l_g8, l_g9, l_g10, l_g11, l_g12, l_g13, l_g14, l_g15, List.length_cons, List.length_nil, Option.map_some, Bool.not_true, Bool.not_false, if_true, decide_true, decide_false, ite_true, setTg, reduceIte, Nat.zero_add, lim, Nat.reduceLeDiff, List.nil_append, List.append_nil, String.reduceEq, or_false, or_true, or_self, Nat.zero_le, List.map_cons, List.map_nil, List.foldl_cons, List.foldl_nil, List.zip_cons_cons, List.zip_nil_left, u_tupL, u_tupT, u_lstL, u_lstT, u_intB, u_intI, u_rvsT, u_rvsL, t_tupT, t_boolB, t_intI, t_boolI, x0, x1, ua, ub, c2, k_mkF, h, ui, y, c3]
  unfold b19_1
  refine (q_seq s1).trans ?_
  generalize frT a b = Z at *
  generalize Val.tup [.int a, .int b] = T at *
  simp only [m_non, m_yes, m_bl, m_int, m_str, m_tup, m_lst, m_bin, m_neg, m_cmp, m_chain, m_and, m_or, m_not, m_ite, m_call, m_callR, m_blt, m_isx, m_isi, m_ix, m_sl, m_comp, m_mth, m_rep, m_cat, m_u, m_rl1, m_rl2, m_gs, m_tx, m_gv, m_edcF, m_edcT, m_dsp, m_compL, m_turn, m_anil, m_acons, m_onil, m_part, m_rng, m_rng2, m_enum, m_zip, m_vals, k_tup, k_lst, k_mkT, k_mkF, k_bin1, k_bin2, k_of, k_neg, k_cmp1, k_cmp2, k_ch1, k_ch2, k_ch3T, k_ch3F, k_andT, k_andF, k_orT, k_orF, k_not, k_iteT, k_iteF, k_callR, k_call, k_blt, k_isi, k_ix1, k_ix2, k_sl1, k_sl2, k_sl3, k_part, k_cons1, k_cons2, k_comp1, k_comp2, k_mth1, k_mth2, k_mth3, k_rng1, k_enum, k_enumT, k_zip1, k_zipL, k_zipT, k_zipM1, k_zipM2, k_dsp1, k_dsp2, k_valsD, k_valsS, k_tx1, k_tx2, k_valsT, k_valsL, k_rep1, k_rep2, k_cat1, k_cat2, k_u, k_rl2, k_rl3, k_rlT, k_rlL, k_compL, k_trn1, k_trn2T, k_trn2F, k_trn3, w_nil, w_cons, s_forL, k_forL, k_forLT, k_forLF, s_nil, s_seq, s_expr, s_asg, s_par, s_unp, s_sub, s_pas, s_if, s_for, s_while, s_ret, s_raise, s_retN, s_pass, s_brk, s_cnt, k_seqN, k_seqR, k_seqB, k_seqC, k_expr, k_asg, k_par1, k_par2, k_unp, k_unp2, k_pas1, k_pas2, k_pas3, k_sub1, k_sub2, k_sub3, k_sub4, k_ifT, k_ifF, k_ret, k_for, k_forSet, k_turnN, k_turnC, k_turnB, k_turnR, k_whT, k_whF, k_wh2N, k_wh2C, k_wh2B, k_wh2R, o_nxt, o_ret, v_add, v_sub, v_fdiv, v_mod, v_lt, v_le, v_gt, v_ge, v_eqI, v_neI, v_eqB, v_neB, v_isB, v_isnotB, v_lenT, v_lenL, v_abs, v_max2, v_min2, v_ixT, v_ixL, v_slL, v_slT, at_0, at_1, at_2, m_v0, m_v1, m_v2, m_v3, m_v4, m_v5, m_v6, m_v7, m_v8, m_v9, m_v10, m_v11, m_v12, m_v13, m_v14, m_v15, l_s0, l_s1, l_s2, l_s3, l_s4, l_s5, l_s6, l_s7, l_s8, l_s9, l_s10, l_s11, l_s12, l_s13, l_s14, l_s15, l_g0, l_g1, l_g2, l_g3, l_g4, l_g5, l_g6, l_g7, l_g8, l_g9, l_g10, l_g11, l_g12, l_g13, l_g14, l_g15, List.length_cons, List.length_nil, Option.map_some, Bool.not_true, Bool.not_false, if_true, decide_true, decide_false, ite_true, setTg, reduceIte, Nat.zero_add, lim, Nat.reduceLeDiff, List.nil_append, List.append_nil, String.reduceEq, or_false, or_true, or_self, Nat.zero_le, List.map_cons, List.map_nil, List.foldl_cons, List.foldl_nil, List.zip_cons_cons, List.zip_nil_left, u_tupL, u_tupT, u_lstL, u_lstT, u_intB, u_intI, u_rvsT, u_rvsL, t_tupT, t_boolB, t_intI, t_boolI, c1, ts, q]
end
/-- the fractions of a round -/
theorem lw_2 {k N m : Nat} {S : Store} {o : List Val} {r0 r2 r3 r4 r6 r7 r8 r9 r10 r11 r12 r13 : Option Val} (hm : S[m]? = some (.lst o)) (ho : Jr N o) (hN : N < 2 ^ 30) {M : Int} (M1 : 1 ≤ M) (hM : M < 10 ^ 60) (hl : M.natAbs.log2 < 9000) :
    Wp (execS (callI (run P WW (k + 6))) WW b19_2 [r0, some (.loc m), r2, r3, r4, some (.int M), r6, r7, r8, r9, r10, r11, r12, r13] S) ⟨fun ρ S' => (∃ u6 u8 u9 u10 u11 u12 u13, ρ = [r0, some (.loc m), r2, r3, r4, some (.int M), u6, r7, u8, u9, u10, u11, u12, u13]) ∧ ∃ o, S'[m]? = some (.lst o) ∧ Jr (N + 3) o, fun _ _ => False, fun _ _ => False, fun _ _ => False, fun _ _ => False⟩ := by
  obtain ⟨a, o1, a0, a1, ho1, t1⟩ := c_scoop (k := k + 4) hm ho (by omega) M (by omega) hl
  have t1 : callI (run P WW (k + 6)) false 13 [.loc m, .int M] S = .ok (.int a) (S.set m (.lst o1)) := t1
  have hm1 : (S.set m (.lst o1))[m]? = some (.lst o1) := by rw [List.getElem?_set, if_pos rfl, if_pos (List.getElem?_eq_some_iff.mp hm).1]
  generalize S.set m (.lst o1) = S1 at t1 hm1
  obtain ⟨b, o2, b0, b1, ho2, t2⟩ := c_scoop (k := k + 4) hm1 ho1 (by omega) M (by omega) hl
  have t2 : callI (run P WW (k + 6)) false 13 [.loc m, .int M] S1 = .ok (.int b) (S1.set m (.lst o2)) := t2
  have hm2 : (S1.set m (.lst o2))[m]? = some (.lst o2) := by rw [List.getElem?_set, if_pos rfl, if_pos (List.getElem?_eq_some_iff.mp hm1).1]
  generalize S1.set m (.lst o2) = S2 at t2 hm2
  obtain ⟨x, y, x0, x1, y0, y1, t3⟩ := c_elow (k := k + 5) (S := S2) (a := a) (b := 1 + b) (M := M) a0 (by omega) (by omega) (by omega) (Int.lt_trans hM (by decide))
  have t3 : callI (run P WW (k + 6)) false 17 [.int a, .int (1 + b)] S2 = .ok (.tup [.int x, .int y]) S2 := t3
  unfold b19_2
  refine wp_st (ρ1 := [r0, some (.loc m), r2, r3, r4, some (.int M), r6, r7, r8, r9, r10, some (.int x), some (.int y), r13]) (S1 := S2) (by simp only [m_non, m_yes, m_bl, m_int, m_str, m_tup, m_lst, m_bin, m_neg, m_cmp, m_chain, m_and, m_or, m_not, m_ite, m_call, m_callR, m_blt, m_isx, m_isi, m_ix, m_sl, m_comp, m_mth, m_rep, m_cat, m_u, m_rl1, m_rl2, m_gs, m_tx, m_gv, m_edcF, m_edcT, m_dsp, m_compL, m_turn, m_anil, m_acons, m_onil, m_part, m_rng, m_rng2, m_enum, m_zip, m_vals, k_tup, k_lst, k_mkT, k_mkF, k_bin1, k_bin2, k_of, k_neg, k_cmp1, k_cmp2, k_ch1, k_ch2, k_ch3T, k_ch3F, k_andT, k_andF, k_orT, k_orF, k_not, k_iteT, k_iteF, k_callR, k_call, k_blt, k_isi, k_ix1, k_ix2, k_sl1, k_sl2, k_sl3, k_part, k_cons1, k_cons2, k_comp1, k_comp2, k_mth1, k_mth2, k_mth3, k_rng1, k_enum, k_enumT, k_zip1, k_zipL, k_zipT, k_zipM1, k_zipM2, k_dsp1, k_dsp2, k_valsD, k_valsS, k_tx1, k_tx2, k_valsT, k_valsL, k_rep1, k_rep2, k_cat1, k_cat2, k_u, k_rl2, k_rl3, k_rlT, k_rlL, k_compL, k_trn1, k_trn2T, k_trn2F, k_trn3, w_nil, w_cons, s_forL, k_forL, k_forLT, k_forLF, s_nil, s_seq, s_expr, s_asg, s_par, s_unp, s_sub, s_pas, s_if, s_for, s_while, s_ret, s_raise, s_retN, s_pass, s_brk, s_cnt, k_seqN, k_seqR, k_seqB, k_seqC, k_expr, k_asg, k_par1, k_par2, k_unp, k_unp2, k_pas1, k_pas2, k_pas3, k_sub1, k_sub2, k_sub3, k_sub4, k_ifT, k_ifF, k_ret, k_for, k_forSet, k_turnN, k_turnC, k_turnB, k_turnR, k_whT, k_whF, k_wh2N, k_wh2C, k_wh2B, k_wh2R, o_nxt, o_ret, v_add, v_sub, v_fdiv, v_mod, v_lt, v_le, v_gt, v_ge, v_eqI, v_neI, v_eqB, v_neB, v_isB, v_isnotB, v_lenT, v_lenL, v_abs, v_max2, v_min2, v_ixT, v_ixL, v_slL, v_slT, at_0, at_1, at_2, m_v0, m_v1, m_v2, m_v3, m_v4, m_v5, m_v6, m_v7, m_v8, m_v9, m_v10, m_v11, m_v12, m_v13, m_v14, m_v15, l_s0, l_s1, l_s2, l_s3, l_s4, l_s5, l_s6, l_s7, l_s8, l_s9, l_s10, l_s11, l_s12, l_s13, l_s14, l_s15, l_g0, l_g1, l_g2, l_g3, l_g4, l_g5, l_g6, l_g7, l_g8, l_g9, l_g10, l_g11, l_g12, l_g13, l_g14, l_g15, List.length_cons, List.length_nil, Option.map_some, Bool.not_true, Bool.not_false, if_true, decide_true, decide_false, ite_true, setTg, reduceIte, Nat.zero_add, lim, Nat.reduceLeDiff, List.nil_append, List.append_nil, String.reduceEq, or_false, or_true, or_self, Nat.zero_le, List.map_cons, List.map_nil, List.foldl_cons, List.foldl_nil, List.zip_cons_cons, List.zip_nil_left, u_tupL, u_tupT, u_lstL, u_lstT, u_intB, u_intI, u_rvsT, u_rvsL, t_tupT, t_boolB, t_intI, t_boolI, t1, t2, t3]) ?_
  obtain ⟨q, o3, q0, q1, ho3, t4⟩ := c_scoop (k := k + 4) hm2 ho2 (by omega) 8 (by decide) (by decide)
  have t4 : callI (run P WW (k + 6)) false 13 [.loc m, .int 8] S2 = .ok (.int q) (S2.set m (.lst o3)) := t4
  have hm3 : (S2.set m (.lst o3))[m]? = some (.lst o3) := by rw [List.getElem?_set, if_pos rfl, if_pos (List.getElem?_eq_some_iff.mp hm2).1]
  generalize S2.set m (.lst o3) = S3 at t4 hm3
  refine wp_st (ρ1 := [r0, some (.loc m), r2, r3, r4, some (.int M), r6, r7, some (.int (2 + q)), r9, r10, some (.int x), some (.int y), r13]) (S1 := S3) (by simp only [m_non, m_yes, m_bl, m_int, m_str, m_tup, m_lst, m_bin, m_neg, m_cmp, m_chain, m_and, m_or, m_not, m_ite, m_call, m_callR, m_blt, m_isx, m_isi, m_ix, m_sl, m_comp, m_mth, m_rep, m_cat, m_u, m_rl1, m_rl2, m_gs, m_tx, m_gv, m_edcF, m_edcT, m_dsp, m_compL, m_turn, m_anil, m_acons, m_onil, m_part, m_rng, m_rng2, m_enum, m_zip, m_vals, k_tup, k_lst, k_mkT, k_mkF, k_bin1, k_bin2, k_of, k_neg, k_cmp1, k_cmp2, k_ch1, k_ch2, k_ch3T, k_ch3F, k_andT, k_andF, k_orT, k_orF, k_not, k_iteT, k_iteF, k_callR, k_call, k_blt, k_isi, k_ix1, k_ix2, k_sl1, k_sl2, k_sl3, k_part, k_cons1, k_cons2, k_comp1, k_comp2, k_mth1, k_mth2, k_mth3, k_rng1, k_enum, k_enumT, k_zip1, k_zipL, k_zipT, k_zipM1, k_zipM2, k_dsp1, k_dsp2, k_valsD, k_valsS, k_tx1, k_tx2, k_valsT, k_valsL, k_rep1, k_rep2, k_cat1, k_cat2, k_u, k_rl2, k_rl3, k_rlT, k_rlL, k_compL, k_trn1, k_trn2T, k_trn2F, k_trn3, w_nil, w_cons, s_forL, k_forL, k_forLT, k_forLF, s_nil, s_seq, s_expr, s_asg, s_par, s_unp, s_sub, s_pas, s_if, s_for, s_while, s_ret, s_raise, s_retN, s_pass, s_brk, s_cnt, k_seqN, k_seqR, k_seqB, k_seqC, k_expr, k_asg, k_par1, k_par2, k_unp, k_unp2, k_pas1, k_pas2, k_pas3, k_sub1, k_sub2, k_sub3, k_sub4, k_ifT, k_ifF, k_ret, k_for, k_forSet, k_turnN, k_turnC, k_turnB, k_turnR, k_whT, k_whF, k_wh2N, k_wh2C, k_wh2B, k_wh2R, o_nxt, o_ret, v_add, v_sub, v_fdiv, v_mod, v_lt, v_le, v_gt, v_ge, v_eqI, v_neI, v_eqB, v_neB, v_isB, v_isnotB, v_lenT, v_lenL, v_abs, v_max2, v_min2, v_ixT, v_ixL, v_slL, v_slT, at_0, at_1, at_2, m_v0, m_v1, m_v2, m_v3, m_v4, m_v5, m_v6, m_v7, m_v8, m_v9, m_v10, m_v11, m_v12, m_v13, m_v14, m_v15, l_s0, l_s1, l_s2, l_s3, l_s4, l_s5, l_s6, l_s7, l_s8, l_s9, l_s10, l_s11, l_s12, l_s13, l_s14, l_s15, l_g0, l_g1, l_g2, l_g3, l_g4, l_g5, l_g6, l_g7, l_g8, l_g9, l_g10, l_g11, l_g12, l_g13, l_g14, l_g15, List.length_cons, List.length_nil, Option.map_some, Bool.not_true, Bool.not_false, if_true, decide_true, decide_false, ite_true, setTg, reduceIte, Nat.zero_add, lim, Nat.reduceLeDiff, List.nil_append, List.append_nil, String.reduceEq, or_false, or_true, or_self, Nat.zero_le, List.map_cons, List.map_nil, List.foldl_cons, List.foldl_nil, List.zip_cons_cons, List.zip_nil_left, u_tupL, u_tupT, u_lstL, u_lstT, u_intB, u_intI, u_rvsT, u_rvsL, t_tupT, t_boolB, t_intI, t_boolI, t4]) ?_
  generalize hf : 2 + q = f
  have f1 := v_mul f x (mul_okL _ (by omega) (by omega))
  have f2 := v_mul f y (mul_okL _ (by omega) (by omega))
  refine wp_st (ρ1 := [r0, some (.loc m), r2, r3, r4, some (.int M), r6, r7, some (.int f), some (.lst [.tup [.int x, .int y], .tup [.int x, .int 1], .tup [.int 0, .int 1], .tup [.int y, .int 1]]), r10, some (.int x), some (.int y), r13]) (S1 := S3) (by simp only [m_non, m_yes, m_bl, m_int, m_str, m_tup, m_lst, m_bin, m_neg, m_cmp, m_chain, m_and, m_or, m_not, m_ite, m_call, m_callR, m_blt, m_isx, m_isi, m_ix, m_sl, m_comp, m_mth, m_rep, m_cat, m_u, m_rl1, m_rl2, m_gs, m_tx, m_gv, m_edcF, m_edcT, m_dsp, m_compL, m_turn, m_anil, m_acons, m_onil, m_part, m_rng, m_rng2, m_enum, m_zip, m_vals, k_tup, k_lst, k_mkT, k_mkF, k_bin1, k_bin2, k_of, k_neg, k_cmp1, k_cmp2, k_ch1, k_ch2, k_ch3T, k_ch3F, k_andT, k_andF, k_orT, k_orF, k_not, k_iteT, k_iteF, k_callR, k_call, k_blt, k_isi, k_ix1, k_ix2, k_sl1, k_sl2, k_sl3, k_part, k_cons1, k_cons2, k_comp1, k_comp2, k_mth1, k_mth2, k_mth3, k_rng1, k_enum, k_enumT, k_zip1, k_zipL, k_zipT, k_zipM1, k_zipM2, k_dsp1, k_dsp2, k_valsD, k_valsS, k_tx1, k_tx2, k_valsT, k_valsL, k_rep1, k_rep2, k_cat1, k_cat2, k_u, k_rl2, k_rl3, k_rlT, k_rlL, k_compL, k_trn1, k_trn2T, k_trn2F, k_trn3, w_nil, w_cons, s_forL, k_forL, k_forLT, k_forLF, s_nil, s_seq, s_expr, s_asg, s_par, s_unp, s_sub, s_pas, s_if, s_for, s_while, s_ret, s_raise, s_retN, s_pass, s_brk, s_cnt, k_seqN, k_seqR, k_seqB, k_seqC, k_expr, k_asg, k_par1, k_par2, k_unp, k_unp2, k_pas1, k_pas2, k_pas3, k_sub1, k_sub2, k_sub3, k_sub4, k_ifT, k_ifF, k_ret, k_for, k_forSet, k_turnN, k_turnC, k_turnB, k_turnR, k_whT, k_whF, k_wh2N, k_wh2C, k_wh2B, k_wh2R, o_nxt, o_ret, v_add, v_sub, v_fdiv, v_mod, v_lt, v_le, v_gt, v_ge, v_eqI, v_neI, v_eqB, v_neB, v_isB, v_isnotB, v_lenT, v_lenL, v_abs, v_max2, v_min2, v_ixT, v_ixL, v_slL, v_slT, at_0, at_1, at_2, m_v0, m_v1, m_v2, m_v3, m_v4, m_v5, m_v6, m_v7, m_v8, m_v9, m_v10, m_v11, m_v12, m_v13, m_v14, m_v15, l_s0, l_s1, l_s2, l_s3, l_s4, l_s5, l_s6, l_s7, l_s8, l_s9, l_s10, l_s11, l_s12, l_s13, l_s14, l_s15, l_g0, l_g1, l_g2, l_g3, l_g4, l_g5, l_g6, l_g7, l_g8, l_g9, l_g10, l_g11, l_g12, l_g13, l_g14, l_g15, List.length_cons, List.length_nil, Option.map_some, Bool.not_true, Bool.not_false, if_true, decide_true, decide_false, ite_true, setTg, reduceIte, Nat.zero_add, lim, Nat.reduceLeDiff, List.nil_append, List.append_nil, String.reduceEq, or_false, or_true, or_self, Nat.zero_le, List.map_cons, List.map_nil, List.foldl_cons, List.foldl_nil, List.zip_cons_cons, List.zip_nil_left, u_tupL, u_tupT, u_lstL, u_lstT, u_intB, u_intI, u_rvsT, u_rvsL, t_tupT, t_boolB, t_intI, t_boolI, k_mkF]) ?_
  have ca : binV .add (.lst [.tup [.int x, .int y], .tup [.int x, .int 1], .tup [.int 0, .int 1], .tup [.int y, .int 1]]) (.lst [.tup [.int (f * x), .int (f * y)], .tup [.int (f * x), .int f], .tup [.int 0, .int f]]) = some (.lst [.tup [.int x, .int y], .tup [.int x, .int 1], .tup [.int 0, .int 1], .tup [.int y, .int 1], .tup [.int (f * x), .int (f * y)], .tup [.int (f * x), .int f], .tup [.int 0, .int f]]) := rfl
  have bx : f * x ≤ 9 * x := Int.mul_le_mul_of_nonneg_right (by omega) x0
  have bx0 : 0 ≤ f * x := Int.mul_nonneg (by omega) x0
  have byy : f * y ≤ 9 * y := Int.mul_le_mul_of_nonneg_right (by omega) y0
  have by0 : 0 ≤ f * y := Int.mul_nonneg (by omega) y0
  generalize f * x = fx at *
  generalize f * y = fy at *
  refine wp_st (ρ1 := [r0, some (.loc m), r2, r3, r4, some (.int M), r6, r7, some (.int f), some (.lst [.tup [.int x, .int y], .tup [.int x, .int 1], .tup [.int 0, .int 1], .tup [.int y, .int 1], .tup [.int fx, .int fy], .tup [.int fx, .int f], .tup [.int 0, .int f]]), r10, some (.int x), some (.int y), r13]) (S1 := S3) (by
    generalize Val.lst [.tup [.int x, .int y], .tup [.int x, .int 1], .tup [.int 0, .int 1], .tup [.int y, .int 1], .tup [.int fx, .int fy], .tup [.int fx, .int f], .tup [.int 0, .int f]] = Z at *
    generalize Val.lst [.tup [.int x, .int y], .tup [.int x, .int 1], .tup [.int 0, .int 1], .tup [.int y, .int 1]] = Z1 at *
    simp only [m_non, m_yes, m_bl, m_int, m_str, m_tup, m_lst, m_bin, m_neg, m_cmp, m_chain, m_and, m_or, m_not, m_ite, m_call, m_callR, m_blt, m_isx, m_isi, m_ix, m_sl, m_comp, m_mth, m_rep, m_cat, m_u, m_rl1, m_rl2, m_gs, m_tx, m_gv, m_edcF, m_edcT, m_dsp, m_compL, m_turn, m_anil, m_acons, m_onil, m_part, m_rng, m_rng2, m_enum, m_zip, m_vals, k_tup, k_lst, k_mkT, k_mkF, k_bin1, k_bin2, k_of, k_neg, k_cmp1, k_cmp2, k_ch1, k_ch2, k_ch3T, k_ch3F, k_andT, k_andF, k_orT, k_orF, k_not, k_iteT, k_iteF, k_callR, k_call, k_blt, k_isi, k_ix1, k_ix2, k_sl1, k_sl2, k_sl3, k_part, k_cons1, k_cons2, k_comp1, k_comp2, k_mth1, k_mth2, k_mth3, k_rng1, k_enum, k_enumT, k_zip1, k_zipL, k_zipT, k_zipM1, k_zipM2, k_dsp1, k_dsp2, k_valsD, k_valsS, k_tx1, k_tx2, k_valsT, k_valsL, k_rep1, k_rep2, k_cat1, k_cat2, k_u, k_rl2, k_rl3, k_rlT, k_rlL, k_compL, k_trn1, k_trn2T, k_trn2F, k_trn3, w_nil, w_cons, s_forL, k_forL, k_forLT, k_forLF, s_nil, s_seq, s_expr, s_asg, s_par, s_unp, s_sub, s_pas, s_if, s_for, s_while, s_ret, s_raise, s_retN, s_pass, s_brk, s_cnt, k_seqN, k_seqR, k_seqB, k_seqC, k_expr, k_asg, k_par1, k_par2, k_unp, k_unp2, k_pas1, k_pas2, k_pas3, k_sub1, k_sub2, k_sub3, k_sub4, k_ifT, k_ifF, k_ret, k_for, k_forSet, k_turnN, k_turnC, k_turnB, k_turnR, k_whT, k_whF, k_wh2N, k_wh2C, k_wh2B, k_wh2R, o_nxt, o_ret, v_add, v_sub, v_fdiv, v_mod, v_lt, v_le, v_gt, v_ge, v_eqI, v_neI, v_eqB, v_neB, v_isB, v_isnotB, v_lenT, v_lenL, v_abs, v_max2, v_min2, v_ixT, v_ixL, v_slL, v_slT, at_0, at_1, at_2, m_v0, m_v1, m_v2, m_v3, m_v4, m_v5, m_v6, m_v7, m_v8, m_v9, m_v10, m_v11, m_v12, m_v13, m_v14, m_v15, l_s0, l_s1, l_s2, l_s3, l_s4, l_s5, l_s6, l_s7, l_s8, l_s9, l_s10, l_s11, l_s12, l_s13, l_s14, l_s15, l_g0, l_g1, l_g2, l_g3, l_g4, l_g5, l_g6, l_g7, l_g8, l_g9, l_g10, l_g11, l_g12, l_g13, l_g14, l_g15, List.length_cons, List.length_nil, Option.map_some, Bool.not_true, Bool.not_false, if_true, decide_true, decide_false, ite_true, setTg, reduceIte, Nat.zero_add, lim, Nat.reduceLeDiff, List.nil_append, List.append_nil, String.reduceEq, or_false, or_true, or_self, Nat.zero_le, List.map_cons, List.map_nil, List.foldl_cons, List.foldl_nil, List.zip_cons_cons, List.zip_nil_left, u_tupL, u_tupT, u_lstL, u_lstT, u_intB, u_intI, u_rvsT, u_rvsL, t_tupT, t_boolB, t_intI, t_boolI, f1, f2, k_mkF, ca]) ?_
  have big : ∀ i : Int, 0 ≤ i → i ≤ 9 * M → i.natAbs < 2 ^ 300 := fun i h0 h1 => by
    have h2 : i < 9 * 10 ^ 60 := by omega
    have h3 : i.natAbs < 9 * 10 ^ 60 := by omega
    exact Nat.lt_trans h3 (by decide +kernel)
  have all : ∀ v ∈ ([.tup [.int x, .int y], .tup [.int x, .int 1], .tup [.int 0, .int 1], .tup [.int y, .int 1], .tup [.int fx, .int fy], .tup [.int fx, .int f], .tup [.int 0, .int f]] : List Val), ∃ a b : Int, v = .tup [.int a, .int b] ∧ a.natAbs < 2 ^ 300 ∧ b.natAbs < 2 ^ 300 := fun v hv => by
    have B := big
    simp only [List.mem_cons, List.not_mem_nil, or_false] at hv
    rcases hv with rfl | rfl | rfl | rfl | rfl | rfl | rfl
    · exact ⟨_, _, rfl, B x x0 (by omega), B y y0 (by omega)⟩
    · exact ⟨_, _, rfl, B x x0 (by omega), B 1 (by decide) (by omega)⟩
    · exact ⟨_, _, rfl, B 0 (by decide) (by omega), B 1 (by decide) (by omega)⟩
    · exact ⟨_, _, rfl, B y y0 (by omega), B 1 (by decide) (by omega)⟩
    · exact ⟨_, _, rfl, B fx bx0 (by omega), B fy by0 (by omega)⟩
    · exact ⟨_, _, rfl, B fx bx0 (by omega), B f (by omega) (by omega)⟩
    · exact ⟨_, _, rfl, B 0 (by decide) (by omega), B f (by omega) (by omega)⟩
  generalize ([.tup [.int x, .int y], .tup [.int x, .int 1], .tup [.int 0, .int 1], .tup [.int y, .int 1], .tup [.int fx, .int fy], .tup [.int fx, .int f], .tup [.int 0, .int f]] : List Val) = Z at *
  refine wp_forD (xs := Z) (S1 := S3) [6, 10, 13] (fun S => S = S3) (by
    have kv : kVals (.ok (.lst Z) S3) = .ok Z S3 := rfl
    generalize Val.lst Z = ZL at *
    simp only [m_non, m_yes, m_bl, m_int, m_str, m_tup, m_lst, m_bin, m_neg, m_cmp, m_chain, m_and, m_or, m_not, m_ite, m_call, m_callR, m_blt, m_isx, m_isi, m_ix, m_sl, m_comp, m_mth, m_rep, m_cat, m_u, m_rl1, m_rl2, m_gs, m_tx, m_gv, m_edcF, m_edcT, m_dsp, m_compL, m_turn, m_anil, m_acons, m_onil, m_part, m_rng, m_rng2, m_enum, m_zip, m_vals, k_tup, k_lst, k_mkT, k_mkF, k_bin1, k_bin2, k_of, k_neg, k_cmp1, k_cmp2, k_ch1, k_ch2, k_ch3T, k_ch3F, k_andT, k_andF, k_orT, k_orF, k_not, k_iteT, k_iteF, k_callR, k_call, k_blt, k_isi, k_ix1, k_ix2, k_sl1, k_sl2, k_sl3, k_part, k_cons1, k_cons2, k_comp1, k_comp2, k_mth1, k_mth2, k_mth3, k_rng1, k_enum, k_enumT, k_zip1, k_zipL, k_zipT, k_zipM1, k_zipM2, k_dsp1, k_dsp2, k_valsD, k_valsS, k_tx1, k_tx2, k_valsT, k_valsL, k_rep1, k_rep2, k_cat1, k_cat2, k_u, k_rl2, k_rl3, k_rlT, k_rlL, k_compL, k_trn1, k_trn2T, k_trn2F, k_trn3, w_nil, w_cons, s_forL, k_forL, k_forLT, k_forLF, s_nil, s_seq, s_expr, s_asg, s_par, s_unp, s_sub, s_pas, s_if, s_for, s_while, s_ret, s_raise, s_retN, s_pass, s_brk, s_cnt, k_seqN, k_seqR, k_seqB, k_seqC, k_expr, k_asg, k_par1, k_par2, k_unp, k_unp2, k_pas1, k_pas2, k_pas3, k_sub1, k_sub2, k_sub3, k_sub4, k_ifT, k_ifF, k_ret, k_for, k_forSet, k_turnN, k_turnC, k_turnB, k_turnR, k_whT, k_whF, k_wh2N, k_wh2C, k_wh2B, k_wh2R, o_nxt, o_ret, v_add, v_sub, v_fdiv, v_mod, v_lt, v_le, v_gt, v_ge, v_eqI, v_neI, v_eqB, v_neB, v_isB, v_isnotB, v_lenT, v_lenL, v_abs, v_max2, v_min2, v_ixT, v_ixL, v_slL, v_slT, at_0, at_1, at_2, m_v0, m_v1, m_v2, m_v3, m_v4, m_v5, m_v6, m_v7, m_v8, m_v9, m_v10, m_v11, m_v12, m_v13, m_v14, m_v15, l_s0, l_s1, l_s2, l_s3, l_s4, l_s5, l_s6, l_s7, l_s8, l_s9, l_s10, l_s11, l_s12, l_s13, l_s14, l_s15, l_g0, l_g1, l_g2, l_g3, l_g4, l_g5, l_g6, l_g7, l_g8, l_g9, l_g10, l_g11, l_g12, l_g13, l_g14, l_g15, List.length_cons, List.length_nil, Option.map_some, Bool.not_true, Bool.not_false, if_true, decide_true, decide_false, ite_true, setTg, reduceIte, Nat.zero_add, lim, Nat.reduceLeDiff, List.nil_append, List.append_nil, String.reduceEq, or_false, or_true, or_self, Nat.zero_le, List.map_cons, List.map_nil, List.foldl_cons, List.foldl_nil, List.zip_cons_cons, List.zip_nil_left, u_tupL, u_tupT, u_lstL, u_lstT, u_intB, u_intI, u_rvsT, u_rvsL, t_tupT, t_boolB, t_intI, t_boolI, kv]) rfl ?_ ?_
  · rintro v hv ρ' S' ⟨u6, u10, u13, rfl⟩ rfl
    obtain ⟨a, b, rfl, ha, hb⟩ := all v hv
    refine ⟨_, rfl, ?_⟩
    simp only [l_s0, l_s1, l_s2, l_s3, l_s4, l_s5, l_s6, l_s7, l_s8, l_s9, l_s10, l_s11, l_s12, l_s13, l_s14, l_s15, List.zip_cons_cons, List.zip_nil_left, List.foldl_cons, List.foldl_nil]
    exact wp_of (lw_1 ha hb (c_showfraction (k := k + 5) ha hb)) ⟨⟨_, _, _, rfl⟩, rfl⟩
  · rintro ρ' S' ⟨u6, u10, u13, rfl⟩ rfl
    exact wp_nil ⟨⟨_, _, _, _, _, _, _, rfl⟩, o3, hm3, ho3⟩
theorem ip_bk (n : Int) (ws : List (List Int)) : ip 3 (bookV n ws) = true := by
  show (true && ((((ws.map tI).all (ip 1))) && true)) = true
  rw [ip_tIs]
  rfl
theorem law_run (ns : List Int) (h : ns.length ≤ 63) : ∃ S', run P WW WN 19 [.lst (ns.map Val.int)] [] = .ok (.bl true) S' := by
  suffices hk : ∀ k, ∃ S', run P WW (k + 6 + 1) 19 [.lst (ns.map Val.int)] [] = .ok (.bl true) S' from hk 33
  intro k
  rw [run_f (d := f19) rfl rfl]
  show ∃ S', (execS _ WW b19 [some (.lst (ns.map Val.int)), none, none, none, none, none, none, none, none, none, none, none, none, none] []).res = _
  suffices h : Wp (execS (callI (run P WW (k + 6))) WW b19 [some (.lst (ns.map Val.int)), none, none, none, none, none, none, none, none, none, none, none, none, none] []) (Rt fun v _ => v = .bl true) by
    obtain ⟨v, S', h1, rfl⟩ := wp_res h
    exact ⟨S', h1⟩
  have hT : Jr 0 (tpV ns 0 0) := ⟨ns, 0, 0, by decide, by decide, rfl⟩
  unfold tpV at hT
  generalize ns.map Val.int = A at hT ⊢
  unfold b19
  refine wp_st (ρ1 := [some (.lst A), some (.loc 0), none, none, none, none, none, none, none, none, none, none, none, none]) (S1 := [.lst [.lst A, .int 0, .int 0]]) (by simp only [m_non, m_yes, m_bl, m_int, m_str, m_tup, m_lst, m_bin, m_neg, m_cmp, m_chain, m_and, m_or, m_not, m_ite, m_call, m_callR, m_blt, m_isx, m_isi, m_ix, m_sl, m_comp, m_mth, m_rep, m_cat, m_u, m_rl1, m_rl2, m_gs, m_tx, m_gv, m_edcF, m_edcT, m_dsp, m_compL, m_turn, m_anil, m_acons, m_onil, m_part, m_rng, m_rng2, m_enum, m_zip, m_vals, k_tup, k_lst, k_mkT, k_mkF, k_bin1, k_bin2, k_of, k_neg, k_cmp1, k_cmp2, k_ch1, k_ch2, k_ch3T, k_ch3F, k_andT, k_andF, k_orT, k_orF, k_not, k_iteT, k_iteF, k_callR, k_call, k_blt, k_isi, k_ix1, k_ix2, k_sl1, k_sl2, k_sl3, k_part, k_cons1, k_cons2, k_comp1, k_comp2, k_mth1, k_mth2, k_mth3, k_rng1, k_enum, k_enumT, k_zip1, k_zipL, k_zipT, k_zipM1, k_zipM2, k_dsp1, k_dsp2, k_valsD, k_valsS, k_tx1, k_tx2, k_valsT, k_valsL, k_rep1, k_rep2, k_cat1, k_cat2, k_u, k_rl2, k_rl3, k_rlT, k_rlL, k_compL, k_trn1, k_trn2T, k_trn2F, k_trn3, w_nil, w_cons, s_forL, k_forL, k_forLT, k_forLF, s_nil, s_seq, s_expr, s_asg, s_par, s_unp, s_sub, s_pas, s_if, s_for, s_while, s_ret, s_raise, s_retN, s_pass, s_brk, s_cnt, k_seqN, k_seqR, k_seqB, k_seqC, k_expr, k_asg, k_par1, k_par2, k_unp, k_unp2, k_pas1, k_pas2, k_pas3, k_sub1, k_sub2, k_sub3, k_sub4, k_ifT, k_ifF, k_ret, k_for, k_forSet, k_turnN, k_turnC, k_turnB, k_turnR, k_whT, k_whF, k_wh2N, k_wh2C, k_wh2B, k_wh2R, o_nxt, o_ret, v_add, v_sub, v_fdiv, v_mod, v_lt, v_le, v_gt, v_ge, v_eqI, v_neI, v_eqB, v_neB, v_isB, v_isnotB, v_lenT, v_lenL, v_abs, v_max2, v_min2, v_ixT, v_ixL, v_slL, v_slT, at_0, at_1, at_2, m_v0, m_v1, m_v2, m_v3, m_v4, m_v5, m_v6, m_v7, m_v8, m_v9, m_v10, m_v11, m_v12, m_v13, m_v14, m_v15, l_s0, l_s1, l_s2, l_s3, l_s4, l_s5, l_s6, l_s7, l_s8, l_s9, l_s10, l_s11, l_s12, l_s13, l_s14, l_s15, l_g0, l_g1, l_g2, l_g3, l_g4, l_g5, l_g6, l_g7, l_g8, l_g9, l_g10, l_g11, l_g12, l_g13, l_g14, l_g15, List.length_cons, List.length_nil, Option.map_some, Bool.not_true, Bool.not_false, if_true, decide_true, decide_false, ite_true, setTg, reduceIte, Nat.zero_add, lim, Nat.reduceLeDiff, List.nil_append, List.append_nil, String.reduceEq, or_false, or_true, or_self, Nat.zero_le, List.map_cons, List.map_nil, List.foldl_cons, List.foldl_nil, List.zip_cons_cons, List.zip_nil_left, u_tupL, u_tupT, u_lstL, u_lstT, u_intB, u_intI, u_rvsT, u_rvsL, t_tupT, t_boolB, t_intI, t_boolI, k_mkT]) ?_
  have hb := rg1 (S := [.lst [.lst A, .int 0, .int 0]]) (n := 5) (by decide)
  rw [upTo_V] at hb
  have fin : ∀ (S : Store) (r2 r3 r4 r5 r6 r7 r8 r9 r10 r11 r12 r13 : Option Val), Wp (execS (callI (run P WW (k + 6))) WW (.seq (.ret (.bl true)) .nil) [some (.lst A), some (.loc 0), r2, r3, r4, r5, r6, r7, r8, r9, r10, r11, r12, r13] S) (Rt fun v _ => v = .bl true) := fun S _ _ _ _ _ _ _ _ _ _ _ _ => wp_ret (v := .bl true) (S1 := S) (by simp only [m_non, m_yes, m_bl, m_int, m_str, m_tup, m_lst, m_bin, m_neg, m_cmp, m_chain, m_and, m_or, m_not, m_ite, m_call, m_callR, m_blt, m_isx, m_isi, m_ix, m_sl, m_comp, m_mth, m_rep, m_cat, m_u, m_rl1, m_rl2, m_gs, m_tx, m_gv, m_edcF, m_edcT, m_dsp, m_compL, m_turn, m_anil, m_acons, m_onil, m_part, m_rng, m_rng2, m_enum, m_zip, m_vals, k_tup, k_lst, k_mkT, k_mkF, k_bin1, k_bin2, k_of, k_neg, k_cmp1, k_cmp2, k_ch1, k_ch2, k_ch3T, k_ch3F, k_andT, k_andF, k_orT, k_orF, k_not, k_iteT, k_iteF, k_callR, k_call, k_blt, k_isi, k_ix1, k_ix2, k_sl1, k_sl2, k_sl3, k_part, k_cons1, k_cons2, k_comp1, k_comp2, k_mth1, k_mth2, k_mth3, k_rng1, k_enum, k_enumT, k_zip1, k_zipL, k_zipT, k_zipM1, k_zipM2, k_dsp1, k_dsp2, k_valsD, k_valsS, k_tx1, k_tx2, k_valsT, k_valsL, k_rep1, k_rep2, k_cat1, k_cat2, k_u, k_rl2, k_rl3, k_rlT, k_rlL, k_compL, k_trn1, k_trn2T, k_trn2F, k_trn3, w_nil, w_cons, s_forL, k_forL, k_forLT, k_forLF, s_nil, s_seq, s_expr, s_asg, s_par, s_unp, s_sub, s_pas, s_if, s_for, s_while, s_ret, s_raise, s_retN, s_pass, s_brk, s_cnt, k_seqN, k_seqR, k_seqB, k_seqC, k_expr, k_asg, k_par1, k_par2, k_unp, k_unp2, k_pas1, k_pas2, k_pas3, k_sub1, k_sub2, k_sub3, k_sub4, k_ifT, k_ifF, k_ret, k_for, k_forSet, k_turnN, k_turnC, k_turnB, k_turnR, k_whT, k_whF, k_wh2N, k_wh2C, k_wh2B, k_wh2R, o_nxt, o_ret, v_add, v_sub, v_fdiv, v_mod, v_lt, v_le, v_gt, v_ge, v_eqI, v_neI, v_eqB, v_neB, v_isB, v_isnotB, v_lenT, v_lenL, v_abs, v_max2, v_min2, v_ixT, v_ixL, v_slL, v_slT, at_0, at_1, at_2, m_v0, m_v1, m_v2, m_v3, m_v4, m_v5, m_v6, m_v7, m_v8, m_v9, m_v10, m_v11, m_v12, m_v13, m_v14, m_v15, l_s0, l_s1, l_s2, l_s3, l_s4, l_s5, l_s6, l_s7, l_s8, l_s9, l_s10, l_s11, l_s12, l_s13, l_s14, l_s15, l_g0, l_g1, l_g2, l_g3, l_g4, l_g5, l_g6, l_g7, l_g8, l_g9, l_g10, l_g11, l_g12, l_g13, l_g14, l_g15, List.length_cons, List.length_nil, Option.map_some, Bool.not_true, Bool.not_false, if_true, decide_true, decide_false, ite_true, setTg, reduceIte, Nat.zero_add, lim, Nat.reduceLeDiff, List.nil_append, List.append_nil, String.reduceEq, or_false, or_true, or_self, Nat.zero_le, List.map_cons, List.map_nil, List.foldl_cons, List.foldl_nil, List.zip_cons_cons, List.zip_nil_left, u_tupL, u_tupT, u_lstL, u_lstT, u_intB, u_intI, u_rvsT, u_rvsL, t_tupT, t_boolB, t_intI, t_boolI]) rfl
  refine wp_forI (xs := (upTo 5).map .int) (S1 := [.lst [.lst A, .int 0, .int 0]]) (fun i ρ S => (∃ r2 r3 r4 r5 r6 r7 r8 r9 r10 r11 r12 r13, ρ = [some (.lst A), some (.loc 0), r2, r3, r4, r5, r6, r7, r8, r9, r10, r11, r12, r13]) ∧ ∃ o, S[0]? = some (.lst o) ∧ Jr (200 * i) o) (by
    generalize ([.lst [.lst A, .int 0, .int 0]] : Store) = SA at *
    generalize (upTo 5).map Val.int = U at *
    simp only [m_non, m_yes, m_bl, m_int, m_str, m_tup, m_lst, m_bin, m_neg, m_cmp, m_chain, m_and, m_or, m_not, m_ite, m_call, m_callR, m_blt, m_isx, m_isi, m_ix, m_sl, m_comp, m_mth, m_rep, m_cat, m_u, m_rl1, m_rl2, m_gs, m_tx, m_gv, m_edcF, m_edcT, m_dsp, m_compL, m_turn, m_anil, m_acons, m_onil, m_part, m_rng, m_rng2, m_enum, m_zip, m_vals, k_tup, k_lst, k_mkT, k_mkF, k_bin1, k_bin2, k_of, k_neg, k_cmp1, k_cmp2, k_ch1, k_ch2, k_ch3T, k_ch3F, k_andT, k_andF, k_orT, k_orF, k_not, k_iteT, k_iteF, k_callR, k_call, k_blt, k_isi, k_ix1, k_ix2, k_sl1, k_sl2, k_sl3, k_part, k_cons1, k_cons2, k_comp1, k_comp2, k_mth1, k_mth2, k_mth3, k_rng1, k_enum, k_enumT, k_zip1, k_zipL, k_zipT, k_zipM1, k_zipM2, k_dsp1, k_dsp2, k_valsD, k_valsS, k_tx1, k_tx2, k_valsT, k_valsL, k_rep1, k_rep2, k_cat1, k_cat2, k_u, k_rl2, k_rl3, k_rlT, k_rlL, k_compL, k_trn1, k_trn2T, k_trn2F, k_trn3, w_nil, w_cons, s_forL, k_forL, k_forLT, k_forLF, s_nil, s_seq, s_expr, s_asg, s_par, s_unp, s_sub, s_pas, s_if, s_for, s_while, s_ret, s_raise, s_retN, s_pass, s_brk, s_cnt, k_seqN, k_seqR, k_seqB, k_seqC, k_expr, k_asg, k_par1, k_par2, k_unp, k_unp2, k_pas1, k_pas2, k_pas3, k_sub1, k_sub2, k_sub3, k_sub4, k_ifT, k_ifF, k_ret, k_for, k_forSet, k_turnN, k_turnC, k_turnB, k_turnR, k_whT, k_whF, k_wh2N, k_wh2C, k_wh2B, k_wh2R, o_nxt, o_ret, v_add, v_sub, v_fdiv, v_mod, v_lt, v_le, v_gt, v_ge, v_eqI, v_neI, v_eqB, v_neB, v_isB, v_isnotB, v_lenT, v_lenL, v_abs, v_max2, v_min2, v_ixT, v_ixL, v_slL, v_slT, at_0, at_1, at_2, m_v0, m_v1, m_v2, m_v3, m_v4, m_v5, m_v6, m_v7, m_v8, m_v9, m_v10, m_v11, m_v12, m_v13, m_v14, m_v15, l_s0, l_s1, l_s2, l_s3, l_s4, l_s5, l_s6, l_s7, l_s8, l_s9, l_s10, l_s11, l_s12, l_s13, l_s14, l_s15, l_g0, l_g1, l_g2, l_g3, l_g4, l_g5, l_g6, l_g7, l_g8, l_g9, l_g10, l_g11, l_g12, l_g13, l_g14, l_g15, List.length_cons, List.length_nil, Option.map_some, Bool.not_true, Bool.not_false, if_true, decide_true, decide_false, ite_true, setTg, reduceIte, Nat.zero_add, lim, Nat.reduceLeDiff, List.nil_append, List.append_nil, String.reduceEq, or_false, or_true, or_self, Nat.zero_le, List.map_cons, List.map_nil, List.foldl_cons, List.foldl_nil, List.zip_cons_cons, List.zip_nil_left, u_tupL, u_tupT, u_lstL, u_lstT, u_intB, u_intI, u_rvsT, u_rvsL, t_tupT, t_boolB, t_intI, t_boolI, hb]) ⟨⟨_, _, _, _, _, _, _, _, _, _, _, _, rfl⟩, _, rfl, hT⟩ ?_ ?_
  · rintro i x ρ S hx ⟨⟨r2, r3, r4, r5, r6, r7, r8, r9, r10, r11, r12, r13, rfl⟩, o, hm, ho⟩
    have hi : i < 5 := by
      have := (List.getElem?_eq_some_iff.mp hx).1
      rw [List.length_map, upTo_len] at this
      exact this
    obtain ⟨x, _, rfl⟩ := List.mem_map.mp (List.mem_of_getElem? hx)
    refine ⟨_, rfl, ?_⟩
    unfold b19_3
    simp only [l_s0, l_s1, l_s2, l_s3, l_s4, l_s5, l_s6, l_s7, l_s8, l_s9, l_s10, l_s11, l_s12, l_s13, l_s14, l_s15, List.zip_cons_cons, List.zip_nil_left, List.foldl_cons, List.foldl_nil]
    obtain ⟨c, hc⟩ := turn_test (Φ := callI (run P WW (k + 6))) A x hm ho.tp [r3, r4, r5, r6, r7, r8, r9, r10, r11, r12, r13]
    refine wp_if hc (fun _ => ?_) (fun _ => wp_nil ?_)
    · exact wp_brk (ρ1 := [some (.lst A), some (.loc 0), some (.int x), r3, r4, r5, r6, r7, r8, r9, r10, r11, r12, r13]) (S1 := S) (by simp only [m_non, m_yes, m_bl, m_int, m_str, m_tup, m_lst, m_bin, m_neg, m_cmp, m_chain, m_and, m_or, m_not, m_ite, m_call, m_callR, m_blt, m_isx, m_isi, m_ix, m_sl, m_comp, m_mth, m_rep, m_cat, m_u, m_rl1, m_rl2, m_gs, m_tx, m_gv, m_edcF, m_edcT, m_dsp, m_compL, m_turn, m_anil, m_acons, m_onil, m_part, m_rng, m_rng2, m_enum, m_zip, m_vals, k_tup, k_lst, k_mkT, k_mkF, k_bin1, k_bin2, k_of, k_neg, k_cmp1, k_cmp2, k_ch1, k_ch2, k_ch3T, k_ch3F, k_andT, k_andF, k_orT, k_orF, k_not, k_iteT, k_iteF, k_callR, k_call, k_blt, k_isi, k_ix1, k_ix2, k_sl1, k_sl2, k_sl3, k_part, k_cons1, k_cons2, k_comp1, k_comp2, k_mth1, k_mth2, k_mth3, k_rng1, k_enum, k_enumT, k_zip1, k_zipL, k_zipT, k_zipM1, k_zipM2, k_dsp1, k_dsp2, k_valsD, k_valsS, k_tx1, k_tx2, k_valsT, k_valsL, k_rep1, k_rep2, k_cat1, k_cat2, k_u, k_rl2, k_rl3, k_rlT, k_rlL, k_compL, k_trn1, k_trn2T, k_trn2F, k_trn3, w_nil, w_cons, s_forL, k_forL, k_forLT, k_forLF, s_nil, s_seq, s_expr, s_asg, s_par, s_unp, s_sub, s_pas, s_if, s_for, s_while, s_ret, s_raise, s_retN, s_pass, s_brk, s_cnt, k_seqN, k_seqR, k_seqB, k_seqC, k_expr, k_asg, k_par1, k_par2, k_unp, k_unp2, k_pas1, k_pas2, k_pas3, k_sub1, k_sub2, k_sub3, k_sub4, k_ifT, k_ifF, k_ret, k_for, k_forSet, k_turnN, k_turnC, k_turnB, k_turnR, k_whT, k_whF, k_wh2N, k_wh2C, k_wh2B, k_wh2R, o_nxt, o_ret, v_add, v_sub, v_fdiv, v_mod, v_lt, v_le, v_gt, v_ge, v_eqI, v_neI, v_eqB, v_neB, v_isB, v_isnotB, v_lenT, v_lenL, v_abs, v_max2, v_min2, v_ixT, v_ixL, v_slL, v_slT, at_0, at_1, at_2, m_v0, m_v1, m_v2, m_v3, m_v4, m_v5, m_v6, m_v7, m_v8, m_v9, m_v10, m_v11, m_v12, m_v13, m_v14, m_v15, l_s0, l_s1, l_s2, l_s3, l_s4, l_s5, l_s6, l_s7, l_s8, l_s9, l_s10, l_s11, l_s12, l_s13, l_s14, l_s15, l_g0, l_g1, l_g2, l_g3, l_g4, l_g5, l_g6, l_g7, l_g8, l_g9, l_g10, l_g11, l_g12, l_g13, l_g14, l_g15, List.length_cons, List.length_nil, Option.map_some, Bool.not_true, Bool.not_false, if_true, decide_true, decide_false, ite_true, setTg, reduceIte, Nat.zero_add, lim, Nat.reduceLeDiff, List.nil_append, List.append_nil, String.reduceEq, or_false, or_true, or_self, Nat.zero_le, List.map_cons, List.map_nil, List.foldl_cons, List.foldl_nil, List.zip_cons_cons, List.zip_nil_left, u_tupL, u_tupT, u_lstL, u_lstT, u_intB, u_intI, u_rvsT, u_rvsL, t_tupT, t_boolB, t_intI, t_boolI]) (fin _ _ _ _ _ _ _ _ _ _ _ _ _)
    · obtain ⟨n, ws, o1, hB, k12, ho1, t1⟩ := c_ebook (k := k + 2) hm ho (by omega) 12 (by decide) (by decide)
      have t1 : callI (run P WW (k + 6)) false 15 [.loc 0, .int 12] S = .ok (bookV n ws) (S.set 0 (.lst o1)) := t1
      have hm1 : (S.set 0 (.lst o1))[0]? = some (.lst o1) := by rw [List.getElem?_set, if_pos rfl, if_pos (List.getElem?_eq_some_iff.mp hm).1]
      generalize S.set 0 (.lst o1) = S1 at t1 hm1
      refine wp_st (ρ1 := [some (.lst A), some (.loc 0), some (.int x), some (bookV n ws), r4, r5, r6, r7, r8, r9, r10, r11, r12, r13]) (S1 := S1) (by simp only [m_non, m_yes, m_bl, m_int, m_str, m_tup, m_lst, m_bin, m_neg, m_cmp, m_chain, m_and, m_or, m_not, m_ite, m_call, m_callR, m_blt, m_isx, m_isi, m_ix, m_sl, m_comp, m_mth, m_rep, m_cat, m_u, m_rl1, m_rl2, m_gs, m_tx, m_gv, m_edcF, m_edcT, m_dsp, m_compL, m_turn, m_anil, m_acons, m_onil, m_part, m_rng, m_rng2, m_enum, m_zip, m_vals, k_tup, k_lst, k_mkT, k_mkF, k_bin1, k_bin2, k_of, k_neg, k_cmp1, k_cmp2, k_ch1, k_ch2, k_ch3T, k_ch3F, k_andT, k_andF, k_orT, k_orF, k_not, k_iteT, k_iteF, k_callR, k_call, k_blt, k_isi, k_ix1, k_ix2, k_sl1, k_sl2, k_sl3, k_part, k_cons1, k_cons2, k_comp1, k_comp2, k_mth1, k_mth2, k_mth3, k_rng1, k_enum, k_enumT, k_zip1, k_zipL, k_zipT, k_zipM1, k_zipM2, k_dsp1, k_dsp2, k_valsD, k_valsS, k_tx1, k_tx2, k_valsT, k_valsL, k_rep1, k_rep2, k_cat1, k_cat2, k_u, k_rl2, k_rl3, k_rlT, k_rlL, k_compL, k_trn1, k_trn2T, k_trn2F, k_trn3, w_nil, w_cons, s_forL, k_forL, k_forLT, k_forLF, s_nil, s_seq, s_expr, s_asg, s_par, s_unp, s_sub, s_pas, s_if, s_for, s_while, s_ret, s_raise, s_retN, s_pass, s_brk, s_cnt, k_seqN, k_seqR, k_seqB, k_seqC, k_expr, k_asg, k_par1, k_par2, k_unp, k_unp2, k_pas1, k_pas2, k_pas3, k_sub1, k_sub2, k_sub3, k_sub4, k_ifT, k_ifF, k_ret, k_for, k_forSet, k_turnN, k_turnC, k_turnB, k_turnR, k_whT, k_whF, k_wh2N, k_wh2C, k_wh2B, k_wh2R, o_nxt, o_ret, v_add, v_sub, v_fdiv, v_mod, v_lt, v_le, v_gt, v_ge, v_eqI, v_neI, v_eqB, v_neB, v_isB, v_isnotB, v_lenT, v_lenL, v_abs, v_max2, v_min2, v_ixT, v_ixL, v_slL, v_slT, at_0, at_1, at_2, m_v0, m_v1, m_v2, m_v3, m_v4, m_v5, m_v6, m_v7, m_v8, m_v9, m_v10, m_v11, m_v12, m_v13, m_v14, m_v15, l_s0, l_s1, l_s2, l_s3, l_s4, l_s5, l_s6, l_s7, l_s8, l_s9, l_s10, l_s11, l_s12, l_s13, l_s14, l_s15, l_g0, l_g1, l_g2, l_g3, l_g4, l_g5, l_g6, l_g7, l_g8, l_g9, l_g10, l_g11, l_g12, l_g13, l_g14, l_g15, List.length_cons, List.length_nil, Option.map_some, Bool.not_true, Bool.not_false, if_true, decide_true, decide_false, ite_true, setTg, reduceIte, Nat.zero_add, lim, Nat.reduceLeDiff, List.nil_append, List.append_nil, String.reduceEq, or_false, or_true, or_self, Nat.zero_le, List.map_cons, List.map_nil, List.foldl_cons, List.foldl_nil, List.zip_cons_cons, List.zip_nil_left, u_tupL, u_tupT, u_lstL, u_lstT, u_intB, u_intI, u_rvsT, u_rvsL, t_tupT, t_boolB, t_intI, t_boolI, t1]) ?_
      have h2 := rg1 (S := S1) (n := 2) (by decide)
      rw [upTo_V] at h2
      -- the book shown and read
      have ne : cmpV S1 .ne (bookV n ws) (bookV n ws) = some false := by
        obtain ⟨c, e1, e2⟩ := v_neP (S := S1) (k := 3) (by decide) (ip_bk n ws) (ip_bk n ws)
        rw [e1, e2.mpr rfl]
      have d1 : callI (run P WW (k + 6)) _ _ _ _ = _ := c_showbook (k := k) (S := S1) hB
      have d2 : callI (run P WW (k + 6)) _ _ _ _ = _ := c_etext (k := k + 5) (S := S1) hB
      have d3 : callI (run P WW (k + 6)) _ _ _ _ = _ := c_readbook (k := k + 1) (S := S1) hB
      have d4 : callI (run P WW (k + 6)) _ _ _ _ = _ := c_ewhole (k := k + 5) (S := S1) hB
      refine wp_forD (xs := (upTo 2).map .int) (S1 := S1) [4, 6, 7] (fun S => S = S1) (by
        generalize (upTo 2).map Val.int = U at *
        generalize bookV n ws = B at *
        simp only [m_non, m_yes, m_bl, m_int, m_str, m_tup, m_lst, m_bin, m_neg, m_cmp, m_chain, m_and, m_or, m_not, m_ite, m_call, m_callR, m_blt, m_isx, m_isi, m_ix, m_sl, m_comp, m_mth, m_rep, m_cat, m_u, m_rl1, m_rl2, m_gs, m_tx, m_gv, m_edcF, m_edcT, m_dsp, m_compL, m_turn, m_anil, m_acons, m_onil, m_part, m_rng, m_rng2, m_enum, m_zip, m_vals, k_tup, k_lst, k_mkT, k_mkF, k_bin1, k_bin2, k_of, k_neg, k_cmp1, k_cmp2, k_ch1, k_ch2, k_ch3T, k_ch3F, k_andT, k_andF, k_orT, k_orF, k_not, k_iteT, k_iteF, k_callR, k_call, k_blt, k_isi, k_ix1, k_ix2, k_sl1, k_sl2, k_sl3, k_part, k_cons1, k_cons2, k_comp1, k_comp2, k_mth1, k_mth2, k_mth3, k_rng1, k_enum, k_enumT, k_zip1, k_zipL, k_zipT, k_zipM1, k_zipM2, k_dsp1, k_dsp2, k_valsD, k_valsS, k_tx1, k_tx2, k_valsT, k_valsL, k_rep1, k_rep2, k_cat1, k_cat2, k_u, k_rl2, k_rl3, k_rlT, k_rlL, k_compL, k_trn1, k_trn2T, k_trn2F, k_trn3, w_nil, w_cons, s_forL, k_forL, k_forLT, k_forLF, s_nil, s_seq, s_expr, s_asg, s_par, s_unp, s_sub, s_pas, s_if, s_for, s_while, s_ret, s_raise, s_retN, s_pass, s_brk, s_cnt, k_seqN, k_seqR, k_seqB, k_seqC, k_expr, k_asg, k_par1, k_par2, k_unp, k_unp2, k_pas1, k_pas2, k_pas3, k_sub1, k_sub2, k_sub3, k_sub4, k_ifT, k_ifF, k_ret, k_for, k_forSet, k_turnN, k_turnC, k_turnB, k_turnR, k_whT, k_whF, k_wh2N, k_wh2C, k_wh2B, k_wh2R, o_nxt, o_ret, v_add, v_sub, v_fdiv, v_mod, v_lt, v_le, v_gt, v_ge, v_eqI, v_neI, v_eqB, v_neB, v_isB, v_isnotB, v_lenT, v_lenL, v_abs, v_max2, v_min2, v_ixT, v_ixL, v_slL, v_slT, at_0, at_1, at_2, m_v0, m_v1, m_v2, m_v3, m_v4, m_v5, m_v6, m_v7, m_v8, m_v9, m_v10, m_v11, m_v12, m_v13, m_v14, m_v15, l_s0, l_s1, l_s2, l_s3, l_s4, l_s5, l_s6, l_s7, l_s8, l_s9, l_s10, l_s11, l_s12, l_s13, l_s14, l_s15, l_g0, l_g1, l_g2, l_g3, l_g4, l_g5, l_g6, l_g7, l_g8, l_g9, l_g10, l_g11, l_g12, l_g13, l_g14, l_g15, List.length_cons, List.length_nil, Option.map_some, Bool.not_true, Bool.not_false, if_true, decide_true, decide_false, ite_true, setTg, reduceIte, Nat.zero_add, lim, Nat.reduceLeDiff, List.nil_append, List.append_nil, String.reduceEq, or_false, or_true, or_self, Nat.zero_le, List.map_cons, List.map_nil, List.foldl_cons, List.foldl_nil, List.zip_cons_cons, List.zip_nil_left, u_tupL, u_tupT, u_lstL, u_lstT, u_intB, u_intI, u_rvsT, u_rvsL, t_tupT, t_boolB, t_intI, t_boolI, h2]) rfl ?_ ?_
      · rintro v hv ρ' S' ⟨z4, z6, z7, rfl⟩ rfl
        refine ⟨_, rfl, ?_⟩
        simp only [l_s0, l_s1, l_s2, l_s3, l_s4, l_s5, l_s6, l_s7, l_s8, l_s9, l_s10, l_s11, l_s12, l_s13, l_s14, l_s15, List.zip_cons_cons, List.zip_nil_left, List.foldl_cons, List.foldl_nil]
        exact wp_of (lw_0 d1 d2 d3 d4 ne rfl) ⟨⟨_, _, _, rfl⟩, rfl⟩
      · rintro ρ' S' ⟨z4, z6, z7, rfl⟩ rfl
        have p9 : binV .pow (.int 10) (.int 9) = some (.int (10 ^ 9)) := rfl
        have p59 : binV .pow (.int 10) (.int 59) = some (.int (10 ^ 59)) := rfl
        have ms : ∀ v ∈ ([.int 3, .int 12, .int (10 ^ 9), .int (10 ^ 59)] : List Val), ∃ M : Int, v = .int M ∧ 1 ≤ M ∧ M < 10 ^ 60 ∧ M.natAbs.log2 < 9000 := fun v hv => by
          simp only [List.mem_cons, List.not_mem_nil, or_false] at hv
          rcases hv with rfl | rfl | rfl | rfl
          · exact ⟨_, rfl, by decide +kernel, by decide +kernel, by decide +kernel⟩
          · exact ⟨_, rfl, by decide +kernel, by decide +kernel, by decide +kernel⟩
          · exact ⟨_, rfl, by decide +kernel, by decide +kernel, by decide +kernel⟩
          · exact ⟨_, rfl, by decide +kernel, by decide +kernel, by decide +kernel⟩
        have lm : ([.int 3, .int 12, .int (10 ^ 9), .int (10 ^ 59)] : List Val).length = 4 := rfl
        have it : evalI (callI (run P WW (k + 6))) (.vals (.lst false (.cons (.int 3) (.cons (.int 12) (.cons (.bin .pow (.int 10) (.int 9)) (.cons (.bin .pow (.int 10) (.int 59)) .nil)))))) [some (.lst A), some (.loc 0), some (.int x), some (bookV n ws), z4, r5, z6, z7, r8, r9, r10, r11, r12, r13] S' = .ok [.int 3, .int 12, .int (10 ^ 9), .int (10 ^ 59)] S' := by
          generalize bookV n ws = B at *
          generalize (10 : Int) ^ 9 = g1 at *
          generalize (10 : Int) ^ 59 = g2 at *
          simp only [m_non, m_yes, m_bl, m_int, m_str, m_tup, m_lst, m_bin, m_neg, m_cmp, m_chain, m_and, m_or, m_not, m_ite, m_call, m_callR, m_blt, m_isx, m_isi, m_ix, m_sl, m_comp, m_mth, m_rep, m_cat, m_u, m_rl1, m_rl2, m_gs, m_tx, m_gv, m_edcF, m_edcT, m_dsp, m_compL, m_turn, m_anil, m_acons, m_onil, m_part, m_rng, m_rng2, m_enum, m_zip, m_vals, k_tup, k_lst, k_mkT, k_mkF, k_bin1, k_bin2, k_of, k_neg, k_cmp1, k_cmp2, k_ch1, k_ch2, k_ch3T, k_ch3F, k_andT, k_andF, k_orT, k_orF, k_not, k_iteT, k_iteF, k_callR, k_call, k_blt, k_isi, k_ix1, k_ix2, k_sl1, k_sl2, k_sl3, k_part, k_cons1, k_cons2, k_comp1, k_comp2, k_mth1, k_mth2, k_mth3, k_rng1, k_enum, k_enumT, k_zip1, k_zipL, k_zipT, k_zipM1, k_zipM2, k_dsp1, k_dsp2, k_valsD, k_valsS, k_tx1, k_tx2, k_valsT, k_valsL, k_rep1, k_rep2, k_cat1, k_cat2, k_u, k_rl2, k_rl3, k_rlT, k_rlL, k_compL, k_trn1, k_trn2T, k_trn2F, k_trn3, w_nil, w_cons, s_forL, k_forL, k_forLT, k_forLF, s_nil, s_seq, s_expr, s_asg, s_par, s_unp, s_sub, s_pas, s_if, s_for, s_while, s_ret, s_raise, s_retN, s_pass, s_brk, s_cnt, k_seqN, k_seqR, k_seqB, k_seqC, k_expr, k_asg, k_par1, k_par2, k_unp, k_unp2, k_pas1, k_pas2, k_pas3, k_sub1, k_sub2, k_sub3, k_sub4, k_ifT, k_ifF, k_ret, k_for, k_forSet, k_turnN, k_turnC, k_turnB, k_turnR, k_whT, k_whF, k_wh2N, k_wh2C, k_wh2B, k_wh2R, o_nxt, o_ret, v_add, v_sub, v_fdiv, v_mod, v_lt, v_le, v_gt, v_ge, v_eqI, v_neI, v_eqB, v_neB, v_isB, v_isnotB, v_lenT, v_lenL, v_abs, v_max2, v_min2, v_ixT, v_ixL, v_slL, v_slT, at_0, at_1, at_2, m_v0, m_v1, m_v2, m_v3, m_v4, m_v5, m_v6, m_v7, m_v8, m_v9, m_v10, m_v11, m_v12, m_v13, m_v14, m_v15, l_s0, l_s1, l_s2, l_s3, l_s4, l_s5, l_s6, l_s7, l_s8, l_s9, l_s10, l_s11, l_s12, l_s13, l_s14, l_s15, l_g0, l_g1, l_g2, l_g3, l_g4, l_g5, l_g6, l_g7, l_g8, l_g9, l_g10, l_g11, l_g12, l_g13, l_g14, l_g15, List.length_cons, List.length_nil, Option.map_some, Bool.not_true, Bool.not_false, if_true, decide_true, decide_false, ite_true, setTg, reduceIte, Nat.zero_add, lim, Nat.reduceLeDiff, List.nil_append, List.append_nil, String.reduceEq, or_false, or_true, or_self, Nat.zero_le, List.map_cons, List.map_nil, List.foldl_cons, List.foldl_nil, List.zip_cons_cons, List.zip_nil_left, u_tupL, u_tupT, u_lstL, u_lstT, u_intB, u_intI, u_rvsT, u_rvsL, t_tupT, t_boolB, t_intI, t_boolI, p9, p59, k_mkF, k_valsL]
        generalize ([.int 3, .int 12, .int (10 ^ 9), .int (10 ^ 59)] : List Val) = MS at ms lm it
        refine wp_forI (xs := MS) (S1 := S') (fun j ρ S => (∃ r5 r6 r8 r9 r10 r11 r12 r13, ρ = [some (.lst A), some (.loc 0), some (.int x), some (bookV n ws), z4, r5, r6, z7, r8, r9, r10, r11, r12, r13]) ∧ ∃ o, S[0]? = some (.lst o) ∧ Jr (200 * i + 120 + 3 * j) o) it ⟨⟨_, _, _, _, _, _, _, _, rfl⟩, o1, hm1, ho1⟩ ?_ ?_
        · rintro j v ρ S hv ⟨⟨r5, r6, r8, r9, r10, r11, r12, r13, rfl⟩, o, hm, ho⟩
          have hj := (List.getElem?_eq_some_iff.mp hv).1
          obtain ⟨M, rfl, M1, M2, M3⟩ := ms v (List.mem_of_getElem? hv)
          refine ⟨_, rfl, ?_⟩
          simp only [l_s0, l_s1, l_s2, l_s3, l_s4, l_s5, l_s6, l_s7, l_s8, l_s9, l_s10, l_s11, l_s12, l_s13, l_s14, l_s15, List.zip_cons_cons, List.zip_nil_left, List.foldl_cons, List.foldl_nil]
          refine wp_mono (lw_2 (k := k) hm ho (by omega) M1 M2 M3) (fun ρ S h => ?_) (fun _ _ h => h.elim) (fun _ _ h => h.elim) (fun _ _ h => h.elim) (fun _ _ h => h.elim)
          obtain ⟨⟨u6, u8, u9, u10, u11, u12, u13, rfl⟩, o, h1, h2⟩ := h
          exact ⟨⟨_, _, _, _, _, _, _, _, rfl⟩, o, h1, h2.up (by omega)⟩
        · rintro ρ S ⟨⟨r5, r6, r8, r9, r10, r11, r12, r13, rfl⟩, o, hm, ho⟩
          rw [lm] at ho
          exact wp_nil ⟨⟨_, _, _, _, _, _, _, _, _, _, _, _, rfl⟩, o, hm, ho.up (by omega)⟩
  · rintro ρ S ⟨⟨r2, r3, r4, r5, r6, r7, r8, r9, r10, r11, r12, r13, rfl⟩, _⟩
    exact fin _ _ _ _ _ _ _ _ _ _ _ _ _
end Law_k50
namespace Law_k50
open PySem PySem.Spec PyProof.Rows L2 Iv
theorem sc0 : FnScope ["thing"] ["thing"] (defScope (topS 7)) := ⟨rfl, rfl, rfl, by decide +kernel, rfl, by decide +kernel, by decide +kernel⟩
theorem ck0 : chkB P B GL f0.N f0.body (defScope (topS 7)) (defBody (topS 7)) = true := by decide +kernel
theorem sc1 : FnScope ["thing", "many"] ["thing", "many"] (defScope (topS 8)) := ⟨rfl, rfl, rfl, by decide +kernel, rfl, by decide +kernel, by decide +kernel⟩
theorem ck1 : chkB P B GL f1.N f1.body (defScope (topS 8)) (defBody (topS 8)) = true := by decide +kernel
theorem sc2 : FnScope ["thing"] ["thing"] (defScope (topS 9)) := ⟨rfl, rfl, rfl, by decide +kernel, rfl, by decide +kernel, by decide +kernel⟩
theorem ck2 : chkB P B GL f2.N f2.body (defScope (topS 9)) (defBody (topS 9)) = true := by decide +kernel
theorem sc3 : FnScope ["hands", "thing", "at", "hand"] ["hands", "thing"] (defScope (topS 10)) := ⟨rfl, rfl, rfl, by decide +kernel, rfl, by decide +kernel, by decide +kernel⟩
theorem ck3 : chkB P B GL f3.N f3.body (defScope (topS 10)) (defBody (topS 10)) = true := by decide +kernel
theorem sc4 : FnScope ["thing", "work"] ["thing"] (defScope (topS 11)) := ⟨rfl, rfl, rfl, by decide +kernel, rfl, by decide +kernel, by decide +kernel⟩
theorem ck4 : chkB P B GL f4.N f4.body (defScope (topS 11)) (defBody (topS 11)) = true := by decide +kernel
theorem sc5 : FnScope ["book"] ["book"] (defScope (topS 12)) := ⟨rfl, rfl, rfl, by decide +kernel, rfl, by decide +kernel, by decide +kernel⟩
theorem ck5 : chkB P B GL f5.N f5.body (defScope (topS 12)) (defBody (topS 12)) = true := by decide +kernel
theorem sc6 : FnScope ["word", "sign"] ["word"] (defScope (topS 16)) := ⟨rfl, rfl, rfl, by decide +kernel, rfl, by decide +kernel, by decide +kernel⟩
theorem ck6 : chkB P B GL f6.N f6.body (defScope (topS 16)) (defBody (topS 16)) = true := by decide +kernel
theorem sc7 : FnScope ["fraction"] ["fraction"] (defScope (topS 17)) := ⟨rfl, rfl, rfl, by decide +kernel, rfl, by decide +kernel, by decide +kernel⟩
theorem ck7 : chkB P B GL f7.N f7.body (defScope (topS 17)) (defBody (topS 17)) = true := by decide +kernel
theorem sc8 : FnScope ["numbers", "number"] ["numbers"] (defScope (topS 18)) := ⟨rfl, rfl, rfl, by decide +kernel, rfl, by decide +kernel, by decide +kernel⟩
theorem ck8 : chkB P B GL f8.N f8.body (defScope (topS 18)) (defBody (topS 18)) = true := by decide +kernel
theorem sc9 : FnScope ["book", "work"] ["book"] (defScope (topS 19)) := ⟨rfl, rfl, rfl, by decide +kernel, rfl, by decide +kernel, by decide +kernel⟩
theorem ck9 : chkB P B GL f9.N f9.body (defScope (topS 19)) (defBody (topS 19)) = true := by decide +kernel
theorem sc10 : FnScope ["words", "word"] ["words"] (defScope (topS 20)) := ⟨rfl, rfl, rfl, by decide +kernel, rfl, by decide +kernel, by decide +kernel⟩
theorem ck10 : chkB P B GL f10.N f10.body (defScope (topS 20)) (defBody (topS 20)) = true := by decide +kernel
theorem sc11 : FnScope ["text", "parts", "words", "hands", "book", "part"] ["text"] (defScope (topS 21)) := ⟨rfl, rfl, rfl, by decide +kernel, rfl, by decide +kernel, by decide +kernel⟩
theorem ck11 : chkB P B GL f11.N f11.body (defScope (topS 21)) (defBody (topS 21)) = true := by decide +kernel
theorem sc12 : FnScope ["cell", "at", "one", "two", "three"] ["cell", "at"] (defScope (topS 23)) := ⟨rfl, rfl, rfl, by decide +kernel, rfl, by decide +kernel, by decide +kernel⟩
theorem ck12 : chkB P B GL f12.N f12.body (defScope (topS 23)) (defBody (topS 23)) = true := by decide +kernel
theorem sc13 : FnScope ["jar", "many", "found", "at", "cell"] ["jar", "many"] (defScope (topS 24)) := ⟨rfl, rfl, rfl, by decide +kernel, rfl, by decide +kernel, by decide +kernel⟩
theorem ck13 : chkB P B GL f13.N f13.body (defScope (topS 24)) (defBody (topS 24)) = true := by decide +kernel
theorem sc14 : FnScope ["jar", "hands", "often", "some", "hand"] ["jar", "hands"] (defScope (topS 25)) := ⟨rfl, rfl, rfl, by decide +kernel, rfl, by decide +kernel, by decide +kernel⟩
theorem ck14 : chkB P B GL f14.N f14.body (defScope (topS 25)) (defBody (topS 25)) = true := by decide +kernel
theorem sc15 : FnScope ["jar", "most", "hands", "turn"] ["jar", "most"] (defScope (topS 26)) := ⟨rfl, rfl, rfl, by decide +kernel, rfl, by decide +kernel, by decide +kernel⟩
theorem ck15 : chkB P B GL f15.N f15.body (defScope (topS 26)) (defBody (topS 26)) = true := by decide +kernel
theorem sc16 : FnScope ["book", "found", "work", "hand"] ["book"] (defScope (topS 27)) := ⟨rfl, rfl, rfl, by decide +kernel, rfl, by decide +kernel, by decide +kernel⟩
theorem ck16 : chkB P B GL f16.N f16.body (defScope (topS 27)) (defBody (topS 27)) = true := by decide +kernel
theorem sc17 : FnScope ["top", "bottom", "one", "other"] ["top", "bottom"] (defScope (topS 28)) := ⟨rfl, rfl, rfl, by decide +kernel, rfl, by decide +kernel, by decide +kernel⟩
theorem ck17 : chkB P B GL f17.N f17.body (defScope (topS 28)) (defBody (topS 28)) = true := by decide +kernel
theorem sc18 : FnScope ["book", "some", "work", "number"] ["book"] (defScope (topS 29)) := ⟨rfl, rfl, rfl, by decide +kernel, rfl, by decide +kernel, by decide +kernel⟩
theorem ck18 : chkB P B GL f18.N f18.body (defScope (topS 29)) (defBody (topS 29)) = true := by decide +kernel
theorem sc19 : FnScope ["script", "jar", "k", "book", "turn", "most", "told", "found", "often", "some", "one", "top", "bottom", "due"] ["script"] (defScope (topS 30)) := ⟨rfl, rfl, rfl, by decide +kernel, rfl, by decide +kernel, by decide +kernel⟩
theorem ck19 : chkB P B GL f19.N f19.body (defScope (topS 30)) (defBody (topS 30)) = true := by decide +kernel
section
theorem all_mk {l : PySem.W.OpenLaw} {w : World} {K : PySem.W.Frag} {h : Heap} {mg : Str → Option Value} {fa : Addr} (X : K.In h) (G : h.Ns mainGlobals mg) (hfa : mg "law" = some (.ref fa))
    {oc0 kV0 dc0 pm0 cd0 ct0 : Value} {od0 an0 : Option Addr} {sl0 : Array (Option Value)} {a0 : Addr}
    {oc1 kV1 dc1 pm1 cd1 ct1 : Value} {od1 an1 : Option Addr} {sl1 : Array (Option Value)} {a1 : Addr}
    {oc2 kV2 dc2 pm2 cd2 ct2 : Value} {od2 an2 : Option Addr} {sl2 : Array (Option Value)} {a2 : Addr}
    {oc3 kV3 dc3 pm3 cd3 ct3 : Value} {od3 an3 : Option Addr} {sl3 : Array (Option Value)} {a3 : Addr}
    {oc4 kV4 dc4 pm4 cd4 ct4 : Value} {od4 an4 : Option Addr} {sl4 : Array (Option Value)} {a4 : Addr}
    {oc5 kV5 dc5 pm5 cd5 ct5 : Value} {od5 an5 : Option Addr} {sl5 : Array (Option Value)} {a5 : Addr}
    {oc6 kV6 dc6 pm6 cd6 ct6 : Value} {od6 an6 : Option Addr} {sl6 : Array (Option Value)} {a6 : Addr}
    {oc7 kV7 dc7 pm7 cd7 ct7 : Value} {od7 an7 : Option Addr} {sl7 : Array (Option Value)} {a7 : Addr}
    {oc8 kV8 dc8 pm8 cd8 ct8 : Value} {od8 an8 : Option Addr} {sl8 : Array (Option Value)} {a8 : Addr}
    {oc9 kV9 dc9 pm9 cd9 ct9 : Value} {od9 an9 : Option Addr} {sl9 : Array (Option Value)} {a9 : Addr}
    {oc10 kV10 dc10 pm10 cd10 ct10 : Value} {od10 an10 : Option Addr} {sl10 : Array (Option Value)} {a10 : Addr}
    {oc11 kV11 dc11 pm11 cd11 ct11 : Value} {od11 an11 : Option Addr} {sl11 : Array (Option Value)} {a11 : Addr}
    {oc12 kV12 dc12 pm12 cd12 ct12 : Value} {od12 an12 : Option Addr} {sl12 : Array (Option Value)} {a12 : Addr}
    {oc13 kV13 dc13 pm13 cd13 ct13 : Value} {od13 an13 : Option Addr} {sl13 : Array (Option Value)} {a13 : Addr}
    {oc14 kV14 dc14 pm14 cd14 ct14 : Value} {od14 an14 : Option Addr} {sl14 : Array (Option Value)} {a14 : Addr}
    {oc15 kV15 dc15 pm15 cd15 ct15 : Value} {od15 an15 : Option Addr} {sl15 : Array (Option Value)} {a15 : Addr}
    {oc16 kV16 dc16 pm16 cd16 ct16 : Value} {od16 an16 : Option Addr} {sl16 : Array (Option Value)} {a16 : Addr}
    {oc17 kV17 dc17 pm17 cd17 ct17 : Value} {od17 an17 : Option Addr} {sl17 : Array (Option Value)} {a17 : Addr}
    {oc18 kV18 dc18 pm18 cd18 ct18 : Value} {od18 an18 : Option Addr} {sl18 : Array (Option Value)} {a18 : Addr}
    {oc19 kV19 dc19 pm19 cd19 ct19 : Value} {od19 an19 : Option Addr} {sl19 : Array (Option Value)} {a19 : Addr}
    (m0 : PySem.W.nsIn K mainGlobals "is_whole" = some (some (.ref a0))) (l0 : K.lookup a0 = some ⟨oc0, od0, .func (PySem.W.fnOf "is_whole" "is_whole" (defArgs (topS 7)) (defBody (topS 7)) (defScope (topS 7)) .none kV0 dc0 pm0 an0 cd0 ct0), sl0⟩) (c0 : PySem.W.codeIn K cd0 "is_whole" = true) (k0 : PySem.W.keepIn K (.ref a0) = true)
    (m1 : PySem.W.nsIn K mainGlobals "is_below" = some (some (.ref a1))) (l1 : K.lookup a1 = some ⟨oc1, od1, .func (PySem.W.fnOf "is_below" "is_below" (defArgs (topS 8)) (defBody (topS 8)) (defScope (topS 8)) .none kV1 dc1 pm1 an1 cd1 ct1), sl1⟩) (c1 : PySem.W.codeIn K cd1 "is_below" = true) (k1 : PySem.W.keepIn K (.ref a1) = true)
    (m2 : PySem.W.nsIn K mainGlobals "is_hands" = some (some (.ref a2))) (l2 : K.lookup a2 = some ⟨oc2, od2, .func (PySem.W.fnOf "is_hands" "is_hands" (defArgs (topS 9)) (defBody (topS 9)) (defScope (topS 9)) .none kV2 dc2 pm2 an2 cd2 ct2), sl2⟩) (c2 : PySem.W.codeIn K cd2 "is_hands" = true) (k2 : PySem.W.keepIn K (.ref a2) = true)
    (m3 : PySem.W.nsIn K mainGlobals "is_work" = some (some (.ref a3))) (l3 : K.lookup a3 = some ⟨oc3, od3, .func (PySem.W.fnOf "is_work" "is_work" (defArgs (topS 10)) (defBody (topS 10)) (defScope (topS 10)) .none kV3 dc3 pm3 an3 cd3 ct3), sl3⟩) (c3 : PySem.W.codeIn K cd3 "is_work" = true) (k3 : PySem.W.keepIn K (.ref a3) = true)
    (m4 : PySem.W.nsIn K mainGlobals "is_book" = some (some (.ref a4))) (l4 : K.lookup a4 = some ⟨oc4, od4, .func (PySem.W.fnOf "is_book" "is_book" (defArgs (topS 11)) (defBody (topS 11)) (defScope (topS 11)) .none kV4 dc4 pm4 an4 cd4 ct4), sl4⟩) (c4 : PySem.W.codeIn K cd4 "is_book" = true) (k4 : PySem.W.keepIn K (.ref a4) = true)
    (m5 : PySem.W.nsIn K mainGlobals "need_book" = some (some (.ref a5))) (l5 : K.lookup a5 = some ⟨oc5, od5, .func (PySem.W.fnOf "need_book" "need_book" (defArgs (topS 12)) (defBody (topS 12)) (defScope (topS 12)) .none kV5 dc5 pm5 an5 cd5 ct5), sl5⟩) (c5 : PySem.W.codeIn K cd5 "need_book" = true) (k5 : PySem.W.keepIn K (.ref a5) = true)
    (m6 : PySem.W.nsIn K mainGlobals "is_figures" = some (some (.ref a6))) (l6 : K.lookup a6 = some ⟨oc6, od6, .func (PySem.W.fnOf "is_figures" "is_figures" (defArgs (topS 16)) (defBody (topS 16)) (defScope (topS 16)) .none kV6 dc6 pm6 an6 cd6 ct6), sl6⟩) (c6 : PySem.W.codeIn K cd6 "is_figures" = true) (k6 : PySem.W.keepIn K (.ref a6) = true)
    (m7 : PySem.W.nsIn K mainGlobals "show_fraction" = some (some (.ref a7))) (l7 : K.lookup a7 = some ⟨oc7, od7, .func (PySem.W.fnOf "show_fraction" "show_fraction" (defArgs (topS 17)) (defBody (topS 17)) (defScope (topS 17)) .none kV7 dc7 pm7 an7 cd7 ct7), sl7⟩) (c7 : PySem.W.codeIn K cd7 "show_fraction" = true) (k7 : PySem.W.keepIn K (.ref a7) = true)
    (m8 : PySem.W.nsIn K mainGlobals "show_numbers" = some (some (.ref a8))) (l8 : K.lookup a8 = some ⟨oc8, od8, .func (PySem.W.fnOf "show_numbers" "show_numbers" (defArgs (topS 18)) (defBody (topS 18)) (defScope (topS 18)) .none kV8 dc8 pm8 an8 cd8 ct8), sl8⟩) (c8 : PySem.W.codeIn K cd8 "show_numbers" = true) (k8 : PySem.W.keepIn K (.ref a8) = true)
    (m9 : PySem.W.nsIn K mainGlobals "show_book" = some (some (.ref a9))) (l9 : K.lookup a9 = some ⟨oc9, od9, .func (PySem.W.fnOf "show_book" "show_book" (defArgs (topS 19)) (defBody (topS 19)) (defScope (topS 19)) .none kV9 dc9 pm9 an9 cd9 ct9), sl9⟩) (c9 : PySem.W.codeIn K cd9 "show_book" = true) (k9 : PySem.W.keepIn K (.ref a9) = true)
    (m10 : PySem.W.nsIn K mainGlobals "read_numbers" = some (some (.ref a10))) (l10 : K.lookup a10 = some ⟨oc10, od10, .func (PySem.W.fnOf "read_numbers" "read_numbers" (defArgs (topS 20)) (defBody (topS 20)) (defScope (topS 20)) .none kV10 dc10 pm10 an10 cd10 ct10), sl10⟩) (c10 : PySem.W.codeIn K cd10 "read_numbers" = true) (k10 : PySem.W.keepIn K (.ref a10) = true)
    (m11 : PySem.W.nsIn K mainGlobals "read_book" = some (some (.ref a11))) (l11 : K.lookup a11 = some ⟨oc11, od11, .func (PySem.W.fnOf "read_book" "read_book" (defArgs (topS 21)) (defBody (topS 21)) (defScope (topS 21)) .none kV11 dc11 pm11 an11 cd11 ct11), sl11⟩) (c11 : PySem.W.codeIn K cd11 "read_book" = true) (k11 : PySem.W.keepIn K (.ref a11) = true)
    (m12 : PySem.W.nsIn K mainGlobals "_law_e_whirl" = some (some (.ref a12))) (l12 : K.lookup a12 = some ⟨oc12, od12, .func (PySem.W.fnOf "_law_e_whirl" "_law_e_whirl" (defArgs (topS 23)) (defBody (topS 23)) (defScope (topS 23)) .none kV12 dc12 pm12 an12 cd12 ct12), sl12⟩) (c12 : PySem.W.codeIn K cd12 "_law_e_whirl" = true) (k12 : PySem.W.keepIn K (.ref a12) = true)
    (m13 : PySem.W.nsIn K mainGlobals "_law_e_scoop" = some (some (.ref a13))) (l13 : K.lookup a13 = some ⟨oc13, od13, .func (PySem.W.fnOf "_law_e_scoop" "_law_e_scoop" (defArgs (topS 24)) (defBody (topS 24)) (defScope (topS 24)) .none kV13 dc13 pm13 an13 cd13 ct13), sl13⟩) (c13 : PySem.W.codeIn K cd13 "_law_e_scoop" = true) (k13 : PySem.W.keepIn K (.ref a13) = true)
    (m14 : PySem.W.nsIn K mainGlobals "_law_e_able" = some (some (.ref a14))) (l14 : K.lookup a14 = some ⟨oc14, od14, .func (PySem.W.fnOf "_law_e_able" "_law_e_able" (defArgs (topS 25)) (defBody (topS 25)) (defScope (topS 25)) .none kV14 dc14 pm14 an14 cd14 ct14), sl14⟩) (c14 : PySem.W.codeIn K cd14 "_law_e_able" = true) (k14 : PySem.W.keepIn K (.ref a14) = true)
    (m15 : PySem.W.nsIn K mainGlobals "_law_e_book" = some (some (.ref a15))) (l15 : K.lookup a15 = some ⟨oc15, od15, .func (PySem.W.fnOf "_law_e_book" "_law_e_book" (defArgs (topS 26)) (defBody (topS 26)) (defScope (topS 26)) .none kV15 dc15 pm15 an15 cd15 ct15), sl15⟩) (c15 : PySem.W.codeIn K cd15 "_law_e_book" = true) (k15 : PySem.W.keepIn K (.ref a15) = true)
    (m16 : PySem.W.nsIn K mainGlobals "_law_e_text" = some (some (.ref a16))) (l16 : K.lookup a16 = some ⟨oc16, od16, .func (PySem.W.fnOf "_law_e_text" "_law_e_text" (defArgs (topS 27)) (defBody (topS 27)) (defScope (topS 27)) .none kV16 dc16 pm16 an16 cd16 ct16), sl16⟩) (c16 : PySem.W.codeIn K cd16 "_law_e_text" = true) (k16 : PySem.W.keepIn K (.ref a16) = true)
    (m17 : PySem.W.nsIn K mainGlobals "_law_e_low" = some (some (.ref a17))) (l17 : K.lookup a17 = some ⟨oc17, od17, .func (PySem.W.fnOf "_law_e_low" "_law_e_low" (defArgs (topS 28)) (defBody (topS 28)) (defScope (topS 28)) .none kV17 dc17 pm17 an17 cd17 ct17), sl17⟩) (c17 : PySem.W.codeIn K cd17 "_law_e_low" = true) (k17 : PySem.W.keepIn K (.ref a17) = true)
    (m18 : PySem.W.nsIn K mainGlobals "_law_e_all_whole" = some (some (.ref a18))) (l18 : K.lookup a18 = some ⟨oc18, od18, .func (PySem.W.fnOf "_law_e_all_whole" "_law_e_all_whole" (defArgs (topS 29)) (defBody (topS 29)) (defScope (topS 29)) .none kV18 dc18 pm18 an18 cd18 ct18), sl18⟩) (c18 : PySem.W.codeIn K cd18 "_law_e_all_whole" = true) (k18 : PySem.W.keepIn K (.ref a18) = true)
    (m19 : PySem.W.nsIn K mainGlobals "law" = some (some (.ref a19))) (l19 : K.lookup a19 = some ⟨oc19, od19, .func (PySem.W.fnOf "law" "law" (defArgs (topS 30)) (defBody (topS 30)) (defScope (topS 30)) .none kV19 dc19 pm19 an19 cd19 ct19), sl19⟩) (c19 : PySem.W.codeIn K cd19 "law" = true) (k19 : PySem.W.keepIn K (.ref a19) = true)
    (z0 : PySem.W.nsIn K mainGlobals "all" = some none)
    (z1 : PySem.W.nsIn K mainGlobals "bool" = some none)
    (z2 : PySem.W.nsIn K mainGlobals "int" = some none)
    (z3 : PySem.W.nsIn K mainGlobals "isinstance" = some none)
    (z4 : PySem.W.nsIn K mainGlobals "len" = some none)
    (z5 : PySem.W.nsIn K mainGlobals "list" = some none)
    (z6 : PySem.W.nsIn K mainGlobals "range" = some none)
    (z7 : PySem.W.nsIn K mainGlobals "str" = some none)
    (z8 : PySem.W.nsIn K mainGlobals "tuple" = some none)
    {t0 : Tok} (v0 : PySem.W.nsIn K mainGlobals "FIGURES" = some (some (.str "0123456789" t0)))
    {t1 : Tok} (v1 : PySem.W.nsIn K mainGlobals "MOST_FIGURES" = some (some (.int 6 t1)))
    {t2 : Tok} (v2 : PySem.W.nsIn K mainGlobals "MOST_HANDS" = some (some (.int 6 t2)))
    {t3 : Tok} (v3 : PySem.W.nsIn K mainGlobals "MOST_WORKS" = some (some (.int 12 t3)))
    : ∃ fd : FuncData, (∀ (s : Shared) (v : Value), BindsTo s fd ⟨[v], []⟩ [("script", v)]) ∧ ∀ base : Heap, K.In base → base.Ns mainGlobals mg → FnG l.prog w K mg base (L2.CX l.prog w) WN fa fd ["script"] (spC K P WW WN 19) := by
  have e := hfa.symm.trans (PySem.W.mg_of X G m19)
  cases e
  have F0 := fun_mk (st := topS 7) l0 c0 k0
  have A0 : FnAt K mg P B GL f0 (topS 7) a0 _ := ⟨F0, PySem.W.mg_of X G m0, F0.binds (ps := ["thing"]) fun _ _ _ _ _ _ us hl => match us, hl with | [_], _ => rfl, sc0, ck0⟩
  have F1 := fun_mk (st := topS 8) l1 c1 k1
  have A1 : FnAt K mg P B GL f1 (topS 8) a1 _ := ⟨F1, PySem.W.mg_of X G m1, F1.binds (ps := ["thing", "many"]) fun _ _ _ _ _ _ us hl => match us, hl with | [_, _], _ => rfl, sc1, ck1⟩
  have F2 := fun_mk (st := topS 9) l2 c2 k2
  have A2 : FnAt K mg P B GL f2 (topS 9) a2 _ := ⟨F2, PySem.W.mg_of X G m2, F2.binds (ps := ["thing"]) fun _ _ _ _ _ _ us hl => match us, hl with | [_], _ => rfl, sc2, ck2⟩
  have F3 := fun_mk (st := topS 10) l3 c3 k3
  have A3 : FnAt K mg P B GL f3 (topS 10) a3 _ := ⟨F3, PySem.W.mg_of X G m3, F3.binds (ps := ["hands", "thing"]) fun _ _ _ _ _ _ us hl => match us, hl with | [_, _], _ => rfl, sc3, ck3⟩
  have F4 := fun_mk (st := topS 11) l4 c4 k4
  have A4 : FnAt K mg P B GL f4 (topS 11) a4 _ := ⟨F4, PySem.W.mg_of X G m4, F4.binds (ps := ["thing"]) fun _ _ _ _ _ _ us hl => match us, hl with | [_], _ => rfl, sc4, ck4⟩
  have F5 := fun_mk (st := topS 12) l5 c5 k5
  have A5 : FnAt K mg P B GL f5 (topS 12) a5 _ := ⟨F5, PySem.W.mg_of X G m5, F5.binds (ps := ["book"]) fun _ _ _ _ _ _ us hl => match us, hl with | [_], _ => rfl, sc5, ck5⟩
  have F6 := fun_mk (st := topS 16) l6 c6 k6
  have A6 : FnAt K mg P B GL f6 (topS 16) a6 _ := ⟨F6, PySem.W.mg_of X G m6, F6.binds (ps := ["word"]) fun _ _ _ _ _ _ us hl => match us, hl with | [_], _ => rfl, sc6, ck6⟩
  have F7 := fun_mk (st := topS 17) l7 c7 k7
  have A7 : FnAt K mg P B GL f7 (topS 17) a7 _ := ⟨F7, PySem.W.mg_of X G m7, F7.binds (ps := ["fraction"]) fun _ _ _ _ _ _ us hl => match us, hl with | [_], _ => rfl, sc7, ck7⟩
  have F8 := fun_mk (st := topS 18) l8 c8 k8
  have A8 : FnAt K mg P B GL f8 (topS 18) a8 _ := ⟨F8, PySem.W.mg_of X G m8, F8.binds (ps := ["numbers"]) fun _ _ _ _ _ _ us hl => match us, hl with | [_], _ => rfl, sc8, ck8⟩
  have F9 := fun_mk (st := topS 19) l9 c9 k9
  have A9 : FnAt K mg P B GL f9 (topS 19) a9 _ := ⟨F9, PySem.W.mg_of X G m9, F9.binds (ps := ["book"]) fun _ _ _ _ _ _ us hl => match us, hl with | [_], _ => rfl, sc9, ck9⟩
  have F10 := fun_mk (st := topS 20) l10 c10 k10
  have A10 : FnAt K mg P B GL f10 (topS 20) a10 _ := ⟨F10, PySem.W.mg_of X G m10, F10.binds (ps := ["words"]) fun _ _ _ _ _ _ us hl => match us, hl with | [_], _ => rfl, sc10, ck10⟩
  have F11 := fun_mk (st := topS 21) l11 c11 k11
  have A11 : FnAt K mg P B GL f11 (topS 21) a11 _ := ⟨F11, PySem.W.mg_of X G m11, F11.binds (ps := ["text"]) fun _ _ _ _ _ _ us hl => match us, hl with | [_], _ => rfl, sc11, ck11⟩
  have F12 := fun_mk (st := topS 23) l12 c12 k12
  have A12 : FnAt K mg P B GL f12 (topS 23) a12 _ := ⟨F12, PySem.W.mg_of X G m12, F12.binds (ps := ["cell", "at"]) fun _ _ _ _ _ _ us hl => match us, hl with | [_, _], _ => rfl, sc12, ck12⟩
  have F13 := fun_mk (st := topS 24) l13 c13 k13
  have A13 : FnAt K mg P B GL f13 (topS 24) a13 _ := ⟨F13, PySem.W.mg_of X G m13, F13.binds (ps := ["jar", "many"]) fun _ _ _ _ _ _ us hl => match us, hl with | [_, _], _ => rfl, sc13, ck13⟩
  have F14 := fun_mk (st := topS 25) l14 c14 k14
  have A14 : FnAt K mg P B GL f14 (topS 25) a14 _ := ⟨F14, PySem.W.mg_of X G m14, F14.binds (ps := ["jar", "hands"]) fun _ _ _ _ _ _ us hl => match us, hl with | [_, _], _ => rfl, sc14, ck14⟩
  have F15 := fun_mk (st := topS 26) l15 c15 k15
  have A15 : FnAt K mg P B GL f15 (topS 26) a15 _ := ⟨F15, PySem.W.mg_of X G m15, F15.binds (ps := ["jar", "most"]) fun _ _ _ _ _ _ us hl => match us, hl with | [_, _], _ => rfl, sc15, ck15⟩
  have F16 := fun_mk (st := topS 27) l16 c16 k16
  have A16 : FnAt K mg P B GL f16 (topS 27) a16 _ := ⟨F16, PySem.W.mg_of X G m16, F16.binds (ps := ["book"]) fun _ _ _ _ _ _ us hl => match us, hl with | [_], _ => rfl, sc16, ck16⟩
  have F17 := fun_mk (st := topS 28) l17 c17 k17
  have A17 : FnAt K mg P B GL f17 (topS 28) a17 _ := ⟨F17, PySem.W.mg_of X G m17, F17.binds (ps := ["top", "bottom"]) fun _ _ _ _ _ _ us hl => match us, hl with | [_, _], _ => rfl, sc17, ck17⟩
  have F18 := fun_mk (st := topS 29) l18 c18 k18
  have A18 : FnAt K mg P B GL f18 (topS 29) a18 _ := ⟨F18, PySem.W.mg_of X G m18, F18.binds (ps := ["book"]) fun _ _ _ _ _ _ us hl => match us, hl with | [_], _ => rfl, sc18, ck18⟩
  have F19 := fun_mk (st := topS 30) l19 c19 k19
  have A19 : FnAt K mg P B GL f19 (topS 30) fa _ := ⟨F19, PySem.W.mg_of X G m19, F19.binds (ps := ["script"]) fun _ _ _ _ _ _ us hl => match us, hl with | [_], _ => rfl, sc19, ck19⟩
  have hB : ∀ x ∈ B, mg x = none := fun x hx => by
    simp only [B, List.mem_cons, List.not_mem_nil, or_false] at hx
    rcases hx with rfl | rfl | rfl | rfl | rfl | rfl | rfl | rfl | rfl
    · exact PySem.W.mg_none_of X G z0
    · exact PySem.W.mg_none_of X G z1
    · exact PySem.W.mg_none_of X G z2
    · exact PySem.W.mg_none_of X G z3
    · exact PySem.W.mg_none_of X G z4
    · exact PySem.W.mg_none_of X G z5
    · exact PySem.W.mg_none_of X G z6
    · exact PySem.W.mg_none_of X G z7
    · exact PySem.W.mg_none_of X G z8
  have hE : ∀ c ∈ GL.2, ∃ C, clF K c = .ref C ∧ ExcF K mg c C := fun c hc => by
    cases hc
  have hG : ∀ x k, (x, k) ∈ GL.1 → ∃ u, mg x = some u ∧ RelV (kV k) u := fun x i hx => by
    simp only [GL, List.mem_cons, List.not_mem_nil, or_false, Prod.mk.injEq] at hx
    rcases hx with ⟨rfl, rfl⟩ | ⟨rfl, rfl⟩ | ⟨rfl, rfl⟩ | ⟨rfl, rfl⟩
    · exact ⟨_, PySem.W.mg_of X G v0, ⟨_, rfl⟩⟩
    · exact ⟨_, PySem.W.mg_of X G v1, ⟨_, rfl⟩⟩
    · exact ⟨_, PySem.W.mg_of X G v2, ⟨_, rfl⟩⟩
    · exact ⟨_, PySem.W.mg_of X G v3, ⟨_, rfl⟩⟩
  have T : ∀ f d, P f = some d → ∃ st a fd, FnAt K mg P B GL d st a fd := fun f d hd => by
    match f, hd with
    | 0, hd => cases hd; exact ⟨_, _, _, A0⟩
    | 1, hd => cases hd; exact ⟨_, _, _, A1⟩
    | 2, hd => cases hd; exact ⟨_, _, _, A2⟩
    | 3, hd => cases hd; exact ⟨_, _, _, A3⟩
    | 4, hd => cases hd; exact ⟨_, _, _, A4⟩
    | 5, hd => cases hd; exact ⟨_, _, _, A5⟩
    | 6, hd => cases hd; exact ⟨_, _, _, A6⟩
    | 7, hd => cases hd; exact ⟨_, _, _, A7⟩
    | 8, hd => cases hd; exact ⟨_, _, _, A8⟩
    | 9, hd => cases hd; exact ⟨_, _, _, A9⟩
    | 10, hd => cases hd; exact ⟨_, _, _, A10⟩
    | 11, hd => cases hd; exact ⟨_, _, _, A11⟩
    | 12, hd => cases hd; exact ⟨_, _, _, A12⟩
    | 13, hd => cases hd; exact ⟨_, _, _, A13⟩
    | 14, hd => cases hd; exact ⟨_, _, _, A14⟩
    | 15, hd => cases hd; exact ⟨_, _, _, A15⟩
    | 16, hd => cases hd; exact ⟨_, _, _, A16⟩
    | 17, hd => cases hd; exact ⟨_, _, _, A17⟩
    | 18, hd => cases hd; exact ⟨_, _, _, A18⟩
    | 19, hd => cases hd; exact ⟨_, _, _, A19⟩
  exact ⟨_, fun s v => .of_eq rfl, fun base _ _ => fns_ok hB hG hE T WN 19 f19 (topS 30) fa _ rfl A19⟩
end
end Law_k50
open PySem PySem.W PyProof.Rows
set_option maxHeartbeats 0 in
theorem PySem.Challenge.cw_ablehands_k50_books_and_fractions_writte_holds : PySem.Challenge.rw_ablehands_k50_books_and_fractions_writte.Holds := by
  w_on; o_law; k_head; (case hw => w_witness2)
  k_fill
  refine Iv.walk_g (l := PySem.Challenge.rw_ablehands_k50_books_and_fractions_writte) (n := 63) (k := Law_k50.WN) (x := "script") (CX := fun w => L2.CX PySem.Challenge.rw_ablehands_k50_books_and_fractions_writte.prog w) (sp := fun w => Iv.spC _ Law_k50.P Law_k50.WW Law_k50.WN 19) rfl (by decide) rfl ⟨rfl, by decide, by decide⟩ (fun w h Y => PySem.W.kIn_of Y) ?F (fun _ H a ns hl hO hS => Iv.law_sp hO hS (Law_k50.law_run ns hl)) (fun _ _ _ _ _ h => Iv.cx_false h)
  case F =>
    intro w mg fa h KX G hmg
    refine' Law_k50.all_mk KX G hmg ?m0 ?l0 ?c0 ?k0 ?m1 ?l1 ?c1 ?k1 ?m2 ?l2 ?c2 ?k2 ?m3 ?l3 ?c3 ?k3 ?m4 ?l4 ?c4 ?k4 ?m5 ?l5 ?c5 ?k5 ?m6 ?l6 ?c6 ?k6 ?m7 ?l7 ?c7 ?k7 ?m8 ?l8 ?c8 ?k8 ?m9 ?l9 ?c9 ?k9 ?m10 ?l10 ?c10 ?k10 ?m11 ?l11 ?c11 ?k11 ?m12 ?l12 ?c12 ?k12 ?m13 ?l13 ?c13 ?k13 ?m14 ?l14 ?c14 ?k14 ?m15 ?l15 ?c15 ?k15 ?m16 ?l16 ?c16 ?k16 ?m17 ?l17 ?c17 ?k17 ?m18 ?l18 ?c18 ?k18 ?m19 ?l19 ?c19 ?k19 ?z0 ?z1 ?z2 ?z3 ?z4 ?z5 ?z6 ?z7 ?z8 ?v0 ?v1 ?v2 ?v3
    (case m0 => k_is); (case l0 => k_is); (case c0 => k_is); (case k0 => k_is); (case m1 => k_is); (case l1 => k_is); (case c1 => k_is); (case k1 => k_is); (case m2 => k_is); (case l2 => k_is); (case c2 => k_is); (case k2 => k_is); (case m3 => k_is); (case l3 => k_is); (case c3 => k_is); (case k3 => k_is); (case m4 => k_is); (case l4 => k_is); (case c4 => k_is); (case k4 => k_is); (case m5 => k_is); (case l5 => k_is); (case c5 => k_is); (case k5 => k_is); (case m6 => k_is); (case l6 => k_is); (case c6 => k_is); (case k6 => k_is); (case m7 => k_is); (case l7 => k_is); (case c7 => k_is); (case k7 => k_is); (case m8 => k_is); (case l8 => k_is); (case c8 => k_is); (case k8 => k_is); (case m9 => k_is); (case l9 => k_is); (case c9 => k_is); (case k9 => k_is); (case m10 => k_is); (case l10 => k_is); (case c10 => k_is); (case k10 => k_is); (case m11 => k_is); (case l11 => k_is); (case c11 => k_is); (case k11 => k_is); (case m12 => k_is); (case l12 => k_is); (case c12 => k_is); (case k12 => k_is); (case m13 => k_is); (case l13 => k_is); (case c13 => k_is); (case k13 => k_is); (case m14 => k_is); (case l14 => k_is); (case c14 => k_is); (case k14 => k_is); (case m15 => k_is); (case l15 => k_is); (case c15 => k_is); (case k15 => k_is); (case m16 => k_is); (case l16 => k_is); (case c16 => k_is); (case k16 => k_is); (case m17 => k_is); (case l17 => k_is); (case c17 => k_is); (case k17 => k_is); (case m18 => k_is); (case l18 => k_is); (case c18 => k_is); (case k18 => k_is); (case m19 => k_is); (case l19 => k_is); (case c19 => k_is); (case k19 => k_is); (case z0 => k_is); (case z1 => k_is); (case z2 => k_is); (case z3 => k_is); (case z4 => k_is); (case z5 => k_is); (case z6 => k_is); (case z7 => k_is); (case z8 => k_is); (case v0 => k_is); (case v1 => k_is); (case v2 => k_is); (case v3 => k_is)
