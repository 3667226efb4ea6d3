import PyProof.Rows.All
import Wide.All
import OpenK.AllK
import Wide.FinOn
import HandS.ForMost
import HandS.ForExc
import HandS.Evl
import HandS.Wide
import HandS.IsInst
import HandS.Conv
import HandS.TupAny
import HandS.Flow
import HandS.Walk
import HandS.Deep
import HandS.SortInts
import HandS.Style
import HandS.Zip
import PySem.Challenge.RW_ablehands_k30_fractions_told
set_option Elab.async false
set_option linter.all false
set_option maxRecDepth 100000
set_option maxHeartbeats 4000000
set_option autoImplicit true
/-! Iv1: values, expressions, statements, their meaning. -/
namespace Iv
open PySem
/-- a value: numbers, texts, what nobody changes any more (tup, lst), a place of the store -/
inductive Val where
  | non | bl (b : Bool) | int (i : Int) | str (s : Str)
  | tup (vs : List Val) | lst (vs : List Val) | loc (n : Nat)
/-- what stands in the store -/
inductive Obj where
  | lst (vs : List Val)
abbrev Store := List Obj
abbrev Env := List (Option Val)
inductive R (α : Type) where
  | ok (a : α) (S : Store) | ex (c : Nat) (S : Store) | bad
def R.bind {α β : Type} (r : R α) (f : α → Store → R β) : R β :=
  match r with
  | .ok a S => f a S
  | .ex c S => .ex c S
  | .bad => .bad
def R.of {α : Type} (o : Option α) (S : Store) : R α :=
  match o with
  | some a => .ok a S
  | none => .bad
/-- no exception may leave -/
def R.mute {α : Type} (r : R α) : R α :=
  match r with
  | .ok a S => .ok a S
  | _ => .bad
mutual
def Val.free : Val → Bool
  | .tup vs => Val.frees vs
  | .lst vs => Val.frees vs
  | .loc _ => false
  | _ => true
def Val.frees : List Val → Bool
  | [] => true
  | v :: vs => v.free && Val.frees vs
end
mutual
def mapLoc (g : Nat → Option Val) : Val → Option Val
  | .tup vs => match mapLocs g vs with
    | some ws => some (.tup ws)
    | none => none
  | .lst vs => match mapLocs g vs with
    | some ws => some (.lst ws)
    | none => none
  | .loc n => g n
  | .non => some .non
  | .bl b => some (.bl b)
  | .int i => some (.int i)
  | .str s => some (.str s)
def mapLocs (g : Nat → Option Val) : List Val → Option (List Val)
  | [] => some []
  | v :: vs => match mapLoc g v with
    | some w => match mapLocs g vs with
      | some ws => some (w :: ws)
      | none => none
    | none => none
end
def allSome (g : Val → Option Val) : List Val → Option (List Val)
  | [] => some []
  | v :: vs => match g v with
    | some w => match allSome g vs with
      | some ws => some (w :: ws)
      | none => none
    | none => none
/-- the places that are not kept as what they hold -/
def frz (S : Store) (kp : Nat → Bool) : Nat → Val → Option Val
  | 0 => mapLoc fun _ => none
  | f + 1 => mapLoc fun n => if kp n then none else
    match S[n]? with
    | some (.lst vs) => match allSome (frz S kp f) vs with
      | some ws => some (.lst ws)
      | none => none
    | none => none
def frzO (S : Store) (kp : Nat → Bool) : Obj → Option Obj
  | .lst vs => match allSome (frz S kp 6) vs with
    | some ws => some (.lst ws)
    | none => none
def Obj.free : Obj → Bool
  | .lst vs => Val.frees vs
/-! ### the words -/
inductive Bop where | add | sub | mul | fdiv | mod | pow
  deriving DecidableEq
inductive Cop where | eq | ne | lt | le | gt | ge | isin | notin | is | isnot
  deriving DecidableEq
/-- built-in functions of values -/
inductive Blt where | len | abs | max2 | min2 | all | any | sum | sorted | list | tuple | int | str | rangeL | max1 | min1
  deriving DecidableEq
inductive Mth where | append | extend | pop | index | count | insert | remove | clear
  deriving DecidableEq
inductive Tg where
  | nm (i : Nat) | tp (is : List Nat)
inductive E where
  | nil | cons (e r : E)
  | var (i : Nat) | non | bl (b : Bool) | int (i : Int) | str (s : Str)
  | tup (es : E) | lst (mu : Bool) (es : E)
  | bin (o : Bop) (a b : E) | neg (a : E)
  | cmp (o : Cop) (a b : E) | chain (o o' : Cop) (a b c : E)
  | and (a b : E) | or (a b : E) | not (a : E) | ite (t a b : E)
  | call (mu : Bool) (f : Nat) (es : E) | blt (f : Blt) (es : E) | isi (a : E) (T : String)
  | ix (a i : E) | sl (a lo hi : E)
  | comp (mu : Bool) (g : Tg) (own : List (Str × Nat)) (it cond elt : E)
  | rng (a : E) | rng2 (a b : E) | enum (a : E) | zip (a b : E) | rev (a : E) | vals (a : E) | yes | part (a : E)
  | mth (m : Mth) (o es : E)
inductive St where
  | nil | seq (s r : St)
  | expr (e : E) | asg (i : Nat) (e : E) | par (i j : Nat) (a b : E) | unp (is : List Nat) (e : E)
  | sub (o i e : E)
  | ite (t : E) (a b : St) | for_ (g : Tg) (it : E) (b : St) | while_ (t : E) (b : St)
  | ret (e : E) | retN | pass | brk | cnt
/-! ### operations -/
def mulOk (i j : Int) : Bool := (decide (-(2 ^ 64) < i) && decide (i < 2 ^ 64)) || (decide (-(2 ^ 64) < j) && decide (j < 2 ^ 64)) || decide (i.natAbs.log2 + j.natAbs.log2 < 1000000)
def binI : Bop → Int → Int → Option Int
  | .add, i, j => some (i + j)
  | .sub, i, j => some (i - j)
  | .mul, i, j => if mulOk i j then some (i * j) else none
  | .fdiv, i, j => if 0 < j ∧ j.natAbs.log2 < 9000 then some (i / j) else none
  | .mod, i, j => if 0 < j then some (i % j) else none
  | .pow, i, j => if 0 ≤ j ∧ j ≤ 1000000 ∧ i.natAbs < 2 ^ 64 then some (i ^ j.toNat) else none
def lim : Nat := 100000
def binV : Bop → Val → Val → Option Val
  | o, .int i, .int j => match binI o i j with
    | some k => some (.int k)
    | none => none
  | .add, .str a, .str b => if a.length + b.length ≤ lim then some (.str (a ++ b)) else none
  | .add, .tup a, .tup b => if a.length + b.length ≤ lim then some (.tup (a ++ b)) else none
  | .add, .lst a, .lst b => if a.length + b.length ≤ lim then some (.lst (a ++ b)) else none
  | _, _, _ => none
mutual
def toD : Val → Option PyData
  | .non => some .none
  | .bl b => some (.bool b)
  | .int i => some (.int i)
  | .str s => some (.str s)
  | .tup vs => match toDs vs with
    | some ds => some (.tuple ds)
    | none => none
  | .lst vs => match toDs vs with
    | some ds => some (.list ds)
    | none => none
  | .loc _ => none
def toDs : List Val → Option (List PyData)
  | [] => some []
  | v :: vs => match toD v with
    | some d => match toDs vs with
      | some ds => some (d :: ds)
      | none => none
    | none => none
end
/-- what a place holds, as a value -/
def deref (S : Store) : Val → Val
  | .loc n => match S[n]? with
    | some (.lst vs) => .lst vs
    | none => .loc n
  | v => v
def eqV (a b : Val) : Option Bool :=
  match toD a with
  | some d => match toD b with
    | some e => if SeqAt.shaped d && SeqAt.shaped e then some (PyData.eqv d e) else none
    | none => none
  | none => none
def inVals (x : Val) (ys : List Val) : Option Bool :=
  match toD x with
  | some d => match toDs ys with
    | some es => if SeqAt.shaped d && SeqAt.shaped (.list es) then some (es.any fun z => PyData.eqv z d) else none
    | none => none
  | none => none
def items (S : Store) : Val → Option (List Val)
  | .tup vs => some vs
  | .lst vs => some vs
  | .loc n => match S[n]? with
    | some (.lst vs) => some vs
    | none => none
  | _ => none
def cmpV (S : Store) : Cop → Val → Val → Option Bool
  | .lt, .int i, .int j => some (decide (i < j))
  | .le, .int i, .int j => some (decide (i ≤ j))
  | .gt, .int i, .int j => some (decide (j < i))
  | .ge, .int i, .int j => some (decide (j ≤ i))
  | .eq, a, b => eqV (deref S a) (deref S b)
  | .ne, a, b => match eqV (deref S a) (deref S b) with
    | some k => some (!k)
    | none => none
  | .is, .non, .non => some true
  | .is, .bl _, .non => some false
  | .is, .int _, .non => some false
  | .is, .str _, .non => some false
  | .is, .tup _, .non => some false
  | .is, .lst _, .non => some false
  | .is, .loc _, .non => some false
  | .is, .bl a, .bl b => some (decide (a = b))
  | .isnot, .non, .non => some false
  | .isnot, .bl _, .non => some true
  | .isnot, .int _, .non => some true
  | .isnot, .str _, .non => some true
  | .isnot, .tup _, .non => some true
  | .isnot, .lst _, .non => some true
  | .isnot, .loc _, .non => some true
  | .isnot, .bl a, .bl b => some (!decide (a = b))
  | .isin, a, b => match items S b with
    | some ws => inVals (deref S a) ws
    | none => none
  | .notin, a, b => match items S b with
    | some ws => match inVals (deref S a) ws with
      | some k => some (!k)
      | none => none
    | none => none
  | _, _, _ => none
def isT (S : Store) (T : String) : Val → Option Bool
  | .non => some false
  | .bl _ => if T = "int" ∨ T = "bool" then some true else some false
  | .int _ => some (decide (T = "int"))
  | .str _ => some (decide (T = "str"))
  | .tup _ => some (decide (T = "tuple"))
  | .lst _ => some (decide (T = "list"))
  | .loc n => match S[n]? with
    | some (.lst _) => some (decide (T = "list"))
    | none => none
def atV (vs : List Val) (i : Int) : Option Val := L2.atI vs i
/-- a built-in's value -/
def bltV (S : Store) : Blt → List Val → Option Val
  | .len, [v] => match v with
    | .str s => if s.length ≤ lim then some (.int s.length) else none
    | v => match items S v with
      | some vs => some (.int vs.length)
      | none => none
  | .abs, [.int i] => some (.int (if i < 0 then -i else i))
  | .max2, [.int i, .int j] => some (.int (if j > i then j else i))
  | .min2, [.int i, .int j] => some (.int (if j < i then j else i))
  | _, _ => none
def setTg (ρ : Env) : Tg → Val → Option Env
  | .nm i, v => some (ρ.set i (some v))
  | .tp is, .tup vs => if is.length = vs.length then some ((is.zip vs).foldl (fun ρ p => ρ.set p.1 (some p.2)) ρ) else none
  | .tp _, _ => none
def wipeE (ρ : Env) : List Nat → Env
  | [] => ρ
  | v :: vs => (wipeE ρ vs).set v none
/-- a comprehension's turns -/
def compGo (f : Val → Store → R (Option Val)) : List Val → List Val → Store → R (List Val)
  | [], acc, S => .ok acc S
  | x :: xs, acc, S => match f x S with
    | .ok (some v) S1 => if acc.length < lim then compGo f xs (acc ++ [v]) S1 else .bad
    | .ok none S1 => compGo f xs acc S1
    | _ => .bad
def pairs : Nat → List Val → List Val
  | _, [] => []
  | k, v :: vs => .tup [.int k, v] :: pairs (k + 1) vs
def zipV : List Val → List Val → List Val
  | a :: as, b :: bs => .tup [a, b] :: zipV as bs
  | _, _ => []
def rangeV (lo : Int) : Nat → List Val
  | 0 => []
  | n + 1 => .int lo :: rangeV (lo + 1) n
def asBool {α : Type} (r : Val) (f : Bool → R α) : R α :=
  match r with
  | .bl b => f b
  | _ => .bad
def mk (mu : Bool) (vs : List Val) (S : Store) : R Val :=
  if mu then .ok (.loc S.length) (S ++ [.lst vs]) else .ok (.lst vs) S
def partV : Val → Option (Option Int)
  | .non => some none
  | .int i => some (some i)
  | _ => none
def cutL (xs : List Val) (lo hi : Option Int) : List Val := (xs.drop (HT.sIx xs.length 0 lo)).take (HT.sIx xs.length xs.length hi - HT.sIx xs.length 0 lo)
def sliceV (S : Store) (v : Val) (lo hi : Option Int) : Option Val :=
  match v with
  | .tup vs => some (.tup (cutL vs lo hi))
  | .lst vs => some (.lst (cutL vs lo hi))
  | .loc n => match S[n]? with
    | some (.lst vs) => some (.lst (cutL vs lo hi))
    | none => none
  | _ => none
def ixV (S : Store) (v i : Val) : Option Val :=
  match i with
  | .int k => match items S v with
    | some vs => L2.atI vs k
    | none => none
  | _ => none
/-- whose methods these are -/
def rcv (S : Store) (m : Mth) : Val → Bool
  | .loc n => match S[n]? with
    | some (.lst _) => true
    | none => false
  | .lst _ => match m with
    | .index => true
    | .count => true
    | _ => false
  | _ => false
def mthV (m : Mth) (o : Val) (vs : List Val) (S : Store) : R Val :=
  match m, o, vs with
  | .append, .loc n, [v] => match S[n]? with
    | some (.lst xs) => if xs.length < lim then .ok .non (S.set n (.lst (xs ++ [v]))) else .bad
    | none => .bad
  | _, _, _ => .bad
def rngR (v w : Val) (S : Store) : R (List Val) :=
  match v, w with
  | .int lo, .int hi => if -(2 ^ 62) ≤ lo ∧ lo < 2 ^ 62 ∧ -(2 ^ 62) ≤ hi ∧ hi < 2 ^ 62 then .ok (rangeV lo (hi - lo).toNat) S else .bad
  | _, _ => .bad
def zipR (v w : Val) (S : Store) : R (List Val) :=
  match v, w with
  | .lst vs, .lst ws => .ok (zipV vs ws) S
  | .tup vs, .tup ws => .ok (zipV vs ws) S
  | _, _ => .bad
section
variable (Φ : Bool → Nat → List Val → Store → R Val)
mutual
def evalE : E → Env → Store → R Val
  | .nil, _, _ => .bad
  | .yes, _, S => .ok (.bl true) S
  | .cons _ _, _, _ => .bad
  | .var i, ρ, S => match ρ[i]? with
    | some (some v) => .ok v S
    | _ => .bad
  | .non, _, S => .ok .non S
  | .bl b, _, S => .ok (.bl b) S
  | .int i, _, S => .ok (.int i) S
  | .str s, _, S => .ok (.str s) S
  | .tup es, ρ, S => (evalA es ρ S).bind fun vs S1 => if vs.length ≤ lim then .ok (.tup vs) S1 else .bad
  | .lst mu es, ρ, S => (evalA es ρ S).bind fun vs S1 => if vs.length ≤ lim then mk mu vs S1 else .bad
  | .bin o a b, ρ, S => (evalE a ρ S).bind fun v S1 => (evalE b ρ S1).bind fun w S2 => .of (binV o v w) S2
  | .neg a, ρ, S => (evalE a ρ S).bind fun v S1 => match v with
    | .int i => .ok (.int (-i)) S1
    | _ => .bad
  | .cmp o a b, ρ, S => (evalE a ρ S).bind fun v S1 => (evalE b ρ S1).bind fun w S2 => .of ((cmpV S2 o v w).map .bl) S2
  | .chain o o' a b c, ρ, S => (evalE a ρ S).bind fun v S1 => (evalE b ρ S1).bind fun w S2 => match cmpV S2 o v w with
    | some true => (evalE c ρ S2).bind fun u S3 => .of ((cmpV S3 o' w u).map .bl) S3
    | some false => .ok (.bl false) S2
    | none => .bad
  | .and a b, ρ, S => (evalE a ρ S).bind fun v S1 => asBool v fun k => if k then evalE b ρ S1 else .ok (.bl false) S1
  | .or a b, ρ, S => (evalE a ρ S).bind fun v S1 => asBool v fun k => if k then .ok (.bl true) S1 else evalE b ρ S1
  | .not a, ρ, S => (evalE a ρ S).bind fun v S1 => asBool v fun k => .ok (.bl (!k)) S1
  | .ite t a b, ρ, S => (evalE t ρ S).bind fun v S1 => asBool v fun k => if k then evalE a ρ S1 else evalE b ρ S1
  | .call mu f es, ρ, S => (evalA es ρ S).bind fun vs S1 => Φ mu f vs S1
  | .blt f es, ρ, S => (evalA es ρ S).bind fun vs S1 => .of (bltV S1 f vs) S1
  | .isi a T, ρ, S => (evalE a ρ S).bind fun v S1 => .of ((isT S1 T v).map .bl) S1
  | .ix a i, ρ, S => (evalE a ρ S).bind fun v S1 => (evalE i ρ S1).bind fun w S2 => .of (ixV S2 v w) S2
  | .sl a lo hi, ρ, S => (evalE a ρ S).bind fun v S1 => (evalO lo ρ S1).bind fun l S2 => (evalO hi ρ S2).bind fun h S3 => .of (sliceV S3 v l h) S3
  | .comp mu g own it cond elt, ρ, S => (evalI it ρ S).bind fun xs S1 =>
    (compGo (fun x S2 => match setTg (wipeE ρ (own.map (·.2))) g x with
      | some ρ' => ((evalE cond ρ' S2).bind fun c S3 => asBool c fun k => if k then (evalE elt ρ' S3).bind fun v S4 => .ok (some v) S4 else .ok none S3).mute
      | none => .bad) xs [] S1).bind fun vs S2 => mk mu vs S2
  | .mth m o es, ρ, S => (evalE o ρ S).bind fun v S1 => if rcv S1 m v then (evalA es ρ S1).bind fun vs S2 => mthV m v vs S2 else .bad
  | .rng _, _, _ => .bad
  | .rng2 _ _, _, _ => .bad
  | .enum _, _, _ => .bad
  | .zip _ _, _, _ => .bad
  | .rev _, _, _ => .bad
  | .vals _, _, _ => .bad
  | .part _, _, _ => .bad
termination_by structural e => e
def evalO : E → Env → Store → R (Option Int)
  | .nil, _, S => .ok none S
  | .part e, ρ, S => (evalE e ρ S).bind fun v S1 => match v with
    | .int i => .ok (some i) S1
    | _ => .bad
  | _, _, _ => .bad
termination_by structural e => e
def evalA : E → Env → Store → R (List Val)
  | .nil, _, S => .ok [] S
  | .cons e r, ρ, S => (evalE e ρ S).bind fun v S1 => (evalA r ρ S1).bind fun vs S2 => .ok (v :: vs) S2
  | _, _, _ => .bad
termination_by structural e => e
def evalI : E → Env → Store → R (List Val)
  | .rng a, ρ, S => (evalE a ρ S).bind fun v S1 => match v with
    | .int n => if -(2 ^ 62) ≤ n ∧ n < 2 ^ 62 then .ok (rangeV 0 n.toNat) S1 else .bad
    | _ => .bad
  | .rng2 a b, ρ, S => (evalE a ρ S).bind fun v S1 => (evalE b ρ S1).bind fun w S2 => rngR v w S2
  | .enum a, ρ, S => (evalE a ρ S).bind fun v S1 => match v with
    | .lst vs => .ok (pairs 0 vs) S1
    | _ => .bad
  | .zip a b, ρ, S => (evalE a ρ S).bind fun v S1 => (evalE b ρ S1).bind fun w S2 => zipR v w S2
  | .vals e, ρ, S => (evalE e ρ S).bind fun v S1 => match v with
    | .tup vs => .ok vs S1
    | .lst vs => .ok vs S1
    | _ => .bad
  | _, _, _ => .bad
termination_by structural e => e
end
end
inductive Out where
  | nxt (ρ : Env) (S : Store) | ret (v : Val) (S : Store) | brk (ρ : Env) (S : Store) | cnt (ρ : Env) (S : Store) | ex (c : Nat) (S : Store) | bad
def R.go {α : Type} (r : R α) (f : α → Store → Out) : Out :=
  match r with
  | .ok a S => f a S
  | .ex c S => .ex c S
  | .bad => .bad
def Out.then (o : Out) (f : Env → Store → Out) : Out :=
  match o with
  | .nxt ρ S => f ρ S
  | o => o
def asB (r : Val) (f : Bool → Out) : Out :=
  match r with
  | .bl b => f b
  | _ => .bad
/-- a for's turns -/
def forGo (g : Tg) (f : Env → Store → Out) : List Val → Env → Store → Out
  | [], ρ, S => .nxt ρ S
  | x :: xs, ρ, S => match setTg ρ g x with
    | some ρ1 => match f ρ1 S with
      | .nxt ρ2 S2 => forGo g f xs ρ2 S2
      | .cnt ρ2 S2 => forGo g f xs ρ2 S2
      | .brk ρ2 S2 => .nxt ρ2 S2
      | .ret v S2 => .ret v S2
      | .ex c S2 => .ex c S2
      | .bad => .bad
    | none => .bad
def whileGo (t : Env → Store → R Val) (f : Env → Store → Out) : Nat → Env → Store → Out
  | 0, _, _ => .bad
  | k + 1, ρ, S => (t ρ S).go fun v S1 => asB v fun b => if b then match f ρ S1 with
      | .nxt ρ2 S2 => whileGo t f k ρ2 S2
      | .cnt ρ2 S2 => whileGo t f k ρ2 S2
      | .brk ρ2 S2 => .nxt ρ2 S2
      | .ret v S2 => .ret v S2
      | .ex c S2 => .ex c S2
      | .bad => .bad
    else .nxt ρ S1
def storeSub (S : Store) (o i v : Val) : Option Store :=
  match o, i with
  | .loc n, .int k => match S[n]? with
    | some (.lst xs) => match L2.ixN xs.length k with
      | some j => some (S.set n (.lst (xs.set j v)))
      | none => none
    | none => none
  | _, _ => none
section
variable (Φ : Bool → Nat → List Val → Store → R Val) (W : Nat)
def execS : St → Env → Store → Out
  | .nil, ρ, S => .nxt ρ S
  | .seq s r, ρ, S => (execS s ρ S).then fun ρ1 S1 => execS r ρ1 S1
  | .expr e, ρ, S => (evalE Φ e ρ S).go fun _ S1 => .nxt ρ S1
  | .asg i e, ρ, S => (evalE Φ e ρ S).go fun v S1 => .nxt (ρ.set i (some v)) S1
  | .par i j a b, ρ, S => (evalE Φ a ρ S).go fun v S1 => (evalE Φ b ρ S1).go fun w S2 => .nxt ((ρ.set i (some v)).set j (some w)) S2
  | .unp is e, ρ, S => (evalE Φ e ρ S).go fun v S1 => match setTg ρ (.tp is) v with
    | some ρ1 => .nxt ρ1 S1
    | none => .bad
  | .sub o i e, ρ, S => (evalE Φ e ρ S).go fun v S1 => (evalE Φ o ρ S1).go fun ov S2 => (evalE Φ i ρ S2).go fun iv S3 => match storeSub S3 ov iv v with
    | some S4 => .nxt ρ S4
    | none => .bad
  | .ite t a b, ρ, S => (evalE Φ t ρ S).go fun v S1 => asB v fun k => if k then execS a ρ S1 else execS b ρ S1
  | .for_ g it b, ρ, S => (evalI Φ it ρ S).go fun xs S1 => forGo g (fun ρ1 S2 => execS b ρ1 S2) xs ρ S1
  | .while_ t b, ρ, S => whileGo (fun ρ1 S1 => evalE Φ t ρ1 S1) (fun ρ1 S1 => execS b ρ1 S1) W ρ S
  | .ret e, ρ, S => (evalE Φ e ρ S).go fun v S1 => .ret v S1
  | .retN, _, S => .ret .non S
  | .pass, ρ, S => .nxt ρ S
  | .brk, ρ, S => .brk ρ S
  | .cnt, ρ, S => .cnt ρ S
end
/-! ### calls -/
def argLocs : List Val → List Nat
  | [] => []
  | .loc n :: r => n :: argLocs r
  | _ :: r => argLocs r
def reArgs : Nat → List Val → List Val
  | _, [] => []
  | k, .loc _ :: r => .loc k :: reArgs (k + 1) r
  | k, v :: r => v :: reArgs k r
def argsOk : List Val → Bool
  | [] => true
  | .loc _ :: r => argsOk r
  | v :: r => v.free && argsOk r
def getAll (S : Store) : List Nat → Option Store
  | [] => some []
  | n :: r => match S[n]? with
    | some o => match getAll S r with
      | some os => some (o :: os)
      | none => none
    | none => none
def freeObjs : Store → Bool
  | [] => true
  | o :: r => o.free && freeObjs r
/-- the j-th and further objects of S' back to the places ls of S -/
def backs (S' : Store) (kp : Nat → Bool) : Nat → List Nat → Store → Option Store
  | _, [], S => some S
  | j, n :: r, S => match S'[j]? with
    | some o => match frzO S' kp o with
      | some o' => backs S' kp (j + 1) r (S.set n o')
      | none => none
    | none => none
def resV (S' : Store) (ls : List Nat) (v : Val) : Option Val :=
  match v with
  | .loc j => match ls[j]? with
    | some n => some (.loc n)
    | none => frz S' (fun n => decide (n < ls.length)) 6 v
  | v => frz S' (fun n => decide (n < ls.length)) 6 v
/-- the place of a new list that is handed back to be changed -/
def newLoc (k : Nat) (v : Val) : Option Nat :=
  match v with
  | .loc j => if k ≤ j then some j else none
  | _ => none
def kpJ (k j : Nat) (n : Nat) : Bool := decide (n < k) || decide (n = j)
/-- a call: the callee sees its arguments and the lists that stand among them; what it hands back is frozen, or (mu) a new list of the store -/
def callI (Φ : Nat → List Val → Store → R Val) (mu : Bool) (f : Nat) (args : List Val) (S : Store) : R Val :=
  if argsOk args && decide (argLocs args).Nodup then
    match getAll S (argLocs args) with
    | some os => if freeObjs os then
        match Φ f (reArgs 0 args) os with
        | .ok v S' =>
          if mu then
            match newLoc (argLocs args).length v with
            | some j => match S'[j]? with
              | some o => match frzO S' (kpJ (argLocs args).length j) o with
                | some o' => match backs S' (kpJ (argLocs args).length j) 0 (argLocs args) S with
                  | some S2 => .ok (.loc S2.length) (S2 ++ [o'])
                  | none => .bad
                | none => .bad
              | none => .bad
            | none => .bad
          else
            match backs S' (fun n => decide (n < (argLocs args).length)) 0 (argLocs args) S with
            | some S2 => match resV S' (argLocs args) v with
              | some v' => .ok v' S2
              | none => .bad
            | none => .bad
        | .ex c S' => match backs S' (fun n => decide (n < (argLocs args).length)) 0 (argLocs args) S with
          | some S2 => .ex c S2
          | none => .bad
        | .bad => .bad
      else .bad
    | none => .bad
  else .bad
def Out.res (o : Out) : R Val :=
  match o with
  | .nxt _ S => .ok .non S
  | .ret v S => .ok v S
  | .ex c S => .ex c S
  | _ => .bad
/-- a def: its parameters, its names, its body -/
structure Fn where
  name : Str
  ps : List Str
  N : List Str
  body : St
def startE (n : Nat) (args : List Val) : Env := args.map some ++ List.replicate (n - args.length) none
def run (P : Nat → Option Fn) (W : Nat) : Nat → Nat → List Val → Store → R Val
  | 0, _, _, _ => .bad
  | k + 1, f, args, S => match P f with
    | some d => if args.length = d.ps.length then (execS (callI (run P W k)) W d.body (startE d.N.length args) S).res else .bad
    | none => .bad
end Iv
/-! Iv2: values and stores against the abstract heap. -/
namespace Iv
open PySem PySem.Spec PyProof.Rows L2
open Evl (Ex ex_l ex_t)
mutual
def Rep (K : PySem.W.Frag) (Hf : Hp) (m : List Addr) : Val → V → Prop
  | .non, x => x = .non
  | .bl b, x => x = .bl b
  | .int i, x => x = .int i
  | .str s, x => x = .str s
  | .tup vs, x => ∃ a xs, x = .ref a ∧ SqT K Hf a xs ∧ Reps K Hf m vs xs
  | .lst vs, x => ∃ a xs, x = .ref a ∧ SqL K Hf a xs ∧ Reps K Hf m vs xs
  | .loc n, x => ∃ a, x = .ref a ∧ m[n]? = some a
def Reps (K : PySem.W.Frag) (Hf : Hp) (m : List Addr) : List Val → List V → Prop
  | [], xs => xs = []
  | v :: vs, xs => ∃ x r, xs = x :: r ∧ Rep K Hf m v x ∧ Reps K Hf m vs r
end
variable {K : PySem.W.Frag} {Hf Hf' Fr H H' : Hp} {m m' : List Addr} {S S' : Store}
theorem pre_get {n : Nat} {a : Addr} (p : m <+: m') (h : m[n]? = some a) : m'[n]? = some a := by
  obtain ⟨t, rfl⟩ := p
  rw [List.getElem?_append_left (List.getElem?_eq_some_iff.mp h).1]
  exact h
mutual
theorem Rep.mono (e : Ex Hf Hf') (p : m <+: m') : ∀ (v : Val) (x : V), Rep K Hf m v x → Rep K Hf' m' v x
  | .non, _, h => h
  | .bl _, _, h => h
  | .int _, _, h => h
  | .str _, _, h => h
  | .tup vs, _, h => by
    obtain ⟨a, xs, h1, h2, h3⟩ := h
    exact ⟨a, xs, h1, ex_t e h2, Reps.mono e p vs xs h3⟩
  | .lst vs, _, h => by
    obtain ⟨a, xs, h1, h2, h3⟩ := h
    exact ⟨a, xs, h1, ex_l e h2, Reps.mono e p vs xs h3⟩
  | .loc n, _, h => by
    obtain ⟨a, h1, h2⟩ := h
    exact ⟨a, h1, pre_get p h2⟩
theorem Reps.mono (e : Ex Hf Hf') (p : m <+: m') : ∀ (vs : List Val) (xs : List V), Reps K Hf m vs xs → Reps K Hf' m' vs xs
  | [], _, h => h
  | v :: vs, _, h => by
    obtain ⟨x, r, h1, h2, h3⟩ := h
    exact ⟨x, r, h1, Rep.mono e p v x h2, Reps.mono e p vs r h3⟩
end
mutual
theorem Rep.free : ∀ (v : Val) (x : V), v.free = true → Rep K Hf m v x → Rep K Hf m' v x
  | .non, _, _, h => h
  | .bl _, _, _, h => h
  | .int _, _, _, h => h
  | .str _, _, _, h => h
  | .tup vs, _, f, h => by
    obtain ⟨a, xs, h1, h2, h3⟩ := h
    exact ⟨a, xs, h1, h2, Reps.free vs xs f h3⟩
  | .lst vs, _, f, h => by
    obtain ⟨a, xs, h1, h2, h3⟩ := h
    exact ⟨a, xs, h1, h2, Reps.free vs xs f h3⟩
  | .loc n, _, f, h => by cases f
theorem Reps.free : ∀ (vs : List Val) (xs : List V), Val.frees vs = true → Reps K Hf m vs xs → Reps K Hf m' vs xs
  | [], _, _, h => h
  | v :: vs, _, f, h => by
    obtain ⟨x, r, h1, h2, h3⟩ := h
    have f' : (v.free && Val.frees vs) = true := f
    rw [Bool.and_eq_true] at f'
    exact ⟨x, r, h1, Rep.free v x f'.1 h2, Reps.free vs r f'.2 h3⟩
end
theorem Reps.nil : Reps K Hf m [] [] := rfl
theorem Reps.cons {v : Val} {vs : List Val} {x : V} {xs : List V} (h : Rep K Hf m v x) (t : Reps K Hf m vs xs) : Reps K Hf m (v :: vs) (x :: xs) := ⟨x, xs, rfl, h, t⟩
theorem Reps.length : ∀ {vs : List Val} {xs : List V}, Reps K Hf m vs xs → vs.length = xs.length
  | [], _, h => by cases h; rfl
  | v :: vs, _, h => by
    obtain ⟨x, r, rfl, _, h3⟩ := h
    rw [List.length_cons, List.length_cons, Reps.length h3]
theorem Reps.get : ∀ {vs : List Val} {xs : List V} {i : Nat} {v : Val}, Reps K Hf m vs xs → vs[i]? = some v → ∃ x, xs[i]? = some x ∧ Rep K Hf m v x
  | [], _, _, _, _, e => by simp at e
  | w :: vs, _, 0, v, h, e => by
    obtain ⟨x, r, rfl, h2, _⟩ := h
    have e' : w = v := by simpa using e
    subst e'
    exact ⟨x, rfl, h2⟩
  | w :: vs, _, i + 1, v, h, e => by
    obtain ⟨x, r, rfl, _, h3⟩ := h
    obtain ⟨y, h4, h5⟩ := Reps.get (i := i) (v := v) h3 (by simpa using e)
    exact ⟨y, by simpa using h4, h5⟩
theorem Reps.get' {vs : List Val} {xs : List V} {i : Nat} {x : V} (h : Reps K Hf m vs xs) (e : xs[i]? = some x) : ∃ v, vs[i]? = some v ∧ Rep K Hf m v x := by
  have hl := h.length
  have hi : i < vs.length := by rw [hl]; exact (List.getElem?_eq_some_iff.mp e).1
  obtain ⟨y, h1, h2⟩ := h.get (List.getElem?_eq_getElem hi)
  rw [e] at h1
  cases h1
  exact ⟨vs[i], List.getElem?_eq_getElem hi, h2⟩
theorem Reps.append : ∀ {vs ws : List Val} {xs ys : List V}, Reps K Hf m vs xs → Reps K Hf m ws ys → Reps K Hf m (vs ++ ws) (xs ++ ys)
  | [], _, _, _, h, t => by cases h; exact t
  | v :: vs, _, _, _, h, t => by
    obtain ⟨x, r, rfl, h2, h3⟩ := h
    exact .cons h2 (Reps.append h3 t)
theorem Reps.snoc {vs : List Val} {xs : List V} {v : Val} {x : V} (h : Reps K Hf m vs xs) (t : Rep K Hf m v x) : Reps K Hf m (vs ++ [v]) (xs ++ [x]) := h.append (.cons t .nil)
theorem Reps.drop : ∀ (n : Nat) {vs : List Val} {xs : List V}, Reps K Hf m vs xs → Reps K Hf m (vs.drop n) (xs.drop n)
  | 0, _, _, h => h
  | n + 1, [], _, h => by cases h; exact .nil
  | n + 1, v :: vs, _, h => by
    obtain ⟨x, r, rfl, _, h3⟩ := h
    exact Reps.drop n h3
theorem Reps.take : ∀ (n : Nat) {vs : List Val} {xs : List V}, Reps K Hf m vs xs → Reps K Hf m (vs.take n) (xs.take n)
  | 0, _, _, _ => .nil
  | n + 1, [], _, h => by cases h; exact .nil
  | n + 1, v :: vs, _, h => by
    obtain ⟨x, r, rfl, h2, h3⟩ := h
    exact .cons h2 (Reps.take n h3)
theorem Reps.set {v : Val} {x : V} (t : Rep K Hf m v x) : ∀ (j : Nat) {vs : List Val} {xs : List V}, Reps K Hf m vs xs → Reps K Hf m (vs.set j v) (xs.set j x)
  | _, [], _, h => by cases h; exact .nil
  | 0, w :: vs, _, h => by
    obtain ⟨y, r, rfl, _, h3⟩ := h
    exact .cons t h3
  | j + 1, w :: vs, _, h => by
    obtain ⟨y, r, rfl, h2, h3⟩ := h
    exact .cons h2 (Reps.set t j h3)
def ObjRep (K : PySem.W.Frag) (Hf : Hp) (m : List Addr) : Obj → Option HO → Prop
  | .lst vs, o => ∃ xs, o = some (.lst xs) ∧ Reps K Hf m vs xs
theorem ObjRep.mono (e : Ex Hf Hf') (p : m <+: m') : ∀ {o : Obj} {u : Option HO}, ObjRep K Hf m o u → ObjRep K Hf' m' o u
  | .lst vs, _, ⟨xs, h1, h2⟩ => ⟨xs, h1, Reps.mono e p vs xs h2⟩
theorem ObjRep.some : ∀ {o : Obj} {u : Option HO}, ObjRep K Hf m o u → ∃ w, u = some w ∧ Mut (some w)
  | .lst vs, _, ⟨xs, h1, _⟩ => ⟨.lst xs, h1, trivial⟩
/-- the store S stands at the addresses m; Hf: what nobody changes; Fr: what others keep -/
structure Sim (K : PySem.W.Frag) (Hf Fr : Hp) (m : List Addr) (S : Store) (H : Hp) : Prop where
  exf : Ex Hf H
  exr : Ex Fr H
  dis : ∀ a o, Fr a = some o → Hf a = none
  nd : m.Nodup
  len : m.length = S.length
  mf : ∀ a ∈ m, Hf a = none ∧ Fr a = none
  obj : ∀ (i : Nat) (a : Addr) (o : Obj), m[i]? = some a → S[i]? = some o → ObjRep K Hf m o (H a)
theorem none_of {Hf H : Hp} {p : Addr} (e : Ex Hf H) (h : H p = none) : Hf p = none := Evl.fresh_back e h
theorem Sim.at (s : Sim K Hf Fr m S H) {a : Addr} (ha : a ∈ m) : ∃ w, H a = some w ∧ Mut (some w) := by
  obtain ⟨i, hi⟩ := List.getElem?_of_mem ha
  have hl : i < S.length := by rw [← s.len]; exact (List.getElem?_eq_some_iff.mp hi).1
  exact (s.obj i a _ hi (List.getElem?_eq_getElem hl)).some
theorem Sim.notin (s : Sim K Hf Fr m S H) {p : Addr} (h : H p = none) : p ∉ m := fun hp => by
  obtain ⟨w, e, _⟩ := s.at hp
  rw [h] at e
  cases e
theorem ex_upd {A B : Hp} {p : Addr} {o : HO} (e : Ex A B) : Ex (upd A p o) (upd B p o) := fun a u h => by
  by_cases hp : a = p
  · subst hp
    rw [upd_same] at h ⊢
    exact h
  · rw [upd_ne hp] at h ⊢
    exact e a u h
/-- a new thing that nobody changes -/
theorem Sim.newF (s : Sim K Hf Fr m S H) {p : Addr} {o : HO} (h : H p = none) : Sim K (upd Hf p o) Fr m S (upd H p o) := by
  have hf := none_of s.exf h
  have hr := none_of s.exr h
  have hm := s.notin h
  have np : ∀ a ∈ m, a ≠ p := fun a ha e => hm (e ▸ ha)
  refine ⟨ex_upd s.exf, Evl.Ex.trans s.exr (Evl.Ex.new h), fun a u e => ?_, s.nd, s.len, fun a ha => ⟨by rw [upd_ne (np a ha)]; exact (s.mf a ha).1, (s.mf a ha).2⟩, fun i a u e1 e2 => ?_⟩
  · have ne : a ≠ p := fun z => by rw [z, hr] at e; cases e
    rw [upd_ne ne]
    exact s.dis a u e
  · rw [upd_ne (np a (List.mem_of_getElem? e1))]
    exact (s.obj i a u e1 e2).mono (Evl.Ex.new hf) (List.prefix_refl _)
/-- a new list of the store -/
theorem Sim.newL (s : Sim K Hf Fr m S H) {p : Addr} {vs : List Val} {xs : List V} (h : H p = none) (r : Reps K Hf m vs xs) : Sim K Hf Fr (m ++ [p]) (S ++ [.lst vs]) (upd H p (.lst xs)) := by
  have hf := none_of s.exf h
  have hr := none_of s.exr h
  have hm := s.notin h
  refine ⟨Evl.Ex.trans s.exf (Evl.Ex.new h), Evl.Ex.trans s.exr (Evl.Ex.new h), s.dis, ?_, by rw [List.length_append, List.length_append, s.len]; rfl, fun a ha => ?_, fun i a u e1 e2 => ?_⟩
  · rw [List.nodup_append]
    refine ⟨s.nd, by simp, fun a ha b hb => ?_⟩
    have e : b = p := by simpa using hb
    subst e
    exact fun z => hm (z ▸ ha)
  · rcases List.mem_append.mp ha with ha | ha
    · exact s.mf a ha
    · have e : a = p := by simpa using ha
      subst e
      exact ⟨hf, hr⟩
  · by_cases hi : i < m.length
    · rw [List.getElem?_append_left hi] at e1
      rw [List.getElem?_append_left (by rw [← s.len]; exact hi)] at e2
      have ne : a ≠ p := fun z => hm (z ▸ List.mem_of_getElem? e1)
      rw [upd_ne ne]
      exact (s.obj i a u e1 e2).mono (Evl.Ex.refl _) (List.prefix_append _ _)
    · have hl : i = m.length := by
        have := (List.getElem?_eq_some_iff.mp e1).1
        rw [List.length_append] at this
        have h1 : ([p] : List Addr).length = 1 := rfl
        omega
      subst hl
      have e1' : p = a := by simpa using e1
      have e2' : Obj.lst vs = u := by simpa [s.len] using e2
      subst e1' e2'
      rw [upd_same]
      exact ⟨xs, rfl, Reps.mono (Evl.Ex.refl _) (List.prefix_append _ _) _ _ r⟩
/-- a list of the store is changed -/
theorem Sim.write (s : Sim K Hf Fr m S H) {n : Nat} {a : Addr} {vs : List Val} {xs : List V} (hn : m[n]? = some a) (r : Reps K Hf m vs xs) : Sim K Hf Fr m (S.set n (.lst vs)) (upd H a (.lst xs)) := by
  have ha := List.mem_of_getElem? hn
  obtain ⟨f1, f2⟩ := s.mf a ha
  refine ⟨Evl.Ex.mut s.exf f1, Evl.Ex.mut s.exr f2, s.dis, s.nd, by rw [List.length_set]; exact s.len, s.mf, fun i b u e1 e2 => ?_⟩
  by_cases hi : i = n
  · subst hi
    rw [hn] at e1
    cases e1
    have hl : i < S.length := by rw [← s.len]; exact (List.getElem?_eq_some_iff.mp hn).1
    rw [List.getElem?_set_self hl] at e2
    cases e2
    rw [upd_same]
    exact ⟨xs, rfl, r⟩
  · rw [List.getElem?_set_ne (Ne.symm hi)] at e2
    have ne : b ≠ a := fun z => hi (by
      subst z
      obtain ⟨h1, q1⟩ := List.getElem?_eq_some_iff.mp e1
      obtain ⟨h2, q2⟩ := List.getElem?_eq_some_iff.mp hn
      exact (List.getElem_inj s.nd).mp (q1.trans q2.symm))
    rw [upd_ne ne]
    exact s.obj i b u e1 e2
/-- a new thing that is kept apart -/
theorem Sim.hold (s : Sim K Hf Fr m S H) {p : Addr} {o : HO} (h : H p = none) : Sim K Hf (upd Fr p o) m S (upd H p o) := by
  have hf := none_of s.exf h
  have hm := s.notin h
  refine ⟨Evl.Ex.trans s.exf (Evl.Ex.new h), ex_upd s.exr, fun a u e => ?_, s.nd, s.len, fun a ha => ⟨(s.mf a ha).1, ?_⟩, fun i a u e1 e2 => ?_⟩
  · by_cases hp : a = p
    · subst hp; exact hf
    · rw [upd_ne hp] at e
      exact s.dis a u e
  · rw [upd_ne (show a ≠ p from fun z => hm (z ▸ ha))]
    exact (s.mf a ha).2
  · rw [upd_ne (show a ≠ p from fun z => hm (z ▸ List.mem_of_getElem? e1))]
    exact s.obj i a u e1 e2
/-- .. changed -/
theorem Sim.held {p : Addr} {o o' : HO} (s : Sim K Hf (upd Fr p o) m S H) : Sim K Hf (upd Fr p o') m S (upd H p o') := by
  have hf : Hf p = none := s.dis p o upd_same
  have hm : p ∉ m := fun h => by
    have := (s.mf p h).2
    rw [upd_same] at this
    cases this
  have er : Ex (upd Fr p o') (upd H p o') := fun a u e => by
    by_cases hp : a = p
    · subst hp
      rw [upd_same] at e ⊢
      exact e
    · rw [upd_ne hp] at e ⊢
      exact s.exr a u (by rw [upd_ne hp]; exact e)
  refine ⟨Evl.Ex.mut s.exf hf, er, fun a u e => ?_, s.nd, s.len, fun a ha => ⟨(s.mf a ha).1, ?_⟩, fun i a u e1 e2 => ?_⟩
  · by_cases hp : a = p
    · subst hp; exact hf
    · rw [upd_ne hp] at e
      exact s.dis a u (by rw [upd_ne hp]; exact e)
  · have := (s.mf a ha).2
    have ne : a ≠ p := fun z => hm (z ▸ ha)
    rw [upd_ne ne] at this ⊢
    exact this
  · rw [upd_ne (show a ≠ p from fun z => hm (z ▸ List.mem_of_getElem? e1))]
    exact s.obj i a u e1 e2
theorem Sim.heldAt {p : Addr} {o : HO} (s : Sim K Hf (upd Fr p o) m S H) : H p = some o := s.exr p o upd_same
/-- .. let go, to be changed no more -/
theorem Sim.thaw {p : Addr} {o : HO} (s : Sim K Hf (upd Fr p o) m S H) (hr : Fr p = none) : Sim K (upd Hf p o) Fr m S H := by
  have hf : Hf p = none := s.dis p o upd_same
  have hm : p ∉ m := fun h => by
    have := (s.mf p h).2
    rw [upd_same] at this
    cases this
  refine ⟨fun a u e => ?_, fun a u e => ?_, fun a u e => ?_, s.nd, s.len, fun a ha => ?_, fun i a u e1 e2 => (s.obj i a u e1 e2).mono (Evl.Ex.new hf) (List.prefix_refl _)⟩
  · by_cases hp : a = p
    · subst hp
      rw [upd_same] at e
      cases e
      exact s.heldAt
    · rw [upd_ne hp] at e
      exact s.exf a u e
  · have ne : a ≠ p := fun z => by rw [z, hr] at e; cases e
    exact s.exr a u (by rw [upd_ne ne]; exact e)
  · have ne : a ≠ p := fun z => by rw [z, hr] at e; cases e
    rw [upd_ne ne]
    exact s.dis a u (by rw [upd_ne ne]; exact e)
  · have ne : a ≠ p := fun z => hm (z ▸ ha)
    have := (s.mf a ha)
    rw [upd_ne ne] at this
    rw [upd_ne ne]
    exact this
/-- .. let go into the store -/
theorem Sim.take {p : Addr} {vs : List Val} {xs : List V} (s : Sim K Hf (upd Fr p (.lst xs)) m S H) (hr : Fr p = none) (r : Reps K Hf m vs xs) : Sim K Hf Fr (m ++ [p]) (S ++ [.lst vs]) H := by
  have hf : Hf p = none := s.dis p _ upd_same
  have hm : p ∉ m := fun h => by
    have := (s.mf p h).2
    rw [upd_same] at this
    cases this
  refine ⟨s.exf, fun a u e => ?_, fun a u e => ?_, ?_, by rw [List.length_append, List.length_append, s.len]; rfl, fun a ha => ?_, fun i a u e1 e2 => ?_⟩
  · have ne : a ≠ p := fun z => by rw [z, hr] at e; cases e
    exact s.exr a u (by rw [upd_ne ne]; exact e)
  · have ne : a ≠ p := fun z => by rw [z, hr] at e; cases e
    exact s.dis a u (by rw [upd_ne ne]; exact e)
  · rw [List.nodup_append]
    refine ⟨s.nd, by simp, fun a ha b hb => ?_⟩
    have e : b = p := by simpa using hb
    subst e
    exact fun z => hm (z ▸ ha)
  · rcases List.mem_append.mp ha with ha | ha
    · have ne : a ≠ p := fun z => hm (z ▸ ha)
      have := (s.mf a ha)
      rw [upd_ne ne] at this
      exact this
    · have e : a = p := by simpa using ha
      subst e
      exact ⟨hf, hr⟩
  · by_cases hi : i < m.length
    · rw [List.getElem?_append_left hi] at e1
      rw [List.getElem?_append_left (by rw [← s.len]; exact hi)] at e2
      exact (s.obj i a u e1 e2).mono (Evl.Ex.refl _) (List.prefix_append _ _)
    · have hl : i = m.length := by
        have := (List.getElem?_eq_some_iff.mp e1).1
        rw [List.length_append] at this
        have h1 : ([p] : List Addr).length = 1 := rfl
        omega
      subst hl
      have e1' : p = a := by simpa using e1
      have e2' : Obj.lst vs = u := by simpa [s.len] using e2
      subst e1' e2'
      exact ⟨xs, s.heldAt, Reps.mono (Evl.Ex.refl _) (List.prefix_append _ _) _ _ r⟩
/-- a def's slots -/
structure EnvR (K : PySem.W.Frag) (Hf : Hp) (m : List Addr) (ρ : Env) (σ : L2.St) : Prop where
  len : ρ.length = σ.length
  get : ∀ (i : Nat) (v : Val), ρ[i]? = some (some v) → ∃ x, σ[i]? = some (some x) ∧ Rep K Hf m v x
theorem EnvR.mono {ρ : Env} {σ : L2.St} (r : EnvR K Hf m ρ σ) (e : Ex Hf Hf') (p : m <+: m') : EnvR K Hf' m' ρ σ :=
  ⟨r.len, fun i v h => let ⟨x, h1, h2⟩ := r.get i v h; ⟨x, h1, Rep.mono e p v x h2⟩⟩
theorem EnvR.set {ρ : Env} {σ : L2.St} (r : EnvR K Hf m ρ σ) (i : Nat) {v : Val} {x : V} (h : Rep K Hf m v x) : EnvR K Hf m (ρ.set i (some v)) (σ.set i (some x)) := by
  refine ⟨by rw [List.length_set, List.length_set, r.len], fun j w e => ?_⟩
  by_cases hj : i = j
  · subst hj
    have hi : i < ρ.length := by
      have := (List.getElem?_eq_some_iff.mp e).1
      rwa [List.length_set] at this
    rw [List.getElem?_set_self hi] at e
    cases e
    exact ⟨x, List.getElem?_set_self (by rw [← r.len]; exact hi), h⟩
  · rw [List.getElem?_set_ne hj] at e
    obtain ⟨y, h1, h2⟩ := r.get j w e
    exact ⟨y, by rw [List.getElem?_set_ne hj]; exact h1, h2⟩
theorem EnvR.unset {ρ : Env} {σ : L2.St} (r : EnvR K Hf m ρ σ) (i : Nat) : EnvR K Hf m (ρ.set i none) (σ.set i none) := by
  refine ⟨by rw [List.length_set, List.length_set, r.len], fun j w e => ?_⟩
  by_cases hj : i = j
  · subst hj
    have hi : i < ρ.length := by
      have := (List.getElem?_eq_some_iff.mp e).1
      rwa [List.length_set] at this
    rw [List.getElem?_set_self hi] at e
    cases e
  · rw [List.getElem?_set_ne hj] at e
    obtain ⟨y, h1, h2⟩ := r.get j w e
    exact ⟨y, by rw [List.getElem?_set_ne hj]; exact h1, h2⟩
theorem EnvR.wipe {ρ : Env} {σ : L2.St} (r : EnvR K Hf m ρ σ) : ∀ vs : List Nat, EnvR K Hf m (wipeE ρ vs) (L2.wipe σ vs)
  | [] => r
  | v :: vs => (EnvR.wipe r vs).unset v
/-! ### results -/
section
variable {α β γ : Type}
/-- what a result must lead to: P relates a value with its value of the heap -/
def QR (K : PySem.W.Frag) (cl : Nat → Value) (X : XK) (P : Hp → List Addr → α → γ → Prop) (Hf Fr : Hp) (m : List Addr) (Q : γ → Hp → Prop) : R α → Prop
  | .ok a S => ∀ x H Hf' m', Ex Hf Hf' → m <+: m' → Sim K Hf' Fr m' S H → P Hf' m' a x → Q x H
  | .ex c S => ∀ H Hf' m', Ex Hf Hf' → m <+: m' → Sim K Hf' Fr m' S H → X (cl c) none H
  | .bad => False
variable {cl : Nat → Value} {X : XK} {P : Hp → List Addr → α → γ → Prop}
theorem QR.mono {Q : γ → Hp → Prop} : ∀ {r : R α}, QR K cl X P Hf Fr m Q r → Ex Hf Hf' → m <+: m' → QR K cl X P Hf' Fr m' Q r
  | .ok _ _, h, e, p => fun x H Hf2 m2 e2 p2 s r => h x H Hf2 m2 (e.trans e2) (p.trans p2) s r
  | .ex _ _, h, e, p => fun H Hf2 m2 e2 p2 s => h H Hf2 m2 (e.trans e2) (p.trans p2) s
  | .bad, h, _, _ => h
theorem QR.bind {δ : Type} {P' : Hp → List Addr → β → δ → Prop} {Q : δ → Hp → Prop} {Q' : γ → Hp → Prop} {f : α → Store → R β} : ∀ {r : R α},
    QR K cl X P' Hf Fr m Q (r.bind f) →
    (∀ a S x H Hf' m', Ex Hf Hf' → m <+: m' → Sim K Hf' Fr m' S H → P Hf' m' a x → QR K cl X P' Hf' Fr m' Q (f a S) → Q' x H) → QR K cl X P Hf Fr m Q' r
  | .ok a S, h, k => fun x H Hf' m' e p s r => k a S x H Hf' m' e p s r (QR.mono (r := f a S) h e p)
  | .ex _ _, h, _ => h
  | .bad, h, _ => h
end
abbrev QE (K : PySem.W.Frag) (cl : Nat → Value) (X : XK) := QR K cl X (Rep K)
abbrev QA (K : PySem.W.Frag) (cl : Nat → Value) (X : XK) := QR K cl X (Reps K)
end Iv
/-! Iv3: operations by values. -/
namespace Iv
open PySem PySem.Spec PyProof.Rows L2
open Evl (Ex ex_l ex_t)
theorem PE.of {X : Cx} {e : Expr} {t t' : TE} (h : PE X e t) (i : ∀ σ H Q, t' σ H Q → t σ H Q) : PE X e t' := ⟨fun pins s σ H Q I hq => h.run pins s σ H Q I (i σ H Q hq)⟩
theorem PT.of {X : Cx} {e : Expr} {t t' : TT} (h : PT X e t) (i : ∀ σ H Q, t' σ H Q → t σ H Q) : PT X e t' := ⟨fun pins s σ H Q I hq => h.run pins s σ H Q I (i σ H Q hq)⟩
theorem PA.of {X : Cx} {es : List Expr} {t t' : TA} (h : PA X es t) (i : ∀ σ H Q, t' σ H Q → t σ H Q) : PA X es t' := ⟨fun pos pins s σ H Q I hq => h.run pos pins s σ H Q I (i σ H Q hq)⟩
theorem PS.of {X : Cx} {st : Stmt} {t t' : TS} (h : PS X st t) (i : ∀ D σ H, t' D σ H → t D σ H) : PS X st t' := ⟨fun pins s σ H D I hq => h.run pins s σ H D I (i D σ H hq)⟩
theorem PSs.of {X : Cx} {st : List Stmt} {t t' : TS} (h : PSs X st t) (i : ∀ D σ H, t' D σ H → t D σ H) : PSs X st t' := ⟨fun pins s σ H D I hq => h.run pins s σ H D I (i D σ H hq)⟩
theorem PI.of {X : Cx} {tg e : Expr} {t t' : TI} (h : PI X tg e t) (i : ∀ σ H Q, t' σ H Q → t σ H Q) : PI X tg e t' := ⟨fun pins s σ H Q I hq => h.run pins s σ H Q I (i σ H Q hq)⟩
theorem PI.or {X : Cx} {tg e : Expr} {t t' : TI} (h : PI X tg e t) (h' : PI X tg e t') : PI X tg e (fun σ H Q => t σ H Q ∨ t' σ H Q) := ⟨fun pins s σ H Q I hq => hq.elim (h.run pins s σ H Q I) (h'.run pins s σ H Q I)⟩
theorem sz {n : Nat} (h : n ≤ lim) : n ≤ sizeLine := Nat.le_trans h (by decide)
theorem sz' {n : Nat} (h : n < lim) : n < sizeLine := Nat.lt_of_lt_of_le h (by decide)
section
variable {K : PySem.W.Frag}
/-- z is handed on -/
abbrev Give (K : PySem.W.Frag) (Hf Fr : Hp) (m : List Addr) (S : Store) (z : Val) (Q : VK) : Prop := ∀ x H Hf' m', Ex Hf Hf' → m <+: m' → Sim K Hf' Fr m' S H → Rep K Hf' m' z x → Q x H
variable {Hf Fr H : Hp} {m : List Addr} {S : Store} {z : Val} {Q : VK}
theorem Give.at (q : Give K Hf Fr m S z Q) (s : Sim K Hf Fr m S H) {x : V} (r : Rep K Hf m z x) : Q x H := q x H Hf m (Evl.Ex.refl _) (List.prefix_refl _) s r
/-- a new tuple, a new list that nobody changes -/
theorem Give.tup {vs : List Val} (q : Give K Hf Fr m S (.tup vs) Q) (s : Sim K Hf Fr m S H) {xs : List V} (r : Reps K Hf m vs xs) {p : Addr} (h : H p = none) : Q (.ref p) (upd H p (.tup xs)) := by
  have e := Evl.Ex.new (o := HO.tup xs) (none_of s.exf h)
  exact q _ _ _ m e (List.prefix_refl _) (s.newF h) ⟨p, xs, rfl, SqT.of upd_same, Reps.mono e (List.prefix_refl _) _ _ r⟩
theorem Give.lst {vs : List Val} (q : Give K Hf Fr m S (.lst vs) Q) (s : Sim K Hf Fr m S H) {xs : List V} (r : Reps K Hf m vs xs) {p : Addr} (h : H p = none) : Q (.ref p) (upd H p (.lst xs)) := by
  have e := Evl.Ex.new (o := HO.lst xs) (none_of s.exf h)
  exact q _ _ _ m e (List.prefix_refl _) (s.newF h) ⟨p, xs, rfl, SqL.of upd_same, Reps.mono e (List.prefix_refl _) _ _ r⟩
/-! ### what stands at a value -/
theorem Rep.tupAt (s : Sim K Hf Fr m S H) {vs : List Val} {x : V} (r : Rep K Hf m (.tup vs) x) : ∃ a xs, x = .ref a ∧ SqT K H a xs ∧ Reps K Hf m vs xs := by
  obtain ⟨a, xs, h1, h2, h3⟩ := r
  exact ⟨a, xs, h1, ex_t s.exf h2, h3⟩
theorem Rep.lstAt (s : Sim K Hf Fr m S H) {vs : List Val} {x : V} (r : Rep K Hf m (.lst vs) x) : ∃ a xs, x = .ref a ∧ SqL K H a xs ∧ Reps K Hf m vs xs := by
  obtain ⟨a, xs, h1, h2, h3⟩ := r
  exact ⟨a, xs, h1, ex_l s.exf h2, h3⟩
theorem Rep.locAt (s : Sim K Hf Fr m S H) {n : Nat} {vs : List Val} {x : V} (r : Rep K Hf m (.loc n) x) (e : S[n]? = some (.lst vs)) : ∃ a xs, x = .ref a ∧ m[n]? = some a ∧ H a = some (.lst xs) ∧ Reps K Hf m vs xs := by
  obtain ⟨a, h1, h2⟩ := r
  obtain ⟨xs, h3, h4⟩ := s.obj n a _ h2 e
  exact ⟨a, xs, h1, h2, h3, h4⟩
/-- items of a list or a tuple -/
theorem Rep.seqAt (s : Sim K Hf Fr m S H) {v : Val} {vs : List Val} {x : V} (r : Rep K Hf m v x) (e : items S v = some vs) : ∃ a xs, x = .ref a ∧ (SqL K H a xs ∨ SqT K H a xs) ∧ Reps K Hf m vs xs := by
  cases v with
  | tup ws =>
    have e' : some ws = some vs := e
    cases e'
    obtain ⟨a, xs, h1, h2, h3⟩ := Rep.tupAt s r
    exact ⟨a, xs, h1, .inr h2, h3⟩
  | lst ws =>
    have e' : some ws = some vs := e
    cases e'
    obtain ⟨a, xs, h1, h2, h3⟩ := Rep.lstAt s r
    exact ⟨a, xs, h1, .inl h2, h3⟩
  | loc n =>
    have e' : (match S[n]? with
      | some (.lst vs) => some vs
      | none => none) = some vs := e
    cases q : S[n]? with
    | none => rw [q] at e'; cases e'
    | some o =>
      cases o with
      | lst ws =>
        rw [q] at e'
        cases e'
        obtain ⟨a, xs, h1, _, h3, h4⟩ := Rep.locAt s r q
        exact ⟨a, xs, h1, .inl (SqL.of h3), h4⟩
  | _ => cases e
mutual
theorem Rep.dp (s : Ex Hf H) : ∀ (v : Val) (x : V) (d : PyData), Rep K Hf m v x → toD v = some d → Dp K H x d
  | .non, _, _, r, e => by cases r; cases e; exact .non
  | .bl b, _, _, r, e => by cases r; cases e; exact .bl b
  | .int b, _, _, r, e => by cases r; cases e; exact .int b
  | .str b, _, _, r, e => by cases r; cases e; exact .str b
  | .tup vs, _, _, r, e => by
    obtain ⟨a, xs, rfl, h2, h3⟩ := r
    unfold toD at e
    cases q : toDs vs with
    | none => rw [q] at e; cases e
    | some ds =>
      rw [q] at e
      cases e
      exact .tup (ex_t s h2) (Reps.dp s vs xs ds h3 q)
  | .lst vs, _, _, r, e => by
    obtain ⟨a, xs, rfl, h2, h3⟩ := r
    unfold toD at e
    cases q : toDs vs with
    | none => rw [q] at e; cases e
    | some ds =>
      rw [q] at e
      cases e
      exact .lst (ex_l s h2) (Reps.dp s vs xs ds h3 q)
  | .loc _, _, _, _, e => by cases e
theorem Reps.dp (s : Ex Hf H) : ∀ (vs : List Val) (xs : List V) (ds : List PyData), Reps K Hf m vs xs → toDs vs = some ds → DpAll K H xs ds
  | [], _, _, r, e => by cases r; cases e; exact .nil
  | v :: vs, _, _, r, e => by
    obtain ⟨x, t, rfl, h2, h3⟩ := r
    unfold toDs at e
    cases q : toD v with
    | none => rw [q] at e; cases e
    | some d =>
      rw [q] at e
      cases q2 : toDs vs with
      | none => rw [q2] at e; cases e
      | some ds =>
        rw [q2] at e
        cases e
        exact .cons (Rep.dp s v x d h2 q) (Reps.dp s vs t ds h3 q2)
end
/-- a place as what it holds -/
theorem Rep.derefDp (s : Sim K Hf Fr m S H) {v : Val} {x : V} {d : PyData} (r : Rep K Hf m v x) (e : toD (deref S v) = some d) : Dp K H x d := by
  cases v with
  | loc n =>
    have e' : toD (match S[n]? with
      | some (.lst vs) => .lst vs
      | none => .loc n) = some d := e
    cases q : S[n]? with
    | none => rw [q] at e'; cases e'
    | some o =>
      cases o with
      | lst ws =>
        rw [q] at e'
        obtain ⟨a, xs, rfl, _, h3, h4⟩ := Rep.locAt s r q
        unfold toD at e'
        cases q2 : toDs ws with
        | none => rw [q2] at e'; cases e'
        | some ds =>
          rw [q2] at e'
          cases e'
          exact .lst (SqL.of h3) (Reps.dp s.exf ws xs ds h4 q2)
  | non => exact Rep.dp s.exf _ _ _ r e
  | bl _ => exact Rep.dp s.exf _ _ _ r e
  | int _ => exact Rep.dp s.exf _ _ _ r e
  | str _ => exact Rep.dp s.exf _ _ _ r e
  | tup _ => exact Rep.dp s.exf _ _ _ r e
  | lst _ => exact Rep.dp s.exf _ _ _ r e
end
/-! ### binary operations -/
/-- an operation on values told by f -/
def OpS (K : PySem.W.Frag) (r : R2) (f : Store → Val → Val → Option Val) : Prop := ∀ (Hf Fr : Hp) (m : List Addr) (S : Store) (H : Hp) (v w z : Val) (x y : V) (Q : VK), Sim K Hf Fr m S H → Rep K Hf m v x → Rep K Hf m w y → f S v w = some z →
  Give K Hf Fr m S z Q → r x y H Q
/-- list + list, of lists that are read -/
def rCatR (K : PySem.W.Frag) : R2 := fun x y H Q => ∃ l b xs zs, x = .ref l ∧ y = .ref b ∧ SqL K H l xs ∧ SqL K H b zs ∧ xs.length + zs.length ≤ sizeLine ∧ ∀ p, H p = none → Q (.ref p) (upd H p (.lst (xs ++ zs)))
section
variable {X : Cx}
theorem plain_get {h : Heap} {a : Addr} {its : Array Value} (p : PlainL h a its) : ∃ n sl, h.get? a = some { cls := .type "list", dict := none, data := .seq its n, slots := sl } := by
  obtain ⟨⟨c, d, dt, sl⟩, n, e, hc, hd, hs⟩ := p
  simp only at hc hd hs
  subst hc hd hs
  exact ⟨n, sl, e⟩
end
section
variable {X : Cx}
theorem op_catR : OpR X (binaryOp .Add) (rCatR X.K) := by
  intro pins s σ H x y v u Q I rx ry h
  obtain ⟨l, b, xs, zs, rfl, rfl, hH, hB, hz, q⟩ := h
  cases rx
  cases ry
  obtain ⟨its, r, pl, hl⟩ := I.list hH
  obtain ⟨its2, r2, pl2, hl2⟩ := I.list hB
  obtain ⟨n, sl, ho⟩ := plain_get pl
  obtain ⟨n2, sl2, ho2⟩ := plain_get pl2
  have z1 := r.length
  have z2 := r2.length
  refine concat_meets ⟨_, ho, rfl⟩ ⟨_, ho2, rfl⟩ noFill_list_add seq_list_add PySem.F.slot_list_add PySem.F.entry_list_add (PySem.F.args_list_add_2 _ _) (list_addW l b its.toArray its2.toArray n n2 none none sl sl2 (by rw [List.size_toArray, List.size_toArray]; omega)) ⟨ho, ho2, ?_⟩
  have ea : its.toArray ++ its2.toArray = (its ++ its2).toArray := by simp
  rw [ea]
  exact ⟨.ref _, _, I.lnew (t' := s.toks) (r.append r2) (by rw [List.length_append]; omega), rfl, q _ I.fresh⟩
end
theorem binI_int {o : Bop} {i j k : Int} {v : Val} (h : binV o (.int i) (.int j) = some v) : ∃ k, v = .int k ∧ binI o i j = some k := by
  have h' : (match binI o i j with
    | some k => some (Val.int k)
    | none => none) = some v := by
    cases o <;> exact h
  cases q : binI o i j with
  | none => rw [q] at h'; cases h'
  | some k =>
    rw [q] at h'
    cases h'
    exact ⟨k, rfl, rfl⟩
section
variable {K : PySem.W.Frag}
/-- ints by a rule -/
theorem opS_I {o : Bop} {C : Int → Int → Prop} {g : Int → Int → Int} (hc : ∀ i j k, binI o i j = some k → C i j ∧ k = g i j)
    (hv : ∀ v w z, binV o v w = some z → ∃ i j, v = .int i ∧ w = .int j) : OpS K (rI C fun i j => .int (g i j)) (fun _ v w => binV o v w) := by
  intro Hf Fr m S H v w z x y Q s rx ry e q
  obtain ⟨i, j, rfl, rfl⟩ := hv v w z e
  obtain ⟨k, rfl, hk⟩ := binI_int (k := 0) e
  obtain ⟨h1, rfl⟩ := hc i j k hk
  cases rx
  cases ry
  exact ⟨i, j, rfl, rfl, h1, q.at s rfl⟩
theorem binV_ints {o : Bop} (ho : o ≠ .add) {v w z : Val} (h : binV o v w = some z) : ∃ i j, v = .int i ∧ w = .int j := by
  cases v <;> cases w <;> first
    | exact ⟨_, _, rfl, rfl⟩
    | (cases o <;> first | exact absurd rfl ho | cases h)
def rAdd (K : PySem.W.Frag) : R2 := fun x y H Q => rI0 (fun i j => .int (i + j)) x y H Q ∨ ((∃ i j, x = .str i ∧ y = .str j ∧ i.length + j.length ≤ sizeLine ∧ Q (.str (i ++ j)) H) ∨ (rCatA K x y H Q ∨ rCatR K x y H Q))
theorem op_addR {X : Cx} : OpR X (binaryOp .Add) (rAdd X.K) := op_add.or (op_add_str.or (op_catA.or op_catR))
theorem opS_add : OpS K (rAdd K) (fun _ v w => binV .add v w) := by
  intro Hf Fr m S H v w z x y Q s rx ry e q
  cases v with
  | int i =>
    cases w with
    | int j =>
      cases rx
      cases ry
      cases e
      exact .inl ⟨i, j, rfl, rfl, q.at s rfl⟩
    | _ => cases e
  | str a =>
    cases w with
    | str b =>
      cases rx
      cases ry
      have e' : (if a.length + b.length ≤ lim then some (Val.str (a ++ b)) else none) = some z := e
      by_cases hl : a.length + b.length ≤ lim
      · rw [if_pos hl] at e'
        cases e'
        exact .inr (.inl ⟨a, b, rfl, rfl, sz hl, q.at s rfl⟩)
      · rw [if_neg hl] at e'
        cases e'
    | _ => cases e
  | tup a =>
    cases w with
    | tup b =>
      have e' : (if a.length + b.length ≤ lim then some (Val.tup (a ++ b)) else none) = some z := e
      by_cases hl : a.length + b.length ≤ lim
      · rw [if_pos hl] at e'
        cases e'
        obtain ⟨p, xs, rfl, h1, h2⟩ := Rep.tupAt s rx
        obtain ⟨p', ys, rfl, h3, h4⟩ := Rep.tupAt s ry
        have l1 := h2.length
        have l2 := h4.length
        refine .inr (.inr (.inl ⟨p, p', xs, ys, rfl, rfl, h1, h3, sz (by omega), fun hx => ?_, fun hx hy => ?_, fun hx hy p hp => ?_⟩))
        · subst hx
          have ea : a = [] := List.eq_nil_of_length_eq_zero (by simpa using l1)
          subst ea
          exact q.at s ry
        · subst hy
          have ea : b = [] := List.eq_nil_of_length_eq_zero (by simpa using l2)
          subst ea
          rw [List.append_nil] at q
          exact q.at s rx
        · exact Give.tup q s (h2.append h4) hp
      · rw [if_neg hl] at e'
        cases e'
    | _ => cases e
  | lst a =>
    cases w with
    | lst b =>
      have e' : (if a.length + b.length ≤ lim then some (Val.lst (a ++ b)) else none) = some z := e
      by_cases hl : a.length + b.length ≤ lim
      · rw [if_pos hl] at e'
        cases e'
        obtain ⟨p, xs, rfl, h1, h2⟩ := Rep.lstAt s rx
        obtain ⟨p', ys, rfl, h3, h4⟩ := Rep.lstAt s ry
        have l1 := h2.length
        have l2 := h4.length
        exact .inr (.inr (.inr ⟨p, p', xs, ys, rfl, rfl, h1, h3, sz (by omega), fun p hp => Give.lst q s (h2.append h4) hp⟩))
      · rw [if_neg hl] at e'
        cases e'
    | _ => cases e
  | non => cases w <;> cases e
  | bl _ => cases w <;> cases e
  | loc _ => cases w <;> cases e
def rMulA : R2 := fun x y H Q => rI CMul (fun i j => .int (i * j)) x y H Q ∨ rI CMulW (fun i j => .int (i * j)) x y H Q
theorem op_mulR {X : Cx} : OpR X (binaryOp .Mult) rMulA := op_mul.or op_mulW
theorem opS_mul : OpS K rMulA (fun _ v w => binV .mul v w) := by
  intro Hf Fr m S H v w z x y Q s rx ry e q
  obtain ⟨i, j, rfl, rfl⟩ := binV_ints (by decide) e
  obtain ⟨k, rfl, hk⟩ := binI_int (k := 0) e
  cases rx
  cases ry
  have e' : (if mulOk i j = true then some (i * j) else none) = some k := hk
  by_cases hm : mulOk i j = true
  · rw [if_pos hm] at e'
    cases e'
    unfold mulOk at hm
    simp only [Bool.or_eq_true, Bool.and_eq_true, decide_eq_true_eq] at hm
    rcases hm with (h | h) | h
    · exact .inl ⟨i, j, rfl, rfl, .inl h, q.at s rfl⟩
    · exact .inl ⟨i, j, rfl, rfl, .inr h, q.at s rfl⟩
    · exact .inr ⟨i, j, rfl, rfl, h, q.at s rfl⟩
  · rw [if_neg hm] at e'
    cases e'
def bopR (K : PySem.W.Frag) : Bop → R2
  | .add => rAdd K
  | .sub => rI (fun _ _ => True) fun i j => .int (i - j)
  | .mul => rMulA
  | .fdiv => rI CDivW fun i j => .int (i / j)
  | .mod => rI (fun _ j => 0 < j) fun i j => .int (i % j)
  | .pow => rI CPow fun i j => .int (i ^ j.toNat)
def bopOf : Bop → Operator
  | .add => .Add | .sub => .Sub | .mul => .Mult | .fdiv => .FloorDiv | .mod => .Mod | .pow => .Pow
theorem op_subR {X : Cx} : OpR X (binaryOp .Sub) (rI (fun _ _ => True) fun i j => .int (i - j)) := fun pins s σ H x y v u Q I rx ry h =>
  op_sub pins s σ H x y v u Q I rx ry (let ⟨i, j, h1, h2, _, h3⟩ := h; ⟨i, j, h1, h2, h3⟩)
theorem bop_ok {X : Cx} : ∀ o : Bop, OpR X (binaryOp (bopOf o)) (bopR X.K o)
  | .add => op_addR
  | .sub => op_subR
  | .mul => op_mulR
  | .fdiv => op_fdivW
  | .mod => op_mod
  | .pow => op_pow
theorem bopS : ∀ o : Bop, OpS K (bopR K o) (fun _ v w => binV o v w)
  | .add => opS_add
  | .sub => opS_I (fun i j k h => ⟨trivial, (Option.some.inj h).symm⟩) fun _ _ _ h => binV_ints (by decide) h
  | .mul => opS_mul
  | .fdiv => opS_I (fun i j k h => by
      have h' : (if 0 < j ∧ j.natAbs.log2 < 9000 then some (i / j) else none) = some k := h
      by_cases c : 0 < j ∧ j.natAbs.log2 < 9000
      · rw [if_pos c] at h'; cases h'; exact ⟨c, rfl⟩
      · rw [if_neg c] at h'; cases h') fun _ _ _ h => binV_ints (by decide) h
  | .mod => opS_I (fun i j k h => by
      have h' : (if 0 < j then some (i % j) else none) = some k := h
      by_cases c : 0 < j
      · rw [if_pos c] at h'; cases h'; exact ⟨c, rfl⟩
      · rw [if_neg c] at h'; cases h') fun _ _ _ h => binV_ints (by decide) h
  | .pow => opS_I (fun i j k h => by
      have h' : (if 0 ≤ j ∧ j ≤ 1000000 ∧ i.natAbs < 2 ^ 64 then some (i ^ j.toNat) else none) = some k := h
      by_cases c : 0 ≤ j ∧ j ≤ 1000000 ∧ i.natAbs < 2 ^ 64
      · rw [if_pos c] at h'; cases h'; exact ⟨c, rfl⟩
      · rw [if_neg c] at h'; cases h') fun _ _ _ h => binV_ints (by decide) h
/-! ### comparisons -/
def rIsA : R2 := fun x y H Q => (y = .non ∧ Q (.bl (decide (x = .non))) H) ∨ rIsB x y H Q
def rNotA : R2 := fun x y H Q => (y = .non ∧ Q (.bl (!decide (x = .non))) H) ∨ rNotB x y H Q
def rInT (K : PySem.W.Frag) : R2 := fun x y H Q => ∃ d ds, Dp K H x d ∧ Dp K H y (.tuple ds) ∧ SeqAt.shaped d = true ∧ SeqAt.shaped (.list ds) = true ∧ Q (.bl (ds.any fun z => PyData.eqv z d)) H
def rNotInT (K : PySem.W.Frag) : R2 := fun x y H Q => ∃ d ds, Dp K H x d ∧ Dp K H y (.tuple ds) ∧ SeqAt.shaped d = true ∧ SeqAt.shaped (.list ds) = true ∧ Q (.bl (!ds.any fun z => PyData.eqv z d)) H
theorem op_inT {X : Cx} (hu : X.A.units + 65 < cLine) : OpR X (compareOp .In) (rInT X.K) := by
  intro pins s σ H x y v u Q I rx ry h
  obtain ⟨d, ds, hd, he, sd, se, q⟩ := h
  obtain ⟨as, r1⟩ := Dp.reads I d x v hd rx
  obtain ⟨bs, r2⟩ := Dp.reads I (.tuple ds) y u he ry
  exact SeqAt.in_tuple_reads r2 r1 (SeqAt.canLay_of_shaped se) (SeqAt.canLay_of_shaped sd) (room_in_shaped sd hu) ⟨.bl _, H, I, rfl, q⟩
theorem op_notInT {X : Cx} (hu : X.A.units + 65 < cLine) : OpR X (compareOp .NotIn) (rNotInT X.K) := by
  intro pins s σ H x y v u Q I rx ry h
  obtain ⟨d, ds, hd, he, sd, se, q⟩ := h
  obtain ⟨as, r1⟩ := Dp.reads I d x v hd rx
  obtain ⟨bs, r2⟩ := Dp.reads I (.tuple ds) y u he ry
  exact SeqAt.notIn_tuple_reads r2 r1 (SeqAt.canLay_of_shaped se) (SeqAt.canLay_of_shaped sd) (room_in_shaped sd hu) ⟨.bl _, H, I, rfl, q⟩
def copR (K : PySem.W.Frag) : Cop → R2
  | .eq => rEqD K
  | .ne => rNeD K
  | .lt => rI0 fun i j => .bl (decide (i < j))
  | .le => rI0 fun i j => .bl (decide (i ≤ j))
  | .gt => rI0 fun i j => .bl (decide (j < i))
  | .ge => rI0 fun i j => .bl (decide (j ≤ i))
  | .is => rIsA
  | .isnot => rNotA
  | .isin => fun x y H Q => rInD K x y H Q ∨ rInT K x y H Q
  | .notin => fun x y H Q => rNotInD K x y H Q ∨ rNotInT K x y H Q
def copOf : Cop → CmpOp
  | .eq => .Eq | .ne => .NotEq | .lt => .Lt | .le => .LtE | .gt => .Gt | .ge => .GtE | .is => .Is | .isnot => .IsNot | .isin => .In | .notin => .NotIn
theorem cop_ok {X : Cx} (hu : X.A.units + 65 < cLine) : ∀ o : Cop, OpR X (compareOp (copOf o)) (copR X.K o)
  | .eq => op_eqD (by omega)
  | .ne => op_neD (by omega)
  | .lt => op_lt
  | .le => op_le
  | .gt => op_gt
  | .ge => op_ge
  | .is => op_isN.or op_isBl
  | .isnot => op_notN.or op_notBl
  | .isin => (op_inD hu).or (op_inT hu)
  | .notin => (op_notInD hu).or (op_notInT hu)
theorem eqV_some {a b : Val} {k : Bool} (h : eqV a b = some k) : ∃ d e, toD a = some d ∧ toD b = some e ∧ SeqAt.shaped d = true ∧ SeqAt.shaped e = true ∧ k = PyData.eqv d e := by
  unfold eqV at h
  cases qa : toD a with
  | none => rw [qa] at h; cases h
  | some d =>
    rw [qa] at h
    cases qb : toD b with
    | none => rw [qb] at h; cases h
    | some e =>
      rw [qb] at h
      have h' : (if (SeqAt.shaped d && SeqAt.shaped e) = true then some (PyData.eqv d e) else none) = some k := h
      by_cases c : (SeqAt.shaped d && SeqAt.shaped e) = true
      · rw [if_pos c] at h'
        cases h'
        rw [Bool.and_eq_true] at c
        exact ⟨d, e, rfl, rfl, c.1, c.2, rfl⟩
      · rw [if_neg c] at h'
        cases h'
theorem inVals_some {a : Val} {bs : List Val} {k : Bool} (h : inVals a bs = some k) : ∃ d es, toD a = some d ∧ toDs bs = some es ∧ SeqAt.shaped d = true ∧ SeqAt.shaped (.list es) = true ∧ k = es.any fun z => PyData.eqv z d := by
  unfold inVals at h
  cases qa : toD a with
  | none => rw [qa] at h; cases h
  | some d =>
    rw [qa] at h
    cases qb : toDs bs with
    | none => rw [qb] at h; cases h
    | some e =>
      rw [qb] at h
      have h' : (if (SeqAt.shaped d && SeqAt.shaped (.list e)) = true then some (e.any fun z => PyData.eqv z d) else none) = some k := h
      by_cases c : (SeqAt.shaped d && SeqAt.shaped (.list e)) = true
      · rw [if_pos c] at h'
        cases h'
        rw [Bool.and_eq_true] at c
        exact ⟨d, e, rfl, rfl, c.1, c.2, rfl⟩
      · rw [if_neg c] at h'
        cases h'
theorem map_bl {o : Option Bool} {z : Val} (h : o.map Val.bl = some z) : ∃ k, o = some k ∧ z = .bl k := by
  cases o with
  | none => cases h
  | some k => cases h; exact ⟨k, rfl, rfl⟩
theorem Rep.seqDp {Hf Fr H : Hp} {m : List Addr} {S : Store} (s : Sim K Hf Fr m S H) {w : Val} {ws : List Val} {y : V} {es : List PyData} (ry : Rep K Hf m w y) (q : items S w = some ws) (h2 : toDs ws = some es) : Dp K H y (.list es) ∨ Dp K H y (.tuple es) := by
  obtain ⟨a, xs, rfl, h3, h4⟩ := Rep.seqAt s ry q
  rcases h3 with h3 | h3
  · exact .inl (.lst h3 (Reps.dp s.exf ws xs es h4 h2))
  · exact .inr (.tup h3 (Reps.dp s.exf ws xs es h4 h2))
theorem copS_eq : OpS K (rEqD K) (fun S v w => (cmpV S .eq v w).map .bl) := by
  intro Hf Fr m S H v w z x y Q s rx ry e q
  obtain ⟨k, e1, rfl⟩ := map_bl e
  have e' : eqV (deref S v) (deref S w) = some k := by
    cases v <;> cases w <;> exact e1
  obtain ⟨d, e2, h1, h2, h3, h4, rfl⟩ := eqV_some e'
  exact ⟨d, e2, Rep.derefDp s rx h1, Rep.derefDp s ry h2, h3, h4, q.at s rfl⟩
theorem copS_ne : OpS K (rNeD K) (fun S v w => (cmpV S .ne v w).map .bl) := by
  intro Hf Fr m S H v w z x y Q s rx ry e q
  obtain ⟨k, e1, rfl⟩ := map_bl e
  have e' : (match eqV (deref S v) (deref S w) with
    | some k => some (!k)
    | none => none) = some k := by
    cases v <;> cases w <;> exact e1
  cases q2 : eqV (deref S v) (deref S w) with
  | none => rw [q2] at e'; cases e'
  | some k2 =>
    rw [q2] at e'
    cases e'
    obtain ⟨d, e2, h1, h2, h3, h4, rfl⟩ := eqV_some q2
    exact ⟨d, e2, Rep.derefDp s rx h1, Rep.derefDp s ry h2, h3, h4, q.at s rfl⟩
theorem copS_in : OpS K (copR K .isin) (fun S v w => (cmpV S .isin v w).map .bl) := by
  intro Hf Fr m S H v w z x y Q s rx ry e q
  obtain ⟨k, e1, rfl⟩ := map_bl e
  have e' : (match items S w with
    | some ws => inVals (deref S v) ws
    | none => none) = some k := by
    cases v <;> cases w <;> exact e1
  cases q1 : items S w with
  | none => rw [q1] at e'; cases e'
  | some ws =>
    rw [q1] at e'
    obtain ⟨d, es, h1, h2, h3, h4, rfl⟩ := inVals_some e'
    rcases Rep.seqDp s ry q1 h2 with h5 | h5
    · exact .inl ⟨d, es, Rep.derefDp s rx h1, h5, h3, h4, q.at s rfl⟩
    · exact .inr ⟨d, es, Rep.derefDp s rx h1, h5, h3, h4, q.at s rfl⟩
theorem copS_notin : OpS K (copR K .notin) (fun S v w => (cmpV S .notin v w).map .bl) := by
  intro Hf Fr m S H v w z x y Q s rx ry e q
  obtain ⟨k, e1, rfl⟩ := map_bl e
  have e' : (match items S w with
    | some ws => match inVals (deref S v) ws with
      | some k => some (!k)
      | none => none
    | none => none) = some k := by
    cases v <;> cases w <;> exact e1
  cases q1 : items S w with
  | none => rw [q1] at e'; cases e'
  | some ws =>
    rw [q1] at e'
    have e2 : (match inVals (deref S v) ws with
      | some k => some (!k)
      | none => none) = some k := e'
    cases q2 : inVals (deref S v) ws with
    | none => rw [q2] at e2; cases e2
    | some k2 =>
      rw [q2] at e2
      cases e2
      obtain ⟨d, es, h1, h2, h3, h4, rfl⟩ := inVals_some q2
      rcases Rep.seqDp s ry q1 h2 with h5 | h5
      · exact .inl ⟨d, es, Rep.derefDp s rx h1, h5, h3, h4, q.at s rfl⟩
      · exact .inr ⟨d, es, Rep.derefDp s rx h1, h5, h3, h4, q.at s rfl⟩
theorem copS_I {o : Cop} {p : Int → Int → Bool} (h : ∀ S v w k, cmpV S o v w = some k → ∃ i j, v = .int i ∧ w = .int j ∧ k = p i j) : OpS K (rI0 fun i j => .bl (p i j)) (fun S v w => (cmpV S o v w).map .bl) := by
  intro Hf Fr m S H v w z x y Q s rx ry e q
  obtain ⟨k, e1, rfl⟩ := map_bl e
  obtain ⟨i, j, rfl, rfl, rfl⟩ := h S v w k e1
  cases rx
  cases ry
  exact ⟨i, j, rfl, rfl, q.at s rfl⟩
theorem non_rep {Hf : Hp} {m : List Addr} {v : Val} {x : V} (r : Rep K Hf m v x) (hv : v ≠ .non) : x ≠ .non := by
  cases v with
  | non => exact absurd rfl hv
  | bl _ => cases r; exact fun e => nomatch e
  | int _ => cases r; exact fun e => nomatch e
  | str _ => cases r; exact fun e => nomatch e
  | tup _ => obtain ⟨_, _, rfl, _⟩ := r; exact fun e => nomatch e
  | lst _ => obtain ⟨_, _, rfl, _⟩ := r; exact fun e => nomatch e
  | loc _ => obtain ⟨_, rfl, _⟩ := r; exact fun e => nomatch e
theorem is_some {S : Store} {v w : Val} {k : Bool} (h : cmpV S .is v w = some k) : (w = .non ∧ ((v = .non ∧ k = true) ∨ (v ≠ .non ∧ k = false))) ∨ ∃ a b, v = .bl a ∧ w = .bl b ∧ k = decide (a = b) := by
  cases v <;> cases w <;> first
    | (cases h; exact .inl ⟨rfl, .inl ⟨rfl, rfl⟩⟩)
    | (cases h; exact .inl ⟨rfl, .inr ⟨(by intro e; cases e), rfl⟩⟩)
    | (cases h; exact .inr ⟨_, _, rfl, rfl, rfl⟩)
    | cases h
theorem isnot_some {S : Store} {v w : Val} {k : Bool} (h : cmpV S .isnot v w = some k) : (w = .non ∧ ((v = .non ∧ k = false) ∨ (v ≠ .non ∧ k = true))) ∨ ∃ a b, v = .bl a ∧ w = .bl b ∧ k = !decide (a = b) := by
  cases v <;> cases w <;> first
    | (cases h; exact .inl ⟨rfl, .inl ⟨rfl, rfl⟩⟩)
    | (cases h; exact .inl ⟨rfl, .inr ⟨(by intro e; cases e), rfl⟩⟩)
    | (cases h; exact .inr ⟨_, _, rfl, rfl, rfl⟩)
    | cases h
theorem copS_is : OpS K rIsA (fun S v w => (cmpV S .is v w).map .bl) := by
  intro Hf Fr m S H v w z x y Q s rx ry e q
  obtain ⟨k, e1, rfl⟩ := map_bl e
  rcases is_some e1 with ⟨rfl, h⟩ | ⟨a, b, rfl, rfl, rfl⟩
  · cases ry
    rcases h with ⟨rfl, rfl⟩ | ⟨hv, rfl⟩
    · cases rx
      exact .inl ⟨rfl, q.at s rfl⟩
    · refine .inl ⟨rfl, ?_⟩
      rw [decide_eq_false (non_rep rx hv)]
      exact q.at s rfl
  · cases rx
    cases ry
    exact .inr ⟨a, b, rfl, rfl, q.at s rfl⟩
theorem copS_isnot : OpS K rNotA (fun S v w => (cmpV S .isnot v w).map .bl) := by
  intro Hf Fr m S H v w z x y Q s rx ry e q
  obtain ⟨k, e1, rfl⟩ := map_bl e
  rcases isnot_some e1 with ⟨rfl, h⟩ | ⟨a, b, rfl, rfl, rfl⟩
  · cases ry
    rcases h with ⟨rfl, rfl⟩ | ⟨hv, rfl⟩
    · cases rx
      exact .inl ⟨rfl, q.at s rfl⟩
    · refine .inl ⟨rfl, ?_⟩
      rw [decide_eq_false (non_rep rx hv)]
      exact q.at s rfl
  · cases rx
    cases ry
    exact .inr ⟨a, b, rfl, rfl, q.at s rfl⟩
theorem copS : ∀ o : Cop, OpS K (copR K o) (fun S v w => (cmpV S o v w).map .bl)
  | .eq => copS_eq
  | .ne => copS_ne
  | .isin => copS_in
  | .notin => copS_notin
  | .is => copS_is
  | .isnot => copS_isnot
  | .lt => copS_I fun S v w k h => by cases v <;> cases w <;> first | (cases h; exact ⟨_, _, rfl, rfl, rfl⟩) | cases h
  | .le => copS_I fun S v w k h => by cases v <;> cases w <;> first | (cases h; exact ⟨_, _, rfl, rfl, rfl⟩) | cases h
  | .gt => copS_I fun S v w k h => by cases v <;> cases w <;> first | (cases h; exact ⟨_, _, rfl, rfl, rfl⟩) | cases h
  | .ge => copS_I fun S v w k h => by cases v <;> cases w <;> first | (cases h; exact ⟨_, _, rfl, rfl, rfl⟩) | cases h
/-! ### subscripts -/
def rIxA (K : PySem.W.Frag) : R2 := fun x y H Q => rIxL K x y H Q ∨ rIxT K x y H Q
theorem ix_A {X : Cx} : IxR X (rIxA X.K) := ix_list.or ix_tup
theorem ixN_len {n n' : Nat} {i : Int} (h : n = n') : ixN n i = ixN n' i := by rw [h]
theorem atI_rep {Hf : Hp} {m : List Addr} {vs : List Val} {xs : List V} {i : Int} {z : Val} (r : Reps K Hf m vs xs) (h : L2.atI vs i = some z) : ∃ x, L2.atI xs i = some x ∧ Rep K Hf m z x := by
  unfold L2.atI at h ⊢
  rw [← r.length]
  cases q : ixN vs.length i with
  | none => rw [q] at h; cases h
  | some j =>
    rw [q] at h
    exact r.get h
theorem ixS : OpS K (rIxA K) (fun S v w => ixV S v w) := by
  intro Hf Fr m S H v w z x y Q s rx ry e q
  cases w with
  | int k =>
    cases ry
    have e' : (match items S v with
      | some vs => L2.atI vs k
      | none => none) = some z := e
    cases q1 : items S v with
    | none => rw [q1] at e'; cases e'
    | some vs =>
      rw [q1] at e'
      obtain ⟨a, xs, rfl, h3, h4⟩ := Rep.seqAt s rx q1
      obtain ⟨x, h5, h6⟩ := atI_rep h4 e'
      rcases h3 with h3 | h3
      · exact .inl ⟨a, xs, k, x, rfl, rfl, h3, h5, q.at s h6⟩
      · exact .inr ⟨a, xs, k, x, rfl, rfl, h3, h5, q.at s h6⟩
  | _ => cases e
/-! ### slices -/
def rSlA2 (K : PySem.W.Frag) : V → Option Int → Option Int → Hp → VK → Prop := fun x lo hi H Q => rSlL K x lo hi H Q ∨ rSlA K x lo hi H Q
theorem sl_A {X : Cx} : SlR X (rSlA2 X.K) := sl_list.or sl_tupA
theorem cutL_rep {Hf : Hp} {m : List Addr} {vs : List Val} {xs : List V} (r : Reps K Hf m vs xs) (lo hi : Option Int) : Reps K Hf m (cutL vs lo hi) (cutV xs lo hi) := by
  unfold cutL cutV
  rw [r.length]
  exact (r.drop _).take _
theorem cutL_all {vs : List Val} {lo hi : Option Int} (h1 : HT.sIx vs.length 0 lo = 0) (h2 : HT.sIx vs.length vs.length hi = vs.length) : cutL vs lo hi = vs := by
  unfold cutL
  rw [h1, h2, List.drop_zero, Nat.sub_zero]
  exact List.take_length
theorem slS {Hf Fr : Hp} {m : List Addr} {S : Store} {H : Hp} {v z : Val} {x : V} {lo hi : Option Int} {Q : VK} (s : Sim K Hf Fr m S H) (rx : Rep K Hf m v x) (e : sliceV S v lo hi = some z) (q : Give K Hf Fr m S z Q) : rSlA2 K x lo hi H Q := by
  cases v with
  | tup vs =>
    cases e
    obtain ⟨a, xs, rfl, h1, h2⟩ := Rep.tupAt s rx
    refine .inr ⟨a, xs, rfl, h1, fun ⟨z1, z2⟩ => ?_, fun _ p hp => Give.tup q s (cutL_rep h2 lo hi) hp⟩
    rw [cutL_all (by rw [h2.length]; exact z1) (by rw [h2.length]; exact z2)] at q
    exact q.at s rx
  | lst vs =>
    cases e
    obtain ⟨a, xs, rfl, h1, h2⟩ := Rep.lstAt s rx
    exact .inl ⟨a, xs, rfl, h1, fun p hp => Give.lst q s (cutL_rep h2 lo hi) hp⟩
  | loc n =>
    have e' : (match S[n]? with
      | some (.lst vs) => some (.lst (cutL vs lo hi))
      | none => none) = some z := e
    cases q1 : S[n]? with
    | none => rw [q1] at e'; cases e'
    | some o =>
      cases o with
      | lst vs =>
        rw [q1] at e'
        cases e'
        obtain ⟨a, xs, rfl, _, h1, h2⟩ := Rep.locAt s rx q1
        exact .inl ⟨a, xs, rfl, SqL.of h1, fun p hp => Give.lst q s (cutL_rep h2 lo hi) hp⟩
  | _ => cases e
/-! ### isinstance -/
theorem tyX {Hf Fr H : Hp} {m : List Addr} {S : Store} (s : Sim K Hf Fr m S H) {v : Val} {x : V} {T : String} {k : Bool} (r : Rep K Hf m v x) (hT : T = "int" ∨ T = "bool" ∨ T = "str" ∨ T = "tuple" ∨ T = "list" ∨ T = "dict") (h : isT S T v = some k) :
    ∃ t, TyX K H x (.type t) ∧ kitB t T = some k := by
  have hL : ∀ {a : Addr} {xs : List V}, SqL K H a xs → TyX K H (.ref a) (.type "list") := fun {a xs} q => by
    rcases q with (q | ⟨o, q⟩) | ⟨o, its, n, q1, q2, _⟩
    · exact .base (.lst q)
    · exact .base (.frz q)
    · exact .kList q1 q2
  have hU : ∀ {a : Addr} {xs : List V}, SqT K H a xs → TyX K H (.ref a) (.type "tuple") := fun {a xs} q => by
    rcases q with (q | ⟨o, q⟩) | ⟨o, its, n, q1, q2, _⟩
    · exact .base (.tup q)
    · exact .fTuple q
    · exact .kTuple q1 q2
  cases v with
  | non => cases r; cases h; refine ⟨"NoneType", .base .non, ?_⟩; rcases hT with rfl | rfl | rfl | rfl | rfl | rfl <;> decide +kernel
  | bl b =>
    cases r
    refine ⟨"bool", .base (.bl b), ?_⟩
    rcases hT with rfl | rfl | rfl | rfl | rfl | rfl <;> (cases h; decide +kernel)
  | int b =>
    cases r
    refine ⟨"int", .base (.int b), ?_⟩
    rcases hT with rfl | rfl | rfl | rfl | rfl | rfl <;> (cases h; decide +kernel)
  | str b =>
    cases r
    refine ⟨"str", .base (.str b), ?_⟩
    rcases hT with rfl | rfl | rfl | rfl | rfl | rfl <;> (cases h; decide +kernel)
  | tup vs =>
    obtain ⟨a, xs, rfl, h1, _⟩ := Rep.tupAt s r
    refine ⟨"tuple", hU h1, ?_⟩
    rcases hT with rfl | rfl | rfl | rfl | rfl | rfl <;> (cases h; decide +kernel)
  | lst vs =>
    obtain ⟨a, xs, rfl, h1, _⟩ := Rep.lstAt s r
    refine ⟨"list", hL h1, ?_⟩
    rcases hT with rfl | rfl | rfl | rfl | rfl | rfl <;> (cases h; decide +kernel)
  | loc n =>
    have h' : (match S[n]? with
      | some (.lst _) => some (decide (T = "list"))
      | none => none) = some k := h
    cases q1 : S[n]? with
    | none => rw [q1] at h'; cases h'
    | some o =>
      cases o with
      | lst vs =>
        rw [q1] at h'
        obtain ⟨a, xs, rfl, _, h1, _⟩ := Rep.locAt s r q1
        refine ⟨"list", hL (SqL.of h1), ?_⟩
        rcases hT with rfl | rfl | rfl | rfl | rfl | rfl <;> (cases h'; decide +kernel)
end
end Iv
/-! Iv4: readings of expressions. -/
namespace Iv
open PySem PySem.Spec PyProof.Rows L2
open Evl (Ex ex_l ex_t)
/-- what a walk gives, turn by turn -/
structure WalkV (K : PySem.W.Frag) (Hf : Hp) (m : List Addr) (J : It) (xs : List Val) : Prop where
  goes : ∀ i H, i < xs.length → Ex Hf H → J.go i H
  stops : ∀ H, Ex Hf H → J.stop xs.length H
  yields : ∀ i H x H', i < xs.length → Ex Hf H → J.yld i H x H' → ∃ v, xs[i]? = some v ∧ ((H' = H ∧ Rep K Hf m v x) ∨ ∃ T a b xa xb, v = .tup [a, b] ∧ x = .ref T ∧ H T = none ∧ H' = upd H T (.tup [xa, xb]) ∧ Rep K Hf m a xa ∧ Rep K Hf m b xb)
section
variable (K : PySem.W.Frag) (cl : Nat → Value) (Y : XK) (Φ : Bool → Nat → List Val → Store → R Val)
def tI (e : E) : TE := fun σ H Q => ∃ Hf Fr m S ρ, Sim K Hf Fr m S H ∧ EnvR K Hf m ρ σ ∧ QE K cl Y Hf Fr m Q (evalE Φ e ρ S)
def tAs (e : E) : TA := fun σ H Q => ∃ Hf Fr m S ρ, Sim K Hf Fr m S H ∧ EnvR K Hf m ρ σ ∧ QA K cl Y Hf Fr m Q (evalA Φ e ρ S)
def evalT (e : E) (ρ : Env) (S : Store) : R Bool := (evalE Φ e ρ S).bind fun v S1 => asBool v fun b => .ok b S1
def tTs (e : E) : TT := fun σ H Q => ∃ Hf Fr m S ρ, Sim K Hf Fr m S H ∧ EnvR K Hf m ρ σ ∧ QR K cl Y (fun _ _ (a x : Bool) => a = x) Hf Fr m Q (evalT Φ e ρ S)
def tIt (e : E) : TI := fun σ H Q => ∃ Hf Fr m S ρ, Sim K Hf Fr m S H ∧ EnvR K Hf m ρ σ ∧ QR K cl Y (fun Hf m xs J => WalkV K Hf m J xs) Hf Fr m Q (evalI Φ e ρ S)
end
theorem QE.ofS {K : PySem.W.Frag} {cl : Nat → Value} {Y : XK} {Hf Fr : Hp} {m : List Addr} {S : Store} {Q : VK} {o : Option Val} (h : QE K cl Y Hf Fr m Q (.of o S)) : ∃ z, o = some z ∧ Give K Hf Fr m S z Q := by
  cases o with
  | none => exact h.elim
  | some z => exact ⟨z, rfl, h⟩
theorem asBool_inv {α γ : Type} {K : PySem.W.Frag} {cl : Nat → Value} {Y : XK} {P : Hp → List Addr → α → γ → Prop} {Hf Fr : Hp} {m : List Addr} {Q : γ → Hp → Prop} {v : Val} {f : Bool → R α} (h : QR K cl Y P Hf Fr m Q (asBool v f)) : ∃ b, v = .bl b ∧ QR K cl Y P Hf Fr m Q (f b) := by
  cases v with
  | bl b => exact ⟨b, rfl, h⟩
  | _ => exact h.elim
section
variable {X : Cx} {cl : Nat → Value} {Y : XK} {Φ : Bool → Nat → List Val → Store → R Val}
theorem sn_var {i : Nat} {x : Str} {pos : Pos} (h : PE X (.Name x pos) (tVar i)) : PE X (.Name x pos) ((tI X.K cl Y Φ) (.var i)) := PE.of h fun σ H Q ⟨Hf, Fr, m, S, ρ, s, r, q⟩ => by
  have q' : QE X.K cl Y Hf Fr m Q (match ρ[i]? with
    | some (some v) => .ok v S
    | _ => .bad) := q
  cases e : ρ[i]? with
  | none => rw [e] at q'; exact q'.elim
  | some o =>
    rw [e] at q'
    cases o with
    | none => exact q'.elim
    | some v =>
      obtain ⟨y, h1, h2⟩ := r.get i v e
      exact ⟨y, h1, Give.at q' s h2⟩
theorem sn_c {e : Expr} {v : V} {z : Val} {ie : E} (h : PE X e (tC v)) (hz : ∀ ρ S, evalE Φ ie ρ S = .ok z S) (hr : ∀ Hf m, Rep X.K Hf m z v) : PE X e ((tI X.K cl Y Φ) ie) := PE.of h fun σ H Q ⟨Hf, Fr, m, S, ρ, s, r, q⟩ => by
  rw [hz] at q
  exact Give.at q s (hr _ _)
theorem sn_int {i : Int} {j : Nat} {pos : Pos} : PE X (.Constant (.int i) j pos) ((tI X.K cl Y Φ) (.int i)) := sn_c pe_int (fun _ _ => rfl) fun _ _ => rfl
theorem sn_bl {i : Bool} {j : Nat} {pos : Pos} : PE X (.Constant (.bool i) j pos) ((tI X.K cl Y Φ) (.bl i)) := sn_c pe_bl (fun _ _ => rfl) fun _ _ => rfl
theorem sn_non {j : Nat} {pos : Pos} : PE X (.Constant .none j pos) ((tI X.K cl Y Φ) .non) := sn_c pe_non (fun _ _ => rfl) fun _ _ => rfl
theorem sn_str {i : Str} {j : Nat} {pos : Pos} : PE X (.Constant (.str i) j pos) ((tI X.K cl Y Φ) (.str i)) := sn_c pe_str (fun _ _ => rfl) fun _ _ => rfl
/-! arguments -/
theorem sa_nil : PA X [] ((tAs X.K cl Y Φ) .nil) := PA.of pa_nil fun σ H Q ⟨Hf, Fr, m, S, ρ, s, r, q⟩ => q [] H Hf m (Evl.Ex.refl _) (List.prefix_refl _) s .nil
theorem sa_cons {x : Expr} {xs : List Expr} {e r : E} (h : PE X x ((tI X.K cl Y Φ) e)) (hr : PA X xs ((tAs X.K cl Y Φ) r)) (hs : starEach (x :: xs) X.env = (false, eval x X.env) :: starEach xs X.env) : PA X (x :: xs) ((tAs X.K cl Y Φ) (.cons e r)) :=
  PA.of (pa_cons h hr hs) fun σ H Q ⟨Hf, Fr, m, S, ρ, s, er, q⟩ =>
    ⟨Hf, Fr, m, S, ρ, s, er, QR.bind (f := fun v S1 => (evalA Φ r ρ S1).bind fun vs S2 => .ok (v :: vs) S2) q fun v S1 y H1 Hf1 m1 e1 p1 s1 r1 q1 =>
      ⟨Hf1, Fr, m1, S1, ρ, s1, er.mono e1 p1, QR.bind (f := fun vs S2 => .ok (v :: vs) S2) q1 fun vs S2 ys H2 Hf2 m2 e2 p2 s2 r2 q2 =>
        q2 _ _ _ _ (Evl.Ex.refl _) (List.prefix_refl _) s2 (.cons (Rep.mono e2 p2 _ _ r1) r2)⟩⟩
/-! displays -/
theorem mk_give {Hf Fr H : Hp} {m : List Addr} {S : Store} {Q : VK} {mu : Bool} {vs : List Val} {xs : List V} (q : QE X.K cl Y Hf Fr m Q (mk mu vs S)) (s : Sim X.K Hf Fr m S H) (r : Reps X.K Hf m vs xs) {p : Addr} (hp : H p = none) : Q (.ref p) (upd H p (.lst xs)) := by
  cases mu with
  | false => exact Give.lst q s r hp
  | true =>
    have q' : Give X.K Hf Fr m (S ++ [.lst vs]) (.loc S.length) Q := q
    exact q' _ _ Hf (m ++ [p]) (Evl.Ex.refl _) (List.prefix_append _ _) (s.newL hp r) ⟨p, rfl, by rw [← s.len]; simp⟩
theorem sn_tup {es : List Expr} {j : Nat} {pos : Pos} {e : E} (h : PA X es ((tAs X.K cl Y Φ) e)) : PE X (.Tuple es j pos) ((tI X.K cl Y Φ) (.tup e)) :=
  PE.of (pe_tup h) fun σ H Q ⟨Hf, Fr, m, S, ρ, s, er, q⟩ =>
    ⟨Hf, Fr, m, S, ρ, s, er, QR.bind (f := fun vs S1 => if vs.length ≤ lim then .ok (Val.tup vs) S1 else .bad) q fun vs S1 xs H1 Hf1 m1 e1 p1 s1 r1 q1 => by
      by_cases c : vs.length ≤ lim
      · rw [if_pos c] at q1
        exact ⟨sz (by rw [← r1.length]; exact c), fun p hp => Give.tup q1 s1 r1 hp⟩
      · rw [if_neg c] at q1
        exact q1.elim⟩
theorem sn_lst {es : List Expr} {pos : Pos} {e : E} {mu : Bool} (h : PA X es ((tAs X.K cl Y Φ) e)) : PE X (.List es pos) ((tI X.K cl Y Φ) (.lst mu e)) :=
  PE.of (pe_lst h) fun σ H Q ⟨Hf, Fr, m, S, ρ, s, er, q⟩ =>
    ⟨Hf, Fr, m, S, ρ, s, er, QR.bind (f := fun vs S1 => if vs.length ≤ lim then mk mu vs S1 else .bad) q fun vs S1 xs H1 Hf1 m1 e1 p1 s1 r1 q1 => by
      by_cases c : vs.length ≤ lim
      · rw [if_pos c] at q1
        exact ⟨sz (by rw [← r1.length]; exact c), fun p hp => mk_give q1 s1 r1 hp⟩
      · rw [if_neg c] at q1
        exact q1.elim⟩
/-! operators -/
theorem two {r : R2} {f : Store → Val → Val → Option Val} (hf : OpS X.K r f) {a b : E} {ie : E} (he : ∀ ρ S, evalE Φ ie ρ S = (evalE Φ a ρ S).bind fun v S1 => (evalE Φ b ρ S1).bind fun w S2 => .of (f S2 v w) S2) (σ : L2.St) (H : Hp) (Q : VK) (h : (tI X.K cl Y Φ) ie σ H Q) :
    tOp r ((tI X.K cl Y Φ) a) ((tI X.K cl Y Φ) b) σ H Q := by
  obtain ⟨Hf, Fr, m, S, ρ, s, er, q⟩ := h
  rw [he] at q
  refine ⟨Hf, Fr, m, S, ρ, s, er, QR.bind q fun v S1 y H1 Hf1 m1 e1 p1 s1 r1 q1 => ⟨Hf1, Fr, m1, S1, ρ, s1, er.mono e1 p1, QR.bind q1 fun w S2 y2 H2 Hf2 m2 e2 p2 s2 r2 q2 => ?_⟩⟩
  obtain ⟨z, hz, g⟩ := QE.ofS q2
  exact hf Hf2 Fr m2 S2 H2 v w z y y2 Q s2 (Rep.mono e2 p2 _ _ r1) r2 hz g
theorem sn_bin {o : Bop} {a b : E} {xa xb : Expr} {pos : Pos} (ha : PE X xa ((tI X.K cl Y Φ) a)) (hb : PE X xb ((tI X.K cl Y Φ) b)) : PE X (.BinOp xa (bopOf o) xb pos) ((tI X.K cl Y Φ) (.bin o a b)) :=
  PE.of (pe_op (bop_ok o) ha hb) fun σ H Q h => two (bopS o) (fun _ _ => rfl) σ H Q h
theorem sn_cmp {o : Cop} {a b : E} {xa xb : Expr} {pos : Pos} (hu : X.A.units + 65 < cLine) (ha : PE X xa ((tI X.K cl Y Φ) a)) (hb : PE X xb ((tI X.K cl Y Φ) b)) (hm : behindInMarks (copOf o) xb = false) : PE X (.Compare xa [copOf o] [xb] pos) ((tI X.K cl Y Φ) (.cmp o a b)) :=
  PE.of (pe_cmpR (cop_ok hu o) ha hb hm) fun σ H Q h => two (copS o) (fun _ _ => rfl) σ H Q h
theorem sn_ix {a b : E} {xa xb : Expr} {pos : Pos} (ha : PE X xa ((tI X.K cl Y Φ) a)) (hb : PE X xb ((tI X.K cl Y Φ) b)) (hs : PlainIx xb) : PE X (.Subscript xa xb pos) ((tI X.K cl Y Φ) (.ix a b)) :=
  PE.of (pe_ix ix_A ha hb hs) fun σ H Q h => two ixS (fun _ _ => rfl) σ H Q h
theorem sn_neg {a : E} {xa : Expr} {pos : Pos} (ha : PE X xa ((tI X.K cl Y Φ) a)) : PE X (.UnaryOp .USub xa pos) ((tI X.K cl Y Φ) (.neg a)) :=
  PE.of (pe_un un_neg ha) fun σ H Q ⟨Hf, Fr, m, S, ρ, s, er, q⟩ =>
    ⟨Hf, Fr, m, S, ρ, s, er, QR.bind (f := fun v S1 => match v with
      | .int i => .ok (Val.int (-i)) S1
      | _ => .bad) q fun v S1 y H1 Hf1 m1 e1 p1 s1 r1 q1 => by
      cases v with
      | int i =>
        cases r1
        exact ⟨i, rfl, Give.at q1 s1 rfl⟩
      | _ => exact q1.elim⟩
theorem test_of {e : E} {σ : L2.St} {H : Hp} {Q : Bool → Hp → Prop} (h : (tTs X.K cl Y Φ) e σ H Q) : (tI X.K cl Y Φ) e σ H fun x H1 => ∃ k, x = .bl k ∧ Q k H1 := by
  obtain ⟨Hf, Fr, m, S, ρ, s, er, q⟩ := h
  refine ⟨Hf, Fr, m, S, ρ, s, er, QR.bind (f := fun v S1 => asBool v fun b => .ok b S1) q fun v S1 y H1 Hf1 m1 e1 p1 s1 r1 q1 => ?_⟩
  obtain ⟨b, rfl, q2⟩ := asBool_inv q1
  cases r1
  exact ⟨b, rfl, q2 b H1 Hf1 m1 (Evl.Ex.refl _) (List.prefix_refl _) s1 rfl⟩
/-- a value as a test -/
theorem st_val {e : E} {x : Expr} (h : PE X x ((tI X.K cl Y Φ) e)) (he : ∀ whole, isTrue x X.env whole = (do let v ← whole; standAt x.pos; holding [v] (truthy v))) : PT X x ((tTs X.K cl Y Φ) e) :=
  PT.of (pt_val h he) fun σ H Q q => test_of q
theorem of_test {e : E} {ie : E} {σ : L2.St} {H : Hp} {Q : Bool → Hp → Prop} {g : Bool → Env → Store → R Bool}
    (he : ∀ ρ S, evalT Φ ie ρ S = (evalT Φ e ρ S).bind fun b S1 => g b ρ S1) (h : (tTs X.K cl Y Φ) ie σ H Q) {Q' : Bool → Hp → Prop}
    (k : ∀ b S1 H1 Hf1 Fr m1 ρ, Sim X.K Hf1 Fr m1 S1 H1 → EnvR X.K Hf1 m1 ρ σ → QR X.K cl Y (fun _ _ (a x : Bool) => a = x) Hf1 Fr m1 Q (g b ρ S1) → Q' b H1) : (tTs X.K cl Y Φ) e σ H Q' := by
  obtain ⟨Hf, Fr, m, S, ρ, s, er, q⟩ := h
  rw [he] at q
  refine ⟨Hf, Fr, m, S, ρ, s, er, QR.bind (f := fun b S1 => g b ρ S1) q fun b S1 b' H1 Hf1 m1 e1 p1 s1 r1 q1 => ?_⟩
  cases r1
  exact k b S1 H1 Hf1 Fr m1 ρ s1 (er.mono e1 p1) q1
theorem bind_assoc {α β γ : Type} (r : R α) (f : α → Store → R β) (g : β → Store → R γ) : (r.bind f).bind g = r.bind fun a S => (f a S).bind g := by
  cases r <;> rfl
theorem asBool_bind {α β : Type} (v : Val) (f : Bool → R α) (g : α → Store → R β) : (asBool v f).bind g = asBool v fun b => (f b).bind g := by
  cases v <;> rfl
theorem evalT_and (a b : E) (ρ : Env) (S : Store) : evalT Φ (.and a b) ρ S = (evalT Φ a ρ S).bind fun k S1 => if k then evalT Φ b ρ S1 else .ok false S1 := by
  show ((evalE Φ a ρ S).bind fun v S1 => asBool v fun k => if k then evalE Φ b ρ S1 else .ok (Val.bl false) S1).bind _ = _
  unfold evalT
  rw [bind_assoc, bind_assoc]
  congr 1
  funext v S1
  rw [asBool_bind, asBool_bind]
  cases v <;> try rfl
  rename_i k
  cases k <;> rfl
theorem evalT_or (a b : E) (ρ : Env) (S : Store) : evalT Φ (.or a b) ρ S = (evalT Φ a ρ S).bind fun k S1 => if k then .ok true S1 else evalT Φ b ρ S1 := by
  show ((evalE Φ a ρ S).bind fun v S1 => asBool v fun k => if k then .ok (Val.bl true) S1 else evalE Φ b ρ S1).bind _ = _
  unfold evalT
  rw [bind_assoc, bind_assoc]
  congr 1
  funext v S1
  rw [asBool_bind, asBool_bind]
  cases v <;> try rfl
  rename_i k
  cases k <;> rfl
theorem evalT_not (a : E) (ρ : Env) (S : Store) : evalT Φ (.not a) ρ S = (evalT Φ a ρ S).bind fun k S1 => .ok (!k) S1 := by
  show ((evalE Φ a ρ S).bind fun v S1 => asBool v fun k => .ok (Val.bl (!k)) S1).bind _ = _
  unfold evalT
  rw [bind_assoc, bind_assoc]
  congr 1
  funext v S1
  rw [asBool_bind, asBool_bind]
  cases v <;> rfl
theorem st_and {a b : E} {xa xb : Expr} {rest : List Expr} {pos : Pos} (ha : PT X xa ((tTs X.K cl Y Φ) a)) (hb : PW X (.BoolOp .And (xb :: rest) pos) ((tTs X.K cl Y Φ) b)) : PW X (.BoolOp .And (xa :: xb :: rest) pos) ((tTs X.K cl Y Φ) (.and a b)) := by
  have h := pw_and ha hb
  refine ⟨fun wh pins s σ H Q I hq => h.run wh pins s σ H Q I (of_test (fun ρ S => evalT_and a b ρ S) hq fun k S1 H1 Hf1 Fr m1 ρ s1 er q => ?_)⟩
  cases k with
  | true => exact ⟨Hf1, Fr, m1, S1, ρ, s1, er, q⟩
  | false => exact q false H1 Hf1 m1 (Evl.Ex.refl _) (List.prefix_refl _) s1 rfl
theorem st_or {a b : E} {xa xb : Expr} {rest : List Expr} {pos : Pos} (ha : PT X xa ((tTs X.K cl Y Φ) a)) (hb : PW X (.BoolOp .Or (xb :: rest) pos) ((tTs X.K cl Y Φ) b)) : PW X (.BoolOp .Or (xa :: xb :: rest) pos) ((tTs X.K cl Y Φ) (.or a b)) := by
  have h := pw_or ha hb
  refine ⟨fun wh pins s σ H Q I hq => h.run wh pins s σ H Q I (of_test (fun ρ S => evalT_or a b ρ S) hq fun k S1 H1 Hf1 Fr m1 ρ s1 er q => ?_)⟩
  cases k with
  | false => exact ⟨Hf1, Fr, m1, S1, ρ, s1, er, q⟩
  | true => exact q true H1 Hf1 m1 (Evl.Ex.refl _) (List.prefix_refl _) s1 rfl
theorem st_not {a : E} {xa : Expr} {pos : Pos} (ha : PT X xa ((tTs X.K cl Y Φ) a)) : PT X (.UnaryOp .Not xa pos) ((tTs X.K cl Y Φ) (.not a)) :=
  PT.of (pt_not ha) fun σ H Q hq => of_test (fun ρ S => evalT_not a ρ S) hq fun k S1 H1 Hf1 Fr m1 ρ s1 er q => q (!k) H1 Hf1 m1 (Evl.Ex.refl _) (List.prefix_refl _) s1 rfl
theorem st_cmp {o : Cop} {a b : E} {xa xb : Expr} {pos : Pos} (hu : X.A.units + 65 < cLine) (ha : PE X xa ((tI X.K cl Y Φ) a)) (hb : PE X xb ((tI X.K cl Y Φ) b)) (hm : behindInMarks (copOf o) xb = false) : PT X (.Compare xa [copOf o] [xb] pos) ((tTs X.K cl Y Φ) (.cmp o a b)) :=
  PT.of (pt_cmpR (cop_ok hu o) ha hb hm) fun σ H Q h => two (copS o) (fun _ _ => rfl) σ H _ (test_of h)
/-! and, or, not, if as values -/
theorem sn_and {a b : E} {xa xb : Expr} {rest : List Expr} {pos : Pos} (ha : PE X xa ((tI X.K cl Y Φ) a)) (hb : PE X (.BoolOp .And (xb :: rest) pos) ((tI X.K cl Y Φ) b)) : PE X (.BoolOp .And (xa :: xb :: rest) pos) ((tI X.K cl Y Φ) (.and a b)) :=
  PE.of (pe_and ha hb) fun σ H Q ⟨Hf, Fr, m, S, ρ, s, er, q⟩ =>
    ⟨Hf, Fr, m, S, ρ, s, er, QR.bind (f := fun v S1 => asBool v fun k => if k then evalE Φ b ρ S1 else .ok (Val.bl false) S1) q fun v S1 y H1 Hf1 m1 e1 p1 s1 r1 q1 => by
      obtain ⟨k, rfl, q2⟩ := asBool_inv q1
      cases r1
      refine ⟨k, rfl, ?_⟩
      cases k with
      | true => exact ⟨Hf1, Fr, m1, S1, ρ, s1, er.mono e1 p1, q2⟩
      | false => exact Give.at q2 s1 rfl⟩
theorem sn_or {a b : E} {xa xb : Expr} {rest : List Expr} {pos : Pos} (ha : PE X xa ((tI X.K cl Y Φ) a)) (hb : PE X (.BoolOp .Or (xb :: rest) pos) ((tI X.K cl Y Φ) b)) : PE X (.BoolOp .Or (xa :: xb :: rest) pos) ((tI X.K cl Y Φ) (.or a b)) :=
  PE.of (pe_or ha hb) fun σ H Q ⟨Hf, Fr, m, S, ρ, s, er, q⟩ =>
    ⟨Hf, Fr, m, S, ρ, s, er, QR.bind (f := fun v S1 => asBool v fun k => if k then .ok (Val.bl true) S1 else evalE Φ b ρ S1) q fun v S1 y H1 Hf1 m1 e1 p1 s1 r1 q1 => by
      obtain ⟨k, rfl, q2⟩ := asBool_inv q1
      cases r1
      refine ⟨k, rfl, ?_⟩
      cases k with
      | false => exact ⟨Hf1, Fr, m1, S1, ρ, s1, er.mono e1 p1, q2⟩
      | true => exact Give.at q2 s1 rfl⟩
theorem sn_not {a : E} {xa : Expr} {pos : Pos} (ha : PE X xa ((tI X.K cl Y Φ) a)) : PE X (.UnaryOp .Not xa pos) ((tI X.K cl Y Φ) (.not a)) :=
  PE.of (pe_not ha) fun σ H Q ⟨Hf, Fr, m, S, ρ, s, er, q⟩ =>
    ⟨Hf, Fr, m, S, ρ, s, er, QR.bind (f := fun v S1 => asBool v fun k => .ok (Val.bl (!k)) S1) q fun v S1 y H1 Hf1 m1 e1 p1 s1 r1 q1 => by
      obtain ⟨k, rfl, q2⟩ := asBool_inv q1
      cases r1
      exact ⟨k, rfl, Give.at q2 s1 rfl⟩⟩
theorem sn_ite {t a b : E} {xt xa xb : Expr} {pos : Pos} (ht : PT X xt ((tTs X.K cl Y Φ) t)) (ha : PE X xa ((tI X.K cl Y Φ) a)) (hb : PE X xb ((tI X.K cl Y Φ) b)) : PE X (.IfExp xt xa xb pos) ((tI X.K cl Y Φ) (.ite t a b)) :=
  PE.of (pe_ifExp ht ha hb) fun σ H Q ⟨Hf, Fr, m, S, ρ, s, er, q⟩ => by
    have e : evalE Φ (.ite t a b) ρ S = (evalT Φ t ρ S).bind fun k S1 => if k then evalE Φ a ρ S1 else evalE Φ b ρ S1 := by
      unfold evalT
      rw [bind_assoc]
      show (evalE Φ t ρ S).bind _ = (evalE Φ t ρ S).bind _
      congr 1
      funext v S1
      rw [asBool_bind]
      cases v <;> rfl
    rw [e] at q
    refine ⟨Hf, Fr, m, S, ρ, s, er, QR.bind (f := fun k S1 => if k then evalE Φ a ρ S1 else evalE Φ b ρ S1) q fun k S1 k' H1 Hf1 m1 e1 p1 s1 r1 q1 => ?_⟩
    cases r1
    cases k with
    | true => exact ⟨Hf1, Fr, m1, S1, ρ, s1, er.mono e1 p1, q1⟩
    | false => exact ⟨Hf1, Fr, m1, S1, ρ, s1, er.mono e1 p1, q1⟩
/-! a < b < c -/
theorem chain_of {o o' : Cop} {a b c : E} (σ : L2.St) (H : Hp) (Q : VK) (h : (tI X.K cl Y Φ) (.chain o o' a b c) σ H Q) : tChain (copR X.K o) (copR X.K o') ((tI X.K cl Y Φ) a) ((tI X.K cl Y Φ) b) ((tI X.K cl Y Φ) c) σ H Q := by
  obtain ⟨Hf, Fr, m, S, ρ, s, er, q⟩ := h
  refine ⟨Hf, Fr, m, S, ρ, s, er, QR.bind (f := fun v S1 => (evalE Φ b ρ S1).bind fun w S2 => match cmpV S2 o v w with
    | some true => (evalE Φ c ρ S2).bind fun u S3 => R.of ((cmpV S3 o' w u).map Val.bl) S3
    | some false => .ok (Val.bl false) S2
    | none => .bad) q fun v S1 y H1 Hf1 m1 e1 p1 s1 r1 q1 => ⟨Hf1, Fr, m1, S1, ρ, s1, er.mono e1 p1, QR.bind (f := fun w S2 => match cmpV S2 o v w with
    | some true => (evalE Φ c ρ S2).bind fun u S3 => R.of ((cmpV S3 o' w u).map Val.bl) S3
    | some false => .ok (Val.bl false) S2
    | none => .bad) q1 fun w S2 y2 H2 Hf2 m2 e2 p2 s2 r2 q2 => ?_⟩⟩
  cases hc : cmpV S2 o v w with
  | none => rw [hc] at q2; exact q2.elim
  | some k =>
    rw [hc] at q2
    refine copS o Hf2 Fr m2 S2 H2 v w (.bl k) y y2 _ s2 (Rep.mono e2 p2 _ _ r1) r2 (show (cmpV S2 o v w).map Val.bl = some (.bl k) by rw [hc]; rfl) fun x' H3 Hf3 m3 e3 p3 s3 r3 => ?_
    cases r3
    refine ⟨k, rfl, ?_⟩
    cases k with
    | false => exact q2 _ H3 Hf3 m3 e3 p3 s3 rfl
    | true =>
      refine ⟨Hf3, Fr, m3, S2, ρ, s3, ((er.mono e1 p1).mono e2 p2).mono e3 p3, QR.bind (f := fun u S3 => R.of ((cmpV S3 o' w u).map Val.bl) S3) (QR.mono (r := (evalE Φ c ρ S2).bind fun u S3 => R.of ((cmpV S3 o' w u).map Val.bl) S3) q2 e3 p3) fun u S3 y3 H4 Hf4 m4 e4 p4 s4 r4 q4 => ?_⟩
      obtain ⟨z, hz, g⟩ := QE.ofS q4
      exact copS o' Hf4 Fr m4 S3 H4 w u z y2 y3 Q s4 (Rep.mono e4 p4 _ _ (Rep.mono e3 p3 _ _ r2)) r4 hz g
theorem sn_chain {o o' : Cop} {a b c : E} {xa xb xc : Expr} {pos : Pos} (hu : X.A.units + 65 < cLine) (ha : PE X xa ((tI X.K cl Y Φ) a)) (hb : PE X xb ((tI X.K cl Y Φ) b)) (hc : PE X xc ((tI X.K cl Y Φ) c)) (hm : lastMarks [copOf o, copOf o'] [xb, xc] = false) :
    PE X (.Compare xa [copOf o, copOf o'] [xb, xc] pos) ((tI X.K cl Y Φ) (.chain o o' a b c)) :=
  PE.of (pe_chain (cop_ok hu o) (cop_ok hu o') ha hb hc hm) chain_of
theorem st_chain {o o' : Cop} {a b c : E} {xa xb xc : Expr} {pos : Pos} (hu : X.A.units + 65 < cLine) (ha : PE X xa ((tI X.K cl Y Φ) a)) (hb : PE X xb ((tI X.K cl Y Φ) b)) (hc : PE X xc ((tI X.K cl Y Φ) c)) (hm : lastMarks [copOf o, copOf o'] [xb, xc] = false) :
    PT X (.Compare xa [copOf o, copOf o'] [xb, xc] pos) ((tTs X.K cl Y Φ) (.chain o o' a b c)) :=
  PT.of (pt_chain (cop_ok hu o) (cop_ok hu o') ha hb hc hm) fun σ H Q h => chain_of σ H _ (test_of h)
/-! slices -/
def tOs (K : PySem.W.Frag) (cl : Nat → Value) (Y : XK) (Φ : Bool → Nat → List Val → Store → R Val) (e : E) : TO := fun σ H Q => ∃ Hf Fr m S ρ, Sim K Hf Fr m S H ∧ EnvR K Hf m ρ σ ∧ QR K cl Y (fun _ _ (a x : Option Int) => a = x) Hf Fr m Q (evalO Φ e ρ S)
theorem PO.of {e : Option Expr} {t t' : TO} (h : PO X e t) (i : ∀ σ H Q, t' σ H Q → t σ H Q) : PO X e t' := ⟨fun pins s σ H Q I hq => h.run pins s σ H Q I (i σ H Q hq)⟩
theorem so_none : PO X none (tOs X.K cl Y Φ .nil) := PO.of po_none fun σ H Q ⟨Hf, Fr, m, S, ρ, s, er, q⟩ => q none H Hf m (Evl.Ex.refl _) (List.prefix_refl _) s rfl
theorem so_some {e : E} {x : Expr} (h : PE X x ((tI X.K cl Y Φ) e)) : PO X (some x) (tOs X.K cl Y Φ (.part e)) := PO.of (po_some h) fun σ H Q ⟨Hf, Fr, m, S, ρ, s, er, q⟩ =>
  ⟨Hf, Fr, m, S, ρ, s, er, QR.bind (f := fun v S1 => match v with
    | Val.int i => R.ok (some i) S1
    | _ => .bad) q fun v S1 y H1 Hf1 m1 e1 p1 s1 r1 q1 => by
      cases v with
      | int i =>
        cases r1
        exact ⟨i, rfl, q1 (some i) H1 Hf1 m1 (Evl.Ex.refl _) (List.prefix_refl _) s1 rfl⟩
      | _ => exact q1.elim⟩
theorem sn_sl {a lo hi : E} {xa : Expr} {xl xh : Option Expr} {p2 pos : Pos} (ha : PE X xa ((tI X.K cl Y Φ) a)) (hl : PO X xl (tOs X.K cl Y Φ lo)) (hh : PO X xh (tOs X.K cl Y Φ hi)) : PE X (.Subscript xa (.Slice xl xh none p2) pos) ((tI X.K cl Y Φ) (.sl a lo hi)) :=
  PE.of (pe_slice sl_A ha hl hh) fun σ H Q ⟨Hf, Fr, m, S, ρ, s, er, q⟩ =>
    ⟨Hf, Fr, m, S, ρ, s, er, QR.bind (f := fun v S1 => (evalO Φ lo ρ S1).bind fun l S2 => (evalO Φ hi ρ S2).bind fun h S3 => R.of (sliceV S3 v l h) S3) q fun v S1 y H1 Hf1 m1 e1 p1 s1 r1 q1 =>
      ⟨Hf1, Fr, m1, S1, ρ, s1, er.mono e1 p1, QR.bind (f := fun l S2 => (evalO Φ hi ρ S2).bind fun h S3 => R.of (sliceV S3 v l h) S3) q1 fun l S2 l' H2 Hf2 m2 e2 p2 s2 r2 q2 =>
        ⟨Hf2, Fr, m2, S2, ρ, s2, (er.mono e1 p1).mono e2 p2, QR.bind (f := fun h S3 => R.of (sliceV S3 v l h) S3) q2 fun h S3 h' H3 Hf3 m3 e3 p3 s3 r3 q3 => by
          cases r2
          cases r3
          obtain ⟨z, hz, g⟩ := QE.ofS q3
          exact slS s3 (Rep.mono e3 p3 _ _ (Rep.mono e2 p2 _ _ r1)) hz g⟩⟩⟩
end
end Iv
/-! Iv5: built-ins, walks, comprehensions, calls. -/
namespace Iv
open PySem PySem.Spec PyProof.Rows L2
open Evl (Ex ex_l ex_t)
/-- a call of a built-in told by f -/
def CallS (K : PySem.W.Frag) (r : List V → Hp → VK → Prop) (f : Store → List Val → Option Val) : Prop := ∀ (Hf Fr : Hp) (m : List Addr) (S : Store) (H : Hp) (vs : List Val) (z : Val) (xs : List V) (Q : VK), Sim K Hf Fr m S H → Reps K Hf m vs xs → f S vs = some z →
  Give K Hf Fr m S z Q → r xs H Q
section
variable {K : PySem.W.Frag}
def rLenA (K : PySem.W.Frag) : List V → Hp → VK → Prop := fun xs H Q => (∃ p ys, xs = [.ref p] ∧ (SqL K H p ys ∨ SqT K H p ys) ∧ Q (.int ys.length) H) ∨ (∃ z, xs = [.str z] ∧ z.length ≤ sizeLine ∧ Q (.int z.length) H)
theorem blt_one {S : Store} {f : Blt} {vs : List Val} {z : Val} (hf : f ≠ .max2 ∧ f ≠ .min2) (h : bltV S f vs = some z) : ∃ v, vs = [v] := by
  cases vs with
  | nil => cases f <;> cases h
  | cons v r =>
    cases r with
    | nil => exact ⟨v, rfl⟩
    | cons w t =>
      cases f
      case max2 => exact absurd rfl hf.1
      case min2 => exact absurd rfl hf.2
      all_goals (cases v <;> cases h)
theorem callS_len : CallS K (rLenA K) (fun S vs => bltV S .len vs) := by
  intro Hf Fr m S H vs z xs Q s r e q
  obtain ⟨v, rfl⟩ := blt_one (by decide) e
  obtain ⟨x, t, rfl, r1, r2⟩ := r
  cases r2
  have key : ∀ ws, items S v = some ws → z = .int ws.length → rLenA K [x] H Q := fun ws h1 h2 => by
    obtain ⟨a, ys, rfl, h3, h4⟩ := Rep.seqAt s r1 h1
    subst h2
    rw [h4.length] at q
    exact .inl ⟨a, ys, rfl, h3, q.at s rfl⟩
  have gen : (match items S v with
    | some ws => some (Val.int ws.length)
    | none => none) = some z → rLenA K [x] H Q := fun h => by
    cases h1 : items S v with
    | none => rw [h1] at h; cases h
    | some ws =>
      rw [h1] at h
      cases h
      exact key ws h1 rfl
  cases v with
  | str a =>
    cases r1
    have e' : (if a.length ≤ lim then some (Val.int a.length) else none) = some z := e
    by_cases c : a.length ≤ lim
    · rw [if_pos c] at e'
      cases e'
      exact .inr ⟨a, rfl, sz c, q.at s rfl⟩
    · rw [if_neg c] at e'
      cases e'
  | non => exact gen e
  | bl _ => exact gen e
  | int _ => exact gen e
  | tup _ => exact gen e
  | lst _ => exact gen e
  | loc _ => exact gen e
theorem callS_abs : CallS K (fun xs H Q => ∃ i, xs = [.int i] ∧ Q (.int (if i < 0 then -i else i)) H) (fun S vs => bltV S .abs vs) := by
  intro Hf Fr m S H vs z xs Q s r e q
  obtain ⟨v, rfl⟩ := blt_one (by decide) e
  obtain ⟨x, t, rfl, r1, r2⟩ := r
  cases r2
  cases v with
  | int i =>
    cases r1
    cases e
    exact ⟨i, rfl, q.at s rfl⟩
  | _ => cases e
theorem blt_two {S : Store} {f : Blt} {vs : List Val} {z : Val} (hf : f = .max2 ∨ f = .min2) (h : bltV S f vs = some z) : ∃ i j, vs = [.int i, .int j] := by
  cases vs with
  | nil => rcases hf with rfl | rfl <;> cases h
  | cons v r =>
    cases r with
    | nil => rcases hf with rfl | rfl <;> cases v <;> cases h
    | cons w t =>
      cases t with
      | cons _ _ => rcases hf with rfl | rfl <;> cases v <;> cases w <;> cases h
      | nil =>
        cases v with
        | int i =>
          cases w with
          | int j => exact ⟨i, j, rfl⟩
          | _ => rcases hf with rfl | rfl <;> cases h
        | _ => rcases hf with rfl | rfl <;> cases h
theorem callS_max2 : CallS K (fun xs H Q => ∃ i j, xs = [.int i, .int j] ∧ Q (.int (if j > i then j else i)) H) (fun S vs => bltV S .max2 vs) := by
  intro Hf Fr m S H vs z xs Q s r e q
  obtain ⟨i, j, rfl⟩ := blt_two (.inl rfl) e
  obtain ⟨x, t, rfl, r1, x2, t2, rfl, r3, r4⟩ := r
  cases r4
  cases r1
  cases r3
  cases e
  exact ⟨i, j, rfl, q.at s rfl⟩
theorem callS_min2 : CallS K (fun xs H Q => ∃ i j, xs = [.int i, .int j] ∧ Q (.int (if j < i then j else i)) H) (fun S vs => bltV S .min2 vs) := by
  intro Hf Fr m S H vs z xs Q s r e q
  obtain ⟨i, j, rfl⟩ := blt_two (.inr rfl) e
  obtain ⟨x, t, rfl, r1, x2, t2, rfl, r3, r4⟩ := r
  cases r4
  cases r1
  cases r3
  cases e
  exact ⟨i, j, rfl, q.at s rfl⟩
end
section
variable {X : Cx} {cl : Nat → Value} {Y : XK} {Φ : Bool → Nat → List Val → Store → R Val}
theorem blt_of {r : List V → Hp → VK → Prop} {f : Blt} (hf : CallS X.K r (fun S vs => bltV S f vs)) {es : E} (σ : L2.St) (H : Hp) (Q : VK) (h : (tI X.K cl Y Φ) (.blt f es) σ H Q) : tCB r ((tAs X.K cl Y Φ) es) σ H Q := by
  obtain ⟨Hf, Fr, m, S, ρ, s, er, q⟩ := h
  refine ⟨Hf, Fr, m, S, ρ, s, er, QR.bind (f := fun vs S1 => R.of (bltV S1 f vs) S1) q fun vs S1 xs H1 Hf1 m1 e1 p1 s1 r1 q1 => ?_⟩
  obtain ⟨z, hz, g⟩ := QE.ofS q1
  exact hf Hf1 Fr m1 S1 H1 vs z xs Q s1 r1 hz g
/-- isinstance(a, T) -/
theorem sn_isi {a : E} {T : String} {xa : Expr} {xT : Str} {p p2 pos : Pos} (hT : T = "int" ∨ T = "bool" ∨ T = "str" ∨ T = "tuple" ∨ T = "list" ∨ T = "dict") (ha : PE X xa ((tI X.K cl Y Φ) a)) (hg : Gl X "isinstance") (hm : X.mg "isinstance" = none)
    (hgT : Gl X xT) (hmT : X.mg xT = none) (hbT : bootBuiltins xT = some (.type T)) (hnT : xT ≠ "__name__") (hdT : (xT == ("__debug__" : Str)) = false) (hs : starEach (xa :: [.Name xT p2]) X.env = (false, eval xa X.env) :: starEach [.Name xT p2] X.env) :
    PE X (.Call (.Name "isinstance" p) [xa, .Name xT p2] [] pos) ((tI X.K cl Y Φ) (.isi a T)) := by
  have hb : PE X (.Name xT p2) (tC (.ty T)) := pe_bltn (v := .ty T) hgT hmT hbT rfl hnT hdT
  refine PE.of (pe_callB call_isi hg hm (by decide +kernel) (pa_cons ha (pa_cons hb pa_nil) hs) (by decide) (by decide) hs rfl) fun σ H Q ⟨Hf, Fr, m, S, ρ, s, er, q⟩ => ?_
  refine ⟨Hf, Fr, m, S, ρ, s, er, QR.bind (f := fun v S1 => R.of ((isT S1 T v).map Val.bl) S1) q fun v S1 y H1 Hf1 m1 e1 p1 s1 r1 q1 => ?_⟩
  obtain ⟨z, hz, g⟩ := QE.ofS q1
  obtain ⟨k, hk, rfl⟩ := map_bl hz
  obtain ⟨t, h1, h2⟩ := tyX s1 r1 hT hk
  exact ⟨y, .ty T, .type t, .type T, k, rfl, .ty T, h1, kit_ty h2, g.at s1 rfl⟩
/-- xs.append(e) -/
theorem sn_append {o e : E} {xo xe : Expr} {apos cpos : Pos} (ho : PE X xo ((tI X.K cl Y Φ) o)) (he : PE X xe ((tI X.K cl Y Φ) e)) (hbase : attributeBase xo "append" X.env (eval xo X.env) = eval xo X.env)
    (hs : starEach (xe :: []) X.env = (false, eval xe X.env) :: starEach [] X.env) (hline : (apos.endLine == cpos.line) = true) :
    PE X (.Call (.Attribute xo "append" apos) [xe] [] cpos) ((tI X.K cl Y Φ) (.mth .append o (.cons e .nil))) := by
  refine PE.of (pe_bm PySem.F.plainAttrs_list PySem.F.slot_list_append PySem.F.type_list_append mt_append ho (sa_cons (r := .nil) he sa_nil hs) hbase (by rw [hs]; rfl) hline hs rfl) fun σ H Q ⟨Hf, Fr, m, S, ρ, s, er, q⟩ => ?_
  refine ⟨Hf, Fr, m, S, ρ, s, er, QR.bind (f := fun v S1 => if rcv S1 .append v then (evalA Φ (.cons e .nil) ρ S1).bind fun vs S2 => mthV .append v vs S2 else .bad) q fun v S1 y H1 Hf1 m1 e1 p1 s1 r1 q1 => ?_⟩
  cases v with
  | loc n =>
    cases q0 : S1[n]? with
    | none =>
      have : rcv S1 .append (.loc n) = false := by
        show (match S1[n]? with
          | some (.lst _) => true
          | none => false) = false
        rw [q0]
      rw [this] at q1
      exact q1.elim
    | some ob =>
      cases ob with
      | lst ws =>
        have hr : rcv S1 .append (.loc n) = true := by
          show (match S1[n]? with
            | some (.lst _) => true
            | none => false) = true
          rw [q0]
        rw [hr] at q1
        obtain ⟨a, xs, rfl, hm, h3, h4⟩ := Rep.locAt s1 r1 q0
        refine ⟨.inl ⟨rfl, xs, SqL.of h3⟩, Hf1, Fr, m1, S1, ρ, s1, er.mono e1 p1, QR.bind (f := fun vs S2 => mthV .append (.loc n) vs S2) q1 fun vs S2 ys H2 Hf2 m2 e2 p2 s2 r2 q2 => ?_⟩
        have hm2 : m2[n]? = some a := pre_get p2 hm
        cases vs with
        | nil => exact q2.elim
        | cons v t =>
          cases t with
          | cons _ _ => exact q2.elim
          | nil =>
            have q3 : QE X.K cl Y Hf2 Fr m2 Q (match S2[n]? with
              | some (.lst xs) => if xs.length < lim then .ok .non (S2.set n (.lst (xs ++ [v]))) else .bad
              | none => .bad) := q2
            cases q4 : S2[n]? with
            | none => rw [q4] at q3; exact q3.elim
            | some ob =>
              cases ob with
              | lst us =>
                rw [q4] at q3
                have q5 : QE X.K cl Y Hf2 Fr m2 Q (if us.length < lim then .ok .non (S2.set n (.lst (us ++ [v]))) else .bad) := q3
                obtain ⟨zs, h5, h6⟩ := s2.obj n a _ hm2 q4
                obtain ⟨x1, t1, rfl, r3, r4⟩ := r2
                cases r4
                by_cases c : us.length < lim
                · rw [if_pos c] at q5
                  exact ⟨a, zs, x1, rfl, rfl, h5, sz' (by rw [← h6.length]; exact c), q5 _ _ Hf2 m2 (Evl.Ex.refl _) (List.prefix_refl _) (s2.write hm2 (h6.snoc r3)) rfl⟩
                · rw [if_neg c] at q5
                  exact q5.elim
  | lst _ => exact q1.elim
  | non => exact q1.elim
  | bl _ => exact q1.elim
  | int _ => exact q1.elim
  | str _ => exact q1.elim
  | tup _ => exact q1.elim
end
/-! ### targets -/
def gNames : List Nat → TGs
  | [] => gNil
  | i :: r => gCons (gName i) (gNames r)
def gI (K : PySem.W.Frag) : Tg → TG
  | .nm i => gName i
  | .tp is => gTup K is.length (gNames is)
def Tg.slots : Tg → List Nat
  | .nm i => [i]
  | .tp is => is
theorem gNames_ok {K : PySem.W.Frag} {Hf : Hp} {m : List Addr} {H : Hp} {Q : L2.St → Hp → Prop} : ∀ (is : List Nat) (vs : List Val) (xs : List V) (ρ : Env) (σ : L2.St), is.length = vs.length → EnvR K Hf m ρ σ → Reps K Hf m vs xs →
    (∀ σ', EnvR K Hf m ((is.zip vs).foldl (fun ρ p => ρ.set p.1 (some p.2)) ρ) σ' → (∀ j, j ∉ is → σ'[j]? = σ[j]?) → Q σ' H) → gNames is xs σ H Q
  | [], vs, xs, ρ, σ, hl, r, rs, k => by
    have e : vs = [] := List.eq_nil_of_length_eq_zero hl.symm
    subst e
    cases rs
    exact ⟨rfl, k σ r fun _ _ => rfl⟩
  | i :: is, vs, xs, ρ, σ, hl, r, rs, k => by
    cases vs with
    | nil => cases hl
    | cons v vs =>
      obtain ⟨x, t, rfl, r1, r2⟩ := rs
      refine ⟨x, t, rfl, ?_⟩
      refine gNames_ok is vs t (ρ.set i (some v)) (σ.set i (some x)) (Nat.succ.inj hl) (r.set i r1) r2 fun σ' h1 h2 => k σ' h1 fun j hj => ?_
      rw [h2 j fun z => hj (List.mem_cons_of_mem _ z)]
      exact List.getElem?_set_ne (fun z => hj (by rw [z]; exact List.mem_cons_self))
theorem gI_ok {K : PySem.W.Frag} {Hf Fr : Hp} {m : List Addr} {S : Store} {H : Hp} {Q : L2.St → Hp → Prop} {g : Tg} {ρ ρ' : Env} {σ : L2.St} {v : Val} {x : V} (h : setTg ρ g v = some ρ') (s : Sim K Hf Fr m S H) (r : EnvR K Hf m ρ σ) (rx : Rep K Hf m v x)
    (k : ∀ σ', EnvR K Hf m ρ' σ' → (∀ j, j ∉ g.slots → σ'[j]? = σ[j]?) → Q σ' H) : gI K g x σ H Q := by
  cases g with
  | nm i =>
    cases h
    exact k _ (r.set i rx) fun j hj => List.getElem?_set_ne (fun z => hj (by rw [z]; exact List.mem_singleton.mpr rfl))
  | tp is =>
    cases v with
    | tup vs =>
      have h' : (if is.length = vs.length then some ((is.zip vs).foldl (fun ρ p => ρ.set p.1 (some p.2)) ρ) else none) = some ρ' := h
      by_cases c : is.length = vs.length
      · rw [if_pos c] at h'
        cases h'
        obtain ⟨a, xs, rfl, h1, h2⟩ := Rep.tupAt s rx
        exact ⟨a, xs, rfl, h1, by rw [c, h2.length], gNames_ok is vs xs ρ σ c r h2 k⟩
      · rw [if_neg c] at h'
        cases h'
    | _ => cases h
/-! ### walks -/
theorem walkV_list {K : PySem.W.Frag} {Hf : Hp} {m : List Addr} {a : Addr} {vs : List Val} {xs : List V} (h : SqL K Hf a xs) (r : Reps K Hf m vs xs) : WalkV K Hf m (Itl K a) vs := by
  have w := walk_list (K := K) (a := a) (xs := xs)
  have hl := r.length
  refine ⟨fun i H hi e => w.goes i H (by omega) (ex_l e h), fun H e => by rw [hl]; exact w.stops H (ex_l e h), fun i H x H' hi e y => ?_⟩
  obtain ⟨h1, h2⟩ := w.yields i H x H' (by omega) (ex_l e h) y
  obtain ⟨v, h3, h4⟩ := r.get' h2
  exact ⟨v, h3, .inl ⟨h1, h4⟩⟩
theorem walkV_tup {K : PySem.W.Frag} {Hf : Hp} {m : List Addr} {a : Addr} {vs : List Val} {xs : List V} (h : SqT K Hf a xs) (r : Reps K Hf m vs xs) : WalkV K Hf m (Itt K a) vs := by
  have w := walk_tup (K := K) (a := a) (xs := xs)
  have hl := r.length
  refine ⟨fun i H hi e => w.goes i H (by omega) (ex_t e h), fun H e => by rw [hl]; exact w.stops H (ex_t e h), fun i H x H' hi e y => ?_⟩
  obtain ⟨h1, h2⟩ := w.yields i H x H' (by omega) (ex_t e h) y
  obtain ⟨v, h3, h4⟩ := r.get' h2
  exact ⟨v, h3, .inl ⟨h1, h4⟩⟩
theorem rangeV_len (lo : Int) : ∀ n, (rangeV lo n).length = n := by
  intro n
  induction n generalizing lo with
  | zero => rfl
  | succ n ih => show (rangeV (lo + 1) n).length + 1 = n + 1; rw [ih]
theorem rangeV_get (lo : Int) : ∀ (n i : Nat), i < n → (rangeV lo n)[i]? = some (.int (lo + i)) := by
  intro n
  induction n generalizing lo with
  | zero => intro i hi; omega
  | succ n ih =>
    intro i hi
    cases i with
    | zero => show some (Val.int lo) = some (Val.int (lo + ((0 : Nat) : Int))); rw [Int.natCast_zero, Int.add_zero]
    | succ i =>
      show (rangeV (lo + 1) n)[i]? = _
      rw [ih (lo + 1) i (by omega)]
      congr 2
      omega
theorem walkV_range {K : PySem.W.Frag} {Hf : Hp} {m : List Addr} {lo : Int} {n : Nat} : WalkV K Hf m (Itr lo n) (rangeV lo n) := by
  have w := walk_range (lo := lo) (n := n)
  have hl := rangeV_len lo n
  refine ⟨fun i H hi e => w.goes i H (by omega) trivial, fun H e => by rw [hl]; exact w.stops H trivial, fun i H x H' hi e y => ?_⟩
  obtain ⟨h1, h2⟩ := w.yields i H x H' (by omega) trivial y
  exact ⟨_, rangeV_get lo n i (by omega), .inl ⟨h1, h2⟩⟩
theorem pairs_len : ∀ (vs : List Val) (k : Nat), (pairs k vs).length = vs.length
  | [], _ => rfl
  | v :: vs, k => by show (pairs (k + 1) vs).length + 1 = vs.length + 1; rw [pairs_len vs (k + 1)]
theorem pairs_get : ∀ (vs : List Val) (k i : Nat) (v : Val), vs[i]? = some v → (pairs k vs)[i]? = some (.tup [.int ((k + i : Nat) : Int), v])
  | [], _, _, _, h => by simp at h
  | w :: vs, k, 0, v, h => by
    have e : w = v := by simpa using h
    subst e
    rfl
  | w :: vs, k, i + 1, v, h => by
    show (pairs (k + 1) vs)[i]? = _
    rw [pairs_get vs (k + 1) i v (by simpa using h)]
    congr 4
    omega
theorem zipV_len : ∀ (vs ws : List Val), (zipV vs ws).length = min vs.length ws.length
  | [], _ => by simp [zipV]
  | _ :: _, [] => by simp [zipV]
  | a :: vs, b :: ws => by
    show (zipV vs ws).length + 1 = _
    rw [zipV_len vs ws, List.length_cons, List.length_cons]
    omega
theorem zipV_get : ∀ (vs ws : List Val) (i : Nat) (v w : Val), vs[i]? = some v → ws[i]? = some w → (zipV vs ws)[i]? = some (.tup [v, w])
  | [], _, _, _, _, h, _ => by simp at h
  | _ :: _, [], _, _, _, _, h => by simp at h
  | a :: vs, b :: ws, 0, v, w, h, h2 => by
    have e : a = v := by simpa using h
    have e2 : b = w := by simpa using h2
    subst e e2
    rfl
  | a :: vs, b :: ws, i + 1, v, w, h, h2 => zipV_get vs ws i v w (by simpa using h) (by simpa using h2)
theorem walkV_enum {K : PySem.W.Frag} {Hf : Hp} {m : List Addr} {a : Addr} {vs : List Val} {xs : List V} (h : SqL K Hf a xs) (r : Reps K Hf m vs xs) : WalkV K Hf m (Ite K a) (pairs 0 vs) := by
  have w := walk_enum (K := K) (a := a) (xs := xs)
  have hl := r.length
  have hp := pairs_len vs 0
  refine ⟨fun i H hi e => w.goes i H (by omega) (ex_l e h), fun H e => by rw [hp, hl]; exact w.stops H (ex_l e h), fun i H x H' hi e y => ?_⟩
  obtain ⟨T, x1, x2, h1, h2, h3, h4, h5⟩ := w.yields i H x H' (by omega) (ex_l e h) y
  obtain ⟨v, h6, h7⟩ := r.get' h5
  have e1 : V.int (i : Nat) = x1 := Option.some.inj h4
  subst e1
  exact ⟨_, pairs_get vs 0 i v h6, .inr ⟨T, _, _, _, _, rfl, h1, h2, h3, (show V.int (i : Nat) = V.int ((0 + i : Nat) : Int) by rw [Nat.zero_add]), h7⟩⟩
theorem walkV_zip {K : PySem.W.Frag} {Hf : Hp} {m : List Addr} {a b : Addr} {vs ws : List Val} {xs ys : List V} (h : SqL K Hf a xs) (r : Reps K Hf m vs xs) (h' : SqL K Hf b ys) (r' : Reps K Hf m ws ys) : WalkV K Hf m (Itz K a b) (zipV vs ws) := by
  have hl := r.length
  have hl' := r'.length
  have hp := zipV_len vs ws
  have w := walk_zip (K := K) (a := a) (b := b) (xs := xs) (ys := ys) (n := (zipV vs ws).length) (by omega)
  refine ⟨fun i H hi e => w.goes i H hi ⟨ex_l e h, ex_l e h'⟩, fun H e => w.stops H ⟨ex_l e h, ex_l e h'⟩, fun i H x H' hi e y => ?_⟩
  obtain ⟨T, x1, x2, h1, h2, h3, h4, h5⟩ := w.yields i H x H' hi ⟨ex_l e h, ex_l e h'⟩ y
  obtain ⟨v, h6, h7⟩ := r.get' h4
  obtain ⟨v2, h8, h9⟩ := r'.get' h5
  exact ⟨_, zipV_get vs ws i v v2 h6 h8, .inr ⟨T, _, _, _, _, rfl, h1, h2, h3, h7, h9⟩⟩
theorem walkV_zipT {K : PySem.W.Frag} {Hf : Hp} {m : List Addr} {a b : Addr} {vs ws : List Val} {xs ys : List V} (h : SqT K Hf a xs) (r : Reps K Hf m vs xs) (h' : SqT K Hf b ys) (r' : Reps K Hf m ws ys) : WalkV K Hf m (RZ.ItzT K a b) (zipV vs ws) := by
  have hl := r.length
  have hl' := r'.length
  have hp := zipV_len vs ws
  refine ⟨fun i H hi e => ?_, fun H e => ⟨xs, ys, ex_t e h, ex_t e h', by omega⟩, fun i H x H' hi e y => ?_⟩
  · have h1 : i < xs.length := by omega
    have h2 : i < ys.length := by omega
    exact ⟨xs, ys, xs[i], ys[i], ex_t e h, ex_t e h', List.getElem?_eq_getElem h1, List.getElem?_eq_getElem h2⟩
  · obtain ⟨T, x1, x2, h1, h2, h3, h4, h5⟩ := y
    obtain ⟨v, h6, h7⟩ := r.get' (h4 xs (ex_t e h))
    obtain ⟨v2, h8, h9⟩ := r'.get' (h5 ys (ex_t e h'))
    exact ⟨_, zipV_get vs ws i v v2 h6 h8, .inr ⟨T, _, _, _, _, rfl, h1, h2, h3, h7, h9⟩⟩
/-- one turn of a walk -/
theorem WalkV.step {K : PySem.W.Frag} {Hf0 Hf Fr : Hp} {m0 m : List Addr} {S : Store} {J : It} {xs : List Val} (w : WalkV K Hf0 m0 J xs) (e0 : Ex Hf0 Hf) (p0 : m0 <+: m) {H H' : Hp} {i : Nat} {x : V} (s : Sim K Hf Fr m S H) (hi : i < xs.length) (y : J.yld i H x H') :
    ∃ v Hf', xs[i]? = some v ∧ Ex Hf Hf' ∧ Sim K Hf' Fr m S H' ∧ Rep K Hf' m v x := by
  obtain ⟨v, h1, h2⟩ := w.yields i H x H' hi (e0.trans s.exf) y
  rcases h2 with ⟨rfl, h2⟩ | ⟨T, a, b, xa, xb, rfl, rfl, h3, rfl, h4, h5⟩
  · exact ⟨v, Hf, h1, Evl.Ex.refl _, s, Rep.mono e0 p0 _ _ h2⟩
  · have ex := Evl.Ex.new (o := HO.tup [xa, xb]) (none_of s.exf h3)
    exact ⟨_, upd Hf T (.tup [xa, xb]), h1, ex, s.newF h3, T, [xa, xb], rfl, SqT.of upd_same, .cons (Rep.mono (e0.trans ex) p0 _ _ h4) (.cons (Rep.mono (e0.trans ex) p0 _ _ h5) .nil)⟩
end Iv
/-! Iv6: iterators, comprehensions. -/
namespace Iv
open PySem PySem.Spec PyProof.Rows L2
open Evl (Ex ex_l ex_t)
section
variable {X : Cx} {cl : Nat → Value} {Y : XK} {Φ : Bool → Nat → List Val → Store → R Val} {tg : Expr}
theorem si_vals {e : E} {x : Expr} (h : PE X x ((tI X.K cl Y Φ) e)) : PI X tg x ((tIt X.K cl Y Φ) (.vals e)) :=
  PI.of (PI.or (pi_list h) (pi_tup h)) fun σ H Q ⟨Hf, Fr, m, S, ρ, s, er, q⟩ => by
    have q' : QR X.K cl Y (fun Hf m xs J => WalkV X.K Hf m J xs) Hf Fr m Q ((evalE Φ e ρ S).bind fun v S1 => match v with
      | .tup vs => R.ok vs S1
      | .lst vs => R.ok vs S1
      | _ => .bad) := q
    have isT : (∃ vs S1, evalE Φ e ρ S = .ok (.tup vs) S1) ∨ ¬ ∃ vs S1, evalE Φ e ρ S = .ok (.tup vs) S1 := Classical.em _
    rcases isT with ⟨ws, S0, hT⟩ | hT
    · refine .inr ⟨Hf, Fr, m, S, ρ, s, er, ?_⟩
      rw [hT] at q' ⊢
      intro y H1 Hf1 m1 e1 p1 s1 r1
      obtain ⟨a, xs, rfl, h1, h2⟩ := r1
      exact ⟨a, rfl, ⟨xs, ex_t s1.exf h1⟩, q' _ H1 Hf1 m1 e1 p1 s1 (walkV_tup h1 h2)⟩
    · refine .inl ⟨Hf, Fr, m, S, ρ, s, er, ?_⟩
      cases hE : evalE Φ e ρ S with
      | bad => rw [hE] at q'; exact q'
      | ex c S1 => rw [hE] at q'; exact q'
      | ok v S1 =>
        rw [hE] at q'
        intro y H1 Hf1 m1 e1 p1 s1 r1
        cases v with
        | tup ws => exact absurd ⟨ws, S1, hE⟩ hT
        | lst ws =>
          obtain ⟨a, xs, rfl, h1, h2⟩ := r1
          exact ⟨a, rfl, ⟨xs, ex_l s1.exf h1⟩, q' _ H1 Hf1 m1 e1 p1 s1 (walkV_list h1 h2)⟩
        | _ => exact q'.elim
theorem si_rng {e : E} {x : Expr} {p pos : Pos} (hg : Gl X "range") (hm : X.mg "range" = none) (h : PE X x ((tI X.K cl Y Φ) e)) (hs : starEach [x] X.env = [(false, eval x X.env)]) : PI X tg (.Call (.Name "range" p) [x] [] pos) ((tIt X.K cl Y Φ) (.rng e)) :=
  PI.of (pi_range1 hg hm (pa_cons h pa_nil hs) hs) fun σ H Q ⟨Hf, Fr, m, S, ρ, s, er, q⟩ =>
    ⟨Hf, Fr, m, S, ρ, s, er, QR.bind (f := fun v S1 => match v with
      | Val.int n => if -(2 ^ 62) ≤ n ∧ n < 2 ^ 62 then R.ok (rangeV 0 n.toNat) S1 else .bad
      | _ => .bad) q fun v S1 y H1 Hf1 m1 e1 p1 s1 r1 q1 => by
        cases v with
        | int n =>
          cases r1
          have q2 : QR X.K cl Y (fun Hf m xs J => WalkV X.K Hf m J xs) Hf1 Fr m1 Q (if -(2 ^ 62) ≤ n ∧ n < 2 ^ 62 then R.ok (rangeV 0 n.toNat) S1 else .bad) := q1
          by_cases c : -(2 ^ 62) ≤ n ∧ n < 2 ^ 62
          · rw [if_pos c] at q2
            exact ⟨n, rfl, c.1, c.2, q2 _ H1 Hf1 m1 (Evl.Ex.refl _) (List.prefix_refl _) s1 walkV_range⟩
          · rw [if_neg c] at q2
            exact q2.elim
        | _ => exact q1.elim⟩
theorem si_rng2 {e f : E} {x y : Expr} {p pos : Pos} (hg : Gl X "range") (hm : X.mg "range" = none) (h : PE X x ((tI X.K cl Y Φ) e)) (h' : PE X y ((tI X.K cl Y Φ) f)) (hs : starEach [x, y] X.env = [(false, eval x X.env), (false, eval y X.env)]) (hs2 : starEach [y] X.env = [(false, eval y X.env)]) :
    PI X tg (.Call (.Name "range" p) [x, y] [] pos) ((tIt X.K cl Y Φ) (.rng2 e f)) :=
  PI.of (pi_range2 hg hm (pa_cons h (pa_cons h' pa_nil hs2) (by rw [hs, hs2])) hs hs2) fun σ H Q ⟨Hf, Fr, m, S, ρ, s, er, q⟩ =>
    ⟨Hf, Fr, m, S, ρ, s, er, QR.bind (f := fun v S1 => (evalE Φ f ρ S1).bind fun w S2 => rngR v w S2) q fun v S1 y H1 Hf1 m1 e1 p1 s1 r1 q1 =>
      ⟨Hf1, Fr, m1, S1, ρ, s1, er.mono e1 p1, QR.bind (f := fun w S2 => rngR v w S2) q1 fun w S2 y2 H2 Hf2 m2 e2 p2 s2 r2 q2 => by
        cases v with
        | int lo =>
          cases w with
          | int hi =>
            cases r1
            cases r2
            have q3 : QR X.K cl Y (fun Hf m xs J => WalkV X.K Hf m J xs) Hf2 Fr m2 Q (if -(2 ^ 62) ≤ lo ∧ lo < 2 ^ 62 ∧ -(2 ^ 62) ≤ hi ∧ hi < 2 ^ 62 then R.ok (rangeV lo (hi - lo).toNat) S2 else .bad) := q2
            by_cases c : -(2 ^ 62) ≤ lo ∧ lo < 2 ^ 62 ∧ -(2 ^ 62) ≤ hi ∧ hi < 2 ^ 62
            · rw [if_pos c] at q3
              exact ⟨lo, hi, rfl, c, q3 _ H2 Hf2 m2 (Evl.Ex.refl _) (List.prefix_refl _) s2 walkV_range⟩
            · rw [if_neg c] at q3
              exact q3.elim
          | _ => exact q2.elim
        | _ => exact q2.elim⟩⟩
theorem si_enum {e : E} {x : Expr} {p pos tpos : Pos} {elts : List Expr} {kk : Nat} (hg : Gl X "enumerate") (hm : X.mg "enumerate" = none) (h : PE X x ((tI X.K cl Y Φ) e)) (hs : starEach [x] X.env = [(false, eval x X.env)]) :
    PI X (.Tuple elts kk tpos) (.Call (.Name "enumerate" p) [x] [] pos) ((tIt X.K cl Y Φ) (.enum e)) :=
  PI.of (pi_enum hg hm (pa_cons h pa_nil hs) hs) fun σ H Q ⟨Hf, Fr, m, S, ρ, s, er, q⟩ =>
    ⟨Hf, Fr, m, S, ρ, s, er, QR.bind (f := fun v S1 => match v with
      | .lst vs => R.ok (pairs 0 vs) S1
      | _ => .bad) q fun v S1 y H1 Hf1 m1 e1 p1 s1 r1 q1 => by
        cases v with
        | lst vs =>
          obtain ⟨a, xs, rfl, h1, h2⟩ := r1
          exact ⟨a, xs, rfl, ex_l s1.exf h1, q1 _ H1 Hf1 m1 (Evl.Ex.refl _) (List.prefix_refl _) s1 (walkV_enum h1 h2)⟩
        | _ => exact q1.elim⟩
theorem si_zip {e f : E} {x y : Expr} {p pos tpos : Pos} {elts : List Expr} {kk : Nat} (hg : Gl X "zip") (hm : X.mg "zip" = none) (h : PE X x ((tI X.K cl Y Φ) e)) (h' : PE X y ((tI X.K cl Y Φ) f)) (hs : starEach [x, y] X.env = (false, eval x X.env) :: starEach [y] X.env) (hs2 : starEach [y] X.env = [(false, eval y X.env)]) :
    PI X (.Tuple elts kk tpos) (.Call (.Name "zip" p) [x, y] [] pos) ((tIt X.K cl Y Φ) (.zip e f)) :=
  PI.of (RZ.pi_zipA hg hm (pa_cons h (pa_cons h' pa_nil hs2) hs) hs (by rw [hs2]; rfl)) fun σ H Q ⟨Hf, Fr, m, S, ρ, s, er, q⟩ =>
    ⟨Hf, Fr, m, S, ρ, s, er, QR.bind (f := fun v S1 => (evalE Φ f ρ S1).bind fun w S2 => zipR v w S2) q fun v S1 y H1 Hf1 m1 e1 p1 s1 r1 q1 =>
      ⟨Hf1, Fr, m1, S1, ρ, s1, er.mono e1 p1, QR.bind (f := fun w S2 => zipR v w S2) q1 fun w S2 y2 H2 Hf2 m2 e2 p2 s2 r2 q2 => by
        cases v with
        | lst vs =>
          cases w with
          | lst ws =>
            obtain ⟨a, xs, rfl, h1, h2⟩ := r1
            obtain ⟨b, ys, rfl, h3, h4⟩ := r2
            exact ⟨a, b, xs, ys, rfl, .inl ⟨ex_l (e2.trans s2.exf) h1, ex_l s2.exf h3, q2 _ H2 Hf2 m2 (Evl.Ex.refl _) (List.prefix_refl _) s2 (walkV_zip (ex_l e2 h1) (Reps.mono e2 p2 _ _ h2) h3 h4)⟩⟩
          | _ => exact q2.elim
        | tup vs =>
          cases w with
          | tup ws =>
            obtain ⟨a, xs, rfl, h1, h2⟩ := r1
            obtain ⟨b, ys, rfl, h3, h4⟩ := r2
            exact ⟨a, b, xs, ys, rfl, .inr ⟨ex_t (e2.trans s2.exf) h1, ex_t s2.exf h3, q2 _ H2 Hf2 m2 (Evl.Ex.refl _) (List.prefix_refl _) s2 (walkV_zipT (ex_t e2 h1) (Reps.mono e2 p2 _ _ h2) h3 h4)⟩⟩
          | _ => exact q2.elim
        | _ => exact q2.elim⟩⟩
end
/-! ### comprehensions -/
theorem wipe_get : ∀ (σ : L2.St) (vs : List Nat) (j : Nat), (wipe σ vs)[j]? = if j ∈ vs ∧ j < σ.length then some none else σ[j]?
  | σ, [], j => by simp [wipe]
  | σ, v :: vs, j => by
    unfold wipe
    by_cases hj : v = j
    · subst hj
      by_cases hl : v < σ.length
      · rw [List.getElem?_set_self (by rw [wipe_length]; exact hl), if_pos ⟨List.mem_cons_self, hl⟩]
      · rw [List.getElem?_eq_none (by rw [List.length_set, wipe_length]; omega), if_neg (fun z => hl z.2), List.getElem?_eq_none (by omega)]
    · rw [List.getElem?_set_ne hj, wipe_get σ vs j]
      by_cases c : j ∈ vs ∧ j < σ.length
      · rw [if_pos c, if_pos ⟨List.mem_cons_of_mem _ c.1, c.2⟩]
      · rw [if_neg c, if_neg]
        rintro ⟨h1, h2⟩
        rcases List.mem_cons.mp h1 with h3 | h3
        · exact hj h3.symm
        · exact c ⟨h3, h2⟩
theorem wipe_eq {σ σ' : L2.St} {vs : List Nat} (hl : σ'.length = σ.length) (h : ∀ j, j ∉ vs → σ'[j]? = σ[j]?) : wipe σ' vs = wipe σ vs := by
  apply List.ext_getElem?
  intro j
  rw [wipe_get, wipe_get, hl]
  by_cases c : j ∈ vs
  · by_cases d : j < σ.length
    · rw [if_pos ⟨c, d⟩, if_pos ⟨c, d⟩]
    · rw [if_neg (fun z => d z.2), if_neg (fun z => d z.2), h' _ d, List.getElem?_eq_none (by omega)]
  · rw [if_neg (fun z => c z.1), if_neg (fun z => c z.1), h j c]
where h' : ∀ j, ¬ j < σ.length → σ'[j]? = none := fun j d => List.getElem?_eq_none (by omega)
theorem fold_len : ∀ (l : List (Nat × Val)) (ρ : Env), (l.foldl (fun ρ p => ρ.set p.1 (some p.2)) ρ).length = ρ.length
  | [], _ => rfl
  | p :: l, ρ => by
    show (l.foldl (fun ρ p => ρ.set p.1 (some p.2)) (ρ.set p.1 (some p.2))).length = _
    rw [fold_len l, List.length_set]
theorem setTg_len {ρ ρ' : Env} {g : Tg} {v : Val} (h : setTg ρ g v = some ρ') : ρ'.length = ρ.length := by
  cases g with
  | nm i => cases h; exact List.length_set
  | tp is =>
    cases v with
    | tup vs =>
      have h' : (if is.length = vs.length then some ((is.zip vs).foldl (fun ρ p => ρ.set p.1 (some p.2)) ρ) else none) = some ρ' := h
      by_cases c : is.length = vs.length
      · rw [if_pos c] at h'; cases h'; exact fold_len _ _
      · rw [if_neg c] at h'; cases h'
    | _ => cases h
section
variable {X : Cx} {cl : Nat → Value} {Y : XK} {Φ : Bool → Nat → List Val → Store → R Val}
/-- a comprehension's turn, told -/
def turnV (Φ : Bool → Nat → List Val → Store → R Val) (g : Tg) (own : List (Str × Nat)) (cond elt : E) (ρ : Env) (x : Val) (S2 : Store) : R (Option Val) :=
  match setTg (wipeE ρ (own.map (·.2))) g x with
  | some ρ' => ((evalE Φ cond ρ' S2).bind fun c S3 => asBool c fun k => if k then (evalE Φ elt ρ' S3).bind fun v S4 => .ok (some v) S4 else .ok none S3).mute
  | none => .bad
def noX : XK := fun _ _ _ => False
theorem comp_of {wi : TI} {g : Tg} {own : List (Str × Nat)} {it cond elt : E} {mu : Bool} {tt : TT} {te : TE} (hw : ∀ σ H Q, tIt X.K cl Y Φ it σ H Q → wi σ H Q) (ht : ∀ σ H Q, tTs X.K cl noX Φ cond σ H Q → tt σ H Q) (he : ∀ σ H Q, tI X.K cl noX Φ elt σ H Q → te σ H Q)
    (hg : ∀ j ∈ g.slots, j ∈ own.map (·.2)) (σ : L2.St) (H : Hp) (Q : VK) (h : tI X.K cl Y Φ (.comp mu g own it cond elt) σ H Q) : tLc wi (gI X.K g) tt te (own.map (·.2)) σ H Q := by
  obtain ⟨Hf, Fr, m, S, ρ, s, er, q⟩ := h
  refine hw _ _ _ ⟨Hf, Fr, m, S, ρ, s, er, QR.bind (f := fun xs S1 => (compGo (turnV Φ g own cond elt ρ) xs [] S1).bind fun vs S2 => mk mu vs S2) q fun xs S1 J H1 Hf1 m1 e1 p1 s1 w q1 => ?_⟩
  intro D hD
  have hFD : Fr D = none := none_of s1.exr hD
  have wk : Walk J xs.length (fun H => Ex Hf1 H) (fun i H x H' => ∃ (Hf' : Hp), True ∧ J.yld i H x H') := ⟨fun i H hi e => w.goes i H hi e, fun H e => w.stops H e, fun i H x H' hi e y => ⟨Hf1, trivial, y⟩⟩
  refine lc_it wk (fun i H => ∃ Hf' m' S' acc ys, Sim X.K Hf' (upd Fr D (.lst ys)) m' S' H ∧ Ex Hf1 Hf' ∧ m1 <+: m' ∧ Reps X.K Hf' m' acc ys ∧
      QE X.K cl Y Hf' Fr m' Q ((compGo (turnV Φ g own cond elt ρ) (xs.drop i) acc S').bind fun vs S2 => mk mu vs S2)) ?_ ?_ ?_ ?_
  · exact ⟨Hf1, m1, S1, [], [], s1.hold hD, Evl.Ex.refl _, List.prefix_refl _, .nil, q1⟩
  · rintro i H2 _ ⟨Hf', m', S', acc, ys, s2, e2, _⟩
    exact e2.trans s2.exf
  · rintro i x H2 H3 hi ⟨Hf2, m2, S2, acc, ys, s2, e2, p2, r2, q2⟩ ⟨_, _, y⟩
    obtain ⟨v, Hf3, hv, e3, s3, r3⟩ := w.step e2 p2 s2 hi y
    have hdrop : xs.drop i = v :: xs.drop (i + 1) := by
      rw [List.drop_eq_getElem_cons hi]
      congr 1
      exact Option.some.inj ((List.getElem?_eq_getElem hi).symm.trans hv)
    rw [hdrop] at q2
    have erw : EnvR X.K Hf3 m2 (wipeE ρ (own.map (·.2))) (wipe σ (own.map (·.2))) := ((er.mono e1 p1).mono (e2.trans e3) p2).wipe _
    have q3 : QE X.K cl Y Hf2 Fr m2 Q ((match turnV Φ g own cond elt ρ v S2 with
      | .ok (some v) S1 => if acc.length < lim then compGo (turnV Φ g own cond elt ρ) (xs.drop (i + 1)) (acc ++ [v]) S1 else .bad
      | .ok none S1 => compGo (turnV Φ g own cond elt ρ) (xs.drop (i + 1)) acc S1
      | _ => .bad).bind fun vs S2 => mk mu vs S2) := q2
    cases hs : setTg (wipeE ρ (own.map (·.2))) g v with
    | none =>
      have ht : turnV Φ g own cond elt ρ v S2 = .bad := by unfold turnV; rw [hs]
      rw [ht] at q3
      exact q3.elim
    | some ρ' =>
      have htv : turnV Φ g own cond elt ρ v S2 = ((evalE Φ cond ρ' S2).bind fun c S3 => asBool c fun k => if k then (evalE Φ elt ρ' S3).bind fun v S4 => .ok (some v) S4 else .ok none S3).mute := by unfold turnV; rw [hs]
      rw [htv] at q3
      refine gI_ok hs s3 erw r3 fun σ' er' same => ⟨?_, ?_⟩
      · refine wipe_eq ?_ fun j hj => ?_
        · rw [← er'.len, ← wipe_length σ (own.map (·.2)), ← erw.len]
          exact setTg_len hs
        · rw [same j fun z => hj (hg j z), wipe_get, if_neg (fun z => hj z.1)]
      · refine ht _ _ _ ⟨Hf3, upd Fr D (.lst ys), m2, S2, ρ', s3, er', ?_⟩
        unfold evalT
        revert q3
        cases evalE Φ cond ρ' S2 with
        | bad => exact fun q => q.elim
        | ex c S3 => exact fun q => q.elim
        | ok c S3 =>
          cases c with
          | bl k =>
            intro q3 b H4 Hf4 m4 e4 p4 s4 r4
            cases r4
            cases k with
            | false =>
              rw [if_neg (by decide)]
              exact ⟨Hf4, m4, S3, acc, ys, s4, e2.trans (e3.trans e4), p2.trans p4, Reps.mono (e3.trans e4) p4 _ _ r2, QR.mono q3 (e3.trans e4) p4⟩
            | true =>
              rw [if_pos rfl]
              refine he _ _ _ ⟨Hf4, upd Fr D (.lst ys), m4, S3, ρ', s4, er'.mono e4 p4, ?_⟩
              have q4 : QE X.K cl Y Hf2 Fr m2 Q ((match ((evalE Φ elt ρ' S3).bind fun v S4 => R.ok (some v) S4).mute with
                | .ok (some v) S1 => if acc.length < lim then compGo (turnV Φ g own cond elt ρ) (xs.drop (i + 1)) (acc ++ [v]) S1 else .bad
                | .ok none S1 => compGo (turnV Φ g own cond elt ρ) (xs.drop (i + 1)) acc S1
                | _ => .bad).bind fun vs S2 => mk mu vs S2) := q3
              revert q4
              cases evalE Φ elt ρ' S3 with
              | bad => exact fun q => q.elim
              | ex c S4 => exact fun q => q.elim
              | ok z S4 =>
                intro q4 y H5 Hf5 m5 e5 p5 s5 r5
                have q5 : QE X.K cl Y Hf2 Fr m2 Q ((if acc.length < lim then compGo (turnV Φ g own cond elt ρ) (xs.drop (i + 1)) (acc ++ [z]) S4 else .bad).bind fun vs S2 => mk mu vs S2) := q4
                by_cases cl' : acc.length < lim
                · rw [if_pos cl'] at q5
                  have ex := e3.trans (e4.trans e5)
                  have px := p4.trans p5
                  exact ⟨ys, s5.heldAt, sz' (by rw [← r2.length]; exact cl'), Hf5, m5, S4, acc ++ [z], ys ++ [y], s5.held, e2.trans ex, p2.trans px, (Reps.mono ex px _ _ r2).snoc r5, QR.mono q5 ex px⟩
                · rw [if_neg cl'] at q5
                  exact q5.elim
          | _ => exact fun q => q.elim
  · rintro H2 ⟨Hf2, m2, S2, acc, ys, s2, e2, p2, r2, q2⟩
    have hd : xs.drop xs.length = [] := List.drop_length
    rw [hd] at q2
    have q3 : QE X.K cl Y Hf2 Fr m2 Q (mk mu acc S2) := q2
    cases mu with
    | false =>
      have ex := Evl.Ex.new (o := HO.lst ys) (s2.dis D _ upd_same)
      exact q3 _ H2 (upd Hf2 D (.lst ys)) m2 ex (List.prefix_refl _) (s2.thaw hFD) ⟨D, ys, rfl, SqL.of upd_same, Reps.mono ex (List.prefix_refl _) _ _ r2⟩
    | true =>
      exact q3 _ H2 Hf2 (m2 ++ [D]) (Evl.Ex.refl _) (List.prefix_append _ _) (s2.take hFD r2) ⟨D, rfl, by rw [← s2.len]; simp⟩
end
end Iv
/-! Iv7: calls. -/
namespace Iv
open PySem PySem.Spec PyProof.Rows L2
open Evl (Ex ex_l ex_t)
variable {K : PySem.W.Frag} {Hf Fr H : Hp} {m : List Addr} {S : Store}
theorem getAll_get : ∀ {ls : List Nat} {os : Store}, getAll S ls = some os → os.length = ls.length ∧ ∀ (j n : Nat), ls[j]? = some n → ∃ o, S[n]? = some o ∧ os[j]? = some o
  | [], os, h => by
    cases h
    exact ⟨rfl, fun j n e => by simp at e⟩
  | k :: r, os, h => by
    have h' : (match S[k]? with
      | some o => match getAll S r with
        | some os => some (o :: os)
        | none => none
      | none => none) = some os := h
    cases q : S[k]? with
    | none => rw [q] at h'; cases h'
    | some o =>
      rw [q] at h'
      have h2 : (match getAll S r with
        | some os => some (o :: os)
        | none => none) = some os := h'
      cases q2 : getAll S r with
      | none => rw [q2] at h2; cases h2
      | some os2 =>
        rw [q2] at h2
        cases h2
        obtain ⟨i1, i2⟩ := getAll_get q2
        refine ⟨by rw [List.length_cons, List.length_cons, i1], fun j n e => ?_⟩
        cases j with
        | zero =>
          have e' : k = n := by simpa using e
          subst e'
          exact ⟨o, q, rfl⟩
        | succ j =>
          obtain ⟨o', h3, h4⟩ := i2 j n (by simpa using e)
          exact ⟨o', h3, by simpa using h4⟩
theorem freeObjs_get : ∀ {os : Store} {j : Nat} {o : Obj}, freeObjs os = true → os[j]? = some o → o.free = true
  | [], j, o, _, e => by simp at e
  | o' :: r, 0, o, h, e => by
    have h' : (o'.free && freeObjs r) = true := h
    rw [Bool.and_eq_true] at h'
    have e' : o' = o := by simpa using e
    subst e'
    exact h'.1
  | o' :: r, j + 1, o, h, e => by
    have h' : (o'.free && freeObjs r) = true := h
    rw [Bool.and_eq_true] at h'
    exact freeObjs_get h'.2 (by simpa using e)
theorem ObjRep.free {m' : List Addr} : ∀ {o : Obj} {u : Option HO}, o.free = true → ObjRep K Hf m o u → ObjRep K Hf m' o u
  | .lst vs, _, f, ⟨xs, h1, h2⟩ => ⟨xs, h1, Reps.free vs xs f h2⟩
theorem reArgs_rep {m2 : List Addr} : ∀ (args : List Val) (xs : List V) (k : Nat), argsOk args = true → (∀ (j n : Nat), (argLocs args)[j]? = some n → ∃ a, m[n]? = some a ∧ m2[k + j]? = some a) → Reps K Hf m args xs → Reps K Hf m2 (reArgs k args) xs
  | [], _, _, _, _, h => h
  | v :: r, _, k, f, hk, h => by
    obtain ⟨x, t, rfl, h1, h2⟩ := h
    have other : (∀ n, v ≠ .loc n) → (v.free && argsOk r) = true → reArgs k (v :: r) = v :: reArgs k r → argLocs (v :: r) = argLocs r → Reps K Hf m2 (reArgs k (v :: r)) (x :: t) := fun _ f' e1 e2 => by
      rw [e1]
      rw [e2] at hk
      rw [Bool.and_eq_true] at f'
      exact .cons (Rep.free v x f'.1 h1) (reArgs_rep r t k f'.2 hk h2)
    cases v with
    | loc n =>
      obtain ⟨a, rfl, h3⟩ := h1
      obtain ⟨b, h4, h5⟩ := hk 0 n rfl
      rw [h3] at h4
      cases h4
      refine .cons ⟨a, rfl, h5⟩ (reArgs_rep r t (k + 1) f (fun j n' e => ?_) h2)
      obtain ⟨b, h6, h7⟩ := hk (j + 1) n' (by
        show (n :: argLocs r)[j + 1]? = some n'
        simpa using e)
      exact ⟨b, h6, by rw [show k + 1 + j = k + (j + 1) by omega]; exact h7⟩
    | non => exact other (fun n => by intro z; cases z) f rfl rfl
    | bl _ => exact other (fun n => by intro z; cases z) f rfl rfl
    | int _ => exact other (fun n => by intro z; cases z) f rfl rfl
    | str _ => exact other (fun n => by intro z; cases z) f rfl rfl
    | tup _ => exact other (fun n => by intro z; cases z) f rfl rfl
    | lst _ => exact other (fun n => by intro z; cases z) f rfl rfl
/-! freezing -/
open Classical in
/-- what stands at the places from k on is changed no more -/
noncomputable def Hz (Hf H : Hp) (m : List Addr) (k : Nat → Bool) : Hp := fun a => if ∃ n, k n = false ∧ m[n]? = some a then H a else Hf a
theorem Hz_in {k : Nat → Bool} {n : Nat} {a : Addr} (hk : k n = false) (h : m[n]? = some a) : Hz Hf H m k a = H a := if_pos ⟨n, hk, h⟩
theorem Hz_out {k : Nat → Bool} {a : Addr} (h : ∀ n, k n = false → m[n]? ≠ some a) : Hz Hf H m k a = Hf a := if_neg fun ⟨n, h1, h2⟩ => h n h1 h2
theorem Hz_ex (s : Sim K Hf Fr m S H) (k : Nat → Bool) : Ex Hf (Hz Hf H m k) ∧ Ex (Hz Hf H m k) H := by
  refine ⟨fun a o e => ?_, fun a o e => ?_⟩
  · rw [Hz_out fun n _ h => ?_]
    · exact e
    · rw [(s.mf a (List.mem_of_getElem? h)).1] at e
      cases e
  · by_cases c : ∃ n, k n = false ∧ m[n]? = some a
    · obtain ⟨n, h1, h2⟩ := c
      rw [Hz_in h1 h2] at e
      exact e
    · rw [Hz_out fun n h1 h2 => c ⟨n, h1, h2⟩] at e
      exact s.exf a o e
mutual
theorem mapLoc_rep {Hg : Hp} {g : Nat → Option Val} (e : Ex Hf Hg) (hg : ∀ n w y, Rep K Hf m (.loc n) y → g n = some w → Rep K Hg [] w y) : ∀ (v w : Val) (x : V), Rep K Hf m v x → mapLoc g v = some w → Rep K Hg [] w x
  | .non, _, _, r, h => by cases h; exact r
  | .bl _, _, _, r, h => by cases h; exact r
  | .int _, _, _, r, h => by cases h; exact r
  | .str _, _, _, r, h => by cases h; exact r
  | .loc n, w, x, r, h => hg n w x r h
  | .tup vs, w, x, r, h => by
    obtain ⟨a, xs, rfl, h1, h2⟩ := r
    unfold mapLoc at h
    cases q : mapLocs g vs with
    | none => rw [q] at h; cases h
    | some ws =>
      rw [q] at h
      cases h
      exact ⟨a, xs, rfl, ex_t e h1, mapLocs_rep e hg vs ws xs h2 q⟩
  | .lst vs, w, x, r, h => by
    obtain ⟨a, xs, rfl, h1, h2⟩ := r
    unfold mapLoc at h
    cases q : mapLocs g vs with
    | none => rw [q] at h; cases h
    | some ws =>
      rw [q] at h
      cases h
      exact ⟨a, xs, rfl, ex_l e h1, mapLocs_rep e hg vs ws xs h2 q⟩
theorem mapLocs_rep {Hg : Hp} {g : Nat → Option Val} (e : Ex Hf Hg) (hg : ∀ n w y, Rep K Hf m (.loc n) y → g n = some w → Rep K Hg [] w y) : ∀ (vs ws : List Val) (xs : List V), Reps K Hf m vs xs → mapLocs g vs = some ws → Reps K Hg [] ws xs
  | [], _, _, r, h => by cases h; exact r
  | v :: vs, ws, _, r, h => by
    obtain ⟨x, t, rfl, h1, h2⟩ := r
    unfold mapLocs at h
    cases q : mapLoc g v with
    | none => rw [q] at h; cases h
    | some w =>
      rw [q] at h
      cases q2 : mapLocs g vs with
      | none => rw [q2] at h; cases h
      | some ws2 =>
        rw [q2] at h
        cases h
        exact .cons (mapLoc_rep e hg v w x h1 q) (mapLocs_rep e hg vs ws2 t h2 q2)
end
theorem allSome_rep {Hg : Hp} {g : Val → Option Val} (hg : ∀ v w x, Rep K Hf m v x → g v = some w → Rep K Hg [] w x) : ∀ (vs ws : List Val) (xs : List V), Reps K Hf m vs xs → allSome g vs = some ws → Reps K Hg [] ws xs
  | [], _, _, r, h => by cases h; exact r
  | v :: vs, ws, _, r, h => by
    obtain ⟨x, t, rfl, h1, h2⟩ := r
    unfold allSome at h
    cases q : g v with
    | none => rw [q] at h; cases h
    | some w =>
      rw [q] at h
      cases q2 : allSome g vs with
      | none => rw [q2] at h; cases h
      | some ws2 =>
        rw [q2] at h
        cases h
        exact .cons (hg v w x h1 q) (allSome_rep hg vs ws2 t h2 q2)
theorem frz_rep (s : Sim K Hf Fr m S H) (k : Nat → Bool) : ∀ (f : Nat) (v w : Val) (x : V), Rep K Hf m v x → frz S k f v = some w → Rep K (Hz Hf H m k) [] w x
  | 0, v, w, x, r, h => mapLoc_rep (Hz_ex s k).1 (fun _ _ _ _ z => by cases z) v w x r h
  | f + 1, v, w, x, r, h => mapLoc_rep (Hz_ex s k).1 (fun n w y r h => by
      have h' : (if k n = true then none else match S[n]? with
        | some (.lst vs) => match allSome (frz S k f) vs with
          | some ws => some (Val.lst ws)
          | none => none
        | none => none) = some w := h
      by_cases c : k n = true
      · rw [if_pos c] at h'
        cases h'
      · rw [if_neg c] at h'
        cases q : S[n]? with
        | none => rw [q] at h'; cases h'
        | some o =>
          cases o with
          | lst vs =>
            rw [q] at h'
            have h2 : (match allSome (frz S k f) vs with
              | some ws => some (Val.lst ws)
              | none => none) = some w := h'
            cases q2 : allSome (frz S k f) vs with
            | none => rw [q2] at h2; cases h2
            | some ws =>
              rw [q2] at h2
              cases h2
              obtain ⟨a, rfl, h3⟩ := r
              obtain ⟨xs, h4, h5⟩ := s.obj n a _ h3 q
              exact ⟨a, xs, rfl, SqL.of ((Hz_in (by cases e : k n <;> first | rfl | exact absurd e c) h3).trans h4), allSome_rep (fun v w x => frz_rep s k f v w x) vs ws xs h5 q2⟩) v w x r h
theorem frzO_rep (s : Sim K Hf Fr m S H) (k : Nat → Bool) : ∀ {o o' : Obj} {u : Option HO}, ObjRep K Hf m o u → frzO S k o = some o' → ObjRep K (Hz Hf H m k) [] o' u
  | .lst vs, o', _, ⟨xs, h1, h2⟩, h => by
    have h' : (match allSome (frz S k 6) vs with
      | some ws => some (Obj.lst ws)
      | none => none) = some o' := h
    cases q2 : allSome (frz S k 6) vs with
    | none => rw [q2] at h'; cases h'
    | some ws =>
      rw [q2] at h'
      cases h'
      exact ⟨xs, h1, allSome_rep (fun v w x => frz_rep s k 6 v w x) vs ws xs h2 q2⟩
theorem backs_get {S' : Store} {k : Nat → Bool} : ∀ (ls : List Nat) (j : Nat) (S S2 : Store), ls.Nodup → backs S' k j ls S = some S2 → S2.length = S.length ∧ ∀ (i : Nat) (o : Obj), S2[i]? = some o → (i ∉ ls ∧ S[i]? = some o) ∨ ∃ (j' : Nat) (o' : Obj), ls[j']? = some i ∧ S'[j + j']? = some o' ∧ frzO S' k o' = some o
  | [], j, S, S2, _, h => by
    cases h
    exact ⟨rfl, fun i o e => .inl ⟨by simp, e⟩⟩
  | n :: r, j, S, S2, nd, h => by
    have h' : (match S'[j]? with
      | some o => match frzO S' k o with
        | some o' => backs S' k (j + 1) r (S.set n o')
        | none => none
      | none => none) = some S2 := h
    cases q : S'[j]? with
    | none => rw [q] at h'; cases h'
    | some o =>
      rw [q] at h'
      have h2 : (match frzO S' k o with
        | some o' => backs S' k (j + 1) r (S.set n o')
        | none => none) = some S2 := h'
      cases q2 : frzO S' k o with
      | none => rw [q2] at h2; cases h2
      | some o' =>
        rw [q2] at h2
        obtain ⟨nd1, nd2⟩ := List.nodup_cons.mp nd
        obtain ⟨i1, i2⟩ := backs_get r (j + 1) (S.set n o') S2 nd2 h2
        rw [List.length_set] at i1
        refine ⟨i1, fun i u e => ?_⟩
        rcases i2 i u e with ⟨h3, h4⟩ | ⟨j', u', h3, h4, h5⟩
        · by_cases hi : n = i
          · subst hi
            have hl : n < S.length := by
              have := (List.getElem?_eq_some_iff.mp h4).1
              rwa [List.length_set] at this
            rw [List.getElem?_set_self hl] at h4
            cases h4
            exact .inr ⟨0, o, rfl, q, q2⟩
          · rw [List.getElem?_set_ne hi] at h4
            refine .inl ⟨fun z => ?_, h4⟩
            rcases List.mem_cons.mp z with z | z
            · exact hi z.symm
            · exact h3 z
        · exact .inr ⟨j' + 1, u', by simpa using h3, by rw [show j + (j' + 1) = j + 1 + j' by omega]; exact h4, h5⟩
/-! a call as the callee sees it -/
open Classical in
/-- the caller's other lists are kept apart -/
noncomputable def frame (Fr H : Hp) (m m2 : List Addr) : Hp := fun a => if a ∈ m ∧ a ∉ m2 then H a else Fr a
theorem frame_in {m2 : List Addr} {a : Addr} (h : a ∈ m) (h' : a ∉ m2) : frame Fr H m m2 a = H a := if_pos ⟨h, h'⟩
theorem frame_out {m2 : List Addr} {a : Addr} (h : a ∉ m ∨ a ∈ m2) : frame Fr H m m2 a = Fr a := if_neg fun ⟨h1, h2⟩ => h.elim (fun z => z h1) h2
structure Sub (m m2 : List Addr) (ls : List Nat) : Prop where
  len : m2.length = ls.length
  ats : ∀ (j n : Nat), ls[j]? = some n → ∃ a, m[n]? = some a ∧ m2[j]? = some a
theorem nodup_at {α : Type} {l : List α} (nd : l.Nodup) {i j : Nat} {a : α} (h : l[i]? = some a) (h' : l[j]? = some a) : i = j := by
  obtain ⟨h1, q1⟩ := List.getElem?_eq_some_iff.mp h
  obtain ⟨h2, q2⟩ := List.getElem?_eq_some_iff.mp h'
  exact (List.getElem_inj nd).mp (q1.trans q2.symm)
theorem Sub.back {m2 : List Addr} {ls : List Nat} (b : Sub m m2 ls) {j : Nat} {a : Addr} (h : m2[j]? = some a) : ∃ n, ls[j]? = some n ∧ m[n]? = some a := by
  have hj : j < ls.length := by rw [← b.len]; exact (List.getElem?_eq_some_iff.mp h).1
  obtain ⟨a', h1, h2⟩ := b.ats j _ (List.getElem?_eq_getElem hj)
  rw [h] at h2
  cases h2
  exact ⟨_, List.getElem?_eq_getElem hj, h1⟩
theorem Sub.nd {m2 : List Addr} {ls : List Nat} (b : Sub m m2 ls) (nm : m.Nodup) (nl : ls.Nodup) : m2.Nodup := by
  rw [List.nodup_iff_pairwise_ne, List.pairwise_iff_getElem]
  intro i j hi hj hij e
  obtain ⟨n1, h1, h2⟩ := b.back (List.getElem?_eq_getElem hi)
  obtain ⟨n2, h3, h4⟩ := b.back (List.getElem?_eq_getElem hj)
  rw [← e] at h4
  have e2 := nodup_at nm h2 h4
  subst e2
  have e3 := nodup_at nl h1 h3
  omega
theorem sub_make (hl : m.length = S.length) {ls : List Nat} {os : Store} (h : getAll S ls = some os) : Sub m (ls.map fun n => m.getD n 0) ls := by
  obtain ⟨_, i2⟩ := getAll_get h
  refine ⟨by rw [List.length_map], fun j n e => ?_⟩
  obtain ⟨o, h1, _⟩ := i2 j n e
  have hn : n < m.length := by rw [hl]; exact (List.getElem?_eq_some_iff.mp h1).1
  refine ⟨m[n], List.getElem?_eq_getElem hn, ?_⟩
  rw [List.getElem?_map, e]
  show some (m.getD n 0) = _
  rw [List.getD_eq_getElem?_getD, List.getElem?_eq_getElem hn]
  rfl
theorem sim_enter (s : Sim K Hf Fr m S H) {m2 : List Addr} {ls : List Nat} {os : Store} (b : Sub m m2 ls) (nl : ls.Nodup) (h : getAll S ls = some os) (f : freeObjs os = true) : Sim K Hf (frame Fr H m m2) m2 os H := by
  obtain ⟨i1, i2⟩ := getAll_get h
  have mem : ∀ a, a ∈ m2 → a ∈ m := fun a ha => by
    obtain ⟨j, hj⟩ := List.getElem?_of_mem ha
    obtain ⟨n, _, h2⟩ := b.back hj
    exact List.mem_of_getElem? h2
  refine ⟨s.exf, fun a o e => ?_, fun a o e => ?_, b.nd s.nd nl, by rw [b.len, i1], fun a ha => ?_, fun j a o e1 e2 => ?_⟩
  · by_cases c : a ∈ m ∧ a ∉ m2
    · rw [frame_in c.1 c.2] at e
      exact e
    · rw [frame_out (by
        by_cases h1 : a ∈ m
        · exact .inr (Classical.byContradiction fun h2 => c ⟨h1, h2⟩)
        · exact .inl h1)] at e
      exact s.exr a o e
  · by_cases c : a ∈ m ∧ a ∉ m2
    · exact (s.mf a c.1).1
    · rw [frame_out (by
        by_cases h1 : a ∈ m
        · exact .inr (Classical.byContradiction fun h2 => c ⟨h1, h2⟩)
        · exact .inl h1)] at e
      exact s.dis a o e
  · exact ⟨(s.mf a (mem a ha)).1, by rw [frame_out (.inr ha)]; exact (s.mf a (mem a ha)).2⟩
  · obtain ⟨n, h1, h2⟩ := b.back e1
    obtain ⟨o', h3, h4⟩ := i2 j n h1
    rw [e2] at h4
    cases h4
    exact (s.obj n a o h2 h3).free (freeObjs_get f e2)
/-- behind the call -/
theorem sim_leave (s : Sim K Hf Fr m S H) {m2 m' : List Addr} {ls : List Nat} {S' S2 : Store} {Hf' H' : Hp} {kp : Nat → Bool} (b : Sub m m2 ls) (nl : ls.Nodup) (hk : ∀ n, n < ls.length → kp n = true) (e : Ex Hf Hf') (p : m2 <+: m') (s' : Sim K Hf' (frame Fr H m m2) m' S' H') (h : backs S' kp 0 ls S = some S2) :
    Ex Hf (Hz Hf' H' m' kp) ∧ Sim K (Hz Hf' H' m' kp) Fr m S2 H' ∧ ∀ (j : Nat) (a : Addr), ls.length ≤ j → kp j = true → m'[j]? = some a → a ∉ m ∧ Fr a = none ∧ Hz Hf' H' m' kp a = none := by
  obtain ⟨x1, x2⟩ := Hz_ex s' kp
  have ex := e.trans x1
  obtain ⟨i1, i2⟩ := backs_get ls 0 S S2 nl h
  -- the caller's lists are not among the callee's new ones
  have old : ∀ a ∈ m, ∀ n, ls.length ≤ n → m'[n]? ≠ some a := fun a ha n hn q => by
    by_cases c : a ∈ m2
    · obtain ⟨j, hj⟩ := List.getElem?_of_mem c
      have hj2 : j < ls.length := by rw [← b.len]; exact (List.getElem?_eq_some_iff.mp hj).1
      have := nodup_at s'.nd (pre_get p hj) q
      omega
    · have z := (s'.mf a (List.mem_of_getElem? q)).2
      rw [frame_in ha c] at z
      obtain ⟨w, hw, _⟩ := s.at ha
      rw [z] at hw
      cases hw
  have far : ∀ n, kp n = false → ls.length ≤ n := fun n hn => by
    by_cases c : n < ls.length
    · rw [hk n c] at hn
      cases hn
    · omega
  have hz : ∀ a ∈ m, Hz Hf' H' m' kp a = none := fun a ha => by
    rw [Hz_out fun n hn => old a ha n (far n hn)]
    by_cases c : a ∈ m2
    · obtain ⟨j, hj⟩ := List.getElem?_of_mem c
      exact (s'.mf a (List.mem_of_getElem? (pre_get p hj))).1
    · obtain ⟨w, hw, _⟩ := s.at ha
      exact s'.dis a w (by rw [frame_in ha c]; exact hw)
  have memF : ∀ a o, Fr a = some o → a ∉ m := fun a o q ha => by
    rw [(s.mf a ha).2] at q
    cases q
  refine ⟨ex, ⟨x2, fun a o q => s'.exr a o (by rw [frame_out (.inl (memF a o q))]; exact q), fun a o q => ?_, s.nd, by rw [i1]; exact s.len, fun a ha => ⟨hz a ha, (s.mf a ha).2⟩, fun i a o e1 e2 => ?_⟩, fun j a h1 h2 h3 => ?_⟩
  · have q' : frame Fr H m m2 a = some o := by rw [frame_out (.inl (memF a o q))]; exact q
    rw [Hz_out fun n hn z => ?_]
    · exact s'.dis a o q'
    · rw [(s'.mf a (List.mem_of_getElem? z)).2] at q'
      cases q'
  · rcases i2 i o e2 with ⟨h1, h2⟩ | ⟨j, o', h1, h2, h3⟩
    · have c : a ∉ m2 := fun z => by
        obtain ⟨j, hj⟩ := List.getElem?_of_mem z
        obtain ⟨n, h4, h5⟩ := b.back hj
        have := nodup_at s.nd e1 h5
        subst this
        exact h1 (List.mem_of_getElem? h4)
      have hm := List.mem_of_getElem? e1
      obtain ⟨w, hw, _⟩ := s.at hm
      have same : H' a = H a := by
        rw [hw]
        exact s'.exr a w (by rw [frame_in hm c]; exact hw)
      rw [same]
      exact (s.obj i a o e1 h2).mono ex (List.prefix_refl _)
    · rw [Nat.zero_add] at h2
      obtain ⟨a', h4, h5⟩ := b.ats j i h1
      rw [e1] at h4
      cases h4
      exact ObjRep.mono (Evl.Ex.refl _) (List.nil_prefix) (frzO_rep s' kp (s'.obj j a o' (pre_get p h5) h2) h3)
  · have nm : a ∉ m := fun ha => old a ha j h1 h3
    have z := s'.mf a (List.mem_of_getElem? h3)
    refine ⟨nm, ?_, ?_⟩
    · have z2 := z.2
      rw [frame_out (.inl nm)] at z2
      exact z2
    · rw [Hz_out fun n hn q => ?_]
      · exact z.1
      · have := nodup_at s'.nd h3 q
        subst this
        rw [h2] at hn
        cases hn
theorem res_rep {m2 m' : List Addr} {ls : List Nat} {S' : Store} {Hf' H' : Hp} (b : Sub m m2 ls) (p : m2 <+: m') {Fr' : Hp} (s' : Sim K Hf' Fr' m' S' H') {v w : Val} {x : V} (r : Rep K Hf' m' v x) (h : resV S' ls v = some w) : Rep K (Hz Hf' H' m' fun n => decide (n < ls.length)) m w x := by
  have gen : frz S' (fun n => decide (n < ls.length)) 6 v = some w → Rep K (Hz Hf' H' m' fun n => decide (n < ls.length)) m w x := fun q => Rep.mono (Evl.Ex.refl _) List.nil_prefix _ _ (frz_rep s' _ 6 v w x r q)
  cases v with
  | loc j =>
    have h' : (match ls[j]? with
      | some n => some (Val.loc n)
      | none => frz S' (fun n => decide (n < ls.length)) 6 (.loc j)) = some w := h
    cases q : ls[j]? with
    | none => rw [q] at h'; exact gen h'
    | some n =>
      rw [q] at h'
      cases h'
      obtain ⟨a, rfl, h1⟩ := r
      obtain ⟨a', h2, h3⟩ := b.ats j n q
      have h4 := pre_get p h3
      rw [h1] at h4
      cases h4
      exact ⟨a, rfl, h2⟩
  | non => exact gen h
  | bl _ => exact gen h
  | int _ => exact gen h
  | str _ => exact gen h
  | tup _ => exact gen h
  | lst _ => exact gen h
/-- a new list handed back, as a list of the caller's store -/
theorem sim_new (s : Sim K Hf Fr m S H) {a : Addr} {o : Obj} (hm : a ∉ m) (hr : Fr a = none) (hf : Hf a = none) (r : ObjRep K Hf [] o (H a)) : Sim K Hf Fr (m ++ [a]) (S ++ [o]) H := by
  refine ⟨s.exf, s.exr, s.dis, ?_, by rw [List.length_append, List.length_append, s.len]; rfl, fun b hb => ?_, fun i b u e1 e2 => ?_⟩
  · rw [List.nodup_append]
    refine ⟨s.nd, by simp, fun b hb c hc => ?_⟩
    have e : c = a := by simpa using hc
    subst e
    exact fun z => hm (z ▸ hb)
  · rcases List.mem_append.mp hb with hb | hb
    · exact s.mf b hb
    · have e : b = a := by simpa using hb
      subst e
      exact ⟨hf, hr⟩
  · by_cases hi : i < m.length
    · rw [List.getElem?_append_left hi] at e1
      rw [List.getElem?_append_left (by rw [← s.len]; exact hi)] at e2
      exact (s.obj i b u e1 e2).mono (Evl.Ex.refl _) (List.prefix_append _ _)
    · have hl : i = m.length := by
        have := (List.getElem?_eq_some_iff.mp e1).1
        rw [List.length_append] at this
        have h1 : ([a] : List Addr).length = 1 := rfl
        omega
      subst hl
      have e1' : a = b := by simpa using e1
      have e2' : o = u := by simpa [s.len] using e2
      subst e1' e2'
      exact r.mono (Evl.Ex.refl _) List.nil_prefix
/-- a def's promise: what the interpreter says -/
def spI (K : PySem.W.Frag) (cl : Nat → Value) (P : Nat → Option Fn) (W n f : Nat) : Sp := fun vs H Q Y => ∃ Hf Fr m S args, Sim K Hf Fr m S H ∧ Reps K Hf m args vs ∧ QE K cl Y Hf Fr m Q (run P W n f args S)
theorem newLoc_eq {k j : Nat} {v : Val} (h : newLoc k v = some j) : v = .loc j ∧ k ≤ j := by
  cases v with
  | loc i =>
    have h' : (if k ≤ i then some i else none) = some j := h
    by_cases c : k ≤ i
    · rw [if_pos c] at h'
      cases h'
      exact ⟨rfl, c⟩
    · rw [if_neg c] at h'
      cases h'
  | _ => cases h
theorem call_ok {cl : Nat → Value} {P : Nat → Option Fn} {W n f : Nat} {mu : Bool} {args : List Val} {xs : List V} {Q : VK} {Y : XK} (s : Sim K Hf Fr m S H) (r : Reps K Hf m args xs) (q : QE K cl Y Hf Fr m Q (callI (run P W n) mu f args S)) : spI K cl P W n f xs H Q Y := by
  unfold callI at q
  by_cases c1 : (argsOk args && decide (argLocs args).Nodup) = true
  · rw [if_pos c1, ] at q
    rw [Bool.and_eq_true, decide_eq_true_eq] at c1
    obtain ⟨c1, nl⟩ := c1
    cases q1 : getAll S (argLocs args) with
    | none => rw [q1] at q; exact q.elim
    | some os =>
      rw [q1] at q
      by_cases c2 : freeObjs os = true
      · simp only [c2, if_true] at q
        have b := sub_make s.len q1
        refine ⟨Hf, _, _, os, reArgs 0 args, sim_enter s b nl q1 c2, reArgs_rep args xs 0 c1 (fun j k e => by rw [Nat.zero_add]; exact b.ats j k e) r, ?_⟩
        revert q
        cases run P W n f (reArgs 0 args) os with
        | bad => exact fun q => q
        | ex c S' =>
          intro q3 H' Hf' m' e p s'
          have q4 : QE K cl Y Hf Fr m Q (match backs S' (fun n => decide (n < (argLocs args).length)) 0 (argLocs args) S with
            | some S2 => .ex c S2
            | none => .bad) := q3
          cases q5 : backs S' (fun n => decide (n < (argLocs args).length)) 0 (argLocs args) S with
          | none => rw [q5] at q4; exact q4.elim
          | some S2 =>
            rw [q5] at q4
            obtain ⟨h1, h2, _⟩ := sim_leave s b nl (fun n hn => decide_eq_true hn) e p s' q5
            exact q4 H' _ m h1 (List.prefix_refl _) h2
        | ok v S' =>
          intro q3 x H' Hf' m' e p s' rx
          cases mu with
          | false =>
            have q4 : QE K cl Y Hf Fr m Q (match backs S' (fun n => decide (n < (argLocs args).length)) 0 (argLocs args) S with
              | some S2 => match resV S' (argLocs args) v with
                | some v' => .ok v' S2
                | none => .bad
              | none => .bad) := q3
            cases q5 : backs S' (fun n => decide (n < (argLocs args).length)) 0 (argLocs args) S with
            | none => rw [q5] at q4; exact q4.elim
            | some S2 =>
              rw [q5] at q4
              have q6 : QE K cl Y Hf Fr m Q (match resV S' (argLocs args) v with
                | some v' => .ok v' S2
                | none => .bad) := q4
              cases q7 : resV S' (argLocs args) v with
              | none => rw [q7] at q6; exact q6.elim
              | some v' =>
                rw [q7] at q6
                obtain ⟨h1, h2, _⟩ := sim_leave s b nl (fun n hn => decide_eq_true hn) e p s' q5
                exact q6 x H' _ m h1 (List.prefix_refl _) h2 (res_rep b p s' rx q7)
          | true =>
            have q4 : QE K cl Y Hf Fr m Q (match newLoc (argLocs args).length v with
              | some j => match S'[j]? with
                | some o => match frzO S' (kpJ (argLocs args).length j) o with
                  | some o' => match backs S' (kpJ (argLocs args).length j) 0 (argLocs args) S with
                    | some S2 => .ok (.loc S2.length) (S2 ++ [o'])
                    | none => .bad
                  | none => .bad
                | none => .bad
              | none => .bad) := q3
            cases q5 : newLoc (argLocs args).length v with
            | none => rw [q5] at q4; exact q4.elim
            | some j =>
              rw [q5] at q4
              obtain ⟨rfl, hj⟩ := newLoc_eq q5
              have q6 : QE K cl Y Hf Fr m Q (match S'[j]? with
                | some o => match frzO S' (kpJ (argLocs args).length j) o with
                  | some o' => match backs S' (kpJ (argLocs args).length j) 0 (argLocs args) S with
                    | some S2 => .ok (.loc S2.length) (S2 ++ [o'])
                    | none => .bad
                  | none => .bad
                | none => .bad) := q4
              cases q7 : S'[j]? with
              | none => rw [q7] at q6; exact q6.elim
              | some o =>
                rw [q7] at q6
                have q8 : QE K cl Y Hf Fr m Q (match frzO S' (kpJ (argLocs args).length j) o with
                  | some o' => match backs S' (kpJ (argLocs args).length j) 0 (argLocs args) S with
                    | some S2 => .ok (.loc S2.length) (S2 ++ [o'])
                    | none => .bad
                  | none => .bad) := q6
                cases q9 : frzO S' (kpJ (argLocs args).length j) o with
                | none => rw [q9] at q8; exact q8.elim
                | some o' =>
                  rw [q9] at q8
                  have q10 : QE K cl Y Hf Fr m Q (match backs S' (kpJ (argLocs args).length j) 0 (argLocs args) S with
                    | some S2 => .ok (.loc S2.length) (S2 ++ [o'])
                    | none => .bad) := q8
                  cases q11 : backs S' (kpJ (argLocs args).length j) 0 (argLocs args) S with
                  | none => rw [q11] at q10; exact q10.elim
                  | some S2 =>
                    rw [q11] at q10
                    have hkj : kpJ (argLocs args).length j j = true := by unfold kpJ; rw [decide_eq_true (rfl : j = j), Bool.or_true]
                    obtain ⟨h1, h2, h3⟩ := sim_leave s b nl (fun n hn => by unfold kpJ; rw [decide_eq_true hn, Bool.true_or]) e p s' q11
                    obtain ⟨a, rfl, ha⟩ := rx
                    obtain ⟨g1, g2, g3⟩ := h3 j a hj hkj ha
                    have s2 := sim_new h2 g1 g2 g3 (frzO_rep s' _ (s'.obj j a o ha q7) q9)
                    exact q10 _ H' _ (m ++ [a]) h1 (List.prefix_append _ _) s2 ⟨a, rfl, by rw [← h2.len]; simp⟩
      · have c3 : freeObjs os = false := by cases e : freeObjs os <;> first | rfl | exact absurd e c2
        simp only [c3] at q
        exact q.elim
  · rw [if_neg c1] at q
    exact q.elim
end Iv
/-! Iv8: statements. -/
namespace Iv
open PySem PySem.Spec PyProof.Rows L2
open Evl (Ex ex_l ex_t)
def QO (K : PySem.W.Frag) (cl : Nat → Value) (Y : XK) (Hf Fr : Hp) (m : List Addr) (D : Ends) : Out → Prop
  | .nxt ρ S => ∀ σ H Hf' m', Ex Hf Hf' → m <+: m' → Sim K Hf' Fr m' S H → EnvR K Hf' m' ρ σ → D.nx σ H
  | .brk ρ S => ∀ σ H Hf' m', Ex Hf Hf' → m <+: m' → Sim K Hf' Fr m' S H → EnvR K Hf' m' ρ σ → D.bk σ H
  | .cnt ρ S => ∀ σ H Hf' m', Ex Hf Hf' → m <+: m' → Sim K Hf' Fr m' S H → EnvR K Hf' m' ρ σ → D.ct σ H
  | .ret v S => ∀ x H Hf' m', Ex Hf Hf' → m <+: m' → Sim K Hf' Fr m' S H → Rep K Hf' m' v x → D.rt x H
  | .ex c S => ∀ H Hf' m', Ex Hf Hf' → m <+: m' → Sim K Hf' Fr m' S H → Y (cl c) none H
  | .bad => False
section
variable {K : PySem.W.Frag} {cl : Nat → Value} {Y : XK} {Hf Hf' Fr : Hp} {m m' : List Addr} {D : Ends}
theorem QO.mono : ∀ {o : Out}, QO K cl Y Hf Fr m D o → Ex Hf Hf' → m <+: m' → QO K cl Y Hf' Fr m' D o
  | .nxt _ _, h, e, p => fun x H Hf2 m2 e2 p2 s r => h x H Hf2 m2 (e.trans e2) (p.trans p2) s r
  | .brk _ _, h, e, p => fun x H Hf2 m2 e2 p2 s r => h x H Hf2 m2 (e.trans e2) (p.trans p2) s r
  | .cnt _ _, h, e, p => fun x H Hf2 m2 e2 p2 s r => h x H Hf2 m2 (e.trans e2) (p.trans p2) s r
  | .ret _ _, h, e, p => fun x H Hf2 m2 e2 p2 s r => h x H Hf2 m2 (e.trans e2) (p.trans p2) s r
  | .ex _ _, h, e, p => fun H Hf2 m2 e2 p2 s => h H Hf2 m2 (e.trans e2) (p.trans p2) s
  | .bad, h, _, _ => h
theorem QO.go {α γ : Type} {P : Hp → List Addr → α → γ → Prop} {Q' : γ → Hp → Prop} {f : α → Store → Out} : ∀ {r : R α}, QO K cl Y Hf Fr m D (r.go f) →
    (∀ a S x H Hf' m', Ex Hf Hf' → m <+: m' → Sim K Hf' Fr m' S H → P Hf' m' a x → QO K cl Y Hf' Fr m' D (f a S) → Q' x H) → QR K cl Y P Hf Fr m Q' r
  | .ok a S, h, k => fun x H Hf' m' e p s r => k a S x H Hf' m' e p s r (QO.mono (o := f a S) h e p)
  | .ex _ _, h, _ => h
  | .bad, h, _ => h
end
def tSt (K : PySem.W.Frag) (cl : Nat → Value) (Y : XK) (Φ : Bool → Nat → List Val → Store → R Val) (W : Nat) (st : St) : TS := fun D σ H => ∃ Hf Fr m S ρ, Sim K Hf Fr m S H ∧ EnvR K Hf m ρ σ ∧ QO K cl Y Hf Fr m D (execS Φ W st ρ S)
section
variable {X : Cx} {cl : Nat → Value} {Y : XK} {Φ : Bool → Nat → List Val → Store → R Val} {W : Nat}
theorem ss_nil : PSs X [] ((tSt X.K cl Y Φ W) .nil) := PSs.of pss_nil fun D σ H ⟨Hf, Fr, m, S, ρ, s, er, q⟩ => q σ H Hf m (Evl.Ex.refl _) (List.prefix_refl _) s er
theorem ss_seq {st : Stmt} {sts : List Stmt} {a b : St} (ha : PS X st ((tSt X.K cl Y Φ W) a)) (hb : PSs X sts ((tSt X.K cl Y Φ W) b)) : PSs X (st :: sts) ((tSt X.K cl Y Φ W) (.seq a b)) := PSs.of (pss_cons ha hb) fun D σ H ⟨Hf, Fr, m, S, ρ, s, er, q⟩ => by
  refine ⟨Hf, Fr, m, S, ρ, s, er, ?_⟩
  have q' : QO X.K cl Y Hf Fr m D ((execS Φ W a ρ S).then fun ρ1 S1 => execS Φ W b ρ1 S1) := q
  revert q'
  cases execS Φ W a ρ S with
  | nxt ρ1 S1 => exact fun q' σ1 H1 Hf1 m1 e1 p1 s1 r1 => ⟨Hf1, Fr, m1, S1, ρ1, s1, r1, QO.mono q' e1 p1⟩
  | brk ρ1 S1 => exact fun q' => q'
  | cnt ρ1 S1 => exact fun q' => q'
  | ret v S1 => exact fun q' => q'
  | ex c S1 => exact fun q' => q'
  | bad => exact fun q' => q'
theorem ss_asg {e : E} {i : Nat} {st : Stmt} (h : PS X st (tAsg ((tI X.K cl Y Φ) e) (gName i))) : PS X st ((tSt X.K cl Y Φ W) (.asg i e)) := PS.of h fun D σ H ⟨Hf, Fr, m, S, ρ, s, er, q⟩ =>
  ⟨Hf, Fr, m, S, ρ, s, er, QO.go (f := fun v S1 => .nxt (ρ.set i (some v)) S1) q fun v S1 x H1 Hf1 m1 e1 p1 s1 r1 q1 => q1 _ H1 Hf1 m1 (Evl.Ex.refl _) (List.prefix_refl _) s1 ((er.mono e1 p1).set i r1)⟩
theorem ss_par {a b : E} {i j : Nat} {xa xb : Expr} {st : Stmt} (h : PS X st (tPar i j (tCons ((tI X.K cl Y Φ) a) (tCons ((tI X.K cl Y Φ) b) tNil)))) : PS X st ((tSt X.K cl Y Φ W) (.par i j a b)) := PS.of h fun D σ H ⟨Hf, Fr, m, S, ρ, s, er, q⟩ =>
  ⟨Hf, Fr, m, S, ρ, s, er, QO.go (f := fun v S1 => (evalE Φ b ρ S1).go fun w S2 => .nxt ((ρ.set i (some v)).set j (some w)) S2) q fun v S1 x H1 Hf1 m1 e1 p1 s1 r1 q1 =>
    ⟨Hf1, Fr, m1, S1, ρ, s1, er.mono e1 p1, QO.go (f := fun w S2 => .nxt ((ρ.set i (some v)).set j (some w)) S2) q1 fun w S2 y H2 Hf2 m2 e2 p2 s2 r2 q2 =>
      ⟨x, y, rfl, q2 _ H2 Hf2 m2 (Evl.Ex.refl _) (List.prefix_refl _) s2 ((((er.mono e1 p1).mono e2 p2).set i (Rep.mono e2 p2 _ _ r1)).set j r2)⟩⟩⟩
theorem ss_unp {e : E} {is : List Nat} {st : Stmt} (h : PS X st (tAsg ((tI X.K cl Y Φ) e) (gI X.K (.tp is)))) : PS X st ((tSt X.K cl Y Φ W) (.unp is e)) := PS.of h fun D σ H ⟨Hf, Fr, m, S, ρ, s, er, q⟩ =>
  ⟨Hf, Fr, m, S, ρ, s, er, QO.go (f := fun v S1 => match setTg ρ (.tp is) v with
    | some ρ1 => .nxt ρ1 S1
    | none => .bad) q fun v S1 x H1 Hf1 m1 e1 p1 s1 r1 q1 => by
    cases hs : setTg ρ (.tp is) v with
    | none => rw [hs] at q1; exact q1.elim
    | some ρ1 =>
      rw [hs] at q1
      exact gI_ok hs s1 (er.mono e1 p1) r1 fun σ' er' _ => q1 _ H1 Hf1 m1 (Evl.Ex.refl _) (List.prefix_refl _) s1 er'⟩
theorem ixN_rep {n n' : Nat} {k : Int} {j : Nat} (h : n = n') (e : ixN n k = some j) : ixN n' k = some j := by rw [← h]; exact e
theorem ss_sub {o i e : E} {st : Stmt} (h : PS X st (tAsg ((tI X.K cl Y Φ) e) (gSub ((tI X.K cl Y Φ) o) ((tI X.K cl Y Φ) i) rSetL))) : PS X st ((tSt X.K cl Y Φ W) (.sub o i e)) := PS.of h fun D σ H ⟨Hf, Fr, m, S, ρ, s, er, q⟩ =>
  ⟨Hf, Fr, m, S, ρ, s, er, QO.go (f := fun v S1 => (evalE Φ o ρ S1).go fun ov S2 => (evalE Φ i ρ S2).go fun iv S3 => match storeSub S3 ov iv v with
    | some S4 => .nxt ρ S4
    | none => .bad) q fun v S1 x H1 Hf1 m1 e1 p1 s1 r1 q1 =>
    ⟨Hf1, Fr, m1, S1, ρ, s1, er.mono e1 p1, QO.go (f := fun ov S2 => (evalE Φ i ρ S2).go fun iv S3 => match storeSub S3 ov iv v with
      | some S4 => .nxt ρ S4
      | none => .bad) q1 fun ov S2 y H2 Hf2 m2 e2 p2 s2 r2 q2 =>
      ⟨Hf2, Fr, m2, S2, ρ, s2, (er.mono e1 p1).mono e2 p2, QO.go (f := fun iv S3 => match storeSub S3 ov iv v with
        | some S4 => .nxt ρ S4
        | none => .bad) q2 fun iv S3 z H3 Hf3 m3 e3 p3 s3 r3 q3 => by
        cases hs : storeSub S3 ov iv v with
        | none => rw [hs] at q3; exact q3.elim
        | some S4 =>
          rw [hs] at q3
          cases ov with
          | loc n =>
            cases iv with
            | int k =>
              have hs' : (match S3[n]? with
                | some (.lst xs) => match ixN xs.length k with
                  | some j => some (S3.set n (.lst (xs.set j v)))
                  | none => none
                | none => none) = some S4 := hs
              cases q4 : S3[n]? with
              | none => rw [q4] at hs'; cases hs'
              | some ob =>
                cases ob with
                | lst vs =>
                  rw [q4] at hs'
                  have hs2 : (match ixN vs.length k with
                    | some j => some (S3.set n (.lst (vs.set j v)))
                    | none => none) = some S4 := hs'
                  cases q5 : ixN vs.length k with
                  | none => rw [q5] at hs2; cases hs2
                  | some j =>
                    rw [q5] at hs2
                    cases hs2
                    obtain ⟨a, rfl, hm⟩ := r2
                    have hm3 := pre_get p3 hm
                    obtain ⟨xs, h5, h6⟩ := s3.obj n a _ hm3 q4
                    cases r3
                    have rv := Rep.mono e3 p3 _ _ (Rep.mono e2 p2 _ _ r1)
                    exact ⟨a, xs, k, j, rfl, rfl, h5, ixN_rep h6.length q5, q3 _ _ Hf3 m3 (Evl.Ex.refl _) (List.prefix_refl _) (s3.write hm3 (Reps.set rv j h6)) (((er.mono e1 p1).mono e2 p2).mono e3 p3)⟩
            | _ => cases hs
          | _ => cases hs⟩⟩⟩
theorem ss_expr {e : E} {x : Expr} {pos : Pos} (h : PE X x ((tI X.K cl Y Φ) e)) (hs : swapsWith x none pos.line X.env = pure false) : PS X (.Expr x pos) ((tSt X.K cl Y Φ W) (.expr e)) := PS.of (ps_expr h hs) fun D σ H ⟨Hf, Fr, m, S, ρ, s, er, q⟩ =>
  ⟨Hf, Fr, m, S, ρ, s, er, QO.go (f := fun _ S1 => .nxt ρ S1) q fun v S1 x H1 Hf1 m1 e1 p1 s1 r1 q1 => q1 _ H1 Hf1 m1 (Evl.Ex.refl _) (List.prefix_refl _) s1 (er.mono e1 p1)⟩
theorem ss_ret {e : E} {x : Expr} {pos : Pos} (h : PE X x ((tI X.K cl Y Φ) e)) : PS X (.Return (some x) pos) ((tSt X.K cl Y Φ W) (.ret e)) := PS.of (ps_ret h) fun D σ H ⟨Hf, Fr, m, S, ρ, s, er, q⟩ =>
  ⟨Hf, Fr, m, S, ρ, s, er, QO.go (f := fun v S1 => .ret v S1) q fun v S1 x H1 Hf1 m1 e1 p1 s1 r1 q1 => q1 _ H1 Hf1 m1 (Evl.Ex.refl _) (List.prefix_refl _) s1 r1⟩
theorem ss_retN {pos : Pos} : PS X (.Return none pos) ((tSt X.K cl Y Φ W) .retN) := PS.of ps_retN fun D σ H ⟨Hf, Fr, m, S, ρ, s, er, q⟩ => q .non H Hf m (Evl.Ex.refl _) (List.prefix_refl _) s rfl
theorem ss_pass {pos : Pos} : PS X (.Pass pos) ((tSt X.K cl Y Φ W) .pass) := PS.of ps_pass fun D σ H ⟨Hf, Fr, m, S, ρ, s, er, q⟩ => q σ H Hf m (Evl.Ex.refl _) (List.prefix_refl _) s er
theorem ss_brk {pos : Pos} : PS X (.Break pos) ((tSt X.K cl Y Φ W) .brk) := PS.of ps_break fun D σ H ⟨Hf, Fr, m, S, ρ, s, er, q⟩ => q σ H Hf m (Evl.Ex.refl _) (List.prefix_refl _) s er
theorem ss_cnt {pos : Pos} : PS X (.Continue pos) ((tSt X.K cl Y Φ W) .cnt) := PS.of ps_continue fun D σ H ⟨Hf, Fr, m, S, ρ, s, er, q⟩ => q σ H Hf m (Evl.Ex.refl _) (List.prefix_refl _) s er
theorem asB_inv {K : PySem.W.Frag} {Hf Fr : Hp} {m : List Addr} {D : Ends} {v : Val} {f : Bool → Out} (h : QO K cl Y Hf Fr m D (asB v f)) : ∃ b, v = .bl b ∧ QO K cl Y Hf Fr m D (f b) := by
  cases v with
  | bl b => exact ⟨b, rfl, h⟩
  | _ => exact h.elim
/-- a test ahead of what follows -/
theorem goT {K : PySem.W.Frag} {Hf Fr : Hp} {m : List Addr} {D : Ends} {t : E} {ρ : Env} {S : Store} {f : Bool → Store → Out} {Q' : Bool → Hp → Prop} (q : QO K cl Y Hf Fr m D ((evalE Φ t ρ S).go fun v S1 => asB v fun b => f b S1))
    (k : ∀ b S1 H Hf' m', Ex Hf Hf' → m <+: m' → Sim K Hf' Fr m' S1 H → QO K cl Y Hf' Fr m' D (f b S1) → Q' b H) : QR K cl Y (fun _ _ (a x : Bool) => a = x) Hf Fr m Q' (evalT Φ t ρ S) := by
  unfold evalT
  revert q
  cases evalE Φ t ρ S with
  | bad => exact fun q => q
  | ex c S1 => exact fun q => q
  | ok v S1 =>
    intro q
    obtain ⟨b, rfl, q2⟩ := asB_inv q
    intro x H Hf' m' e p s r
    cases r
    exact k b S1 H Hf' m' e p s (QO.mono q2 e p)
theorem ss_if {t : E} {a b : St} {xt : Expr} {sa sb : List Stmt} {pos : Pos} (ht : PT X xt ((tTs X.K cl Y Φ) t)) (ha : PSs X sa ((tSt X.K cl Y Φ W) a)) (hb : PSs X sb ((tSt X.K cl Y Φ W) b)) : PS X (.If xt sa sb pos) ((tSt X.K cl Y Φ W) (.ite t a b)) := PS.of (ps_if ht ha hb) fun D σ H ⟨Hf, Fr, m, S, ρ, s, er, q⟩ =>
  ⟨Hf, Fr, m, S, ρ, s, er, goT (f := fun k S1 => if k then execS Φ W a ρ S1 else execS Φ W b ρ S1) q fun k S1 H1 Hf1 m1 e1 p1 s1 q1 => by
    cases k with
    | true => exact ⟨Hf1, Fr, m1, S1, ρ, s1, er.mono e1 p1, q1⟩
    | false => exact ⟨Hf1, Fr, m1, S1, ρ, s1, er.mono e1 p1, q1⟩⟩
theorem ss_while {t : E} {b : St} {xt : Expr} {sb : List Stmt} {pos : Pos} (hp : PassesOwn (model X.prog X.w) X.A X.env X.xe) (ht : PT X xt ((tTs X.K cl Y Φ) t)) (hb : PSs X sb ((tSt X.K cl Y Φ W) b)) : PS X (.While xt sb [] pos) ((tSt X.K cl Y Φ W) (.while_ t b)) := PS.of (ps_while hp ht hb) fun D σ H ⟨Hf, Fr, m, S, ρ, s, er, q⟩ => by
  refine ⟨fun k σ H => ∃ Hf Fr m S ρ, Sim X.K Hf Fr m S H ∧ EnvR X.K Hf m ρ σ ∧ QO X.K cl Y Hf Fr m D (whileGo (fun ρ1 S1 => evalE Φ t ρ1 S1) (fun ρ1 S1 => execS Φ W b ρ1 S1) k ρ S), ⟨W, Hf, Fr, m, S, ρ, s, er, q⟩, ?_⟩
  rintro k σ1 H1 ⟨Hf1, Fr1, m1, S1, ρ1, s1, r1, q1⟩
  cases k with
  | zero => exact q1.elim
  | succ k =>
    refine ⟨Hf1, Fr1, m1, S1, ρ1, s1, r1, goT (f := fun b' S2 => if b' then match execS Φ W b ρ1 S2 with
      | .nxt ρ2 S2 => whileGo (fun ρ1 S1 => evalE Φ t ρ1 S1) (fun ρ1 S1 => execS Φ W b ρ1 S1) k ρ2 S2
      | .cnt ρ2 S2 => whileGo (fun ρ1 S1 => evalE Φ t ρ1 S1) (fun ρ1 S1 => execS Φ W b ρ1 S1) k ρ2 S2
      | .brk ρ2 S2 => .nxt ρ2 S2
      | .ret v S2 => .ret v S2
      | .ex c S2 => .ex c S2
      | .bad => .bad
    else .nxt ρ1 S2) q1 fun b' S2 H2 Hf2 m2 e2 p2 s2 q2 => ?_⟩
    cases b' with
    | false =>
      rw [if_neg (by decide)]
      exact q2 σ1 H2 Hf2 m2 (Evl.Ex.refl _) (List.prefix_refl _) s2 (r1.mono e2 p2)
    | true =>
      rw [if_pos rfl]
      refine ⟨fun σ' H' => ∃ Hf Fr m S ρ, Sim X.K Hf Fr m S H' ∧ EnvR X.K Hf m ρ σ' ∧ QO X.K cl Y Hf Fr m D (whileGo (fun ρ1 S1 => evalE Φ t ρ1 S1) (fun ρ1 S1 => execS Φ W b ρ1 S1) k ρ S), fun σ' H' h => ⟨k, Nat.lt_succ_self k, h⟩, Hf2, Fr1, m2, S2, ρ1, s2, r1.mono e2 p2, ?_⟩
      have q3 : QO X.K cl Y Hf2 Fr1 m2 D (match execS Φ W b ρ1 S2 with
        | .nxt ρ2 S2 => whileGo (fun ρ1 S1 => evalE Φ t ρ1 S1) (fun ρ1 S1 => execS Φ W b ρ1 S1) k ρ2 S2
        | .cnt ρ2 S2 => whileGo (fun ρ1 S1 => evalE Φ t ρ1 S1) (fun ρ1 S1 => execS Φ W b ρ1 S1) k ρ2 S2
        | .brk ρ2 S2 => .nxt ρ2 S2
        | .ret v S2 => .ret v S2
        | .ex c S2 => .ex c S2
        | .bad => .bad) := q2
      revert q3
      cases execS Φ W b ρ1 S2 with
      | nxt ρ3 S3 => exact fun q3 σ' H' Hf3 m3 e3 p3 s3 r3 => ⟨Hf3, Fr1, m3, S3, ρ3, s3, r3, QO.mono q3 e3 p3⟩
      | cnt ρ3 S3 => exact fun q3 σ' H' Hf3 m3 e3 p3 s3 r3 => ⟨Hf3, Fr1, m3, S3, ρ3, s3, r3, QO.mono q3 e3 p3⟩
      | brk ρ3 S3 => exact fun q3 => q3
      | ret v S3 => exact fun q3 => q3
      | ex c S3 => exact fun q3 => q3
      | bad => exact fun q3 => q3
theorem ss_for {g : Tg} {it : E} {b : St} {tg xi : Expr} {sb : List Stmt} {pos : Pos} (hp : PassesOwn (model X.prog X.w) X.A X.env X.xe) (hc : X.calm = true) (hi : PI X tg xi ((tIt X.K cl Y Φ) it)) (hg : PG X tg (gI X.K g)) (hb : PSs X sb ((tSt X.K cl Y Φ W) b)) (hs : ∀ x, foldedSetIterable xi X.env x = pure x) :
    PS X (.For tg xi sb [] pos) ((tSt X.K cl Y Φ W) (.for_ g it b)) := PS.of (ps_for hp hc hi hg hb hs) fun D σ H ⟨Hf, Fr, m, S, ρ, s, er, q⟩ => by
  refine ⟨Hf, Fr, m, S, ρ, s, er, QO.go (f := fun xs S1 => forGo g (fun ρ1 S2 => execS Φ W b ρ1 S2) xs ρ S1) q fun xs S1 J H1 Hf1 m1 e1 p1 s1 w q1 => ?_⟩
  have wk : Walk J xs.length (fun H => Ex Hf1 H) (fun i H x H' => J.yld i H x H') := ⟨fun i H hi e => w.goes i H hi e, fun H e => w.stops H e, fun i H x H' hi e y => y⟩
  refine for_it wk (fun i σ H => ∃ Hf' m' S' ρ', Sim X.K Hf' Fr m' S' H ∧ Ex Hf1 Hf' ∧ m1 <+: m' ∧ EnvR X.K Hf' m' ρ' σ ∧ QO X.K cl Y Hf' Fr m' D (forGo g (fun ρ1 S2 => execS Φ W b ρ1 S2) (xs.drop i) ρ' S')) ?_ ?_ ?_ ?_
  · exact ⟨Hf1, m1, S1, ρ, s1, Evl.Ex.refl _, List.prefix_refl _, er.mono e1 p1, q1⟩
  · rintro i σ2 H2 _ ⟨Hf', m', S', ρ', s2, e2, _⟩
    exact e2.trans s2.exf
  · rintro i x σ2 H2 H3 hi ⟨Hf2, m2, S2, ρ2, s2, e2, p2, r2, q2⟩ y
    obtain ⟨v, Hf3, hv, e3, s3, r3⟩ := w.step e2 p2 s2 hi y
    have hdrop : xs.drop i = v :: xs.drop (i + 1) := by
      rw [List.drop_eq_getElem_cons hi]
      congr 1
      exact Option.some.inj ((List.getElem?_eq_getElem hi).symm.trans hv)
    rw [hdrop] at q2
    have q3 : QO X.K cl Y Hf2 Fr m2 D (match setTg ρ2 g v with
      | some ρ1 => match execS Φ W b ρ1 S2 with
        | .nxt ρ2 S2 => forGo g (fun ρ1 S2 => execS Φ W b ρ1 S2) (xs.drop (i + 1)) ρ2 S2
        | .cnt ρ2 S2 => forGo g (fun ρ1 S2 => execS Φ W b ρ1 S2) (xs.drop (i + 1)) ρ2 S2
        | .brk ρ2 S2 => .nxt ρ2 S2
        | .ret v S2 => .ret v S2
        | .ex c S2 => .ex c S2
        | .bad => .bad
      | none => .bad) := q2
    cases hs : setTg ρ2 g v with
    | none => rw [hs] at q3; exact q3.elim
    | some ρ3 =>
      rw [hs] at q3
      refine gI_ok hs s3 (r2.mono e3 (List.prefix_refl _)) r3 fun σ' er' _ => ⟨Hf3, Fr, m2, S2, ρ3, s3, er', ?_⟩
      have q4 : QO X.K cl Y Hf2 Fr m2 D (match execS Φ W b ρ3 S2 with
        | .nxt ρ2 S2 => forGo g (fun ρ1 S2 => execS Φ W b ρ1 S2) (xs.drop (i + 1)) ρ2 S2
        | .cnt ρ2 S2 => forGo g (fun ρ1 S2 => execS Φ W b ρ1 S2) (xs.drop (i + 1)) ρ2 S2
        | .brk ρ2 S2 => .nxt ρ2 S2
        | .ret v S2 => .ret v S2
        | .ex c S2 => .ex c S2
        | .bad => .bad) := q3
      revert q4
      cases execS Φ W b ρ3 S2 with
      | nxt ρ4 S4 => exact fun q4 σ4 H4 Hf4 m4 e4 p4 s4 r4 => ⟨Hf4, m4, S4, ρ4, s4, e2.trans (e3.trans e4), p2.trans p4, r4, QO.mono q4 (e3.trans e4) p4⟩
      | cnt ρ4 S4 => exact fun q4 σ4 H4 Hf4 m4 e4 p4 s4 r4 => ⟨Hf4, m4, S4, ρ4, s4, e2.trans (e3.trans e4), p2.trans p4, r4, QO.mono q4 (e3.trans e4) p4⟩
      | brk ρ4 S4 => exact fun q4 => QO.mono (o := .nxt ρ4 S4) q4 e3 (List.prefix_refl _)
      | ret v S4 => exact fun q4 => QO.mono (o := .ret v S4) q4 e3 (List.prefix_refl _)
      | ex c S4 => exact fun q4 => QO.mono (o := .ex c S4) q4 e3 (List.prefix_refl _)
      | bad => exact fun q4 => q4
  · rintro σ2 H2 ⟨Hf2, m2, S2, ρ2, s2, e2, p2, r2, q2⟩
    have hd : xs.drop xs.length = [] := List.drop_length
    rw [hd] at q2
    exact q2 σ2 H2 Hf2 m2 (Evl.Ex.refl _) (List.prefix_refl _) s2 r2
end
end Iv
/-! Iv9: which text an expression or statement stands for; the interpreter's word is the text's. -/
namespace Iv
open PySem PySem.Spec PyProof.Rows L2
open Evl (Ex ex_l ex_t)
/-! ### looks at the text -/
def isStar : Expr → Bool | .Starred .. => true | _ => false
def isSet : Expr → Bool | .Set .. => true | _ => false
def isComp : Expr → Bool | .ListComp .. => true | .SetComp .. => true | .DictComp .. => true | _ => false
def isSlice : Expr → Bool | .Slice .. => true | _ => false
def isTupE : Expr → Bool | .Tuple .. => true | _ => false
def isCall0 : Expr → Bool | .Call (.Name _ _) [] [] _ => true | _ => false
def isIte : Expr → Bool | .IfExp .. => true | _ => false
/-- its test is its value's truth -/
def plainT : Expr → Bool | .UnaryOp .Not _ _ => false | .BoolOp .. => false | .IfExp .. => false | .Compare .. => false | _ => true
def name? : Expr → Option Str | .Name x _ => some x | _ => none
def tup? : Expr → Option (List Expr) | .Tuple es _ _ => some es | _ => none
def lst? : Expr → Option (List Expr) | .List es _ => some es | _ => none
def bin? : Expr → Option (Expr × Operator × Expr) | .BinOp a o b _ => some (a, o, b) | _ => none
def usub? : Expr → Option Expr | .UnaryOp .USub a _ => some a | _ => none
def not? : Expr → Option Expr | .UnaryOp .Not a _ => some a | _ => none
def cmp1? : Expr → Option (Expr × CmpOp × Expr) | .Compare a [o] [b] _ => some (a, o, b) | _ => none
def cmp2? : Expr → Option (Expr × CmpOp × Expr × CmpOp × Expr) | .Compare a [o, o'] [b, c] _ => some (a, o, b, o', c) | _ => none
def bool? (op : BoolOp) : Expr → Option (Expr × Expr × List Expr × Pos) | .BoolOp o (a :: b :: r) pos => if o = op then some (a, b, r, pos) else none | _ => none
def ite? : Expr → Option (Expr × Expr × Expr) | .IfExp a b c _ => some (a, b, c) | _ => none
def call? : Expr → Option (Str × List Expr) | .Call (.Name f _) as [] _ => some (f, as) | _ => none
def sub? : Expr → Option (Expr × Expr) | .Subscript a b _ => some (a, b) | _ => none
def slice? : Expr → Option (Option Expr × Option Expr) | .Slice l h none _ => some (l, h) | _ => none
def comp? : Expr → Option (Expr × Expr × Expr × List Expr × Scope) | .ListComp e [⟨tg, it, ifs, 0⟩] sc _ => some (e, tg, it, ifs, sc) | _ => none
def mth? : Expr → Option (Expr × Str × List Expr) | .Call (.Attribute o m apos) as [] cpos => if apos.endLine = cpos.line then some (o, m, as) else none | _ => none
def const? : Expr → Option Const | .Constant c _ _ => some c | _ => none
theorem name?_eq {x : Expr} {a : Str} (h : name? x = some a) : ∃ p, x = .Name a p := by
  unfold name? at h; split at h <;> cases h; exact ⟨_, rfl⟩
theorem tup?_eq {x : Expr} {a : List Expr} (h : tup? x = some a) : ∃ j p, x = .Tuple a j p := by
  unfold tup? at h; split at h <;> cases h; exact ⟨_, _, rfl⟩
theorem lst?_eq {x : Expr} {a : List Expr} (h : lst? x = some a) : ∃ p, x = .List a p := by
  unfold lst? at h; split at h <;> cases h; exact ⟨_, rfl⟩
theorem bin?_eq {x a b : Expr} {o : Operator} (h : bin? x = some (a, o, b)) : ∃ p, x = .BinOp a o b p := by
  unfold bin? at h; split at h <;> cases h; exact ⟨_, rfl⟩
theorem usub?_eq {x a : Expr} (h : usub? x = some a) : ∃ p, x = .UnaryOp .USub a p := by
  unfold usub? at h; split at h <;> cases h; exact ⟨_, rfl⟩
theorem not?_eq {x a : Expr} (h : not? x = some a) : ∃ p, x = .UnaryOp .Not a p := by
  unfold not? at h; split at h <;> cases h; exact ⟨_, rfl⟩
theorem cmp1?_eq {x a b : Expr} {o : CmpOp} (h : cmp1? x = some (a, o, b)) : ∃ p, x = .Compare a [o] [b] p := by
  unfold cmp1? at h; split at h <;> cases h; exact ⟨_, rfl⟩
theorem cmp2?_eq {x a b c : Expr} {o o' : CmpOp} (h : cmp2? x = some (a, o, b, o', c)) : ∃ p, x = .Compare a [o, o'] [b, c] p := by
  unfold cmp2? at h; split at h <;> cases h; exact ⟨_, rfl⟩
theorem bool?_eq {x a b : Expr} {op : BoolOp} {r : List Expr} {p : Pos} (h : bool? op x = some (a, b, r, p)) : x = .BoolOp op (a :: b :: r) p := by
  unfold bool? at h
  split at h
  · rename_i o _ _ _ _
    by_cases c : o = op
    · rw [if_pos c] at h; subst c; cases h; rfl
    · rw [if_neg c] at h; cases h
  · cases h
theorem ite?_eq {x a b c : Expr} (h : ite? x = some (a, b, c)) : ∃ p, x = .IfExp a b c p := by
  unfold ite? at h; split at h <;> cases h; exact ⟨_, rfl⟩
theorem call?_eq {x : Expr} {f : Str} {as : List Expr} (h : call? x = some (f, as)) : ∃ p q, x = .Call (.Name f p) as [] q := by
  unfold call? at h; split at h <;> cases h; exact ⟨_, _, rfl⟩
theorem sub?_eq {x a b : Expr} (h : sub? x = some (a, b)) : ∃ p, x = .Subscript a b p := by
  unfold sub? at h; split at h <;> cases h; exact ⟨_, rfl⟩
theorem slice?_eq {x : Expr} {a b : Option Expr} (h : slice? x = some (a, b)) : ∃ p, x = .Slice a b none p := by
  unfold slice? at h; split at h <;> cases h; exact ⟨_, rfl⟩
theorem comp?_eq {x e tg it : Expr} {ifs : List Expr} {sc : Scope} (h : comp? x = some (e, tg, it, ifs, sc)) : ∃ p, x = .ListComp e [⟨tg, it, ifs, 0⟩] sc p := by
  unfold comp? at h; split at h <;> cases h; exact ⟨_, rfl⟩
theorem mth?_eq {x o : Expr} {m : Str} {as : List Expr} (h : mth? x = some (o, m, as)) : ∃ p q, x = .Call (.Attribute o m p) as [] q ∧ (p.endLine == q.line) = true := by
  unfold mth? at h
  split at h
  · rename_i _ _ apos _ cpos
    by_cases c : apos.endLine = cpos.line
    · rw [if_pos c] at h; cases h; exact ⟨_, _, rfl, by rw [c]; exact beq_self_eq_true _⟩
    · rw [if_neg c] at h; cases h
  · cases h
theorem const?_eq {x : Expr} {c : Const} (h : const? x = some c) : ∃ j p, x = .Constant c j p := by
  unfold const? at h; split at h <;> cases h; exact ⟨_, _, rfl⟩
theorem star_cons {x : Expr} (h : isStar x = false) (xs : List Expr) (env : PySem.Env) : starEach (x :: xs) env = (false, eval x env) :: starEach xs env := by
  cases x <;> first | rfl | cases h
theorem back_star {pos : Pos} {env : PySem.Env} : ∀ {xs : List Expr}, xs.all (fun x => !isStar x) = true → (backTo pos (starEach xs env)).any (·.1) = false
  | [], _ => rfl
  | x :: xs, h => by
    rw [List.all_cons, Bool.and_eq_true] at h
    have h1 : isStar x = false := by
      have := h.1
      cases e : isStar x with
      | false => rfl
      | true => rw [e] at this; cases this
    rw [star_cons h1]
    show (false || (backTo pos (starEach xs env)).any (·.1)) = false
    rw [back_star h.2]
    rfl
theorem true_of {x : Expr} (h : plainT x = true) (env : PySem.Env) : ∀ whole, isTrue x env whole = (do let v ← whole; standAt x.pos; holding [v] (truthy v)) := fun whole => by
  cases x with
  | UnaryOp op a p => cases op <;> first | rfl | cases h
  | BoolOp _ _ _ => cases h
  | IfExp _ _ _ _ => cases h
  | Compare _ _ _ _ => cases h
  | _ => rfl
theorem plainIx_of {x : Expr} (h : isSlice x = false) : PlainIx x := fun o i => by
  cases x <;> first | rfl | cases h
theorem base_of {x : Expr} (h : isCall0 x = false) (name : Str) (env : PySem.Env) (whole : Sem Value) : attributeBase x name env whole = whole := by
  unfold attributeBase
  split
  · cases h
  · rfl
theorem mark_of {x : Expr} (h : isSet x = false) (op : CmpOp) : behindInMarks op x = false := by
  cases x <;> first | rfl | cases h
theorem folded_of {x : Expr} (h : isSet x = false) (env : PySem.Env) (v : Value) : foldedSetIterable x env v = pure v := by
  cases x <;> first | rfl | cases h
theorem swaps_of {x : Expr} (h : isComp x = false) (t : Option Expr) (l : Nat) (env : PySem.Env) : swapsWith x t l env = pure false := by
  cases x <;> first | rfl | cases h
/-! ### names -/
def visB (sc : Scope) (x : Str) : Bool := match sc.names.lookup x with
  | some .local => true | some .cell => true | some .free => true | _ => false
def glB (sc : Scope) (x : Str) : Bool := match sc.names.lookup x with
  | some .globalImplicit => true | _ => false
def locB (sc : Scope) (fb : Str → Bool) (x : Str) : Bool := match sc.names.lookup x with
  | some .local => true | some .cell => fb x | _ => false
theorem visB_ok {sc : Scope} {x : Str} (h : visB sc x = true) : Vis sc x := by
  unfold visB at h; unfold Vis
  split at h <;> first | exact .inl (by assumption) | exact .inr (.inl (by assumption)) | exact .inr (.inr (by assumption)) | cases h
theorem glB_ok {X : Cx} {x : Str} (h : glB X.env.scope x = true) : Gl X x := by
  unfold glB at h; unfold Gl
  split at h <;> first | assumption | cases h
theorem locB_ok {sc : Scope} {fb : Str → Bool} {x : Str} (h : locB sc fb x = true) : L2.Loc sc x ∧ (fb x = true ∨ sc.names.lookup x = some .local) := by
  unfold locB at h; unfold L2.Loc
  split at h
  · exact ⟨.inl (by assumption), .inr (by assumption)⟩
  · exact ⟨.inr (by assumption), .inl h⟩
  · cases h
/-! ### a text's meaning -/
def bltName : Blt → Option (Str × Nat)
  | .len => some ("len", 1) | .abs => some ("abs", 1) | .max2 => some ("max", 2) | .min2 => some ("min", 2) | _ => none
def tyOk (T : String) : Bool := T == "int" || T == "bool" || T == "str" || T == "tuple" || T == "list" || T == "dict"
def optB {α : Type} (o : Option α) (f : α → Bool) : Bool := match o with
  | some a => f a
  | none => false
theorem optB_true {α : Type} {o : Option α} {f : α → Bool} (h : optB o f = true) : ∃ a, o = some a ∧ f a = true := by
  cases o with
  | none => cases h
  | some a => exact ⟨a, rfl, h⟩
def one? {α : Type} : List α → Option α | [a] => some a | _ => none
def two? {α : Type} : List α → Option (α × α) | [a, b] => some (a, b) | _ => none
def cons? {α : Type} : List α → Option (α × List α) | a :: r => some (a, r) | _ => none
theorem one?_eq {α : Type} {xs : List α} {a : α} (h : one? xs = some a) : xs = [a] := by
  unfold one? at h; split at h <;> cases h; rfl
theorem two?_eq {α : Type} {xs : List α} {a b : α} (h : two? xs = some (a, b)) : xs = [a, b] := by
  unfold two? at h; split at h <;> cases h; rfl
theorem cons?_eq {α : Type} {xs r : List α} {a : α} (h : cons? xs = some (a, r)) : xs = a :: r := by
  unfold cons? at h; split at h <;> cases h; rfl
section
variable (P : Nat → Option Fn) (B N : List Str)
def chkNms (sc : Scope) (fb : Str → Bool) : List Nat → List Expr → Bool
  | [], es => es.isEmpty
  | i :: is, es => optB (cons? es) fun p => optB (name? p.1) (fun a => decide (N[i]? = some a) && locB sc fb a) && chkNms sc fb is p.2
def chkTg (sc : Scope) (fb : Str → Bool) : Tg → Expr → Bool
  | .nm i, x => optB (name? x) fun a => decide (N[i]? = some a) && locB sc fb a
  | .tp is, x => optB (tup? x) fun es => chkNms N sc fb is es
def isTp : Tg → Bool | .tp _ => true | _ => false
def isYes : E → Bool | .yes => true | _ => false
def restB (op : BoolOp) (xb : Expr) (r : List Expr) (pos : Pos) : Expr := match r with
  | [] => xb
  | y :: r => .BoolOp op (xb :: y :: r) pos
mutual
def chkE : E → Scope → Expr → Bool
  | .var i, sc, x => optB (name? x) fun a => decide (N[i]? = some a) && visB sc a && !(a == ("__debug__" : Str)) && !(a == ("__classdict__" : Str))
  | .non, _, x => optB (const? x) fun c => match c with | .none => true | _ => false
  | .bl b, _, x => optB (const? x) fun c => match c with | .bool k => decide (b = k) | _ => false
  | .int i, _, x => optB (const? x) fun c => match c with | .int j => decide (i = j) | _ => false
  | .str s, _, x => optB (const? x) fun c => match c with | .str t => decide (s = t) | _ => false
  | .tup es, sc, x => optB (tup? x) fun xs => chkA es sc xs
  | .lst _ es, sc, x => optB (lst? x) fun xs => chkA es sc xs
  | .bin o a b, sc, x => optB (bin? x) fun p => decide (p.2.1 = bopOf o) && chkE a sc p.1 && chkE b sc p.2.2
  | .neg a, sc, x => optB (usub? x) fun xa => chkE a sc xa
  | .cmp o a b, sc, x => optB (cmp1? x) fun p => decide (p.2.1 = copOf o) && !isSet p.2.2 && chkE a sc p.1 && chkE b sc p.2.2
  | .chain o o' a b c, sc, x => optB (cmp2? x) fun p => decide (p.2.1 = copOf o) && decide (p.2.2.2.1 = copOf o') && !isSet p.2.2.2.2 && chkE a sc p.1 && chkE b sc p.2.2.1 && chkE c sc p.2.2.2.2
  | .and a b, sc, x => optB (bool? .And x) fun p => chkE a sc p.1 && !isIte p.1 && (!p.2.2.1.isEmpty || !isIte p.2.1) && chkE b sc (restB .And p.2.1 p.2.2.1 p.2.2.2)
  | .or a b, sc, x => optB (bool? .Or x) fun p => chkE a sc p.1 && !isIte p.1 && (!p.2.2.1.isEmpty || !isIte p.2.1) && chkE b sc (restB .Or p.2.1 p.2.2.1 p.2.2.2)
  | .not a, sc, x => optB (not? x) fun xa => chkE a sc xa && !isIte xa
  | .ite t a b, sc, x => optB (ite? x) fun p => chkE t sc p.1 && !isIte p.1 && chkE a sc p.2.1 && chkE b sc p.2.2
  | .call mu f es, sc, x => optB (call? x) fun p => optB (P f) (fun d => decide (d.name = p.1) && decide (p.2.length = d.ps.length)) && glB sc p.1 && !(p.1 == ("__debug__" : Str)) && chkA es sc p.2
  | .blt f es, sc, x => optB (call? x) fun p => optB (bltName f) (fun q => decide (q.1 = p.1) && decide (p.2.length = q.2)) && glB sc p.1 && decide (p.1 ∈ B) && chkA es sc p.2
  | .isi a T, sc, x => optB (call? x) fun p => optB (two? p.2) fun q => decide (p.1 = "isinstance") && glB sc p.1 && decide (p.1 ∈ B) && chkE a sc q.1 && !isStar q.1 && tyOk T && optB (name? q.2) fun t => decide (t = Str.ofString T) && glB sc t && decide (t ∈ B)
  | .ix a i, sc, x => optB (sub? x) fun p => !isSlice p.2 && chkE a sc p.1 && chkE i sc p.2
  | .sl a lo hi, sc, x => optB (sub? x) fun p => optB (slice? p.2) fun q => chkE a sc p.1 && chkO lo sc q.1 && chkO hi sc q.2
  | .comp _ g own it cond elt, sc, x => optB (comp? x) fun p => blkC N sc p.2.2.2.2 own && !isSet p.2.2.1 && chkI it sc (isTupE p.2.1) p.2.2.1 && chkTg N (relS p.2.2.2.2 sc) (fun x => p.2.2.2.2.names.lookup x == some .cell) g p.2.1 && g.slots.all (fun j => decide (j ∈ own.map (·.2))) &&
        (p.2.2.2.1.isEmpty && isYes cond || optB (one? p.2.2.2.1) fun xc => chkE cond (relS p.2.2.2.2 sc) xc && !isIte xc) && chkE elt (relS p.2.2.2.2 sc) p.1
  | .mth m o es, sc, x => optB (mth? x) fun p => (match m with
      | .append => decide (p.2.1 = "append") && decide (p.2.2.length = 1)
      | _ => false) && !isCall0 p.1 && chkE o sc p.1 && chkA es sc p.2.2
  | _, _, _ => false
termination_by structural e => e
def chkA : E → Scope → List Expr → Bool
  | .nil, _, xs => xs.isEmpty
  | .cons e r, sc, xs => optB (cons? xs) fun p => !isStar p.1 && chkE e sc p.1 && chkA r sc p.2
  | _, _, _ => false
termination_by structural e => e
def chkI : E → Scope → Bool → Expr → Bool
  | .vals e, sc, _, x => chkE e sc x
  | .rng a, sc, _, x => optB (call? x) fun p => optB (one? p.2) fun xa => decide (p.1 = "range") && glB sc p.1 && decide (p.1 ∈ B) && !isStar xa && chkE a sc xa
  | .rng2 a b, sc, _, x => optB (call? x) fun p => optB (two? p.2) fun q => decide (p.1 = "range") && glB sc p.1 && decide (p.1 ∈ B) && !isStar q.1 && !isStar q.2 && chkE a sc q.1 && chkE b sc q.2
  | .enum a, sc, t, x => optB (call? x) fun p => optB (one? p.2) fun xa => t && decide (p.1 = "enumerate") && glB sc p.1 && decide (p.1 ∈ B) && !isStar xa && chkE a sc xa
  | .zip a b, sc, t, x => optB (call? x) fun p => optB (two? p.2) fun q => t && decide (p.1 = "zip") && glB sc p.1 && decide (p.1 ∈ B) && !isStar q.1 && !isStar q.2 && chkE a sc q.1 && chkE b sc q.2
  | _, _, _, _ => false
termination_by structural e => e
def chkO : E → Scope → Option Expr → Bool
  | .nil, _, x => x.isNone
  | .part e, sc, x => optB x fun y => chkE e sc y
  | _, _, _ => false
termination_by structural e => e
end
end
end Iv
/-! Iv10: the interpreter's word is the text's: expressions. -/
namespace Iv
open PySem PySem.Spec PyProof.Rows L2
open Evl (Ex ex_l ex_t)
structure Good (P : Nat → Option Fn) (B N : List Str) (W n : Nat) (cl : Nat → Value) (X : Cx) (Y : XK) (fb : Str → Bool) : Prop where
  names : X.N = N
  nd : N.Nodup
  calm : X.calm = true
  fn : ∀ x, fb x = true → X.fn x = true
  room : Room n X.A
  blt : ∀ x ∈ B, X.mg x = none
  fns : ∀ f d, P f = some d → ∃ a fd, X.mg d.name = some (.ref a) ∧ PySem.W.keepIn X.K (.ref a) = true ∧ Binds X.K fd d.ps [] ∧ FnOk X.prog X.w X.K X.mg X.base (L2.CX X.prog X.w) n a fd d.ps (spI X.K cl P W n f)
  pass : Passes (L2.CX X.prog X.w) X Y
section
variable {P : Nat → Option Fn} {B N : List Str} {W n : Nat} {cl : Nat → Value} {X : Cx} {Y : XK} {fb : Str → Bool}
theorem Good.hu (G : Good P B N W n cl X Y fb) : X.A.units + 65 < cLine := by have := G.room.un; omega
theorem Good.at (G : Good P B N W n cl X Y fb) {i : Nat} {x : Str} (h : N[i]? = some x) : X.N[i]? = some x := by rw [G.names]; exact h
theorem Good.nodup (G : Good P B N W n cl X Y fb) : X.N.Nodup := by rw [G.names]; exact G.nd
theorem Good.blk (G : Good P B N W n cl X Y fb) (s : Shared) (H : Hp) (scope : Scope) (cs : List (Str × Addr)) (C : Addr) (fp : List Addr) : Good P B N W n cl (X.blk s H scope (compEnvC scope cs C X.env) fp) noX (fun x => scope.names.lookup x == some .cell) :=
  ⟨G.names, G.nd, G.calm, fun x h => h, G.room, G.blt, G.fns, passL⟩
structure Snd (X : Cx) (cl : Nat → Value) (Y : XK) (Φ : Bool → Nat → List Val → Store → R Val) (e : E) (x : Expr) : Prop where
  pe : PE X x (tI X.K cl Y Φ e)
  pt : isIte x = false → PT X x (tTs X.K cl Y Φ e)
  pw : ∀ op vs p, x = .BoolOp op vs p → PW X x (tTs X.K cl Y Φ e)
theorem Snd.plain {Φ : Bool → Nat → List Val → Store → R Val} {e : E} {x : Expr} (h : PE X x (tI X.K cl Y Φ e)) (hp : plainT x = true) : Snd X cl Y Φ e x :=
  ⟨h, fun _ => st_val h (true_of hp X.env), fun op vs p q => by subst q; cases hp⟩
theorem and_of {a b : Bool} (h : (a && b) = true) : a = true ∧ b = true := by rw [Bool.and_eq_true] at h; exact h
theorem not_of {a : Bool} (h : (!a) = true) : a = false := by cases a <;> first | rfl | cases h
theorem chkNms_ok (G : Good P B N W n cl X Y fb) : ∀ (is : List Nat) (es : List Expr), chkNms N X.env.scope fb is es = true → PGs X es (gNames is) ∧ (assignEach es X.env).length = is.length ∧ (assignEach es X.env).findIdx? (·.1) = none
  | [], es, h => by
    cases es with
    | nil => exact ⟨pgs_nil, rfl, rfl⟩
    | cons _ _ => cases h
  | i :: is, es, h => by
    obtain ⟨⟨e, r⟩, q, h0⟩ := optB_true h
    obtain ⟨h1, h2⟩ := and_of h0
    obtain ⟨a, q1, h3⟩ := optB_true h1
    obtain ⟨h4, h5⟩ := and_of h3
    have q' := cons?_eq q
    obtain ⟨p, q2⟩ := name?_eq q1
    have q2' : e = .Name a p := q2
    subst q' q2'
    have h4' := of_decide_eq_true h4
    obtain ⟨l1, l2⟩ := locB_ok h5
    obtain ⟨i1, i2, i3⟩ := chkNms_ok G is r h2
    refine ⟨pgs_cons (pg_name G.nodup (G.at h4') l1 (l2.imp (G.fn a) id)) i1, ?_, ?_⟩
    · show (assignEach r X.env).length + 1 = is.length + 1
      rw [i2]
    · show List.findIdx? (·.1) ((false, _) :: assignEach r X.env) = none
      rw [List.findIdx?_cons, i3]
      rfl
theorem chkTg_ok (G : Good P B N W n cl X Y fb) {g : Tg} {x : Expr} (h : chkTg N X.env.scope fb g x = true) : PG X x (gI X.K g) := by
  cases g with
  | nm i =>
    obtain ⟨a, q, h0⟩ := optB_true h
    obtain ⟨p, rfl⟩ := name?_eq q
    obtain ⟨h1, h2⟩ := and_of h0
    obtain ⟨l1, l2⟩ := locB_ok h2
    exact pg_name G.nodup (G.at (of_decide_eq_true h1)) l1 (l2.imp (G.fn a) id)
  | tp is =>
    obtain ⟨es, q, h0⟩ := optB_true h
    obtain ⟨j, p, rfl⟩ := tup?_eq q
    obtain ⟨k1, k2, k3⟩ := chkNms_ok G is es h0
    exact pg_tup G.calm k1 k2 k3
theorem copOf_ne {o : Cop} {op : CmpOp} (h : op = copOf o) : op = copOf o := h
theorem boot_len' : bootBuiltins "len" = some (.builtin "len") := by decide +kernel
theorem boot_abs' : bootBuiltins "abs" = some (.builtin "abs") := by decide +kernel
theorem boot_max' : bootBuiltins "max" = some (.builtin "max") := by decide +kernel
theorem boot_min' : bootBuiltins "min" = some (.builtin "min") := by decide +kernel
theorem len_one {α : Type} {xs : List α} (h : xs.length = 1) : ∃ a, xs = [a] := by
  match xs, h with
  | [a], _ => exact ⟨a, rfl⟩
theorem len_two {α : Type} {xs : List α} (h : xs.length = 2) : ∃ a b, xs = [a, b] := by
  match xs, h with
  | [a, b], _ => exact ⟨a, b, rfl⟩
theorem sn_call (G : Good P B N W n cl X Y fb) {mu : Bool} {f : Nat} {es : E} {g : Str} {xs : List Expr} {p q : Pos} {d : Fn} (hd : P f = some d) (hn : d.name = g) (hg : Gl X g) (hdb : (g == ("__debug__" : Str)) = false) (ha : PA X xs (tAs X.K cl Y (callI (run P W n)) es))
    (hst : xs.all (fun x => !isStar x) = true) (hes : xs = [] → es = .nil) : PE X (.Call (.Name g p) xs [] q) (tI X.K cl Y (callI (run P W n)) (.call mu f es)) := by
  obtain ⟨a, fd, h1, h2, h3, h4⟩ := G.fns f d hd
  subst hn
  have fin : ∀ (σ : L2.St) (H : Hp) (Q : VK), tI X.K cl Y (callI (run P W n)) (.call mu f es) σ H Q → tCall (spI X.K cl P W n f) [] Y (tAs X.K cl Y (callI (run P W n)) es) σ H Q := fun σ H Q ⟨Hf, Fr, m, S, ρ, s, er, q⟩ =>
    ⟨Hf, Fr, m, S, ρ, s, er, QR.bind (f := fun vs S1 => callI (run P W n) mu f vs S1) q fun vs S1 ys H1 Hf1 m1 e1 p1 s1 r1 q1 => by
      show spI X.K cl P W n f (ys ++ []) H1 Q Y
      rw [List.append_nil]
      exact call_ok s1 r1 q1⟩
  cases xs with
  | nil =>
    have he := hes rfl
    subst he
    refine PE.of (pe_call0 h4 G.room hg h1 h2 h3 .nil G.pass hdb) fun σ H Q ⟨Hf, Fr, m, S, ρ, s, er, q⟩ => ?_
    show spI X.K cl P W n f ([] ++ []) H Q Y
    exact call_ok (args := []) s .nil q
  | cons x xs =>
    rw [List.all_cons, Bool.and_eq_true] at hst
    exact PE.of (pe_call h4 G.room hg h1 h2 h3 .nil G.pass ha hdb (star_cons (not_of hst.1) _ _) (back_star hst.2)) fin
theorem sn_blt (G : Good P B N W n cl X Y fb) {Φ : Bool → Nat → List Val → Store → R Val} {f : Blt} {es : E} {g : Str} {k : Nat} {xs : List Expr} {p q : Pos} (hb : bltName f = some (g, k)) (hl : xs.length = k) (hg : Gl X g) (hm : X.mg g = none) (ha : PA X xs (tAs X.K cl Y Φ es))
    (hst : xs.all (fun x => !isStar x) = true) : PE X (.Call (.Name g p) xs [] q) (tI X.K cl Y Φ (.blt f es)) := by
  have go : ∀ {id : String} {r : List V → Hp → VK → Prop}, CallR X (.builtin id) r → CallS X.K r (fun S vs => bltV S f vs) → bootBuiltins g = some (.builtin id) → 1 ≤ xs.length → g ≠ "__name__" → (g == ("__debug__" : Str)) = false → PE X (.Call (.Name g p) xs [] q) (tI X.K cl Y Φ (.blt f es)) := fun {id r} h1 h2 h3 h4 h5 h6 => by
    cases xs with
    | nil => cases h4
    | cons x xs =>
      rw [List.all_cons, Bool.and_eq_true] at hst
      exact PE.of (pe_callB h1 hg hm h3 ha h5 h6 (star_cons (not_of hst.1) _ _) (back_star hst.2)) fun σ H Q h => blt_of h2 σ H Q h
  cases f with
  | len => cases hb; exact go (call_len_seq.or call_len_str) callS_len boot_len' (by omega) (by decide) (by decide)
  | abs => cases hb; exact go call_abs callS_abs boot_abs' (by omega) (by decide) (by decide)
  | max2 => cases hb; exact go (call_max2 G.calm) callS_max2 boot_max' (by omega) (by decide) (by decide)
  | min2 => cases hb; exact go (call_min2 G.calm) callS_min2 boot_min' (by omega) (by decide) (by decide)
  | _ => cases hb
theorem tyOk_of {T : String} (h : tyOk T = true) : T = "int" ∨ T = "bool" ∨ T = "str" ∨ T = "tuple" ∨ T = "list" ∨ T = "dict" := by
  unfold tyOk at h
  simp only [Bool.or_eq_true, beq_iff_eq] at h
  rcases h with ((((h | h) | h) | h) | h) | h
  · exact .inl h
  · exact .inr (.inl h)
  · exact .inr (.inr (.inl h))
  · exact .inr (.inr (.inr (.inl h)))
  · exact .inr (.inr (.inr (.inr (.inl h))))
  · exact .inr (.inr (.inr (.inr (.inr h))))
theorem boot_ty {T : String} (h : T = "int" ∨ T = "bool" ∨ T = "str" ∨ T = "tuple" ∨ T = "list" ∨ T = "dict") : bootBuiltins (Str.ofString T) = some (.type T) ∧ Str.ofString T ≠ "__name__" ∧ (Str.ofString T == ("__debug__" : Str)) = false := by
  rcases h with rfl | rfl | rfl | rfl | rfl | rfl <;> exact ⟨by decide +kernel, by decide, by decide⟩
theorem pts_yes {Φ : Bool → Nat → List Val → Store → R Val} : PTs X [] (tTs X.K cl Y Φ .yes) := ⟨fun pins s σ H Q I ⟨Hf, Fr, m, S, ρ, s1, er, q⟩ => pts_nil.run pins s σ H Q I (q true H Hf m (Evl.Ex.refl _) (List.prefix_refl _) s1 rfl)⟩
theorem chkA_nil {es : E} {sc : Scope} (h : chkA P B N es sc [] = true) : es = .nil := by
  cases es with
  | nil => rfl
  | cons _ _ => obtain ⟨_, q, _⟩ := optB_true h; cases q
  | _ => cases h
end
section
variable {P : Nat → Option Fn} {B N : List Str} {W n : Nat} {cl : Nat → Value}
mutual
theorem chkE_ok : ∀ (e : E) {X : Cx} {Y : XK} {fb : Str → Bool} (_ : Good P B N W n cl X Y fb) (x : Expr), chkE P B N e X.env.scope x = true → Snd X cl Y (callI (run P W n)) e x
  | .var i, X, Y, fb, G, x, h => by
    obtain ⟨a, q, h0⟩ := optB_true h
    obtain ⟨p, rfl⟩ := name?_eq q
    obtain ⟨h1, h2⟩ := and_of h0
    obtain ⟨h3, h4⟩ := and_of h1
    obtain ⟨h5, h6⟩ := and_of h3
    exact .plain (sn_var (pe_var (G.at (of_decide_eq_true h5)) (visB_ok h6) (not_of h4) (not_of h2))) rfl
  | .non, X, Y, fb, G, x, h => by
    obtain ⟨c, q, h0⟩ := optB_true h
    obtain ⟨j, p, rfl⟩ := const?_eq q
    cases c with
    | none => exact .plain sn_non rfl
    | _ => cases h0
  | .bl b, X, Y, fb, G, x, h => by
    obtain ⟨c, q, h0⟩ := optB_true h
    obtain ⟨j, p, rfl⟩ := const?_eq q
    cases c with
    | bool k =>
      have e : b = k := of_decide_eq_true h0
      subst e
      exact .plain sn_bl rfl
    | _ => cases h0
  | .int b, X, Y, fb, G, x, h => by
    obtain ⟨c, q, h0⟩ := optB_true h
    obtain ⟨j, p, rfl⟩ := const?_eq q
    cases c with
    | int k =>
      have e : b = k := of_decide_eq_true h0
      subst e
      exact .plain sn_int rfl
    | _ => cases h0
  | .str b, X, Y, fb, G, x, h => by
    obtain ⟨c, q, h0⟩ := optB_true h
    obtain ⟨j, p, rfl⟩ := const?_eq q
    cases c with
    | str k =>
      have e : b = k := of_decide_eq_true h0
      subst e
      exact .plain sn_str rfl
    | _ => cases h0
  | .tup es, X, Y, fb, G, x, h => by
    obtain ⟨xs, q, h0⟩ := optB_true h
    obtain ⟨j, p, rfl⟩ := tup?_eq q
    exact .plain (sn_tup (chkA_ok es G xs h0).1) rfl
  | .lst mu es, X, Y, fb, G, x, h => by
    obtain ⟨xs, q, h0⟩ := optB_true h
    obtain ⟨p, rfl⟩ := lst?_eq q
    exact .plain (sn_lst (chkA_ok es G xs h0).1) rfl
  | .bin o a b, X, Y, fb, G, x, h => by
    obtain ⟨⟨xa, op, xb⟩, q, h0⟩ := optB_true h
    obtain ⟨p, rfl⟩ := bin?_eq q
    obtain ⟨h1, h2⟩ := and_of h0
    obtain ⟨h3, h4⟩ := and_of h1
    have e : op = bopOf o := of_decide_eq_true h3
    subst e
    exact .plain (sn_bin (chkE_ok a G xa h4).pe (chkE_ok b G xb h2).pe) rfl
  | .neg a, X, Y, fb, G, x, h => by
    obtain ⟨xa, q, h0⟩ := optB_true h
    obtain ⟨p, rfl⟩ := usub?_eq q
    exact .plain (sn_neg (chkE_ok a G xa h0).pe) rfl
  | .cmp o a b, X, Y, fb, G, x, h => by
    obtain ⟨⟨xa, op, xb⟩, q, h0⟩ := optB_true h
    obtain ⟨p, rfl⟩ := cmp1?_eq q
    obtain ⟨h1, h2⟩ := and_of h0
    obtain ⟨h3, h4⟩ := and_of h1
    obtain ⟨h5, h6⟩ := and_of h3
    have e : op = copOf o := of_decide_eq_true h5
    subst e
    have ha := (chkE_ok a G xa h4).pe
    have hb := (chkE_ok b G xb h2).pe
    have hm := mark_of (not_of h6) (copOf o)
    exact ⟨sn_cmp G.hu ha hb hm, fun _ => st_cmp G.hu ha hb hm, fun _ _ _ z => nomatch z⟩
  | .chain o o' a b c, X, Y, fb, G, x, h => by
    obtain ⟨⟨xa, op, xb, op', xc⟩, q, h0⟩ := optB_true h
    obtain ⟨p, rfl⟩ := cmp2?_eq q
    obtain ⟨h1, h2⟩ := and_of h0
    obtain ⟨h3, h4⟩ := and_of h1
    obtain ⟨h5, h6⟩ := and_of h3
    obtain ⟨h7, h8⟩ := and_of h5
    obtain ⟨h9, h10⟩ := and_of h7
    have e : op = copOf o := of_decide_eq_true h9
    have e' : op' = copOf o' := of_decide_eq_true h10
    subst e e'
    have ha := (chkE_ok a G xa h6).pe
    have hb := (chkE_ok b G xb h4).pe
    have hc := (chkE_ok c G xc h2).pe
    have hm : lastMarks [copOf o, copOf o'] [xb, xc] = false := mark_of (not_of h8) (copOf o')
    exact ⟨sn_chain G.hu ha hb hc hm, fun _ => st_chain G.hu ha hb hc hm, fun _ _ _ z => nomatch z⟩
  | .and a b, X, Y, fb, G, x, h => by
    obtain ⟨⟨xa, xb, r, p⟩, q, h0⟩ := optB_true h
    have q' := bool?_eq q
    subst q'
    obtain ⟨h1, h2⟩ := and_of h0
    obtain ⟨h3, h4⟩ := and_of h1
    obtain ⟨h5, h6⟩ := and_of h3
    have sa := chkE_ok a G xa h5
    have sb := chkE_ok b G (restB .And xb r p) h2
    have hE : PE X (.BoolOp .And (xb :: r) p) (tI X.K cl Y (callI (run P W n)) b) := by
      cases r with
      | nil => exact pe_one sb.pe
      | cons y r => exact sb.pe
    have hW : PW X (.BoolOp .And (xb :: r) p) (tTs X.K cl Y (callI (run P W n)) b) := by
      cases r with
      | nil => exact pw_and1 (sb.pt (by
          have h4' : (false || !isIte xb) = true := h4
          rw [Bool.false_or] at h4'
          exact not_of h4'))
      | cons y r => exact sb.pw _ _ _ rfl
    have w := st_and (sa.pt (not_of h6)) hW
    exact ⟨sn_and sa.pe hE, fun _ => w.pt, fun _ _ _ z => by cases z; exact w⟩
  | .or a b, X, Y, fb, G, x, h => by
    obtain ⟨⟨xa, xb, r, p⟩, q, h0⟩ := optB_true h
    have q' := bool?_eq q
    subst q'
    obtain ⟨h1, h2⟩ := and_of h0
    obtain ⟨h3, h4⟩ := and_of h1
    obtain ⟨h5, h6⟩ := and_of h3
    have sa := chkE_ok a G xa h5
    have sb := chkE_ok b G (restB .Or xb r p) h2
    have hE : PE X (.BoolOp .Or (xb :: r) p) (tI X.K cl Y (callI (run P W n)) b) := by
      cases r with
      | nil => exact pe_one sb.pe
      | cons y r => exact sb.pe
    have hW : PW X (.BoolOp .Or (xb :: r) p) (tTs X.K cl Y (callI (run P W n)) b) := by
      cases r with
      | nil => exact pw_or1 (sb.pt (by
          have h4' : (false || !isIte xb) = true := h4
          rw [Bool.false_or] at h4'
          exact not_of h4'))
      | cons y r => exact sb.pw _ _ _ rfl
    have w := st_or (sa.pt (not_of h6)) hW
    exact ⟨sn_or sa.pe hE, fun _ => w.pt, fun _ _ _ z => by cases z; exact w⟩
  | .not a, X, Y, fb, G, x, h => by
    obtain ⟨xa, q, h0⟩ := optB_true h
    obtain ⟨p, rfl⟩ := not?_eq q
    obtain ⟨h1, h2⟩ := and_of h0
    have sa := chkE_ok a G xa h1
    exact ⟨sn_not sa.pe, fun _ => st_not (sa.pt (not_of h2)), fun _ _ _ z => nomatch z⟩
  | .ite t a b, X, Y, fb, G, x, h => by
    obtain ⟨⟨xt, xa, xb⟩, q, h0⟩ := optB_true h
    obtain ⟨p, rfl⟩ := ite?_eq q
    obtain ⟨h1, h2⟩ := and_of h0
    obtain ⟨h3, h4⟩ := and_of h1
    obtain ⟨h5, h6⟩ := and_of h3
    exact ⟨sn_ite ((chkE_ok t G xt h5).pt (not_of h6)) (chkE_ok a G xa h4).pe (chkE_ok b G xb h2).pe, fun z => (by cases z), fun _ _ _ z => (by cases z)⟩
  | .call mu f es, X, Y, fb, G, x, h => by
    obtain ⟨⟨g, xs⟩, q, h0⟩ := optB_true h
    obtain ⟨p, p', rfl⟩ := call?_eq q
    obtain ⟨h1, h2⟩ := and_of h0
    obtain ⟨h3, h4⟩ := and_of h1
    obtain ⟨h5, h6⟩ := and_of h3
    obtain ⟨d, hd, h7⟩ := optB_true h5
    obtain ⟨h8, h9⟩ := and_of h7
    obtain ⟨a1, a2⟩ := chkA_ok es G xs h2
    exact .plain (sn_call G hd (of_decide_eq_true h8) (glB_ok h6) (not_of h4) a1 a2 (fun z => by subst z; exact chkA_nil h2)) rfl
  | .blt f es, X, Y, fb, G, x, h => by
    obtain ⟨⟨g, xs⟩, q, h0⟩ := optB_true h
    obtain ⟨p, p', rfl⟩ := call?_eq q
    obtain ⟨h1, h2⟩ := and_of h0
    obtain ⟨h3, h4⟩ := and_of h1
    obtain ⟨h5, h6⟩ := and_of h3
    obtain ⟨⟨g', k⟩, hd, h7⟩ := optB_true h5
    obtain ⟨h8, h9⟩ := and_of h7
    have e : g' = g := of_decide_eq_true h8
    subst e
    obtain ⟨a1, a2⟩ := chkA_ok es G xs h2
    exact .plain (sn_blt G hd (of_decide_eq_true h9) (glB_ok h6) (G.blt _ (of_decide_eq_true h4)) a1 a2) rfl
  | .isi a T, X, Y, fb, G, x, h => by
    obtain ⟨⟨g, xs⟩, q, h0⟩ := optB_true h
    obtain ⟨⟨xa, xT⟩, q2, h00⟩ := optB_true h0
    obtain ⟨p, p', rfl⟩ := call?_eq q
    have q3 : xs = [xa, xT] := two?_eq q2
    subst q3
    obtain ⟨h1, h2⟩ := and_of h00
    obtain ⟨h3, h4⟩ := and_of h1
    obtain ⟨h5, h6⟩ := and_of h3
    obtain ⟨h7, h8⟩ := and_of h5
    obtain ⟨h9, h10⟩ := and_of h7
    obtain ⟨h11, h12⟩ := and_of h9
    obtain ⟨t, q4, h13⟩ := optB_true h2
    obtain ⟨pt, q5⟩ := name?_eq q4
    have q6 : xT = .Name t pt := q5
    subst q6
    obtain ⟨h14, h15⟩ := and_of h13
    obtain ⟨h16, h17⟩ := and_of h14
    have eg : g = "isinstance" := of_decide_eq_true h11
    have et : t = Str.ofString T := of_decide_eq_true h16
    subst eg et
    have hT := tyOk_of h4
    obtain ⟨b1, b2, b3⟩ := boot_ty hT
    exact .plain (sn_isi hT (chkE_ok a G xa h8).pe (glB_ok h12) (G.blt _ (of_decide_eq_true h10)) (glB_ok h17) (G.blt _ (of_decide_eq_true h15)) b1 b2 b3 (star_cons (not_of h6) _ _)) rfl
  | .ix a i, X, Y, fb, G, x, h => by
    obtain ⟨⟨xa, xi⟩, q, h0⟩ := optB_true h
    obtain ⟨p, rfl⟩ := sub?_eq q
    obtain ⟨h1, h2⟩ := and_of h0
    obtain ⟨h3, h4⟩ := and_of h1
    exact .plain (sn_ix (chkE_ok a G xa h4).pe (chkE_ok i G xi h2).pe (plainIx_of (not_of h3))) rfl
  | .sl a lo hi, X, Y, fb, G, x, h => by
    obtain ⟨⟨xa, xs⟩, q, h0⟩ := optB_true h
    obtain ⟨⟨xl, xh⟩, q2, h00⟩ := optB_true h0
    obtain ⟨p, rfl⟩ := sub?_eq q
    obtain ⟨p2, q3⟩ := slice?_eq q2
    have q4 : xs = .Slice xl xh none p2 := q3
    subst q4
    obtain ⟨h1, h2⟩ := and_of h00
    obtain ⟨h3, h4⟩ := and_of h1
    exact .plain (sn_sl (chkE_ok a G xa h3).pe (chkO_ok lo G xl h4) (chkO_ok hi G xh h2)) rfl
  | .comp mu g own it cond elt, X, Y, fb, G, x, h => by
    obtain ⟨⟨xe, tg, xi, ifs, scope⟩, q, h0⟩ := optB_true h
    obtain ⟨p, rfl⟩ := comp?_eq q
    obtain ⟨h1, h2⟩ := and_of h0
    obtain ⟨h3, h4⟩ := and_of h1
    obtain ⟨h5, h6⟩ := and_of h3
    obtain ⟨h7, h8⟩ := and_of h5
    obtain ⟨h9, h10⟩ := and_of h7
    obtain ⟨h11, h12⟩ := and_of h9
    have hslots : ∀ j ∈ g.slots, j ∈ own.map (·.2) := fun j hj => of_decide_eq_true (List.all_eq_true.mp h6 j hj)
    have hw := chkI_ok it G (tg := tg) xi h10 (fun z => z)
    have bOk : BlkOk X.N X.env.scope scope own := by rw [G.names]; exact blkOk_by h11
    have he : ∀ (s : Shared) (H : Hp) (C : Addr) (cs : List (Str × Addr)) (fp : List Addr), PE (X.blk s H scope (compEnvC scope cs C X.env) fp) xe (tI X.K cl noX (callI (run P W n)) elt) := fun s H C cs fp => (chkE_ok elt (G.blk s H scope cs C fp) xe h2).pe
    have hg : ∀ (s : Shared) (H : Hp) (C : Addr) (cs : List (Str × Addr)) (fp : List Addr), PG (X.blk s H scope (compEnvC scope cs C X.env) fp) tg (gI X.K g) := fun s H C cs fp => chkTg_ok (G.blk s H scope cs C fp) h8
    have ht : ∀ (s : Shared) (H : Hp) (C : Addr) (cs : List (Str × Addr)) (fp : List Addr), PTs (X.blk s H scope (compEnvC scope cs C X.env) fp) ifs (tTs X.K cl noX (callI (run P W n)) cond) := fun s H C cs fp => by
      rw [Bool.or_eq_true] at h4
      rcases h4 with h4 | h4
      · obtain ⟨i1, i2⟩ := and_of h4
        have i3 : ifs = [] := List.isEmpty_iff.mp i1
        have i4 : cond = .yes := by cases cond <;> first | rfl | cases i2
        subst i3 i4
        exact pts_yes
      · obtain ⟨xc, i1, i2⟩ := optB_true h4
        have i3 : ifs = [xc] := one?_eq i1
        subst i3
        obtain ⟨i4, i5⟩ := and_of i2
        exact pts_one ((chkE_ok cond (G.blk s H scope cs C fp) xc i4).pt (not_of i5))
    exact .plain (PE.of (pe_lc G.calm G.nodup hw bOk hg ht he (folded_of (not_of h12) X.env)) fun σ H Q h => comp_of (fun _ _ _ z => z) (fun _ _ _ z => z) (fun _ _ _ z => z) hslots σ H Q h) rfl
  | .mth m o es, X, Y, fb, G, x, h => by
    obtain ⟨⟨xo, nm, xs⟩, q, h0⟩ := optB_true h
    obtain ⟨p, p', rfl, hl⟩ := mth?_eq q
    obtain ⟨h1, h2⟩ := and_of h0
    obtain ⟨h3, h4⟩ := and_of h1
    obtain ⟨h5, h6⟩ := and_of h3
    cases m with
    | append =>
      obtain ⟨h7, h8⟩ := and_of h5
      have e : nm = "append" := of_decide_eq_true h7
      subst e
      obtain ⟨x1, e1⟩ := len_one (of_decide_eq_true h8)
      have e1' : xs = [x1] := e1
      subst e1'
      cases es with
      | cons e r =>
        obtain ⟨⟨y, t⟩, q3, h9⟩ := optB_true h2
        cases q3
        obtain ⟨h10, h11⟩ := and_of h9
        obtain ⟨h12, h13⟩ := and_of h10
        have hr := chkA_nil h11
        subst hr
        exact .plain (sn_append (chkE_ok o G xo h4).pe (chkE_ok e G x1 h13).pe (base_of (not_of h6) _ _ _) (star_cons (not_of h12) _ _) hl) rfl
      | _ => cases h2
    | _ => cases h5
  | .nil, _, _, _, _, _, h => by cases h
  | .cons _ _, _, _, _, _, _, h => by cases h
  | .rng _, _, _, _, _, _, h => by cases h
  | .rng2 _ _, _, _, _, _, _, h => by cases h
  | .enum _, _, _, _, _, _, h => by cases h
  | .zip _ _, _, _, _, _, _, h => by cases h
  | .rev _, _, _, _, _, _, h => by cases h
  | .vals _, _, _, _, _, _, h => by cases h
  | .yes, _, _, _, _, _, h => by cases h
  | .part _, _, _, _, _, _, h => by cases h
termination_by structural e => e
theorem chkA_ok : ∀ (e : E) {X : Cx} {Y : XK} {fb : Str → Bool} (_ : Good P B N W n cl X Y fb) (xs : List Expr), chkA P B N e X.env.scope xs = true → PA X xs (tAs X.K cl Y (callI (run P W n)) e) ∧ xs.all (fun x => !isStar x) = true
  | .nil, X, Y, fb, G, xs, h => by
    have e : xs = [] := List.isEmpty_iff.mp h
    subst e
    exact ⟨sa_nil, rfl⟩
  | .cons e r, X, Y, fb, G, xs, h => by
    obtain ⟨⟨x, t⟩, q, h0⟩ := optB_true h
    have q' := cons?_eq q
    subst q'
    obtain ⟨h1, h2⟩ := and_of h0
    obtain ⟨h3, h4⟩ := and_of h1
    obtain ⟨a1, a2⟩ := chkA_ok r G t h2
    exact ⟨sa_cons (chkE_ok e G x h4).pe a1 (star_cons (not_of h3) _ _), by rw [List.all_cons, Bool.and_eq_true]; exact ⟨h3, a2⟩⟩
  | .var _, _, _, _, _, _, h => by cases h
  | .non, _, _, _, _, _, h => by cases h
  | .bl _, _, _, _, _, _, h => by cases h
  | .int _, _, _, _, _, _, h => by cases h
  | .str _, _, _, _, _, _, h => by cases h
  | .tup _, _, _, _, _, _, h => by cases h
  | .lst _ _, _, _, _, _, _, h => by cases h
  | .bin _ _ _, _, _, _, _, _, h => by cases h
  | .neg _, _, _, _, _, _, h => by cases h
  | .cmp _ _ _, _, _, _, _, _, h => by cases h
  | .chain _ _ _ _ _, _, _, _, _, _, h => by cases h
  | .and _ _, _, _, _, _, _, h => by cases h
  | .or _ _, _, _, _, _, _, h => by cases h
  | .not _, _, _, _, _, _, h => by cases h
  | .ite _ _ _, _, _, _, _, _, h => by cases h
  | .call _ _ _, _, _, _, _, _, h => by cases h
  | .blt _ _, _, _, _, _, _, h => by cases h
  | .isi _ _, _, _, _, _, _, h => by cases h
  | .ix _ _, _, _, _, _, _, h => by cases h
  | .sl _ _ _, _, _, _, _, _, h => by cases h
  | .comp _ _ _ _ _ _, _, _, _, _, _, h => by cases h
  | .mth _ _ _, _, _, _, _, _, h => by cases h
  | .rng _, _, _, _, _, _, h => by cases h
  | .rng2 _ _, _, _, _, _, _, h => by cases h
  | .enum _, _, _, _, _, _, h => by cases h
  | .zip _ _, _, _, _, _, _, h => by cases h
  | .rev _, _, _, _, _, _, h => by cases h
  | .vals _, _, _, _, _, _, h => by cases h
  | .yes, _, _, _, _, _, h => by cases h
  | .part _, _, _, _, _, _, h => by cases h
termination_by structural e => e
theorem chkI_ok : ∀ (e : E) {X : Cx} {Y : XK} {fb : Str → Bool} (_ : Good P B N W n cl X Y fb) {tg : Expr} (x : Expr) {t : Bool}, chkI P B N e X.env.scope t x = true → (t = true → isTupE tg = true) → PI X tg x (tIt X.K cl Y (callI (run P W n)) e)
  | .vals e, X, Y, fb, G, tg, x, t, h, _ => si_vals (chkE_ok e G x h).pe
  | .rng a, X, Y, fb, G, tg, x, t, h, _ => by
    obtain ⟨⟨g, xs⟩, q, h0⟩ := optB_true h
    obtain ⟨xa, q2, h00⟩ := optB_true h0
    obtain ⟨p, p', rfl⟩ := call?_eq q
    have q3 : xs = [xa] := one?_eq q2
    subst q3
    obtain ⟨h1, h2⟩ := and_of h00
    obtain ⟨h3, h4⟩ := and_of h1
    obtain ⟨h5, h6⟩ := and_of h3
    obtain ⟨h7, h8⟩ := and_of h5
    have eg : g = "range" := of_decide_eq_true h7
    subst eg
    exact si_rng (glB_ok h8) (G.blt _ (of_decide_eq_true h6)) (chkE_ok a G xa h2).pe (star_cons (not_of h4) _ _)
  | .rng2 a b, X, Y, fb, G, tg, x, t, h, _ => by
    obtain ⟨⟨g, xs⟩, q, h0⟩ := optB_true h
    obtain ⟨⟨xa, xb⟩, q2, h00⟩ := optB_true h0
    obtain ⟨p, p', rfl⟩ := call?_eq q
    have q3 : xs = [xa, xb] := two?_eq q2
    subst q3
    obtain ⟨h1, h2⟩ := and_of h00
    obtain ⟨h3, h4⟩ := and_of h1
    obtain ⟨h5, h6⟩ := and_of h3
    obtain ⟨h7, h8⟩ := and_of h5
    obtain ⟨h9, h10⟩ := and_of h7
    obtain ⟨h11, h12⟩ := and_of h9
    have eg : g = "range" := of_decide_eq_true h11
    subst eg
    have sb := star_cons (not_of h6) [] X.env
    exact si_rng2 (glB_ok h12) (G.blt _ (of_decide_eq_true h10)) (chkE_ok a G xa h4).pe (chkE_ok b G xb h2).pe ((star_cons (not_of h8) _ _).trans (by rw [sb]; rfl)) sb
  | .enum a, X, Y, fb, G, tg, x, t, h, ht => by
    obtain ⟨⟨g, xs⟩, q, h0⟩ := optB_true h
    obtain ⟨xa, q2, h00⟩ := optB_true h0
    obtain ⟨p, p', rfl⟩ := call?_eq q
    have q3 : xs = [xa] := one?_eq q2
    subst q3
    obtain ⟨h1, h2⟩ := and_of h00
    obtain ⟨h3, h4⟩ := and_of h1
    obtain ⟨h5, h6⟩ := and_of h3
    obtain ⟨h7, h8⟩ := and_of h5
    obtain ⟨h9, h10⟩ := and_of h7
    have eg : g = "enumerate" := of_decide_eq_true h10
    subst eg
    have htup := ht h9
    cases tg with
    | Tuple elts k pp => exact si_enum (glB_ok h8) (G.blt _ (of_decide_eq_true h6)) (chkE_ok a G xa h2).pe (star_cons (not_of h4) _ _)
    | _ => cases htup
  | .zip a b, X, Y, fb, G, tg, x, t, h, ht => by
    obtain ⟨⟨g, xs⟩, q, h0⟩ := optB_true h
    obtain ⟨⟨xa, xb⟩, q2, h00⟩ := optB_true h0
    obtain ⟨p, p', rfl⟩ := call?_eq q
    have q3 : xs = [xa, xb] := two?_eq q2
    subst q3
    obtain ⟨h1, h2⟩ := and_of h00
    obtain ⟨h3, h4⟩ := and_of h1
    obtain ⟨h5, h6⟩ := and_of h3
    obtain ⟨h7, h8⟩ := and_of h5
    obtain ⟨h9, h10⟩ := and_of h7
    obtain ⟨h11, h12⟩ := and_of h9
    obtain ⟨h13, h14⟩ := and_of h11
    have eg : g = "zip" := of_decide_eq_true h14
    subst eg
    have sb := star_cons (not_of h6) [] X.env
    have htup := ht h13
    cases tg with
    | Tuple elts k pp => exact si_zip (glB_ok h12) (G.blt _ (of_decide_eq_true h10)) (chkE_ok a G xa h4).pe (chkE_ok b G xb h2).pe (star_cons (not_of h8) _ _) sb
    | _ => cases htup
  | .nil, _, _, _, _, _, _, _, h, _ => by cases h
  | .cons _ _, _, _, _, _, _, _, _, h, _ => by cases h
  | .var _, _, _, _, _, _, _, _, h, _ => by cases h
  | .non, _, _, _, _, _, _, _, h, _ => by cases h
  | .bl _, _, _, _, _, _, _, _, h, _ => by cases h
  | .int _, _, _, _, _, _, _, _, h, _ => by cases h
  | .str _, _, _, _, _, _, _, _, h, _ => by cases h
  | .tup _, _, _, _, _, _, _, _, h, _ => by cases h
  | .lst _ _, _, _, _, _, _, _, _, h, _ => by cases h
  | .bin _ _ _, _, _, _, _, _, _, _, h, _ => by cases h
  | .neg _, _, _, _, _, _, _, _, h, _ => by cases h
  | .cmp _ _ _, _, _, _, _, _, _, _, h, _ => by cases h
  | .chain _ _ _ _ _, _, _, _, _, _, _, _, h, _ => by cases h
  | .and _ _, _, _, _, _, _, _, _, h, _ => by cases h
  | .or _ _, _, _, _, _, _, _, _, h, _ => by cases h
  | .not _, _, _, _, _, _, _, _, h, _ => by cases h
  | .ite _ _ _, _, _, _, _, _, _, _, h, _ => by cases h
  | .call _ _ _, _, _, _, _, _, _, _, h, _ => by cases h
  | .blt _ _, _, _, _, _, _, _, _, h, _ => by cases h
  | .isi _ _, _, _, _, _, _, _, _, h, _ => by cases h
  | .ix _ _, _, _, _, _, _, _, _, h, _ => by cases h
  | .sl _ _ _, _, _, _, _, _, _, _, h, _ => by cases h
  | .comp _ _ _ _ _ _, _, _, _, _, _, _, _, h, _ => by cases h
  | .mth _ _ _, _, _, _, _, _, _, _, h, _ => by cases h
  | .rev _, _, _, _, _, _, _, _, h, _ => by cases h
  | .yes, _, _, _, _, _, _, _, h, _ => by cases h
  | .part _, _, _, _, _, _, _, _, h, _ => by cases h
termination_by structural e => e
theorem chkO_ok : ∀ (e : E) {X : Cx} {Y : XK} {fb : Str → Bool} (_ : Good P B N W n cl X Y fb) (x : Option Expr), chkO P B N e X.env.scope x = true → PO X x (tOs X.K cl Y (callI (run P W n)) e)
  | .nil, X, Y, fb, G, x, h => by
    cases x with
    | none => exact so_none
    | some _ => cases h
  | .part e, X, Y, fb, G, x, h => by
    obtain ⟨y, q, h0⟩ := optB_true h
    subst q
    exact so_some (chkE_ok e G y h0).pe
  | .cons _ _, _, _, _, _, _, h => by cases h
  | .var _, _, _, _, _, _, h => by cases h
  | .non, _, _, _, _, _, h => by cases h
  | .bl _, _, _, _, _, _, h => by cases h
  | .int _, _, _, _, _, _, h => by cases h
  | .str _, _, _, _, _, _, h => by cases h
  | .tup _, _, _, _, _, _, h => by cases h
  | .lst _ _, _, _, _, _, _, h => by cases h
  | .bin _ _ _, _, _, _, _, _, h => by cases h
  | .neg _, _, _, _, _, _, h => by cases h
  | .cmp _ _ _, _, _, _, _, _, h => by cases h
  | .chain _ _ _ _ _, _, _, _, _, _, h => by cases h
  | .and _ _, _, _, _, _, _, h => by cases h
  | .or _ _, _, _, _, _, _, h => by cases h
  | .not _, _, _, _, _, _, h => by cases h
  | .ite _ _ _, _, _, _, _, _, h => by cases h
  | .call _ _ _, _, _, _, _, _, h => by cases h
  | .blt _ _, _, _, _, _, _, h => by cases h
  | .isi _ _, _, _, _, _, _, h => by cases h
  | .ix _ _, _, _, _, _, _, h => by cases h
  | .sl _ _ _, _, _, _, _, _, h => by cases h
  | .comp _ _ _ _ _ _, _, _, _, _, _, h => by cases h
  | .mth _ _ _, _, _, _, _, _, h => by cases h
  | .rng _, _, _, _, _, _, h => by cases h
  | .rng2 _ _, _, _, _, _, _, h => by cases h
  | .enum _, _, _, _, _, _, h => by cases h
  | .zip _ _, _, _, _, _, _, h => by cases h
  | .rev _, _, _, _, _, _, h => by cases h
  | .vals _, _, _, _, _, _, h => by cases h
  | .yes, _, _, _, _, _, h => by cases h
termination_by structural e => e
end
end
end Iv
/-! Iv11: the interpreter's word is the text's: statements, defs, the law. -/
namespace Iv
open PySem PySem.Spec PyProof.Rows L2
open Evl (Ex ex_l ex_t)
def sExpr? : Stmt → Option (Expr × Pos) | .Expr x p => some (x, p) | _ => none
def sAsg? : Stmt → Option (Str × Pos × Expr × Pos) | .Assign [.Name y py] x p => some (y, py, x, p) | _ => none
def sPar? : Stmt → Option (Str × Pos × Str × Pos × Expr × Expr) | .Assign [.Tuple [.Name y py, .Name z pz] _ _] (.Tuple [a, b] _ _) _ => some (y, py, z, pz, a, b) | _ => none
def sUnp? : Stmt → Option (List Expr × Expr) | .Assign [.Tuple es _ _] x _ => some (es, x) | _ => none
def sSub? : Stmt → Option (Expr × Expr × Expr) | .Assign [.Subscript o i _] x _ => some (o, i, x) | _ => none
def sIf? : Stmt → Option (Expr × List Stmt × List Stmt) | .If t a b _ => some (t, a, b) | _ => none
def sFor? : Stmt → Option (Expr × Expr × List Stmt) | .For tg it b [] _ => some (tg, it, b) | _ => none
def sWhile? : Stmt → Option (Expr × List Stmt) | .While t b [] _ => some (t, b) | _ => none
def sRet? : Stmt → Option (Option Expr) | .Return x _ => some x | _ => none
def isPassS : Stmt → Bool | .Pass _ => true | _ => false
def isBrkS : Stmt → Bool | .Break _ => true | _ => false
def isCntS : Stmt → Bool | .Continue _ => true | _ => false
theorem sExpr?_eq {s : Stmt} {x : Expr} {p : Pos} (h : sExpr? s = some (x, p)) : s = .Expr x p := by unfold sExpr? at h; split at h <;> cases h; rfl
theorem sAsg?_eq {s : Stmt} {y : Str} {py p : Pos} {x : Expr} (h : sAsg? s = some (y, py, x, p)) : s = .Assign [.Name y py] x p := by unfold sAsg? at h; split at h <;> cases h; rfl
theorem sPar?_eq {s : Stmt} {y z : Str} {py pz : Pos} {a b : Expr} (h : sPar? s = some (y, py, z, pz, a, b)) : ∃ k pt k2 pt2 p, s = .Assign [.Tuple [.Name y py, .Name z pz] k pt] (.Tuple [a, b] k2 pt2) p := by unfold sPar? at h; split at h <;> cases h; exact ⟨_, _, _, _, _, rfl⟩
theorem sUnp?_eq {s : Stmt} {es : List Expr} {x : Expr} (h : sUnp? s = some (es, x)) : ∃ k pt p, s = .Assign [.Tuple es k pt] x p := by unfold sUnp? at h; split at h <;> cases h; exact ⟨_, _, _, rfl⟩
theorem sSub?_eq {s : Stmt} {o i x : Expr} (h : sSub? s = some (o, i, x)) : ∃ p p2, s = .Assign [.Subscript o i p] x p2 := by unfold sSub? at h; split at h <;> cases h; exact ⟨_, _, rfl⟩
theorem sIf?_eq {s : Stmt} {t : Expr} {a b : List Stmt} (h : sIf? s = some (t, a, b)) : ∃ p, s = .If t a b p := by unfold sIf? at h; split at h <;> cases h; exact ⟨_, rfl⟩
theorem sFor?_eq {s : Stmt} {tg it : Expr} {b : List Stmt} (h : sFor? s = some (tg, it, b)) : ∃ p, s = .For tg it b [] p := by unfold sFor? at h; split at h <;> cases h; exact ⟨_, rfl⟩
theorem sWhile?_eq {s : Stmt} {t : Expr} {b : List Stmt} (h : sWhile? s = some (t, b)) : ∃ p, s = .While t b [] p := by unfold sWhile? at h; split at h <;> cases h; exact ⟨_, rfl⟩
theorem sRet?_eq {s : Stmt} {x : Option Expr} (h : sRet? s = some x) : ∃ p, s = .Return x p := by unfold sRet? at h; split at h <;> cases h; exact ⟨_, rfl⟩
def isLoc (sc : Scope) (x : Str) : Bool := match sc.names.lookup x with | some .local => true | _ => false
theorem isLoc_ok {sc : Scope} {x : Str} (h : isLoc sc x = true) : sc.names.lookup x = some .local := by
  unfold isLoc at h; split at h <;> first | assumption | cases h
def isCell (sc : Scope) (x : Str) : Bool := match sc.names.lookup x with | some .cell => true | _ => false
theorem isCell_ok {sc : Scope} {x : Str} (h : isCell sc x = true) : sc.names.lookup x = some .cell := by
  unfold isCell at h; split at h <;> first | assumption | cases h
def compE? : E → Bool | .comp .. => true | _ => false
section
variable (P : Nat → Option Fn) (B N : List Str)
mutual
def chkS : St → Scope → Stmt → Bool
  | .expr e, sc, s => optB (sExpr? s) fun p => chkE P B N e sc p.1 && !isComp p.1
  | .asg i e, sc, s => optB (sAsg? s) fun p => decide (N[i]? = some p.1) && locB sc (fun _ => true) p.1 && chkE P B N e sc p.2.2.1 && (!isComp p.2.2.1 ||
      compE? e && (isCell sc p.1 || isLoc sc p.1 && (p.2.1.line == p.2.2.1.pos.line) && optB (comp? p.2.2.1) fun q => !(q.2.2.2.2.names.any fun (n, k) => n == p.1 && (k == .local || k == .cell))))
  | .par i j a b, sc, s => optB (sPar? s) fun p => decide (N[i]? = some p.1) && decide (N[j]? = some p.2.2.1) && !(decide (i = j)) && isLoc sc p.1 && isLoc sc p.2.2.1 && (p.2.2.2.1.line == p.2.1.line) && !(p.1 == p.2.2.1) &&
      !(foldedForSure 8 p.2.2.2.2.1 && foldedForSure 8 p.2.2.2.2.2) && !(constantsAlone 8 p.2.2.2.2.1 && constantsAlone 8 p.2.2.2.2.2) && !isStar p.2.2.2.2.1 && !isStar p.2.2.2.2.2 && chkE P B N a sc p.2.2.2.2.1 && chkE P B N b sc p.2.2.2.2.2
  | .unp is e, sc, s => optB (sUnp? s) fun p => chkNms N sc (fun _ => true) is p.1 && chkE P B N e sc p.2 && !isTupE p.2 && !isComp p.2
  | .sub o i e, sc, s => optB (sSub? s) fun p => !isSlice p.2.1 && chkE P B N o sc p.1 && chkE P B N i sc p.2.1 && chkE P B N e sc p.2.2 && !isComp p.2.2
  | .ite t a b, sc, s => optB (sIf? s) fun p => chkE P B N t sc p.1 && !isIte p.1 && chkB a sc p.2.1 && chkB b sc p.2.2
  | .for_ g it b, sc, s => optB (sFor? s) fun p => chkTg N sc (fun _ => true) g p.1 && !isSet p.2.1 && chkI P B N it sc (isTupE p.1) p.2.1 && chkB b sc p.2.2
  | .while_ t b, sc, s => optB (sWhile? s) fun p => chkE P B N t sc p.1 && !isIte p.1 && chkB b sc p.2
  | .ret e, sc, s => optB (sRet? s) fun o => optB o fun x => chkE P B N e sc x
  | .retN, _, s => optB (sRet? s) fun o => o.isNone
  | .pass, _, s => isPassS s
  | .brk, _, s => isBrkS s
  | .cnt, _, s => isCntS s
  | _, _, _ => false
termination_by structural s => s
def chkB : St → Scope → List Stmt → Bool
  | .nil, _, ss => ss.isEmpty
  | .seq a b, sc, ss => optB (cons? ss) fun p => chkS a sc p.1 && chkB b sc p.2
  | _, _, _ => false
termination_by structural s => s
end
end
theorem par_swap {env : PySem.Env} {y z : Str} {py pz : Pos} {a b : Expr} {k : Nat} {pt : Pos} {k2 : Nat} {pt2 : Pos} (hk : env.scope.kind = .function) (hy : env.scope.names.lookup y = some .local) (hz : env.scope.names.lookup z = some .local) (hl : (pz.line == py.line) = true) (hne : (y == z) = false)
    (hf : (foldedForSure 8 a && foldedForSure 8 b) = false) (hc : (constantsAlone 8 a && constantsAlone 8 b) = false) (ha : isStar a = false) (hb : isStar b = false) :
    swappedStores [.Tuple [.Name y py, .Name z pz] k pt] (.Tuple [a, b] k2 pt2) env = pure (some [y, z]) := by
  have ky : env.kindOf y = some .local := hy
  have kz : env.kindOf z = some .local := hz
  have hbk : env.blockKind = .function := by unfold Env.blockKind; rw [hk]; rfl
  have hany : ∀ f : Expr → Bool, (∀ x, isStar x = false → f x = false) → ([a, b].any f) = false := fun f hf => by
    rw [List.any_cons, List.any_cons, List.any_nil, hf a ha, hf b hb]
    rfl
  have hfm : ∀ g : Expr → Option Str, g (.Name y py) = some y → g (.Name z pz) = some z → [Expr.Name y py, Expr.Name z pz].filterMap g = [y, z] := fun g h1 h2 => by
    rw [List.filterMap_cons, h1, List.filterMap_cons, h2, List.filterMap_nil]
  have hf' : [a, b].all (foldedForSure 8) = false := by rw [List.all_cons, List.all_cons, List.all_nil, Bool.and_true]; exact hf
  have hc' : [a, b].all (constantsAlone 8) = false := by rw [List.all_cons, List.all_cons, List.all_nil, Bool.and_true]; exact hc
  have hzy : (z == y) = false := by
    rw [beq_eq_false_iff_ne] at hne ⊢
    exact fun e => hne e.symm
  have hdd : [y, z].eraseDups = [y, z] := by
    simp [List.eraseDups_cons, hne, hzy]
  unfold swappedStores
  simp only [hbk]
  rw [hany, hfm]
  · simp only [hdd, hf', hc']
    rfl
  · show (if (env.kindOf y == some NameKind.local && py.line == py.line) = true then some y else none) = some y
    rw [ky, beq_self_eq_true, beq_self_eq_true]
    rfl
  · show (if (env.kindOf z == some NameKind.local && pz.line == py.line) = true then some z else none) = some z
    rw [kz, hl, beq_self_eq_true]
    rfl
  · intro x h
    cases x <;> first | rfl | cases h
structure GoodS (P : Nat → Option Fn) (B N : List Str) (W n : Nat) (cl : Nat → Value) (X : Cx) (Y : XK) : Prop where
  g : Good P B N W n cl X Y (fun _ => true)
  kind : X.env.scope.kind = .function
  own : PassesOwn (model X.prog X.w) X.A X.env X.xe
section
variable {P : Nat → Option Fn} {B N : List Str} {W n : Nat} {cl : Nat → Value} {X : Cx} {Y : XK}
theorem ps_setE (G : GoodS P B N W n cl X Y) {i : Nat} {y : Str} {py p : Pos} {x : Expr} {e : E} (hi : N[i]? = some y) (hl : locB X.env.scope (fun _ => true) y = true) (h : chkE P B N e X.env.scope x = true)
    (hc : (!isComp x || compE? e && (isCell X.env.scope y || isLoc X.env.scope y && (py.line == x.pos.line) && optB (comp? x) fun q => !(q.2.2.2.2.names.any fun (n, k) => n == y && (k == .local || k == .cell)))) = true) :
    PS X (.Assign [.Name y py] x p) (tAsg (tI X.K cl Y (callI (run P W n)) e) (gName i)) := by
  obtain ⟨l1, l2⟩ := locB_ok hl
  have l3 : X.fn y = true ∨ X.env.scope.names.lookup y = some .local := l2.imp (G.g.fn y) id
  have pe := (chkE_ok e G.g x h).pe
  rw [Bool.or_eq_true] at hc
  rcases hc with hc | hc
  · exact ps_set (i := i) G.g.nodup (G.g.at hi) l1 pe (swaps_of (not_of hc) _ _ _) l3
  · obtain ⟨he0, hc0⟩ := and_of hc
    cases e with
    | comp mu g own it cond elt =>
      obtain ⟨⟨xe, tg, xi, ifs, scope⟩, q, h0⟩ := optB_true h
      rw [Bool.or_eq_true] at hc0
      rcases hc0 with hc1 | hc1
      · obtain ⟨p2, rfl⟩ := comp?_eq q
        have hcell := isCell_ok hc1
        refine ps_set (i := i) G.g.nodup (G.g.at hi) l1 pe ?_ l3
        have ky : X.env.kindOf y = some .cell := hcell
        have hbk : X.env.blockKind = .function := by unfold Env.blockKind; rw [G.kind]; rfl
        unfold swapsWith
        simp only [hbk, ky]
        rfl
      · obtain ⟨h1, h2⟩ := and_of hc1
        obtain ⟨h3, h4⟩ := and_of h1
        obtain ⟨q', hq', h5⟩ := optB_true h2
        rw [q] at hq'
        cases hq'
        obtain ⟨p2, rfl⟩ := comp?_eq q
        have hloc := isLoc_ok h3
        have h5' : (scope.names.any fun (n, k) => n == y && (k == .local || k == .cell)) = false := not_of h5
        obtain ⟨h1, h2⟩ := and_of h0
        obtain ⟨h3, h4b⟩ := and_of h1
        obtain ⟨h5, h6⟩ := and_of h3
        obtain ⟨h7, h8⟩ := and_of h5
        obtain ⟨h9, h10⟩ := and_of h7
        obtain ⟨h11, h12⟩ := and_of h9
        have hslots : ∀ j ∈ g.slots, j ∈ own.map (·.2) := fun j hj => of_decide_eq_true (List.all_eq_true.mp h6 j hj)
        have hw := chkI_ok it G.g (tg := tg) xi h10 (fun z => z)
        have bOk : BlkOk X.N X.env.scope scope own := by rw [G.g.names]; exact blkOk_by h11
        have he : ∀ (s : Shared) (H : Hp) (C : Addr) (cs : List (Str × Addr)) (fp : List Addr), PE (X.blk s H scope (compEnvC scope cs C X.env) fp) xe (tI X.K cl noX (callI (run P W n)) elt) := fun s H C cs fp => (chkE_ok elt (G.g.blk s H scope cs C fp) xe h2).pe
        have hg : ∀ (s : Shared) (H : Hp) (C : Addr) (cs : List (Str × Addr)) (fp : List Addr), PG (X.blk s H scope (compEnvC scope cs C X.env) fp) tg (gI X.K g) := fun s H C cs fp => chkTg_ok (G.g.blk s H scope cs C fp) h8
        have ht : ∀ (s : Shared) (H : Hp) (C : Addr) (cs : List (Str × Addr)) (fp : List Addr), PTs (X.blk s H scope (compEnvC scope cs C X.env) fp) ifs (tTs X.K cl noX (callI (run P W n)) cond) := fun s H C cs fp => by
          rw [Bool.or_eq_true] at h4b
          rcases h4b with h4 | h4
          · obtain ⟨i1, i2⟩ := and_of h4
            have i3 : ifs = [] := List.isEmpty_iff.mp i1
            have i4 : cond = .yes := by cases cond <;> first | rfl | cases i2
            subst i3 i4
            exact pts_yes
          · obtain ⟨xc, i1, i2⟩ := optB_true h4
            have i3 : ifs = [xc] := one?_eq i1
            subst i3
            obtain ⟨i4, i5⟩ := and_of i2
            exact pts_one ((chkE_ok cond (G.g.blk s H scope cs C fp) xc i4).pt (not_of i5))
        exact PS.of (ps_setLc (i := i) G.g.calm G.g.nodup (G.g.at hi) hloc (sw_true G.kind hloc h4 h5') hw bOk hg ht he (folded_of (not_of h12) X.env)) fun D σ H h => comp_of (mu := mu) (fun _ _ _ z => z) (fun _ _ _ z => z) (fun _ _ _ z => z) hslots σ H _ h
    | _ => cases he0
mutual
theorem chkS_ok : ∀ (s : St) (_ : GoodS P B N W n cl X Y) (st : Stmt), chkS P B N s X.env.scope st = true → PS X st (tSt X.K cl Y (callI (run P W n)) W s)
  | .expr e, G, st, h => by
    obtain ⟨⟨x, p⟩, q, h0⟩ := optB_true h
    have q' := sExpr?_eq q
    subst q'
    obtain ⟨h1, h2⟩ := and_of h0
    exact ss_expr (chkE_ok e G.g x h1).pe (swaps_of (not_of h2) _ _ _)
  | .asg i e, G, st, h => by
    obtain ⟨⟨y, py, x, p⟩, q, h0⟩ := optB_true h
    have q' := sAsg?_eq q
    subst q'
    obtain ⟨h1, h2⟩ := and_of h0
    obtain ⟨h3, h4⟩ := and_of h1
    obtain ⟨h5, h6⟩ := and_of h3
    exact ss_asg (ps_setE G (of_decide_eq_true h5) h6 h4 h2)
  | .par i j a b, G, st, h => by
    obtain ⟨⟨y, py, z, pz, xa, xb⟩, q, h0⟩ := optB_true h
    obtain ⟨k, pt, k2, pt2, p, q'⟩ := sPar?_eq q
    subst q'
    obtain ⟨h1, hB⟩ := and_of h0
    obtain ⟨h2, hA⟩ := and_of h1
    obtain ⟨h3, h4⟩ := and_of h2
    obtain ⟨h5, h6⟩ := and_of h3
    obtain ⟨h7, h8⟩ := and_of h5
    obtain ⟨h9, h10⟩ := and_of h7
    obtain ⟨h11, h12⟩ := and_of h9
    obtain ⟨h13, h14⟩ := and_of h11
    obtain ⟨h15, h16⟩ := and_of h13
    obtain ⟨h17, h18⟩ := and_of h15
    obtain ⟨h19, h20⟩ := and_of h17
    obtain ⟨h21, h22⟩ := and_of h19
    have sa := star_cons (not_of h6) [xb] X.env
    have sb := star_cons (not_of h4) [] X.env
    have hij : i ≠ j := of_decide_eq_false (not_of h20)
    exact ss_par (xa := xa) (xb := xb) (ps_par G.g.calm G.g.nodup (G.g.at (of_decide_eq_true h21)) (G.g.at (of_decide_eq_true h22)) hij (isLoc_ok h18) (isLoc_ok h16) (pa_cons (chkE_ok a G.g xa hA).pe (pa_cons (chkE_ok b G.g xb hB).pe pa_nil sb) sa)
      (par_swap G.kind (isLoc_ok h18) (isLoc_ok h16) h14 (not_of h12) (not_of h10) (not_of h8) (not_of h6) (not_of h4)))
  | .unp is e, G, st, h => by
    obtain ⟨⟨es, x⟩, q, h0⟩ := optB_true h
    obtain ⟨k, pt, p, q'⟩ := sUnp?_eq q
    subst q'
    obtain ⟨h1, h2⟩ := and_of h0
    obtain ⟨h3, h4⟩ := and_of h1
    obtain ⟨h5, h6⟩ := and_of h3
    obtain ⟨k1, k2, k3⟩ := chkNms_ok G.g is es h5
    exact ss_unp (ps_asg (chkE_ok e G.g x h6).pe (pg_tup G.g.calm k1 k2 k3) (by show swapsWith x (some (Expr.Tuple es k pt)) p.line X.env = pure false; exact swaps_of (x := x) (not_of h2) _ _ _) (by
      have h4' := not_of h4
      have h4 : isTupE x = false := h4'
      cases x <;> first | rfl | cases h4))
  | .sub o i e, G, st, h => by
    obtain ⟨⟨xo, xi, x⟩, q, h0⟩ := optB_true h
    obtain ⟨p, p2, q'⟩ := sSub?_eq q
    subst q'
    obtain ⟨h1, h2⟩ := and_of h0
    obtain ⟨h3, h4⟩ := and_of h1
    obtain ⟨h5, h6⟩ := and_of h3
    obtain ⟨h7, h8⟩ := and_of h5
    have hsl : isSlice xi = false := not_of h7
    exact ss_sub (ps_asg (chkE_ok e G.g x h4).pe (pg_sub (chkE_ok o G.g xo h8).pe (chkE_ok i G.g xi h6).pe set_list (fun v => by cases xi <;> first | rfl | cases hsl)) (by show swapsWith x (some (Expr.Subscript xo xi p)) p2.line X.env = pure false; exact swaps_of (x := x) (not_of h2) _ _ _))
  | .ite t a b, G, st, h => by
    obtain ⟨⟨xt, sa, sb⟩, q, h0⟩ := optB_true h
    obtain ⟨p, q'⟩ := sIf?_eq q
    subst q'
    obtain ⟨h1, h2⟩ := and_of h0
    obtain ⟨h3, h4⟩ := and_of h1
    obtain ⟨h5, h6⟩ := and_of h3
    exact ss_if ((chkE_ok t G.g xt h5).pt (not_of h6)) (chkB_ok a G sa h4) (chkB_ok b G sb h2)
  | .for_ g it b, G, st, h => by
    obtain ⟨⟨tg, xi, sb⟩, q, h0⟩ := optB_true h
    obtain ⟨p, q'⟩ := sFor?_eq q
    subst q'
    obtain ⟨h1, h2⟩ := and_of h0
    obtain ⟨h3, h4⟩ := and_of h1
    obtain ⟨h5, h6⟩ := and_of h3
    exact ss_for G.own G.g.calm (chkI_ok it G.g (tg := tg) xi h4 (fun z => z)) (chkTg_ok G.g h5) (chkB_ok b G sb h2) (folded_of (not_of h6) X.env)
  | .while_ t b, G, st, h => by
    obtain ⟨⟨xt, sb⟩, q, h0⟩ := optB_true h
    obtain ⟨p, q'⟩ := sWhile?_eq q
    subst q'
    obtain ⟨h1, h2⟩ := and_of h0
    obtain ⟨h3, h4⟩ := and_of h1
    exact ss_while G.own ((chkE_ok t G.g xt h3).pt (not_of h4)) (chkB_ok b G sb h2)
  | .ret e, G, st, h => by
    obtain ⟨o, q, h0⟩ := optB_true h
    obtain ⟨x, q2, h1⟩ := optB_true h0
    obtain ⟨p, q'⟩ := sRet?_eq q
    subst q' q2
    exact ss_ret (chkE_ok e G.g x h1).pe
  | .retN, G, st, h => by
    obtain ⟨o, q, h0⟩ := optB_true h
    obtain ⟨p, q'⟩ := sRet?_eq q
    subst q'
    cases o with
    | none => exact ss_retN
    | some _ => cases h0
  | .pass, G, st, h => by
    cases st <;> first | exact ss_pass | cases h
  | .brk, G, st, h => by
    cases st <;> first | exact ss_brk | cases h
  | .cnt, G, st, h => by
    cases st <;> first | exact ss_cnt | cases h
  | .nil, _, _, h => by cases h
  | .seq _ _, _, _, h => by cases h
termination_by structural s => s
theorem chkB_ok : ∀ (s : St) (_ : GoodS P B N W n cl X Y) (ss : List Stmt), chkB P B N s X.env.scope ss = true → PSs X ss (tSt X.K cl Y (callI (run P W n)) W s)
  | .nil, G, ss, h => by
    have e : ss = [] := List.isEmpty_iff.mp h
    subst e
    exact ss_nil
  | .seq a b, G, ss, h => by
    obtain ⟨⟨x, t⟩, q, h0⟩ := optB_true h
    have q' := cons?_eq q
    subst q'
    obtain ⟨h1, h2⟩ := and_of h0
    exact ss_seq (chkS_ok a G x h1) (chkB_ok b G t h2)
  | .expr _, _, _, h => by cases h
  | .asg _ _, _, _, h => by cases h
  | .par _ _ _ _, _, _, h => by cases h
  | .unp _ _, _, _, h => by cases h
  | .sub _ _ _, _, _, h => by cases h
  | .ite _ _ _, _, _, h => by cases h
  | .for_ _ _ _, _, _, h => by cases h
  | .while_ _ _, _, _, h => by cases h
  | .ret _, _, _, h => by cases h
  | .retN, _, _, h => by cases h
  | .pass, _, _, h => by cases h
  | .brk, _, _, h => by cases h
  | .cnt, _, _, h => by cases h
termination_by structural s => s
end
end
/-! ### defs -/
theorem start_env {K : PySem.W.Frag} {Hf : Hp} {m : List Addr} {args : List Val} {vs : List V} (k : Nat) (r : Reps K Hf m args vs) : EnvR K Hf m (startE k args) (args.length |> fun _ => vs.map some ++ List.replicate (k - vs.length) none) := by
  have hl := r.length
  refine ⟨by unfold startE; simp [hl], fun i v e => ?_⟩
  unfold startE at e
  have hi : i < args.length := by
    by_cases hi : i < args.length
    · exact hi
    · rw [List.getElem?_append_right (by simpa using hi), List.getElem?_replicate] at e
      split at e <;> cases e
  rw [List.getElem?_append_left (by simpa using hi), List.getElem?_map] at e
  cases q : args[i]? with
  | none => rw [q] at e; cases e
  | some w =>
    rw [q] at e
    have e' : w = v := by simpa using e
    subst e'
    obtain ⟨x, h1, h2⟩ := r.get q
    refine ⟨x, ?_, h2⟩
    show (vs.map some ++ _)[i]? = _
    rw [List.getElem?_append_left (by rw [List.length_map, ← hl]; exact hi), List.getElem?_map, h1]
    rfl
/-- where a def of the table stands -/
structure FnAt (K : PySem.W.Frag) (mg : Str → Option Value) (P : Nat → Option Fn) (B : List Str) (d : Fn) (st : Stmt) (a : Addr) (fd : FuncData) : Prop where
  fn : Fun K d.name d.name st a fd
  mg : mg d.name = some (.ref a)
  binds : Binds K fd d.ps []
  scope : FnScope d.N d.ps (defScope st)
  body : chkB P B d.N d.body (defScope st) (defBody st) = true
theorem run_len {K : PySem.W.Frag} {cl : Nat → Value} {P : Nat → Option Fn} {W n f : Nat} {d : Fn} (hd : P f = some d) {vs : List V} {H : Hp} {Q : VK} {Y : XK} (h : spI K cl P W n f vs H Q Y) : vs.length = d.ps.length := by
  obtain ⟨Hf, Fr, m, S, args, s, r, q⟩ := h
  rw [← r.length]
  cases n with
  | zero => exact q.elim
  | succ n =>
    have q' : QE K cl Y Hf Fr m Q (match P f with
      | some d => if args.length = d.ps.length then (execS (callI (run P W n)) W d.body (startE d.N.length args) S).res else .bad
      | none => .bad) := q
    rw [hd] at q'
    by_cases c : args.length = d.ps.length
    · exact c
    · have q2 : QE K cl Y Hf Fr m Q (if args.length = d.ps.length then (execS (callI (run P W n)) W d.body (startE d.N.length args) S).res else .bad) := q'
      rw [if_neg c] at q2
      exact q2.elim
theorem res_out {K : PySem.W.Frag} {cl : Nat → Value} {Y : XK} {Hf Fr : Hp} {m : List Addr} {Q : VK} : ∀ {o : Out}, QE K cl Y Hf Fr m Q o.res → QO K cl Y Hf Fr m { nx := fun _ H' => Q .non H', rt := Q } o
  | .nxt _ _, h => fun σ H Hf' m' e p s r => h .non H Hf' m' e p s rfl
  | .ret _ _, h => h
  | .ex _ _, h => h
  | .brk _ _, h => h.elim
  | .cnt _ _, h => h.elim
  | .bad, h => h
theorem fns_ok {Pr : Program} {w : World} {K : PySem.W.Frag} {mg : Str → Option Value} {base : Heap} {P : Nat → Option Fn} {B : List Str} {W : Nat} {cl : Nat → Value} (hB : ∀ x ∈ B, mg x = none)
    (T : ∀ f d, P f = some d → ∃ st a fd, FnAt K mg P B d st a fd) : ∀ (n f : Nat) (d : Fn) (st : Stmt) (a : Addr) (fd : FuncData), P f = some d → FnAt K mg P B d st a fd → FnOk Pr w K mg base (L2.CX Pr w) n a fd d.ps (spI K cl P W n f) := by
  intro n
  induction n with
  | zero =>
    intro f d st a fd hd F
    exact ⟨fun vs H Q Y h => run_len hd h, fun A outer s H args us vs Q Y hr e0 hb hv ⟨_, _, _, _, _, _, _, q⟩ => q.elim⟩
  | succ n ih =>
    intro f d st a fd hd F
    refine F.fn.okX F.scope (fun vs H Q Y h => run_len hd h) fun cdv A outer s H vs Q Y hr h => ?_
    have hlen := run_len hd h
    obtain ⟨Hf, Fr, m, S, args, sm, r, q⟩ := h
    have q' : QE K cl Y Hf Fr m Q (match P f with
      | some d => if args.length = d.ps.length then (execS (callI (run P W n)) W d.body (startE d.N.length args) S).res else .bad
      | none => .bad) := q
    rw [hd] at q'
    have q2 : QE K cl Y Hf Fr m Q (if args.length = d.ps.length then (execS (callI (run P W n)) W d.body (startE d.N.length args) S).res else .bad) := q'
    rw [if_pos (by rw [r.length]; exact hlen)] at q2
    have tk : Takes (cxOf (L2.CX Pr w) Pr w K mg base d.N d.name (defScope st) a cdv A outer s H Y) (fun cls dd _ H => Y cls dd H) := takes_of rfl rfl rfl rfl
    have G : GoodS P B d.N W n cl (cxOf (L2.CX Pr w) Pr w K mg base d.N d.name (defScope st) a cdv A outer s H Y) Y :=
      ⟨⟨rfl, F.scope.nd, rfl, fun _ _ => rfl, hr, hB, fun f' d' hd' => by
        obtain ⟨st', a', fd', F'⟩ := T f' d' hd'
        exact ⟨a', fd', F'.mg, F'.fn.kp, F'.binds, ih f' d' st' a' fd' hd' F'⟩, passes_call tk fun _ _ _ _ h => h⟩, F.scope.kind, passes_of rfl⟩
    exact ⟨_, chkB_ok d.body G (defBody st) F.body, Hf, Fr, m, S, startE d.N.length args, sm, start_env d.N.length r, res_out q2⟩
theorem law_sp {K : PySem.W.Frag} {H : Hp} {a : Addr} {ns : List Int} {cl : Nat → Value} {P : Nat → Option Fn} {W n f : Nat} (hO : Only H) (hS : SqL K H a (ns.map V.int)) (h : ∃ S', run P W n f [.lst (ns.map Val.int)] [] = .ok (.bl true) S') :
    spI K cl P W n f [.ref a] H (fun v _ => v = .bl true) (fun _ _ _ => False) := by
  obtain ⟨S', e⟩ := h
  have hr : ∀ ns : List Int, Reps K H [] (ns.map Val.int) (ns.map V.int) := fun ns => by
    induction ns with
    | nil => exact .nil
    | cons n ns ih => exact .cons rfl ih
  refine ⟨H, fun _ => none, [], [], [.lst (ns.map Val.int)], ⟨Evl.Ex.refl _, fun _ _ z => (by cases z), fun _ _ z => (by cases z), List.nodup_nil, rfl, fun _ z => (by cases z), fun _ _ _ z => (by simp at z)⟩, .cons ⟨a, ns.map V.int, rfl, hS, hr ns⟩ .nil, ?_⟩
  rw [e]
  exact fun x _ _ _ _ _ _ r => r
theorem cx_false {P : Program} {w : World} {H : Hp} {s s' : Shared} {e : Value} (h : L2.CX P w [] H s (fun _ _ _ => False) e s') : False := by
  obtain ⟨_, _, _, _, _, _, _, _, _, _, _, _, z⟩ := h
  exact z.elim
end Iv
/-! Iv12: the interpreter run by rewriting, without functions under way. -/
namespace Iv
open PySem
section
variable (Φ : Bool → Nat → List Val → Store → R Val) (W : Nat)
/-! what is left to do behind a part -/
def kTup : R (List Val) → R Val | .ok vs S => if vs.length ≤ lim then .ok (.tup vs) S else .bad | .ex c S => .ex c S | .bad => .bad
def kLst (mu : Bool) : R (List Val) → R Val | .ok vs S => if vs.length ≤ lim then mk mu vs S else .bad | .ex c S => .ex c S | .bad => .bad
def kBin1 (o : Bop) (b : E) (ρ : Env) (r : R Val) : R Val := r.bind fun v S1 => (evalE Φ b ρ S1).bind fun w S2 => .of (binV o v w) S2
def kBin2 (o : Bop) (v : Val) (r : R Val) : R Val := r.bind fun w S2 => .of (binV o v w) S2
def kNeg (r : R Val) : R Val := r.bind fun v S1 => match v with
    | .int i => .ok (.int (-i)) S1
    | _ => .bad
def kCmp1 (o : Cop) (b : E) (ρ : Env) (r : R Val) : R Val := r.bind fun v S1 => (evalE Φ b ρ S1).bind fun w S2 => .of ((cmpV S2 o v w).map .bl) S2
def kCmp2 (o : Cop) (v : Val) (r : R Val) : R Val := r.bind fun w S2 => .of ((cmpV S2 o v w).map .bl) S2
def kCh1 (o o' : Cop) (b c : E) (ρ : Env) (r : R Val) : R Val := r.bind fun v S1 => (evalE Φ b ρ S1).bind fun w S2 => match cmpV S2 o v w with
    | some true => (evalE Φ c ρ S2).bind fun u S3 => .of ((cmpV S3 o' w u).map .bl) S3
    | some false => .ok (.bl false) S2
    | none => .bad
def kCh2 (o o' : Cop) (v : Val) (c : E) (ρ : Env) (r : R Val) : R Val := r.bind fun w S2 => match cmpV S2 o v w with
    | some true => (evalE Φ c ρ S2).bind fun u S3 => .of ((cmpV S3 o' w u).map .bl) S3
    | some false => .ok (.bl false) S2
    | none => .bad
def kCh3 (o' : Cop) (w : Val) (c : E) (ρ : Env) (k : Option Bool) (S2 : Store) : R Val := match k with
    | some true => (evalE Φ c ρ S2).bind fun u S3 => .of ((cmpV S3 o' w u).map .bl) S3
    | some false => .ok (.bl false) S2
    | none => .bad
def kAnd (b : E) (ρ : Env) (r : R Val) : R Val := r.bind fun v S1 => asBool v fun k => if k then evalE Φ b ρ S1 else .ok (.bl false) S1
def kOr (b : E) (ρ : Env) (r : R Val) : R Val := r.bind fun v S1 => asBool v fun k => if k then .ok (.bl true) S1 else evalE Φ b ρ S1
def kNot (r : R Val) : R Val := r.bind fun v S1 => asBool v fun k => .ok (.bl (!k)) S1
def kIte (a b : E) (ρ : Env) (r : R Val) : R Val := r.bind fun v S1 => asBool v fun k => if k then evalE Φ a ρ S1 else evalE Φ b ρ S1
def kCall (mu : Bool) (f : Nat) (r : R (List Val)) : R Val := r.bind fun vs S1 => Φ mu f vs S1
def kBlt (f : Blt) (r : R (List Val)) : R Val := r.bind fun vs S1 => .of (bltV S1 f vs) S1
def kIsi (T : String) (r : R Val) : R Val := r.bind fun v S1 => .of ((isT S1 T v).map .bl) S1
def kIx1 (i : E) (ρ : Env) (r : R Val) : R Val := r.bind fun v S1 => (evalE Φ i ρ S1).bind fun w S2 => .of (ixV S2 v w) S2
def kIx2 (v : Val) (r : R Val) : R Val := r.bind fun w S2 => .of (ixV S2 v w) S2
def kSl1 (lo hi : E) (ρ : Env) (r : R Val) : R Val := r.bind fun v S1 => (evalO Φ lo ρ S1).bind fun l S2 => (evalO Φ hi ρ S2).bind fun h S3 => .of (sliceV S3 v l h) S3
def kSl2 (v : Val) (hi : E) (ρ : Env) (r : R (Option Int)) : R Val := r.bind fun l S2 => (evalO Φ hi ρ S2).bind fun h S3 => .of (sliceV S3 v l h) S3
def kSl3 (v : Val) (l : Option Int) (r : R (Option Int)) : R Val := r.bind fun h S3 => .of (sliceV S3 v l h) S3
def kPart (r : R Val) : R (Option Int) := r.bind fun v S1 => match v with
    | .int i => .ok (some i) S1
    | _ => .bad
def kCons1 (e : E) (ρ : Env) (r : R Val) : R (List Val) := r.bind fun v S1 => (evalA Φ e ρ S1).bind fun vs S2 => .ok (v :: vs) S2
def kCons2 (v : Val) (r : R (List Val)) : R (List Val) := r.bind fun vs S2 => .ok (v :: vs) S2
def compTurn (g : Tg) (own : List (Str × Nat)) (cond elt : E) (ρ : Env) (x : Val) (S2 : Store) : R (Option Val) :=
  match setTg (wipeE ρ (own.map (·.2))) g x with
  | some ρ' => ((evalE Φ cond ρ' S2).bind fun c S3 => asBool c fun k => if k then (evalE Φ elt ρ' S3).bind fun v S4 => .ok (some v) S4 else .ok none S3).mute
  | none => .bad
def kComp1 (mu : Bool) (g : Tg) (own : List (Str × Nat)) (cond elt : E) (ρ : Env) (r : R (List Val)) : R Val := r.bind fun xs S1 => (compGo (compTurn Φ g own cond elt ρ) xs [] S1).bind fun vs S2 => mk mu vs S2
def kComp2 (mu : Bool) (r : R (List Val)) : R Val := r.bind fun vs S2 => mk mu vs S2
def kMth1 (m : Mth) (es : E) (ρ : Env) (r : R Val) : R Val := r.bind fun v S1 => if rcv S1 m v then (evalA Φ es ρ S1).bind fun vs S2 => mthV m v vs S2 else .bad
def kMth2 (m : Mth) (v : Val) (es : E) (ρ : Env) (S1 : Store) (k : Bool) : R Val := if k then (evalA Φ es ρ S1).bind fun vs S2 => mthV m v vs S2 else .bad
def kMth3 (m : Mth) (v : Val) (r : R (List Val)) : R Val := r.bind fun vs S2 => mthV m v vs S2
def kRng (r : R Val) : R (List Val) := r.bind fun v S1 => match v with
    | .int n => if -(2 ^ 62) ≤ n ∧ n < 2 ^ 62 then .ok (rangeV 0 n.toNat) S1 else .bad
    | _ => .bad
def kRng1 (b : E) (ρ : Env) (r : R Val) : R (List Val) := r.bind fun v S1 => (evalE Φ b ρ S1).bind fun w S2 => rngR v w S2
def kRng2 (v : Val) (r : R Val) : R (List Val) := r.bind fun w S2 => rngR v w S2
def kEnum (r : R Val) : R (List Val) := r.bind fun v S1 => match v with
    | .lst vs => .ok (pairs 0 vs) S1
    | _ => .bad
def kZip1 (b : E) (ρ : Env) (r : R Val) : R (List Val) := r.bind fun v S1 => (evalE Φ b ρ S1).bind fun w S2 => zipR v w S2
def kZip2 (v : Val) (r : R Val) : R (List Val) := r.bind fun w S2 => zipR v w S2
def kVals (r : R Val) : R (List Val) := r.bind fun v S1 => match v with
    | .tup vs => .ok vs S1
    | .lst vs => .ok vs S1
    | _ => .bad
/-! statements -/
def kSeq (r : St) (o : Out) : Out := o.then fun ρ1 S1 => execS Φ W r ρ1 S1
def kExpr (ρ : Env) (r : R Val) : Out := r.go fun _ S1 => .nxt ρ S1
def kAsg (i : Nat) (ρ : Env) (r : R Val) : Out := r.go fun v S1 => .nxt (ρ.set i (some v)) S1
def kPar1 (i j : Nat) (b : E) (ρ : Env) (r : R Val) : Out := r.go fun v S1 => (evalE Φ b ρ S1).go fun w S2 => .nxt ((ρ.set i (some v)).set j (some w)) S2
def kPar2 (i j : Nat) (v : Val) (ρ : Env) (r : R Val) : Out := r.go fun w S2 => .nxt ((ρ.set i (some v)).set j (some w)) S2
def kUnp (is : List Nat) (ρ : Env) (r : R Val) : Out := r.go fun v S1 => match setTg ρ (.tp is) v with
    | some ρ1 => .nxt ρ1 S1
    | none => .bad
def kUnp2 (S1 : Store) (o : Option Env) : Out := match o with
    | some ρ1 => .nxt ρ1 S1
    | none => .bad
def kSub1 (o i : E) (ρ : Env) (r : R Val) : Out := r.go fun v S1 => (evalE Φ o ρ S1).go fun ov S2 => (evalE Φ i ρ S2).go fun iv S3 => match storeSub S3 ov iv v with
    | some S4 => .nxt ρ S4
    | none => .bad
def kSub2 (v : Val) (i : E) (ρ : Env) (r : R Val) : Out := r.go fun ov S2 => (evalE Φ i ρ S2).go fun iv S3 => match storeSub S3 ov iv v with
    | some S4 => .nxt ρ S4
    | none => .bad
def kSub3 (v ov : Val) (ρ : Env) (r : R Val) : Out := r.go fun iv S3 => match storeSub S3 ov iv v with
    | some S4 => .nxt ρ S4
    | none => .bad
def kSub4 (ρ : Env) (o : Option Store) : Out := match o with
    | some S4 => .nxt ρ S4
    | none => .bad
def kIf (a b : St) (ρ : Env) (r : R Val) : Out := r.go fun v S1 => asB v fun k => if k then execS Φ W a ρ S1 else execS Φ W b ρ S1
def kRet (r : R Val) : Out := r.go fun v S1 => .ret v S1
def forS (g : Tg) (b : St) (xs : List Val) (ρ : Env) (S : Store) : Out := forGo g (fun ρ1 S2 => execS Φ W b ρ1 S2) xs ρ S
def kFor (g : Tg) (b : St) (ρ : Env) (r : R (List Val)) : Out := r.go fun xs S1 => forS Φ W g b xs ρ S1
def whileS (t : E) (b : St) (k : Nat) (ρ : Env) (S : Store) : Out := whileGo (fun ρ1 S1 => evalE Φ t ρ1 S1) (fun ρ1 S1 => execS Φ W b ρ1 S1) k ρ S
/-- behind a turn -/
def kTurn (g : Tg) (b : St) (xs : List Val) (o : Out) : Out := match o with
    | .nxt ρ2 S2 => forS Φ W g b xs ρ2 S2
    | .cnt ρ2 S2 => forS Φ W g b xs ρ2 S2
    | .brk ρ2 S2 => .nxt ρ2 S2
    | .ret v S2 => .ret v S2
    | .ex c S2 => .ex c S2
    | .bad => .bad
def kForSet (g : Tg) (b : St) (xs : List Val) (S : Store) (o : Option Env) : Out := match o with
    | some ρ1 => kTurn Φ W g b xs (execS Φ W b ρ1 S)
    | none => .bad
def kWh1 (t : E) (b : St) (k : Nat) (ρ : Env) (r : R Val) : Out := r.go fun v S1 => asB v fun c => if c then match execS Φ W b ρ S1 with
      | .nxt ρ2 S2 => whileS Φ W t b k ρ2 S2
      | .cnt ρ2 S2 => whileS Φ W t b k ρ2 S2
      | .brk ρ2 S2 => .nxt ρ2 S2
      | .ret v S2 => .ret v S2
      | .ex c S2 => .ex c S2
      | .bad => .bad
    else .nxt ρ S1
def kWh2 (t : E) (b : St) (k : Nat) (o : Out) : Out := match o with
      | .nxt ρ2 S2 => whileS Φ W t b k ρ2 S2
      | .cnt ρ2 S2 => whileS Φ W t b k ρ2 S2
      | .brk ρ2 S2 => .nxt ρ2 S2
      | .ret v S2 => .ret v S2
      | .ex c S2 => .ex c S2
      | .bad => .bad
end
section
variable {Φ : Bool → Nat → List Val → Store → R Val} {W : Nat} {ρ : Env} {S : Store} {y : Option Val}
/-! expressions: only where the slots are written out -/
theorem m_var (i : Nat) : evalE Φ (.var i) (y :: ρ) S = match (y :: ρ)[i]? with
    | some (some v) => .ok v S
    | _ => .bad := rfl
theorem m_non : evalE Φ .non (y :: ρ) S = .ok .non S := rfl
theorem m_yes : evalE Φ .yes (y :: ρ) S = .ok (.bl true) S := rfl
theorem m_bl (b : Bool) : evalE Φ (.bl b) (y :: ρ) S = .ok (.bl b) S := rfl
theorem m_int (i : Int) : evalE Φ (.int i) (y :: ρ) S = .ok (.int i) S := rfl
theorem m_str (s : Str) : evalE Φ (.str s) (y :: ρ) S = .ok (.str s) S := rfl
theorem m_tup (es : E) : evalE Φ (.tup es) (y :: ρ) S = kTup (evalA Φ es (y :: ρ) S) := by
  show (evalA Φ es (y :: ρ) S).bind _ = _
  cases evalA Φ es (y :: ρ) S <;> rfl
theorem m_lst (mu : Bool) (es : E) : evalE Φ (.lst mu es) (y :: ρ) S = kLst mu (evalA Φ es (y :: ρ) S) := by
  show (evalA Φ es (y :: ρ) S).bind _ = _
  cases evalA Φ es (y :: ρ) S <;> rfl
theorem m_bin (o : Bop) (a b : E) : evalE Φ (.bin o a b) (y :: ρ) S = kBin1 Φ o b (y :: ρ) (evalE Φ a (y :: ρ) S) := rfl
theorem m_neg (a : E) : evalE Φ (.neg a) (y :: ρ) S = kNeg (evalE Φ a (y :: ρ) S) := rfl
theorem m_cmp (o : Cop) (a b : E) : evalE Φ (.cmp o a b) (y :: ρ) S = kCmp1 Φ o b (y :: ρ) (evalE Φ a (y :: ρ) S) := rfl
theorem m_chain (o o' : Cop) (a b c : E) : evalE Φ (.chain o o' a b c) (y :: ρ) S = kCh1 Φ o o' b c (y :: ρ) (evalE Φ a (y :: ρ) S) := rfl
theorem m_and (a b : E) : evalE Φ (.and a b) (y :: ρ) S = kAnd Φ b (y :: ρ) (evalE Φ a (y :: ρ) S) := rfl
theorem m_or (a b : E) : evalE Φ (.or a b) (y :: ρ) S = kOr Φ b (y :: ρ) (evalE Φ a (y :: ρ) S) := rfl
theorem m_not (a : E) : evalE Φ (.not a) (y :: ρ) S = kNot (evalE Φ a (y :: ρ) S) := rfl
theorem m_ite (t a b : E) : evalE Φ (.ite t a b) (y :: ρ) S = kIte Φ a b (y :: ρ) (evalE Φ t (y :: ρ) S) := rfl
theorem m_call (mu : Bool) (f : Nat) (es : E) : evalE Φ (.call mu f es) (y :: ρ) S = kCall Φ mu f (evalA Φ es (y :: ρ) S) := rfl
theorem m_blt (f : Blt) (es : E) : evalE Φ (.blt f es) (y :: ρ) S = kBlt f (evalA Φ es (y :: ρ) S) := rfl
theorem m_isi (a : E) (T : String) : evalE Φ (.isi a T) (y :: ρ) S = kIsi T (evalE Φ a (y :: ρ) S) := rfl
theorem m_ix (a i : E) : evalE Φ (.ix a i) (y :: ρ) S = kIx1 Φ i (y :: ρ) (evalE Φ a (y :: ρ) S) := rfl
theorem m_sl (a lo hi : E) : evalE Φ (.sl a lo hi) (y :: ρ) S = kSl1 Φ lo hi (y :: ρ) (evalE Φ a (y :: ρ) S) := rfl
theorem m_comp (mu : Bool) (g : Tg) (own : List (Str × Nat)) (it cond elt : E) : evalE Φ (.comp mu g own it cond elt) (y :: ρ) S = kComp1 Φ mu g own cond elt (y :: ρ) (evalI Φ it (y :: ρ) S) := rfl
theorem m_mth (m : Mth) (o es : E) : evalE Φ (.mth m o es) (y :: ρ) S = kMth1 Φ m es (y :: ρ) (evalE Φ o (y :: ρ) S) := rfl
theorem m_anil : evalA Φ .nil (y :: ρ) S = .ok [] S := rfl
theorem m_acons (e r : E) : evalA Φ (.cons e r) (y :: ρ) S = kCons1 Φ r (y :: ρ) (evalE Φ e (y :: ρ) S) := rfl
theorem m_onil : evalO Φ .nil (y :: ρ) S = .ok none S := rfl
theorem m_part (e : E) : evalO Φ (.part e) (y :: ρ) S = kPart (evalE Φ e (y :: ρ) S) := rfl
theorem m_rng (a : E) : evalI Φ (.rng a) (y :: ρ) S = kRng (evalE Φ a (y :: ρ) S) := rfl
theorem m_rng2 (a b : E) : evalI Φ (.rng2 a b) (y :: ρ) S = kRng1 Φ b (y :: ρ) (evalE Φ a (y :: ρ) S) := rfl
theorem m_enum (a : E) : evalI Φ (.enum a) (y :: ρ) S = kEnum (evalE Φ a (y :: ρ) S) := rfl
theorem m_zip (a b : E) : evalI Φ (.zip a b) (y :: ρ) S = kZip1 Φ b (y :: ρ) (evalE Φ a (y :: ρ) S) := rfl
theorem m_vals (a : E) : evalI Φ (.vals a) (y :: ρ) S = kVals (evalE Φ a (y :: ρ) S) := rfl
/-! behind a part -/
theorem k_tup (vs : List Val) : kTup (.ok vs S) = if vs.length ≤ lim then .ok (.tup vs) S else .bad := rfl
theorem k_lst (mu : Bool) (vs : List Val) : kLst mu (.ok vs S) = if vs.length ≤ lim then mk mu vs S else .bad := rfl
theorem k_mkT (vs : List Val) : mk true vs S = .ok (.loc S.length) (S ++ [.lst vs]) := rfl
theorem k_mkF (vs : List Val) : mk false vs S = .ok (.lst vs) S := rfl
theorem k_bin1 (o : Bop) (b : E) (v : Val) (ρ : Env) : kBin1 Φ o b ρ (.ok v S) = kBin2 o v (evalE Φ b ρ S) := rfl
theorem k_bin2 (o : Bop) (v w : Val) : kBin2 o v (.ok w S) = .of (binV o v w) S := rfl
theorem k_of (v : Val) : R.of (some v) S = .ok v S := rfl
theorem k_neg (i : Int) : kNeg (.ok (.int i) S) = .ok (.int (-i)) S := rfl
theorem k_cmp1 (o : Cop) (b : E) (v : Val) (ρ : Env) : kCmp1 Φ o b ρ (.ok v S) = kCmp2 o v (evalE Φ b ρ S) := rfl
theorem k_cmp2 (o : Cop) (v w : Val) : kCmp2 o v (.ok w S) = .of ((cmpV S o v w).map .bl) S := rfl
theorem k_ch1 (o o' : Cop) (b c : E) (v : Val) (ρ : Env) : kCh1 Φ o o' b c ρ (.ok v S) = kCh2 Φ o o' v c ρ (evalE Φ b ρ S) := rfl
theorem k_ch2 (o o' : Cop) (v w : Val) (c : E) (ρ : Env) : kCh2 Φ o o' v c ρ (.ok w S) = kCh3 Φ o' w c ρ (cmpV S o v w) S := rfl
theorem k_ch3T (o' : Cop) (w : Val) (c : E) (ρ : Env) : kCh3 Φ o' w c ρ (some true) S = kCmp2 o' w (evalE Φ c ρ S) := rfl
theorem k_ch3F (o' : Cop) (w : Val) (c : E) (ρ : Env) : kCh3 Φ o' w c ρ (some false) S = .ok (.bl false) S := rfl
theorem k_andT (b : E) (ρ : Env) : kAnd Φ b ρ (.ok (.bl true) S) = evalE Φ b ρ S := rfl
theorem k_andF (b : E) (ρ : Env) : kAnd Φ b ρ (.ok (.bl false) S) = .ok (.bl false) S := rfl
theorem k_orT (b : E) (ρ : Env) : kOr Φ b ρ (.ok (.bl true) S) = .ok (.bl true) S := rfl
theorem k_orF (b : E) (ρ : Env) : kOr Φ b ρ (.ok (.bl false) S) = evalE Φ b ρ S := rfl
theorem k_not (k : Bool) : kNot (.ok (.bl k) S) = .ok (.bl (!k)) S := rfl
theorem k_iteT (a b : E) (ρ : Env) : kIte Φ a b ρ (.ok (.bl true) S) = evalE Φ a ρ S := rfl
theorem k_iteF (a b : E) (ρ : Env) : kIte Φ a b ρ (.ok (.bl false) S) = evalE Φ b ρ S := rfl
theorem k_call (mu : Bool) (f : Nat) (vs : List Val) : kCall Φ mu f (.ok vs S) = Φ mu f vs S := rfl
theorem k_blt (f : Blt) (vs : List Val) : kBlt f (.ok vs S) = .of (bltV S f vs) S := rfl
theorem k_isi (T : String) (v : Val) : kIsi T (.ok v S) = .of ((isT S T v).map .bl) S := rfl
theorem k_ix1 (i : E) (v : Val) (ρ : Env) : kIx1 Φ i ρ (.ok v S) = kIx2 v (evalE Φ i ρ S) := rfl
theorem k_ix2 (v w : Val) : kIx2 v (.ok w S) = .of (ixV S v w) S := rfl
theorem k_sl1 (lo hi : E) (v : Val) (ρ : Env) : kSl1 Φ lo hi ρ (.ok v S) = kSl2 Φ v hi ρ (evalO Φ lo ρ S) := rfl
theorem k_sl2 (v : Val) (hi : E) (l : Option Int) (ρ : Env) : kSl2 Φ v hi ρ (.ok l S) = kSl3 v l (evalO Φ hi ρ S) := rfl
theorem k_sl3 (v : Val) (l h : Option Int) : kSl3 v l (.ok h S) = .of (sliceV S v l h) S := rfl
theorem k_part (i : Int) : kPart (.ok (.int i) S) = .ok (some i) S := rfl
theorem k_cons1 (e : E) (v : Val) (ρ : Env) : kCons1 Φ e ρ (.ok v S) = kCons2 v (evalA Φ e ρ S) := rfl
theorem k_cons2 (v : Val) (vs : List Val) : kCons2 v (.ok vs S) = .ok (v :: vs) S := rfl
theorem k_comp1 (mu : Bool) (g : Tg) (own : List (Str × Nat)) (cond elt : E) (xs : List Val) (ρ : Env) : kComp1 Φ mu g own cond elt ρ (.ok xs S) = kComp2 mu (compGo (compTurn Φ g own cond elt ρ) xs [] S) := rfl
theorem k_comp2 (mu : Bool) (vs : List Val) : kComp2 mu (.ok vs S) = mk mu vs S := rfl
theorem k_mth1 (m : Mth) (es : E) (v : Val) (ρ : Env) : kMth1 Φ m es ρ (.ok v S) = kMth2 Φ m v es ρ S (rcv S m v) := rfl
theorem k_mth2 (m : Mth) (v : Val) (es : E) (ρ : Env) : kMth2 Φ m v es ρ S true = kMth3 m v (evalA Φ es ρ S) := rfl
theorem k_mth3 (m : Mth) (v : Val) (vs : List Val) : kMth3 m v (.ok vs S) = mthV m v vs S := rfl
theorem k_rng (n : Int) : kRng (.ok (.int n) S) = if -(2 ^ 62) ≤ n ∧ n < 2 ^ 62 then .ok (rangeV 0 n.toNat) S else .bad := rfl
theorem k_rng1 (b : E) (v : Val) (ρ : Env) : kRng1 Φ b ρ (.ok v S) = kRng2 v (evalE Φ b ρ S) := rfl
theorem k_rng2 (lo hi : Int) : kRng2 (.int lo) (.ok (.int hi) S) = if -(2 ^ 62) ≤ lo ∧ lo < 2 ^ 62 ∧ -(2 ^ 62) ≤ hi ∧ hi < 2 ^ 62 then .ok (rangeV lo (hi - lo).toNat) S else .bad := rfl
theorem k_enum (vs : List Val) : kEnum (.ok (.lst vs) S) = .ok (pairs 0 vs) S := rfl
theorem k_zip1 (b : E) (v : Val) (ρ : Env) : kZip1 Φ b ρ (.ok v S) = kZip2 v (evalE Φ b ρ S) := rfl
theorem k_zipL (vs ws : List Val) : kZip2 (.lst vs) (.ok (.lst ws) S) = .ok (zipV vs ws) S := rfl
theorem k_zipT (vs ws : List Val) : kZip2 (.tup vs) (.ok (.tup ws) S) = .ok (zipV vs ws) S := rfl
theorem k_valsT (vs : List Val) : kVals (.ok (.tup vs) S) = .ok vs S := rfl
theorem k_valsL (vs : List Val) : kVals (.ok (.lst vs) S) = .ok vs S := rfl
/-! statements -/
theorem s_nil : execS Φ W .nil (y :: ρ) S = .nxt (y :: ρ) S := rfl
theorem s_seq (a b : St) : execS Φ W (.seq a b) (y :: ρ) S = kSeq Φ W b (execS Φ W a (y :: ρ) S) := rfl
theorem s_expr (e : E) : execS Φ W (.expr e) (y :: ρ) S = kExpr (y :: ρ) (evalE Φ e (y :: ρ) S) := rfl
theorem s_asg (i : Nat) (e : E) : execS Φ W (.asg i e) (y :: ρ) S = kAsg i (y :: ρ) (evalE Φ e (y :: ρ) S) := rfl
theorem s_par (i j : Nat) (a b : E) : execS Φ W (.par i j a b) (y :: ρ) S = kPar1 Φ i j b (y :: ρ) (evalE Φ a (y :: ρ) S) := rfl
theorem s_unp (is : List Nat) (e : E) : execS Φ W (.unp is e) (y :: ρ) S = kUnp is (y :: ρ) (evalE Φ e (y :: ρ) S) := rfl
theorem s_sub (o i e : E) : execS Φ W (.sub o i e) (y :: ρ) S = kSub1 Φ o i (y :: ρ) (evalE Φ e (y :: ρ) S) := rfl
theorem s_if (t : E) (a b : St) : execS Φ W (.ite t a b) (y :: ρ) S = kIf Φ W a b (y :: ρ) (evalE Φ t (y :: ρ) S) := rfl
theorem s_for (g : Tg) (it : E) (b : St) : execS Φ W (.for_ g it b) (y :: ρ) S = kFor Φ W g b (y :: ρ) (evalI Φ it (y :: ρ) S) := rfl
theorem s_while (t : E) (b : St) : execS Φ W (.while_ t b) (y :: ρ) S = whileS Φ W t b W (y :: ρ) S := rfl
theorem s_ret (e : E) : execS Φ W (.ret e) (y :: ρ) S = kRet (evalE Φ e (y :: ρ) S) := rfl
theorem s_retN : execS Φ W .retN (y :: ρ) S = .ret .non S := rfl
theorem s_pass : execS Φ W .pass (y :: ρ) S = .nxt (y :: ρ) S := rfl
theorem s_brk : execS Φ W .brk (y :: ρ) S = .brk (y :: ρ) S := rfl
theorem s_cnt : execS Φ W .cnt (y :: ρ) S = .cnt (y :: ρ) S := rfl
theorem k_seqN (r : St) (ρ : Env) : kSeq Φ W r (.nxt ρ S) = execS Φ W r ρ S := rfl
theorem k_seqR (r : St) (v : Val) : kSeq Φ W r (.ret v S) = .ret v S := rfl
theorem k_seqB (r : St) (ρ : Env) : kSeq Φ W r (.brk ρ S) = .brk ρ S := rfl
theorem k_seqC (r : St) (ρ : Env) : kSeq Φ W r (.cnt ρ S) = .cnt ρ S := rfl
theorem k_expr (v : Val) (ρ : Env) : kExpr ρ (.ok v S) = .nxt ρ S := rfl
theorem k_asg (i : Nat) (v : Val) (ρ : Env) : kAsg i ρ (.ok v S) = .nxt (ρ.set i (some v)) S := rfl
theorem k_par1 (i j : Nat) (b : E) (v : Val) (ρ : Env) : kPar1 Φ i j b ρ (.ok v S) = kPar2 i j v ρ (evalE Φ b ρ S) := rfl
theorem k_par2 (i j : Nat) (v w : Val) (ρ : Env) : kPar2 i j v ρ (.ok w S) = .nxt ((ρ.set i (some v)).set j (some w)) S := rfl
theorem k_unp (is : List Nat) (v : Val) (ρ : Env) : kUnp is ρ (.ok v S) = kUnp2 S (setTg ρ (.tp is) v) := rfl
theorem k_unp2 (ρ : Env) : kUnp2 S (some ρ) = .nxt ρ S := rfl
theorem k_sub1 (o i : E) (v : Val) (ρ : Env) : kSub1 Φ o i ρ (.ok v S) = kSub2 Φ v i ρ (evalE Φ o ρ S) := rfl
theorem k_sub2 (v ov : Val) (i : E) (ρ : Env) : kSub2 Φ v i ρ (.ok ov S) = kSub3 v ov ρ (evalE Φ i ρ S) := rfl
theorem k_sub3 (v ov iv : Val) (ρ : Env) : kSub3 v ov ρ (.ok iv S) = kSub4 ρ (storeSub S ov iv v) := rfl
theorem k_sub4 (ρ : Env) : kSub4 ρ (some S) = .nxt ρ S := rfl
theorem k_ifT (a b : St) (ρ : Env) : kIf Φ W a b ρ (.ok (.bl true) S) = execS Φ W a ρ S := rfl
theorem k_ifF (a b : St) (ρ : Env) : kIf Φ W a b ρ (.ok (.bl false) S) = execS Φ W b ρ S := rfl
theorem k_ret (v : Val) : kRet (.ok v S) = .ret v S := rfl
theorem k_for (g : Tg) (b : St) (xs : List Val) (ρ : Env) : kFor Φ W g b ρ (.ok xs S) = forS Φ W g b xs ρ S := rfl
theorem f_nil (g : Tg) (b : St) (ρ : Env) : forS Φ W g b [] ρ S = .nxt ρ S := rfl
theorem f_cons (g : Tg) (b : St) (x : Val) (xs : List Val) (ρ : Env) : forS Φ W g b (x :: xs) ρ S = kForSet Φ W g b xs S (setTg ρ g x) := rfl
theorem k_forSet (g : Tg) (b : St) (xs : List Val) (ρ : Env) : kForSet Φ W g b xs S (some ρ) = kTurn Φ W g b xs (execS Φ W b ρ S) := rfl
theorem k_turnN (g : Tg) (b : St) (xs : List Val) (ρ : Env) : kTurn Φ W g b xs (.nxt ρ S) = forS Φ W g b xs ρ S := rfl
theorem k_turnC (g : Tg) (b : St) (xs : List Val) (ρ : Env) : kTurn Φ W g b xs (.cnt ρ S) = forS Φ W g b xs ρ S := rfl
theorem k_turnB (g : Tg) (b : St) (xs : List Val) (ρ : Env) : kTurn Φ W g b xs (.brk ρ S) = .nxt ρ S := rfl
theorem k_turnR (g : Tg) (b : St) (xs : List Val) (v : Val) : kTurn Φ W g b xs (.ret v S) = .ret v S := rfl
theorem w_succ (t : E) (b : St) (k : Nat) (ρ : Env) : whileS Φ W t b (k + 1) ρ S = kWh1 Φ W t b k ρ (evalE Φ t ρ S) := rfl
theorem k_whT (t : E) (b : St) (k : Nat) (ρ : Env) : kWh1 Φ W t b k ρ (.ok (.bl true) S) = kWh2 Φ W t b k (execS Φ W b ρ S) := rfl
theorem k_whF (t : E) (b : St) (k : Nat) (ρ : Env) : kWh1 Φ W t b k ρ (.ok (.bl false) S) = .nxt ρ S := rfl
theorem k_wh2N (t : E) (b : St) (k : Nat) (ρ : Env) : kWh2 Φ W t b k (.nxt ρ S) = whileS Φ W t b k ρ S := rfl
theorem k_wh2C (t : E) (b : St) (k : Nat) (ρ : Env) : kWh2 Φ W t b k (.cnt ρ S) = whileS Φ W t b k ρ S := rfl
theorem k_wh2B (t : E) (b : St) (k : Nat) (ρ : Env) : kWh2 Φ W t b k (.brk ρ S) = .nxt ρ S := rfl
theorem k_wh2R (t : E) (b : St) (k : Nat) (v : Val) : kWh2 Φ W t b k (.ret v S) = .ret v S := rfl
theorem o_nxt (ρ : Env) : (Out.nxt ρ S).res = .ok .non S := rfl
theorem o_ret (v : Val) : (Out.ret v S).res = .ok v S := rfl
/-! values -/
theorem v_add (i j : Int) : binV .add (.int i) (.int j) = some (.int (i + j)) := rfl
theorem v_sub (i j : Int) : binV .sub (.int i) (.int j) = some (.int (i - j)) := rfl
theorem v_mul (i j : Int) (h : mulOk i j = true) : binV .mul (.int i) (.int j) = some (.int (i * j)) := by
  show (match (if mulOk i j then some (i * j) else none) with
    | some k => some (Val.int k)
    | none => none) = _
  rw [if_pos h]
theorem v_fdiv (i j : Int) (h : 0 < j) (h2 : j.natAbs.log2 < 9000) : binV .fdiv (.int i) (.int j) = some (.int (i / j)) := by
  show (match (if 0 < j ∧ j.natAbs.log2 < 9000 then some (i / j) else none) with
    | some k => some (Val.int k)
    | none => none) = _
  rw [if_pos ⟨h, h2⟩]
theorem v_mod (i j : Int) (h : 0 < j) : binV .mod (.int i) (.int j) = some (.int (i % j)) := by
  show (match (if 0 < j then some (i % j) else none) with
    | some k => some (Val.int k)
    | none => none) = _
  rw [if_pos h]
theorem v_pow (i j : Int) (h : 0 ≤ j ∧ j ≤ 1000000 ∧ i.natAbs < 2 ^ 64) : binV .pow (.int i) (.int j) = some (.int (i ^ j.toNat)) := by
  show (match (if 0 ≤ j ∧ j ≤ 1000000 ∧ i.natAbs < 2 ^ 64 then some (i ^ j.toNat) else none) with
    | some k => some (Val.int k)
    | none => none) = _
  rw [if_pos h]
theorem v_lt (i j : Int) : cmpV S .lt (.int i) (.int j) = some (decide (i < j)) := rfl
theorem v_le (i j : Int) : cmpV S .le (.int i) (.int j) = some (decide (i ≤ j)) := rfl
theorem v_gt (i j : Int) : cmpV S .gt (.int i) (.int j) = some (decide (j < i)) := rfl
theorem v_ge (i j : Int) : cmpV S .ge (.int i) (.int j) = some (decide (j ≤ i)) := rfl
theorem sh_int (i : Int) : SeqAt.shaped (.int i) = true := rfl
theorem sh_bl (i : Bool) : SeqAt.shaped (.bool i) = true := rfl
theorem sh_non : SeqAt.shaped .none = true := rfl
theorem v_eqI (i j : Int) : cmpV S .eq (.int i) (.int j) = some (i == j) := by
  show eqV (.int i) (.int j) = _
  unfold eqV
  simp only [toD, sh_int, Bool.and_self, if_true, PyData.eqv]
theorem v_neI (i j : Int) : cmpV S .ne (.int i) (.int j) = some (!(i == j)) := by
  show (match eqV (.int i) (.int j) with
    | some k => some (!k)
    | none => none) = _
  unfold eqV
  simp only [toD, sh_int, Bool.and_self, if_true, PyData.eqv]
theorem v_eqB (i j : Bool) : cmpV S .eq (.bl i) (.bl j) = some (i == j) := by
  show eqV (.bl i) (.bl j) = _
  unfold eqV
  simp only [toD, sh_bl, Bool.and_self, if_true, PyData.eqv]
theorem v_neB (i j : Bool) : cmpV S .ne (.bl i) (.bl j) = some (!(i == j)) := by
  show (match eqV (.bl i) (.bl j) with
    | some k => some (!k)
    | none => none) = _
  unfold eqV
  simp only [toD, sh_bl, Bool.and_self, if_true, PyData.eqv]
theorem v_isB (i j : Bool) : cmpV S .is (.bl i) (.bl j) = some (decide (i = j)) := rfl
theorem v_isnotB (i j : Bool) : cmpV S .isnot (.bl i) (.bl j) = some (!decide (i = j)) := rfl
theorem v_lenT (vs : List Val) : bltV S .len [.tup vs] = some (.int vs.length) := rfl
theorem v_lenL (vs : List Val) : bltV S .len [.lst vs] = some (.int vs.length) := rfl
theorem v_abs (i : Int) : bltV S .abs [.int i] = some (.int (if i < 0 then -i else i)) := rfl
theorem v_max2 (i j : Int) : bltV S .max2 [.int i, .int j] = some (.int (if j > i then j else i)) := rfl
theorem v_min2 (i j : Int) : bltV S .min2 [.int i, .int j] = some (.int (if j < i then j else i)) := rfl
theorem v_ixT (vs : List Val) (k : Int) : ixV S (.tup vs) (.int k) = L2.atI vs k := rfl
theorem v_ixL (vs : List Val) (k : Int) : ixV S (.lst vs) (.int k) = L2.atI vs k := rfl
theorem v_ixS (n : Nat) (vs : List Val) (k : Int) (h : S[n]? = some (.lst vs)) : ixV S (.loc n) (.int k) = L2.atI vs k := by
  unfold ixV
  simp only [items, h]
theorem at_nat {α : Type} (xs : List α) (n : Nat) : L2.atI xs (n : Int) = xs[n]? := by
  unfold L2.atI L2.ixN
  by_cases h : n < xs.length
  · rw [if_pos (by omega), if_pos (by omega)]
    rfl
  · rw [if_pos (by omega), if_neg (by omega), List.getElem?_eq_none (by omega)]
    rfl
theorem at_0 {α : Type} (xs : List α) : L2.atI xs 0 = xs[0]? := at_nat xs 0
theorem at_1 {α : Type} (xs : List α) : L2.atI xs 1 = xs[1]? := at_nat xs 1
theorem at_2 {α : Type} (xs : List α) : L2.atI xs 2 = xs[2]? := at_nat xs 2
theorem st_sub (n : Nat) (k : Nat) (vs : List Val) (v : Val) (h : S[n]? = some (.lst vs)) (hk : k < vs.length) : storeSub S (.loc n) (.int (k : Int)) v = some (S.set n (.lst (vs.set k v))) := by
  unfold storeSub
  simp only [h]
  have e : L2.ixN vs.length (k : Int) = some k := by
    unfold L2.ixN
    rw [if_pos (by omega), if_pos (by omega)]
    rfl
  rw [e]
/-! ### calls -/
theorem mapLoc_free_aux (g : Nat → Option Val) : (∀ v : Val, v.free = true → mapLoc g v = some v) := by
  intro v
  exact go v
where
  go : ∀ v : Val, v.free = true → mapLoc g v = some v
    | .non, _ => rfl
    | .bl _, _ => rfl
    | .int _, _ => rfl
    | .str _, _ => rfl
    | .tup vs, h => by
      have h' : Val.frees vs = true := h
      unfold mapLoc
      rw [gos vs h']
    | .lst vs, h => by
      have h' : Val.frees vs = true := h
      unfold mapLoc
      rw [gos vs h']
    | .loc _, h => by cases h
  gos : ∀ vs : List Val, Val.frees vs = true → mapLocs g vs = some vs
    | [], _ => rfl
    | v :: vs, h => by
      have h' : (v.free && Val.frees vs) = true := h
      rw [Bool.and_eq_true] at h'
      unfold mapLocs
      rw [go v h'.1, gos vs h'.2]
theorem frz_free (S : Store) (kp : Nat → Bool) (f : Nat) (v : Val) (h : v.free = true) : frz S kp f v = some v := by
  cases f with
  | zero => exact mapLoc_free_aux _ v h
  | succ f => exact mapLoc_free_aux _ v h
theorem allSome_free (S : Store) (kp : Nat → Bool) (f : Nat) : ∀ vs : List Val, Val.frees vs = true → allSome (frz S kp f) vs = some vs
  | [], _ => rfl
  | v :: vs, h => by
    have h' : (v.free && Val.frees vs) = true := h
    rw [Bool.and_eq_true] at h'
    unfold allSome
    rw [frz_free S kp f v h'.1, allSome_free S kp f vs h'.2]
theorem frzO_free (S : Store) (kp : Nat → Bool) (vs : List Val) (h : Val.frees vs = true) : frzO S kp (.lst vs) = some (.lst vs) := by
  show (match allSome (frz S kp 6) vs with
    | some ws => some (Obj.lst ws)
    | none => none) = _
  rw [allSome_free S kp 6 vs h]
theorem args_free : ∀ args : List Val, Val.frees args = true → argsOk args = true ∧ argLocs args = [] ∧ ∀ k, reArgs k args = args
  | [], _ => ⟨rfl, rfl, fun _ => rfl⟩
  | v :: r, h => by
    have h' : (v.free && Val.frees r) = true := h
    rw [Bool.and_eq_true] at h'
    obtain ⟨i1, i2, i3⟩ := args_free r h'.2
    cases v with
    | loc n => cases h'.1
    | non => exact ⟨by show (true && argsOk r) = true; rw [i1]; rfl, i2, fun k => by show Val.non :: reArgs k r = _; rw [i3]⟩
    | bl b => exact ⟨by show (true && argsOk r) = true; rw [i1]; rfl, i2, fun k => by show Val.bl b :: reArgs k r = _; rw [i3]⟩
    | int b => exact ⟨by show (true && argsOk r) = true; rw [i1]; rfl, i2, fun k => by show Val.int b :: reArgs k r = _; rw [i3]⟩
    | str b => exact ⟨by show (true && argsOk r) = true; rw [i1]; rfl, i2, fun k => by show Val.str b :: reArgs k r = _; rw [i3]⟩
    | tup vs => exact ⟨by show ((Val.tup vs).free && argsOk r) = true; rw [i1, h'.1]; rfl, i2, fun k => by show Val.tup vs :: reArgs k r = _; rw [i3]⟩
    | lst vs => exact ⟨by show ((Val.lst vs).free && argsOk r) = true; rw [i1, h'.1]; rfl, i2, fun k => by show Val.lst vs :: reArgs k r = _; rw [i3]⟩
/-- a call of values that hands back a value -/
theorem call_val {Φ : Nat → List Val → Store → R Val} {f : Nat} {args : List Val} {v : Val} {S S' : Store} (hf : Val.frees args = true) (h : Φ f args [] = .ok v S') (hv : v.free = true) : callI Φ false f args S = .ok v S := by
  obtain ⟨i1, i2, i3⟩ := args_free args hf
  unfold callI
  rw [i1, i2]
  have e : getAll S [] = some [] := rfl
  simp only [List.nodup_nil, decide_true, Bool.and_self, if_true, e, freeObjs, i3, h, backs]
  have er : resV S' [] v = some v := by
    unfold resV
    cases v <;> first | exact frz_free _ _ _ _ hv | cases hv
  simp only [er]
  rfl
/-- .. a new list, to be changed no more -/
theorem call_lst {Φ : Nat → List Val → Store → R Val} {f : Nat} {args : List Val} {j : Nat} {vs : List Val} {S S' : Store} (hf : Val.frees args = true) (h : Φ f args [] = .ok (.loc j) S') (hj : S'[j]? = some (.lst vs)) (hv : Val.frees vs = true) : callI Φ false f args S = .ok (.lst vs) S := by
  obtain ⟨i1, i2, i3⟩ := args_free args hf
  unfold callI
  rw [i1, i2]
  have e : getAll S [] = some [] := rfl
  simp only [List.nodup_nil, decide_true, Bool.and_self, if_true, e, freeObjs, i3, h, backs]
  have er : resV S' [] (.loc j) = some (.lst vs) := by
    show frz S' _ 6 (.loc j) = _
    unfold frz
    show (if decide (j < 0) = true then none else match S'[j]? with
      | some (.lst vs) => match allSome (frz S' _ 5) vs with
        | some ws => some (Val.lst ws)
        | none => none
      | none => none) = _
    rw [hj]
    simp only [allSome_free _ _ _ vs hv]
    rfl
  simp only [er]
  rfl
/-- .. a new list, to be changed -/
theorem call_new {Φ : Nat → List Val → Store → R Val} {f : Nat} {args : List Val} {j : Nat} {vs : List Val} {S S' : Store} (hf : Val.frees args = true) (h : Φ f args [] = .ok (.loc j) S') (hj : S'[j]? = some (.lst vs)) (hv : Val.frees vs = true) : callI Φ true f args S = .ok (.loc S.length) (S ++ [.lst vs]) := by
  obtain ⟨i1, i2, i3⟩ := args_free args hf
  unfold callI
  rw [i1, i2]
  have e : getAll S [] = some [] := rfl
  have e2 : newLoc ([] : List Nat).length (.loc j) = some j := rfl
  simp only [List.nodup_nil, decide_true, Bool.and_self, if_true, e, freeObjs, i3, h, backs, e2, hj, frzO_free _ _ vs hv]
/-- a call whose first argument is a list of the store -/
theorem call_loc {Φ : Nat → List Val → Store → R Val} {f : Nat} {args : List Val} {n : Nat} {v : Val} {vs ws : List Val} {S S' : Store} (hf : Val.frees args = true) (hn : S[n]? = some (.lst vs)) (hvs : Val.frees vs = true)
    (h : Φ f (.loc 0 :: args) [.lst vs] = .ok v S') (h0 : S'[0]? = some (.lst ws)) (hws : Val.frees ws = true) (hv : v.free = true) : callI Φ false f (.loc n :: args) S = .ok v (S.set n (.lst ws)) := by
  obtain ⟨i1, i2, i3⟩ := args_free args hf
  have j1 : argsOk (.loc n :: args) = true := i1
  have j2 : argLocs (.loc n :: args) = [n] := by show n :: argLocs args = _; rw [i2]
  have j3 : reArgs 0 (.loc n :: args) = .loc 0 :: args := by show Val.loc 0 :: reArgs 1 args = _; rw [i3]
  unfold callI
  rw [j1, j2, j3]
  have e : getAll S [n] = some [.lst vs] := by
    unfold getAll
    rw [hn]
    rfl
  have ef : freeObjs [.lst vs] = true := by
    show (Val.frees vs && true) = true
    rw [hvs]
    rfl
  have en : decide ([n] : List Nat).Nodup = true := decide_eq_true (by simp)
  have eb : ∀ kp, backs S' kp 0 [n] S = some (S.set n (.lst ws)) := fun kp => by
    unfold backs
    rw [h0]
    simp only [frzO_free _ _ ws hws]
    rfl
  have er : resV S' [n] v = some v := by
    unfold resV
    cases v <;> first | exact frz_free _ _ _ _ hv | cases hv
  simp only [en, Bool.and_self, if_true, e, ef, h, eb, er]
  rfl
end
end Iv
/-! ### the text of the law, as words of Iv (printed by gen.py) -/
namespace Law_k30
open PySem PySem.Spec PyProof.Rows L2 Iv
def topS (i : Nat) : Stmt := PySem.Challenge.pw_ablehands_k30_fractions_told.main.body.getD i (.Pass ⟨0, 0, 0, 0⟩)
/-- divisor -/
def b0_0 : Iv.St :=
    (.seq (.par 0 1 (.var 1) (.bin .mod (.var 0) (.var 1)))
    .nil)
def b0 : Iv.St :=
    (.seq (.asg 0 (.blt .abs (.cons (.var 0) .nil)))
    (.seq (.asg 1 (.blt .abs (.cons (.var 1) .nil)))
    (.seq (.while_ (.cmp .gt (.var 1) (.int 0)) b0_0)
    (.seq (.ret (.var 0))
    .nil))))
def f0 : Fn := ⟨"divisor", ["one", "other"], ["one", "other"], b0⟩
/-- lowest -/
def b1 : Iv.St :=
    (.seq (.asg 2 (.call false 0 (.cons (.var 0) (.cons (.var 1) .nil))))
    (.seq (.ret (.tup (.cons (.bin .fdiv (.var 0) (.var 2)) (.cons (.bin .fdiv (.var 1) (.var 2)) .nil))))
    .nil))
def f1 : Fn := ⟨"lowest", ["a", "b"], ["a", "b", "common"], b1⟩
/-- plus -/
def b2 : Iv.St :=
    (.seq (.ret (.call false 1 (.cons (.bin .add (.bin .mul (.ix (.var 0) (.int 0)) (.ix (.var 1) (.int 1))) (.bin .mul (.ix (.var 1) (.int 0)) (.ix (.var 0) (.int 1)))) (.cons (.bin .mul (.ix (.var 0) (.int 1)) (.ix (.var 1) (.int 1))) .nil))))
    .nil)
def f2 : Fn := ⟨"plus", ["one", "other"], ["one", "other"], b2⟩
/-- is_less -/
def b3 : Iv.St :=
    (.seq (.ret (.cmp .lt (.bin .mul (.ix (.var 0) (.int 0)) (.ix (.var 1) (.int 1))) (.bin .mul (.ix (.var 1) (.int 0)) (.ix (.var 0) (.int 1)))))
    .nil)
def f3 : Fn := ⟨"is_less", ["one", "other"], ["one", "other"], b3⟩
/-- _law_acell -/
def b4 : Iv.St :=
    (.seq (.ite (.cmp .lt (.var 1) (.blt .len (.cons (.var 0) .nil)))
      (.seq (.ret (.ix (.var 0) (.var 1)))
      .nil)
      .nil)
    (.seq (.ret (.int 0))
    .nil))
def f4 : Fn := ⟨"_law_acell", ["script", "k"], ["script", "k"], b4⟩
/-- _law_atape -/
def b5_0 : Iv.St :=
    (.seq (.asg 4 (.bin .add (.bin .mul (.var 4) (.var 3)) (.var 5)))
    (.seq (.asg 5 (.bin .mod (.bin .add (.bin .add (.bin .mul (.var 5) (.var 5)) (.bin .mul (.int 40692) (.var 1))) (.var 6)) (.var 3)))
    .nil))
def b5 : Iv.St :=
    (.seq (.asg 2 (.call false 4 (.cons (.var 0) (.cons (.var 1) .nil))))
    (.seq (.ite (.cmp .eq (.bin .mod (.var 2) (.int 2)) (.int 0))
      (.seq (.ret (.lst true (.cons (.bin .fdiv (.var 2) (.int 2)) .nil)))
      .nil)
      .nil)
    (.seq (.asg 3 (.int 2305843009213693951))
    (.seq (.asg 4 (.int 0))
    (.seq (.asg 5 (.bin .mod (.bin .add (.bin .add (.bin .mul (.bin .mod (.var 2) (.var 3)) (.int 48271)) (.bin .mul (.int 69621) (.var 1))) (.int 11)) (.var 3)))
    (.seq (.for_ (.nm 6) (.rng (.int 18)) b5_0)
    (.seq (.ret (.lst true (.cons (.var 4) .nil)))
    .nil)))))))
def f5 : Fn := ⟨"_law_atape", ["script", "k"], ["script", "k", "cell", "p", "number", "last", "turn"], b5⟩
/-- _law_adigit -/
def b6 : Iv.St :=
    (.seq (.asg 2 (.bin .mod (.ix (.var 0) (.int 0)) (.var 1)))
    (.seq (.sub (.var 0) (.int 0) (.bin .fdiv (.ix (.var 0) (.int 0)) (.var 1)))
    (.seq (.ret (.var 2))
    .nil)))
def f6 : Fn := ⟨"_law_adigit", ["tape", "many"], ["tape", "many", "found"], b6⟩
/-- _law_awhole -/
def b7 : Iv.St :=
    (.seq (.ret (.and (.isi (.var 0) "int") (.not (.isi (.var 0) "bool"))))
    .nil)
def f7 : Fn := ⟨"_law_awhole", ["found"], ["found"], b7⟩
/-- _law_alow -/
def b8_0 : Iv.St :=
    (.seq (.par 2 3 (.var 3) (.bin .mod (.var 2) (.var 3)))
    .nil)
def b8 : Iv.St :=
    (.seq (.asg 2 (.var 0))
    (.seq (.asg 3 (.var 1))
    (.seq (.while_ (.cmp .gt (.var 3) (.int 0)) b8_0)
    (.seq (.ret (.tup (.cons (.bin .fdiv (.var 0) (.var 2)) (.cons (.bin .fdiv (.var 1) (.var 2)) .nil))))
    .nil))))
def f8 : Fn := ⟨"_law_alow", ["a", "b"], ["a", "b", "one", "other"], b8⟩
/-- _law_anumber -/
def b9 : Iv.St :=
    (.seq (.asg 1 (.call false 6 (.cons (.var 0) (.cons (.int 4) .nil))))
    (.seq (.ite (.cmp .eq (.var 1) (.int 3))
      (.seq (.ret (.bin .add (.bin .mul (.call false 6 (.cons (.var 0) (.cons (.bin .pow (.int 10) (.int 20)) .nil))) (.bin .pow (.int 10) (.int 20))) (.call false 6 (.cons (.var 0) (.cons (.int 1000) .nil)))))
      .nil)
      .nil)
    (.seq (.ite (.cmp .eq (.var 1) (.int 2))
      (.seq (.ret (.bin .mul (.int 60) (.call false 6 (.cons (.var 0) (.cons (.int 50) .nil)))))
      .nil)
      .nil)
    (.seq (.ret (.call false 6 (.cons (.var 0) (.cons (.int 8) .nil))))
    .nil))))
def f9 : Fn := ⟨"_law_anumber", ["tape"], ["tape", "kind"], b9⟩
/-- _law_acommon -/
def b10_0 : Iv.St :=
    (.seq (.par 0 1 (.var 1) (.bin .mod (.var 0) (.var 1)))
    .nil)
def b10 : Iv.St :=
    (.seq (.asg 0 (.blt .abs (.cons (.var 0) .nil)))
    (.seq (.while_ (.cmp .gt (.var 1) (.int 0)) b10_0)
    (.seq (.ret (.var 0))
    .nil)))
def f10 : Fn := ⟨"_law_acommon", ["one", "other"], ["one", "other"], b10⟩
/-- _law_ais_low -/
def b11 : Iv.St :=
    (.seq (.ite (.or (.not (.isi (.var 0) "tuple")) (.or (.cmp .ne (.blt .len (.cons (.var 0) .nil)) (.int 2)) (.or (.not (.call false 7 (.cons (.ix (.var 0) (.int 0)) .nil))) (.not (.call false 7 (.cons (.ix (.var 0) (.int 1)) .nil))))))
      (.seq (.ret (.bl false))
      .nil)
      .nil)
    (.seq (.ret (.and (.cmp .ge (.ix (.var 0) (.int 1)) (.int 1)) (.cmp .eq (.call false 10 (.cons (.ix (.var 0) (.int 0)) (.cons (.ix (.var 0) (.int 1)) .nil))) (.int 1))))
    .nil))
def f11 : Fn := ⟨"_law_ais_low", ["found"], ["found"], b11⟩
/-- law -/
def b12_0 : Iv.St :=
    (.seq (.asg 2 (.call true 5 (.cons (.var 0) (.cons (.var 1) .nil))))
    (.seq (.asg 3 (.call false 9 (.cons (.var 2) .nil)))
    (.seq (.asg 4 (.bin .add (.int 1) (.call false 9 (.cons (.var 2) .nil))))
    (.seq (.asg 5 (.ix (.lst false (.cons (.int 1) (.cons (.neg (.int 1)) .nil))) (.call false 6 (.cons (.var 2) (.cons (.int 2) .nil)))))
    (.seq (.asg 6 (.call false 1 (.cons (.bin .mul (.var 5) (.var 3)) (.cons (.var 4) .nil))))
    (.seq (.ite (.or (.not (.call false 11 (.cons (.var 6) .nil))) (.cmp .ne (.bin .mul (.ix (.var 6) (.int 0)) (.var 4)) (.bin .mul (.bin .mul (.var 5) (.var 3)) (.ix (.var 6) (.int 1)))))
      (.seq (.ret (.bl false))
      .nil)
      .nil)
    (.seq (.asg 7 (.call false 8 (.cons (.bin .mul (.var 5) (.var 3)) (.cons (.var 4) .nil))))
    (.seq (.asg 8 (.call false 8 (.cons (.bin .mul (.ix (.lst false (.cons (.int 1) (.cons (.neg (.int 1)) .nil))) (.call false 6 (.cons (.var 2) (.cons (.int 2) .nil)))) (.call false 9 (.cons (.var 2) .nil))) (.cons (.bin .add (.int 1) (.call false 9 (.cons (.var 2) .nil))) .nil))))
    (.seq (.asg 9 (.call false 2 (.cons (.var 7) (.cons (.var 8) .nil))))
    (.seq (.asg 10 (.bin .add (.bin .mul (.ix (.var 7) (.int 0)) (.ix (.var 8) (.int 1))) (.bin .mul (.ix (.var 8) (.int 0)) (.ix (.var 7) (.int 1)))))
    (.seq (.ite (.or (.not (.call false 11 (.cons (.var 9) .nil))) (.cmp .ne (.bin .mul (.bin .mul (.ix (.var 9) (.int 0)) (.ix (.var 7) (.int 1))) (.ix (.var 8) (.int 1))) (.bin .mul (.ix (.var 9) (.int 1)) (.var 10))))
      (.seq (.ret (.bl false))
      .nil)
      .nil)
    (.seq (.asg 11 (.call false 3 (.cons (.var 7) (.cons (.var 8) .nil))))
    (.seq (.ite (.or (.not (.isi (.var 11) "bool")) (.cmp .ne (.var 11) (.cmp .lt (.bin .mul (.ix (.var 7) (.int 0)) (.ix (.var 8) (.int 1))) (.bin .mul (.ix (.var 8) (.int 0)) (.ix (.var 7) (.int 1))))))
      (.seq (.ret (.bl false))
      .nil)
      .nil)
    (.seq (.ite (.cmp .isnot (.call false 3 (.cons (.var 7) (.cons (.var 7) .nil))) (.bl false))
      (.seq (.ret (.bl false))
      .nil)
      .nil)
    .nil))))))))))))))
def b12 : Iv.St :=
    (.seq (.for_ (.nm 1) (.rng2 (.int 0) (.blt .max2 (.cons (.int 1) (.cons (.blt .min2 (.cons (.int 10) (.cons (.blt .len (.cons (.var 0) .nil)) .nil))) .nil)))) b12_0)
    (.seq (.ret (.bl true))
    .nil))
def f12 : Fn := ⟨"law", ["script"], ["script", "start", "tape", "a", "b", "sign", "found", "one", "other", "total", "due", "told"], b12⟩
def tbl : List Fn := [f0, f1, f2, f3, f4, f5, f6, f7, f8, f9, f10, f11, f12]
def P : Nat → Option Fn := fun i => tbl[i]?
def B : List Str := ["abs", "bool", "int", "isinstance", "len", "max", "min", "range", "tuple"]
def names : List String := ["divisor", "lowest", "plus", "is_less", "_law_acell", "_law_atape", "_law_adigit", "_law_awhole", "_law_alow", "_law_anumber", "_law_acommon", "_law_ais_low", "law"]
end Law_k30
namespace Law_k30
def WN : Nat := 40
def WW : Nat := 10 ^ 1000
end Law_k30
set_option exponentiation.threshold 2000
namespace Law_k30
open Iv
theorem run_f {k f : Nat} {d : Fn} {args : List Val} {S : Store} (hd : P f = some d) (hl : args.length = d.ps.length) : run P WW (k + 1) f args S = (execS (callI (run P WW k)) WW d.body (startE d.N.length args) S).res := by
  show (match P f with
    | some d => if args.length = d.ps.length then (execS (callI (run P WW k)) WW d.body (startE d.N.length args) S).res else .bad
    | none => .bad) = _
  rw [hd]
  exact if_pos hl
theorem div_loop {Φ : Bool → Nat → List Val → Store → R Val} {S : Store} : ∀ (fuel x y : Nat), y < fuel →
    whileS Φ WW (.cmp .gt (.var 1) (.int 0)) (.seq (.par 0 1 (.var 1) (.bin .mod (.var 0) (.var 1))) .nil) fuel [some (.int x), some (.int y)] S
      = .nxt [some (.int (Nat.gcd x y : Nat)), some (.int 0)] S := by
  intro fuel
  induction fuel with
  | zero => intro x y h; omega
  | succ k ih =>
    intro x y h
    rw [w_succ]
    by_cases hy : y = 0
    · subst hy
      have h1 : decide ((0 : Int) < ((0 : Nat) : Int)) = false := rfl
      simp only [m_var, m_non, m_yes, m_bl, m_int, m_str, m_tup, m_lst, m_bin, m_neg, m_cmp, m_chain, m_and, m_or, m_not, m_ite, m_call, m_blt, m_isi, m_ix, m_sl, m_comp, m_mth, m_anil, m_acons, m_onil, m_part, m_rng, m_rng2, m_enum, m_zip, m_vals, k_tup, k_lst, k_mkT, k_mkF, k_bin1, k_bin2, k_of, k_neg, k_cmp1, k_cmp2, k_ch1, k_ch2, k_ch3T, k_ch3F, k_andT, k_andF, k_orT, k_orF, k_not, k_iteT, k_iteF, k_call, k_blt, k_isi, k_ix1, k_ix2, k_sl1, k_sl2, k_sl3, k_part, k_cons1, k_cons2, k_comp1, k_comp2, k_mth1, k_mth2, k_mth3, k_rng, k_rng1, k_rng2, k_enum, k_zip1, k_zipL, k_zipT, k_valsT, k_valsL, s_nil, s_seq, s_expr, s_asg, s_par, s_unp, s_sub, s_if, s_for, s_while, s_ret, s_retN, s_pass, s_brk, s_cnt, k_seqN, k_seqR, k_seqB, k_seqC, k_expr, k_asg, k_par1, k_par2, k_unp, k_unp2, k_sub1, k_sub2, k_sub3, k_sub4, k_ifT, k_ifF, k_ret, k_for, k_forSet, k_turnN, k_turnC, k_turnB, k_turnR, k_whT, k_whF, k_wh2N, k_wh2C, k_wh2B, k_wh2R, o_nxt, o_ret, v_add, v_sub, v_mul, v_fdiv, v_mod, v_pow, v_lt, v_le, v_gt, v_ge, v_eqI, v_neI, v_eqB, v_neB, v_isB, v_isnotB, v_lenT, v_lenL, v_abs, v_max2, v_min2, v_ixT, v_ixL, at_0, at_1, at_2, List.getElem?_cons_zero, List.getElem?_cons_succ, List.set_cons_zero, List.set_cons_succ, List.length_cons, List.length_nil, Option.map_some, Bool.not_true, Bool.not_false, if_true, isT, decide_true, decide_false, ite_true, setTg, reduceIte, Nat.zero_add, lim, Nat.reduceLeDiff, List.nil_append, List.append_nil, String.reduceEq, or_false, or_true, or_self, Nat.zero_le, h1]
      rw [Nat.gcd_zero_right]
      rfl
    · have h1 : (0 : Int) < (y : Int) := by omega
      have ih' := ih y (x % y) (by have := Nat.mod_lt x (Nat.pos_of_ne_zero hy); omega)
      rw [Nat.gcd_comm, Nat.gcd_rec, Nat.gcd_comm, ← ih']
      simp only [m_var, m_non, m_yes, m_bl, m_int, m_str, m_tup, m_lst, m_bin, m_neg, m_cmp, m_chain, m_and, m_or, m_not, m_ite, m_call, m_blt, m_isi, m_ix, m_sl, m_comp, m_mth, m_anil, m_acons, m_onil, m_part, m_rng, m_rng2, m_enum, m_zip, m_vals, k_tup, k_lst, k_mkT, k_mkF, k_bin1, k_bin2, k_of, k_neg, k_cmp1, k_cmp2, k_ch1, k_ch2, k_ch3T, k_ch3F, k_andT, k_andF, k_orT, k_orF, k_not, k_iteT, k_iteF, k_call, k_blt, k_isi, k_ix1, k_ix2, k_sl1, k_sl2, k_sl3, k_part, k_cons1, k_cons2, k_comp1, k_comp2, k_mth1, k_mth2, k_mth3, k_rng, k_rng1, k_rng2, k_enum, k_zip1, k_zipL, k_zipT, k_valsT, k_valsL, s_nil, s_seq, s_expr, s_asg, s_par, s_unp, s_sub, s_if, s_for, s_while, s_ret, s_retN, s_pass, s_brk, s_cnt, k_seqN, k_seqR, k_seqB, k_seqC, k_expr, k_asg, k_par1, k_par2, k_unp, k_unp2, k_sub1, k_sub2, k_sub3, k_sub4, k_ifT, k_ifF, k_ret, k_for, k_forSet, k_turnN, k_turnC, k_turnB, k_turnR, k_whT, k_whF, k_wh2N, k_wh2C, k_wh2B, k_wh2R, o_nxt, o_ret, v_add, v_sub, v_mul, v_fdiv, v_mod, v_pow, v_lt, v_le, v_gt, v_ge, v_eqI, v_neI, v_eqB, v_neB, v_isB, v_isnotB, v_lenT, v_lenL, v_abs, v_max2, v_min2, v_ixT, v_ixL, at_0, at_1, at_2, List.getElem?_cons_zero, List.getElem?_cons_succ, List.set_cons_zero, List.set_cons_succ, List.length_cons, List.length_nil, Option.map_some, Bool.not_true, Bool.not_false, if_true, isT, decide_true, decide_false, ite_true, setTg, reduceIte, Nat.zero_add, lim, Nat.reduceLeDiff, List.nil_append, List.append_nil, String.reduceEq, or_false, or_true, or_self, Nat.zero_le, h1]
      rfl
theorem abs_nat (a : Int) : (if a < 0 then -a else a) = ((a.natAbs : Nat) : Int) := by split <;> omega
theorem run_divisor (k : Nat) (a b : Int) (S : Store) (hb : b.natAbs < WW) : run P WW (k + 1) 0 [.int a, .int b] S = .ok (.int (Nat.gcd a.natAbs b.natAbs : Nat)) S := by
  rw [run_f (d := f0) rfl rfl]
  show (execS _ WW b0 [some (.int a), some (.int b)] S).res = _
  unfold b0 b0_0
  simp only [m_var, m_non, m_yes, m_bl, m_int, m_str, m_tup, m_lst, m_bin, m_neg, m_cmp, m_chain, m_and, m_or, m_not, m_ite, m_call, m_blt, m_isi, m_ix, m_sl, m_comp, m_mth, m_anil, m_acons, m_onil, m_part, m_rng, m_rng2, m_enum, m_zip, m_vals, k_tup, k_lst, k_mkT, k_mkF, k_bin1, k_bin2, k_of, k_neg, k_cmp1, k_cmp2, k_ch1, k_ch2, k_ch3T, k_ch3F, k_andT, k_andF, k_orT, k_orF, k_not, k_iteT, k_iteF, k_call, k_blt, k_isi, k_ix1, k_ix2, k_sl1, k_sl2, k_sl3, k_part, k_cons1, k_cons2, k_comp1, k_comp2, k_mth1, k_mth2, k_mth3, k_rng, k_rng1, k_rng2, k_enum, k_zip1, k_zipL, k_zipT, k_valsT, k_valsL, s_nil, s_seq, s_expr, s_asg, s_par, s_unp, s_sub, s_if, s_for, s_while, s_ret, s_retN, s_pass, s_brk, s_cnt, k_seqN, k_seqR, k_seqB, k_seqC, k_expr, k_asg, k_par1, k_par2, k_unp, k_unp2, k_sub1, k_sub2, k_sub3, k_sub4, k_ifT, k_ifF, k_ret, k_for, k_forSet, k_turnN, k_turnC, k_turnB, k_turnR, k_whT, k_whF, k_wh2N, k_wh2C, k_wh2B, k_wh2R, o_nxt, o_ret, v_add, v_sub, v_mul, v_fdiv, v_mod, v_pow, v_lt, v_le, v_gt, v_ge, v_eqI, v_neI, v_eqB, v_neB, v_isB, v_isnotB, v_lenT, v_lenL, v_abs, v_max2, v_min2, v_ixT, v_ixL, at_0, at_1, at_2, List.getElem?_cons_zero, List.getElem?_cons_succ, List.set_cons_zero, List.set_cons_succ, List.length_cons, List.length_nil, Option.map_some, Bool.not_true, Bool.not_false, if_true, isT, decide_true, decide_false, ite_true, setTg, reduceIte, Nat.zero_add, lim, Nat.reduceLeDiff, List.nil_append, List.append_nil, String.reduceEq, or_false, or_true, or_self, Nat.zero_le, abs_nat]
  rw [div_loop WW _ _ hb]
  simp only [m_var, m_non, m_yes, m_bl, m_int, m_str, m_tup, m_lst, m_bin, m_neg, m_cmp, m_chain, m_and, m_or, m_not, m_ite, m_call, m_blt, m_isi, m_ix, m_sl, m_comp, m_mth, m_anil, m_acons, m_onil, m_part, m_rng, m_rng2, m_enum, m_zip, m_vals, k_tup, k_lst, k_mkT, k_mkF, k_bin1, k_bin2, k_of, k_neg, k_cmp1, k_cmp2, k_ch1, k_ch2, k_ch3T, k_ch3F, k_andT, k_andF, k_orT, k_orF, k_not, k_iteT, k_iteF, k_call, k_blt, k_isi, k_ix1, k_ix2, k_sl1, k_sl2, k_sl3, k_part, k_cons1, k_cons2, k_comp1, k_comp2, k_mth1, k_mth2, k_mth3, k_rng, k_rng1, k_rng2, k_enum, k_zip1, k_zipL, k_zipT, k_valsT, k_valsL, s_nil, s_seq, s_expr, s_asg, s_par, s_unp, s_sub, s_if, s_for, s_while, s_ret, s_retN, s_pass, s_brk, s_cnt, k_seqN, k_seqR, k_seqB, k_seqC, k_expr, k_asg, k_par1, k_par2, k_unp, k_unp2, k_sub1, k_sub2, k_sub3, k_sub4, k_ifT, k_ifF, k_ret, k_for, k_forSet, k_turnN, k_turnC, k_turnB, k_turnR, k_whT, k_whF, k_wh2N, k_wh2C, k_wh2B, k_wh2R, o_nxt, o_ret, v_add, v_sub, v_mul, v_fdiv, v_mod, v_pow, v_lt, v_le, v_gt, v_ge, v_eqI, v_neI, v_eqB, v_neB, v_isB, v_isnotB, v_lenT, v_lenL, v_abs, v_max2, v_min2, v_ixT, v_ixL, at_0, at_1, at_2, List.getElem?_cons_zero, List.getElem?_cons_succ, List.set_cons_zero, List.set_cons_succ, List.length_cons, List.length_nil, Option.map_some, Bool.not_true, Bool.not_false, if_true, isT, decide_true, decide_false, ite_true, setTg, reduceIte, Nat.zero_add, lim, Nat.reduceLeDiff, List.nil_append, List.append_nil, String.reduceEq, or_false, or_true, or_self, Nat.zero_le]
/-! ### numbers -/
theorem low_math (a b : Int) (hb : 1 ≤ b) : ∃ g : Nat, g = Nat.gcd a.natAbs b.natAbs ∧ 0 < (g : Int) ∧ (g : Int) ≤ b ∧ 1 ≤ b / g ∧ b / g ≤ b ∧ (a / g).natAbs ≤ a.natAbs ∧ Nat.gcd (a / g).natAbs (b / g).natAbs = 1 ∧ (a / g) * b = a * (b / g) ∧ a = (a / g) * g ∧ b = (b / g) * g := by
  refine ⟨_, rfl, ?_⟩
  have hpos : 0 < Nat.gcd a.natAbs b.natAbs := Nat.gcd_pos_of_pos_right _ (by omega)
  obtain ⟨x, hx⟩ : ((Nat.gcd a.natAbs b.natAbs : Nat) : Int) ∣ a := by first | exact Int.gcd_dvd_left a b | exact Int.gcd_dvd_left
  obtain ⟨y, hy⟩ : ((Nat.gcd a.natAbs b.natAbs : Nat) : Int) ∣ b := by first | exact Int.gcd_dvd_right a b | exact Int.gcd_dvd_right
  generalize hg : Nat.gcd a.natAbs b.natAbs = g at *
  have g0 : (g : Int) ≠ 0 := by omega
  have ex : a / g = x := by rw [hx]; exact Int.mul_ediv_cancel_left x g0
  have ey : b / g = y := by rw [hy]; exact Int.mul_ediv_cancel_left y g0
  have y1 : 1 ≤ y := by
    by_cases c : 1 ≤ y
    · exact c
    · have : (g : Int) * y ≤ 0 := Int.mul_nonpos_of_nonneg_of_nonpos (by omega) (by omega)
      omega
  have h1 : (g : Int) ≤ b := by
    rw [hy]
    have := Int.mul_le_mul_of_nonneg_left y1 (show (0 : Int) ≤ g by omega)
    omega
  have h2 : y ≤ b := by
    rw [hy]
    have := Int.mul_le_mul_of_nonneg_right (show (1 : Int) ≤ g by omega) (show (0 : Int) ≤ y by omega)
    omega
  have h3 : x.natAbs ≤ a.natAbs := by
    rw [hx, Int.natAbs_mul, Int.natAbs_natCast]
    exact Nat.le_mul_of_pos_left _ hpos
  have h4 : Nat.gcd x.natAbs y.natAbs = 1 := by
    have e : Nat.gcd (g * x.natAbs) (g * y.natAbs) = g := by
      have e1 : a.natAbs = g * x.natAbs := by rw [hx, Int.natAbs_mul, Int.natAbs_natCast]
      have e2 : b.natAbs = g * y.natAbs := by rw [hy, Int.natAbs_mul, Int.natAbs_natCast]
      rw [← e1, ← e2]
      exact hg
    rw [Nat.gcd_mul_left] at e
    exact Nat.eq_of_mul_eq_mul_left hpos (by omega)
  rw [ex, ey]
  refine ⟨by omega, h1, y1, h2, h3, h4, ?_, by rw [Int.mul_comm]; exact hx, by rw [Int.mul_comm]; exact hy⟩
  rw [hx, hy, ← Int.mul_assoc, Int.mul_comm x, Int.mul_assoc]
theorem log_lt {n k : Nat} (h : n < 2 ^ k) (hk : 0 < k) : n.log2 < k := by
  by_cases c : n = 0
  · subst c
    exact Nat.lt_of_le_of_lt (Nat.le_of_eq rfl) hk
  · exact (Nat.log2_lt c).mpr h
theorem mul_ok {i j : Int} (hi : i.natAbs < 2 ^ 1000) (hj : j.natAbs < 2 ^ 1000) : mulOk i j = true := by
  unfold mulOk
  have h1 := log_lt hi (by decide)
  have h2 := log_lt hj (by decide)
  rw [decide_eq_true (show i.natAbs.log2 + j.natAbs.log2 < 1000000 by omega), Bool.or_true]
/-! ### the defs -/
theorem c_divisor {k : Nat} {S : Store} (a b : Int) (hb : b.natAbs < WW) : callI (run P WW (k + 1)) false 0 [.int a, .int b] S = .ok (.int (Nat.gcd a.natAbs b.natAbs : Nat)) S :=
  call_val rfl (run_divisor k a b [] hb) rfl
theorem lt_W {n : Nat} (h : n < 2 ^ 1000) : n < WW := Nat.lt_of_lt_of_le h (by decide)
theorem c_lowest {k : Nat} {S : Store} (a b : Int) (h1 : 1 ≤ b) (hb : b.natAbs < 2 ^ 1000) : callI (run P WW (k + 2)) false 1 [.int a, .int b] S = .ok (.tup [.int (a / (Nat.gcd a.natAbs b.natAbs : Nat)), .int (b / (Nat.gcd a.natAbs b.natAbs : Nat))]) S := by
  refine call_val (S' := []) rfl ?_ rfl
  rw [run_f (d := f1) rfl rfl]
  show (execS _ WW b1 [some (.int a), some (.int b), none] []).res = _
  unfold b1
  obtain ⟨g, hg, g0, g1, _⟩ := low_math a b h1
  have g2 : ((g : Nat) : Int).natAbs.log2 < 9000 := Nat.lt_trans (log_lt (k := 1000) (by omega) (by decide)) (by decide)
  simp only [m_var, m_non, m_yes, m_bl, m_int, m_str, m_tup, m_lst, m_bin, m_neg, m_cmp, m_chain, m_and, m_or, m_not, m_ite, m_call, m_blt, m_isi, m_ix, m_sl, m_comp, m_mth, m_anil, m_acons, m_onil, m_part, m_rng, m_rng2, m_enum, m_zip, m_vals, k_tup, k_lst, k_mkT, k_mkF, k_bin1, k_bin2, k_of, k_neg, k_cmp1, k_cmp2, k_ch1, k_ch2, k_ch3T, k_ch3F, k_andT, k_andF, k_orT, k_orF, k_not, k_iteT, k_iteF, k_call, k_blt, k_isi, k_ix1, k_ix2, k_sl1, k_sl2, k_sl3, k_part, k_cons1, k_cons2, k_comp1, k_comp2, k_mth1, k_mth2, k_mth3, k_rng, k_rng1, k_rng2, k_enum, k_zip1, k_zipL, k_zipT, k_valsT, k_valsL, s_nil, s_seq, s_expr, s_asg, s_par, s_unp, s_sub, s_if, s_for, s_while, s_ret, s_retN, s_pass, s_brk, s_cnt, k_seqN, k_seqR, k_seqB, k_seqC, k_expr, k_asg, k_par1, k_par2, k_unp, k_unp2, k_sub1, k_sub2, k_sub3, k_sub4, k_ifT, k_ifF, k_ret, k_for, k_forSet, k_turnN, k_turnC, k_turnB, k_turnR, k_whT, k_whF, k_wh2N, k_wh2C, k_wh2B, k_wh2R, o_nxt, o_ret, v_add, v_sub, v_mul, v_fdiv, v_mod, v_pow, v_lt, v_le, v_gt, v_ge, v_eqI, v_neI, v_eqB, v_neB, v_isB, v_isnotB, v_lenT, v_lenL, v_abs, v_max2, v_min2, v_ixT, v_ixL, at_0, at_1, at_2, List.getElem?_cons_zero, List.getElem?_cons_succ, List.set_cons_zero, List.set_cons_succ, List.length_cons, List.length_nil, Option.map_some, Bool.not_true, Bool.not_false, if_true, isT, decide_true, decide_false, ite_true, setTg, reduceIte, Nat.zero_add, lim, Nat.reduceLeDiff, List.nil_append, List.append_nil, String.reduceEq, or_false, or_true, or_self, Nat.zero_le, c_divisor a b (lt_W hb), ← hg, v_fdiv _ _ g0 g2]
theorem nab_mul {a b : Int} {n m : Nat} (ha : a.natAbs < 2 ^ n) (hb : b.natAbs < 2 ^ m) : (a * b).natAbs < 2 ^ (n + m) := by
  rw [Int.natAbs_mul, Nat.pow_add]
  exact Nat.mul_lt_mul'' ha hb
theorem nab_add {a b : Int} {n : Nat} (ha : a.natAbs < 2 ^ n) (hb : b.natAbs < 2 ^ n) : (a + b).natAbs < 2 ^ (n + 1) := by
  have := Int.natAbs_add_le a b
  rw [Nat.pow_succ]
  omega
theorem nab_le {a : Int} {n m : Nat} (ha : a.natAbs < 2 ^ n) (h : n ≤ m) : a.natAbs < 2 ^ m :=
  Nat.lt_of_lt_of_le ha (Nat.pow_le_pow_right (by decide) h)
/-- a over b in lowest terms, as a value -/
def lowV (a b : Int) : Val := .tup [.int (a / (Nat.gcd a.natAbs b.natAbs : Nat)), .int (b / (Nat.gcd a.natAbs b.natAbs : Nat))]
theorem c_plus {k : Nat} {S : Store} (a b c d : Int) (hb : 1 ≤ b) (hd : 1 ≤ d) (ha' : a.natAbs < 2 ^ 300) (hb' : b.natAbs < 2 ^ 300) (hc' : c.natAbs < 2 ^ 300) (hd' : d.natAbs < 2 ^ 300) :
    callI (run P WW (k + 3)) false 2 [.tup [.int a, .int b], .tup [.int c, .int d]] S = .ok (lowV (a * d + c * b) (b * d)) S := by
  refine call_val (S' := []) rfl ?_ rfl
  rw [run_f (d := f2) rfl rfl]
  show (execS _ WW b2 [some (.tup [.int a, .int b]), some (.tup [.int c, .int d])] []).res = _
  unfold b2
  have h1 := mul_ok (nab_le ha' (by decide)) (nab_le hd' (by decide))
  have h2 := mul_ok (nab_le hc' (by decide)) (nab_le hb' (by decide))
  have h3 := mul_ok (nab_le hb' (by decide)) (nab_le hd' (by decide))
  have h4 : 1 ≤ b * d := Int.mul_pos hb hd
  have h5 : (b * d).natAbs < 2 ^ 1000 := nab_le (nab_mul hb' hd') (by decide)
  simp only [m_var, m_non, m_yes, m_bl, m_int, m_str, m_tup, m_lst, m_bin, m_neg, m_cmp, m_chain, m_and, m_or, m_not, m_ite, m_call, m_blt, m_isi, m_ix, m_sl, m_comp, m_mth, m_anil, m_acons, m_onil, m_part, m_rng, m_rng2, m_enum, m_zip, m_vals, k_tup, k_lst, k_mkT, k_mkF, k_bin1, k_bin2, k_of, k_neg, k_cmp1, k_cmp2, k_ch1, k_ch2, k_ch3T, k_ch3F, k_andT, k_andF, k_orT, k_orF, k_not, k_iteT, k_iteF, k_call, k_blt, k_isi, k_ix1, k_ix2, k_sl1, k_sl2, k_sl3, k_part, k_cons1, k_cons2, k_comp1, k_comp2, k_mth1, k_mth2, k_mth3, k_rng, k_rng1, k_rng2, k_enum, k_zip1, k_zipL, k_zipT, k_valsT, k_valsL, s_nil, s_seq, s_expr, s_asg, s_par, s_unp, s_sub, s_if, s_for, s_while, s_ret, s_retN, s_pass, s_brk, s_cnt, k_seqN, k_seqR, k_seqB, k_seqC, k_expr, k_asg, k_par1, k_par2, k_unp, k_unp2, k_sub1, k_sub2, k_sub3, k_sub4, k_ifT, k_ifF, k_ret, k_for, k_forSet, k_turnN, k_turnC, k_turnB, k_turnR, k_whT, k_whF, k_wh2N, k_wh2C, k_wh2B, k_wh2R, o_nxt, o_ret, v_add, v_sub, v_mul, v_fdiv, v_mod, v_pow, v_lt, v_le, v_gt, v_ge, v_eqI, v_neI, v_eqB, v_neB, v_isB, v_isnotB, v_lenT, v_lenL, v_abs, v_max2, v_min2, v_ixT, v_ixL, at_0, at_1, at_2, List.getElem?_cons_zero, List.getElem?_cons_succ, List.set_cons_zero, List.set_cons_succ, List.length_cons, List.length_nil, Option.map_some, Bool.not_true, Bool.not_false, if_true, isT, decide_true, decide_false, ite_true, setTg, reduceIte, Nat.zero_add, lim, Nat.reduceLeDiff, List.nil_append, List.append_nil, String.reduceEq, or_false, or_true, or_self, Nat.zero_le, v_mul _ _ h1, v_mul _ _ h2, v_mul _ _ h3, c_lowest (a * d + c * b) (b * d) h4 h5]
  rfl
theorem c_less {k : Nat} {S : Store} (a b c d : Int) (ha' : a.natAbs < 2 ^ 300) (hb' : b.natAbs < 2 ^ 300) (hc' : c.natAbs < 2 ^ 300) (hd' : d.natAbs < 2 ^ 300) :
    callI (run P WW (k + 1)) false 3 [.tup [.int a, .int b], .tup [.int c, .int d]] S = .ok (.bl (decide (a * d < c * b))) S := by
  refine call_val (S' := []) rfl ?_ rfl
  rw [run_f (d := f3) rfl rfl]
  show (execS _ WW b3 [some (.tup [.int a, .int b]), some (.tup [.int c, .int d])] []).res = _
  unfold b3
  have h1 := mul_ok (nab_le ha' (by decide)) (nab_le hd' (by decide))
  have h2 := mul_ok (nab_le hc' (by decide)) (nab_le hb' (by decide))
  simp only [m_var, m_non, m_yes, m_bl, m_int, m_str, m_tup, m_lst, m_bin, m_neg, m_cmp, m_chain, m_and, m_or, m_not, m_ite, m_call, m_blt, m_isi, m_ix, m_sl, m_comp, m_mth, m_anil, m_acons, m_onil, m_part, m_rng, m_rng2, m_enum, m_zip, m_vals, k_tup, k_lst, k_mkT, k_mkF, k_bin1, k_bin2, k_of, k_neg, k_cmp1, k_cmp2, k_ch1, k_ch2, k_ch3T, k_ch3F, k_andT, k_andF, k_orT, k_orF, k_not, k_iteT, k_iteF, k_call, k_blt, k_isi, k_ix1, k_ix2, k_sl1, k_sl2, k_sl3, k_part, k_cons1, k_cons2, k_comp1, k_comp2, k_mth1, k_mth2, k_mth3, k_rng, k_rng1, k_rng2, k_enum, k_zip1, k_zipL, k_zipT, k_valsT, k_valsL, s_nil, s_seq, s_expr, s_asg, s_par, s_unp, s_sub, s_if, s_for, s_while, s_ret, s_retN, s_pass, s_brk, s_cnt, k_seqN, k_seqR, k_seqB, k_seqC, k_expr, k_asg, k_par1, k_par2, k_unp, k_unp2, k_sub1, k_sub2, k_sub3, k_sub4, k_ifT, k_ifF, k_ret, k_for, k_forSet, k_turnN, k_turnC, k_turnB, k_turnR, k_whT, k_whF, k_wh2N, k_wh2C, k_wh2B, k_wh2R, o_nxt, o_ret, v_add, v_sub, v_mul, v_fdiv, v_mod, v_pow, v_lt, v_le, v_gt, v_ge, v_eqI, v_neI, v_eqB, v_neB, v_isB, v_isnotB, v_lenT, v_lenL, v_abs, v_max2, v_min2, v_ixT, v_ixL, at_0, at_1, at_2, List.getElem?_cons_zero, List.getElem?_cons_succ, List.set_cons_zero, List.set_cons_succ, List.length_cons, List.length_nil, Option.map_some, Bool.not_true, Bool.not_false, if_true, isT, decide_true, decide_false, ite_true, setTg, reduceIte, Nat.zero_add, lim, Nat.reduceLeDiff, List.nil_append, List.append_nil, String.reduceEq, or_false, or_true, or_self, Nat.zero_le, v_mul _ _ h1, v_mul _ _ h2]
theorem fr_ints (ns : List Int) : Val.frees (ns.map Val.int) = true := by
  induction ns with
  | nil => rfl
  | cons n r ih => exact ih
theorem c_acell {k : Nat} {S : Store} (ns : List Int) (j : Nat) : ∃ t : Int, callI (run P WW (k + 1)) false 4 [.lst (ns.map .int), .int j] S = .ok (.int t) S := by
  have hf : Val.frees [.lst (ns.map Val.int), .int j] = true := by
    show (Val.frees (ns.map Val.int) && true) = true
    rw [fr_ints]
    rfl
  by_cases h : j < ns.length
  · have h1 : (j : Int) < (ns.length : Nat) := by omega
    refine ⟨ns[j], call_val (S' := []) hf ?_ rfl⟩
    rw [run_f (d := f4) rfl rfl]
    show (execS _ WW b4 [some (.lst (ns.map Val.int)), some (.int j)] []).res = _
    unfold b4
    have h2 : (ns.map Val.int)[j]? = some (.int ns[j]) := by
      rw [List.getElem?_map, List.getElem?_eq_getElem h]
      rfl
    simp only [m_var, m_non, m_yes, m_bl, m_int, m_str, m_tup, m_lst, m_bin, m_neg, m_cmp, m_chain, m_and, m_or, m_not, m_ite, m_call, m_blt, m_isi, m_ix, m_sl, m_comp, m_mth, m_anil, m_acons, m_onil, m_part, m_rng, m_rng2, m_enum, m_zip, m_vals, k_tup, k_lst, k_mkT, k_mkF, k_bin1, k_bin2, k_of, k_neg, k_cmp1, k_cmp2, k_ch1, k_ch2, k_ch3T, k_ch3F, k_andT, k_andF, k_orT, k_orF, k_not, k_iteT, k_iteF, k_call, k_blt, k_isi, k_ix1, k_ix2, k_sl1, k_sl2, k_sl3, k_part, k_cons1, k_cons2, k_comp1, k_comp2, k_mth1, k_mth2, k_mth3, k_rng, k_rng1, k_rng2, k_enum, k_zip1, k_zipL, k_zipT, k_valsT, k_valsL, s_nil, s_seq, s_expr, s_asg, s_par, s_unp, s_sub, s_if, s_for, s_while, s_ret, s_retN, s_pass, s_brk, s_cnt, k_seqN, k_seqR, k_seqB, k_seqC, k_expr, k_asg, k_par1, k_par2, k_unp, k_unp2, k_sub1, k_sub2, k_sub3, k_sub4, k_ifT, k_ifF, k_ret, k_for, k_forSet, k_turnN, k_turnC, k_turnB, k_turnR, k_whT, k_whF, k_wh2N, k_wh2C, k_wh2B, k_wh2R, o_nxt, o_ret, v_add, v_sub, v_mul, v_fdiv, v_mod, v_pow, v_lt, v_le, v_gt, v_ge, v_eqI, v_neI, v_eqB, v_neB, v_isB, v_isnotB, v_lenT, v_lenL, v_abs, v_max2, v_min2, v_ixT, v_ixL, at_0, at_1, at_2, List.getElem?_cons_zero, List.getElem?_cons_succ, List.set_cons_zero, List.set_cons_succ, List.length_cons, List.length_nil, Option.map_some, Bool.not_true, Bool.not_false, if_true, isT, decide_true, decide_false, ite_true, setTg, reduceIte, Nat.zero_add, lim, Nat.reduceLeDiff, List.nil_append, List.append_nil, String.reduceEq, or_false, or_true, or_self, Nat.zero_le, List.length_map, h1, at_nat, h2]
  · have h1 : ¬ (j : Int) < (ns.length : Nat) := by omega
    refine ⟨0, call_val (S' := []) hf ?_ rfl⟩
    rw [run_f (d := f4) rfl rfl]
    show (execS _ WW b4 [some (.lst (ns.map Val.int)), some (.int j)] []).res = _
    unfold b4
    simp only [m_var, m_non, m_yes, m_bl, m_int, m_str, m_tup, m_lst, m_bin, m_neg, m_cmp, m_chain, m_and, m_or, m_not, m_ite, m_call, m_blt, m_isi, m_ix, m_sl, m_comp, m_mth, m_anil, m_acons, m_onil, m_part, m_rng, m_rng2, m_enum, m_zip, m_vals, k_tup, k_lst, k_mkT, k_mkF, k_bin1, k_bin2, k_of, k_neg, k_cmp1, k_cmp2, k_ch1, k_ch2, k_ch3T, k_ch3F, k_andT, k_andF, k_orT, k_orF, k_not, k_iteT, k_iteF, k_call, k_blt, k_isi, k_ix1, k_ix2, k_sl1, k_sl2, k_sl3, k_part, k_cons1, k_cons2, k_comp1, k_comp2, k_mth1, k_mth2, k_mth3, k_rng, k_rng1, k_rng2, k_enum, k_zip1, k_zipL, k_zipT, k_valsT, k_valsL, s_nil, s_seq, s_expr, s_asg, s_par, s_unp, s_sub, s_if, s_for, s_while, s_ret, s_retN, s_pass, s_brk, s_cnt, k_seqN, k_seqR, k_seqB, k_seqC, k_expr, k_asg, k_par1, k_par2, k_unp, k_unp2, k_sub1, k_sub2, k_sub3, k_sub4, k_ifT, k_ifF, k_ret, k_for, k_forSet, k_turnN, k_turnC, k_turnB, k_turnR, k_whT, k_whF, k_wh2N, k_wh2C, k_wh2B, k_wh2R, o_nxt, o_ret, v_add, v_sub, v_mul, v_fdiv, v_mod, v_pow, v_lt, v_le, v_gt, v_ge, v_eqI, v_neI, v_eqB, v_neB, v_isB, v_isnotB, v_lenT, v_lenL, v_abs, v_max2, v_min2, v_ixT, v_ixL, at_0, at_1, at_2, List.getElem?_cons_zero, List.getElem?_cons_succ, List.set_cons_zero, List.set_cons_succ, List.length_cons, List.length_nil, Option.map_some, Bool.not_true, Bool.not_false, if_true, isT, decide_true, decide_false, ite_true, setTg, reduceIte, Nat.zero_add, lim, Nat.reduceLeDiff, List.nil_append, List.append_nil, String.reduceEq, or_false, or_true, or_self, Nat.zero_le, List.length_map, h1]
theorem mul_okR (a : Int) {b : Int} (h1 : -(2 ^ 64) < b) (h2 : b < 2 ^ 64) : mulOk a b = true := by
  unfold mulOk
  rw [decide_eq_true h1, decide_eq_true h2]
  simp
theorem mul_okL {a : Int} (b : Int) (h1 : -(2 ^ 64) < a) (h2 : a < 2 ^ 64) : mulOk a b = true := by
  unfold mulOk
  rw [decide_eq_true h1, decide_eq_true h2]
  simp
theorem range_ints : ∀ (n : Nat) (lo : Int), ∃ xs : List Int, rangeV lo n = xs.map .int ∧ ∀ x ∈ xs, lo ≤ x
  | 0, _ => ⟨[], rfl, fun _ h => by cases h⟩
  | n + 1, lo => by
    obtain ⟨xs, h, hx⟩ := range_ints n (lo + 1)
    refine ⟨lo :: xs, by show Val.int lo :: rangeV (lo + 1) n = _; rw [h]; rfl, fun x hm => ?_⟩
    cases hm with
    | head => exact Int.le_refl _
    | tail _ hm => have := hx x hm; omega
theorem tape_loop {Φ : Bool → Nat → List Val → Store → R Val} {S : Store} (x0 x2 : Option Val) (j : Int) : ∀ (xs : List Int) (n l : Int) (v : Option Val), 0 ≤ l → l < 2305843009213693951 →
    ∃ n' l' v', forS Φ WW (.nm 6) (.seq (.asg 4 (.bin .add (.bin .mul (.var 4) (.var 3)) (.var 5)))
      (.seq (.asg 5 (.bin .mod (.bin .add (.bin .add (.bin .mul (.var 5) (.var 5)) (.bin .mul (.int 40692) (.var 1))) (.var 6)) (.var 3)))
      .nil)) (xs.map .int) [x0, some (.int j), x2, some (.int 2305843009213693951), some (.int n), some (.int l), v] S
      = .nxt [x0, some (.int j), x2, some (.int 2305843009213693951), some (.int n'), some (.int l'), v'] S := by
  intro xs
  induction xs with
  | nil => intro n l v _ _; exact ⟨n, l, v, rfl⟩
  | cons x r ih =>
    intro n l v h1 h2
    have p0 : (0 : Int) < 2305843009213693951 := by decide
    obtain ⟨n', l', v', h⟩ := ih (n * 2305843009213693951 + l) ((l * l + 40692 * j + x) % 2305843009213693951) (some (.int x)) (Int.emod_nonneg _ (by decide)) (Int.emod_lt_of_pos _ (by decide))
    refine ⟨n', l', v', ?_⟩
    rw [List.map_cons, f_cons, ← h]
    simp only [m_var, m_non, m_yes, m_bl, m_int, m_str, m_tup, m_lst, m_bin, m_neg, m_cmp, m_chain, m_and, m_or, m_not, m_ite, m_call, m_blt, m_isi, m_ix, m_sl, m_comp, m_mth, m_anil, m_acons, m_onil, m_part, m_rng, m_rng2, m_enum, m_zip, m_vals, k_tup, k_lst, k_mkT, k_mkF, k_bin1, k_bin2, k_of, k_neg, k_cmp1, k_cmp2, k_ch1, k_ch2, k_ch3T, k_ch3F, k_andT, k_andF, k_orT, k_orF, k_not, k_iteT, k_iteF, k_call, k_blt, k_isi, k_ix1, k_ix2, k_sl1, k_sl2, k_sl3, k_part, k_cons1, k_cons2, k_comp1, k_comp2, k_mth1, k_mth2, k_mth3, k_rng, k_rng1, k_rng2, k_enum, k_zip1, k_zipL, k_zipT, k_valsT, k_valsL, s_nil, s_seq, s_expr, s_asg, s_par, s_unp, s_sub, s_if, s_for, s_while, s_ret, s_retN, s_pass, s_brk, s_cnt, k_seqN, k_seqR, k_seqB, k_seqC, k_expr, k_asg, k_par1, k_par2, k_unp, k_unp2, k_sub1, k_sub2, k_sub3, k_sub4, k_ifT, k_ifF, k_ret, k_for, k_forSet, k_turnN, k_turnC, k_turnB, k_turnR, k_whT, k_whF, k_wh2N, k_wh2C, k_wh2B, k_wh2R, o_nxt, o_ret, v_add, v_sub, v_mul, v_fdiv, v_mod, v_pow, v_lt, v_le, v_gt, v_ge, v_eqI, v_neI, v_eqB, v_neB, v_isB, v_isnotB, v_lenT, v_lenL, v_abs, v_max2, v_min2, v_ixT, v_ixL, at_0, at_1, at_2, List.getElem?_cons_zero, List.getElem?_cons_succ, List.set_cons_zero, List.set_cons_succ, List.length_cons, List.length_nil, Option.map_some, Bool.not_true, Bool.not_false, if_true, isT, decide_true, decide_false, ite_true, setTg, reduceIte, Nat.zero_add, lim, Nat.reduceLeDiff, List.nil_append, List.append_nil, String.reduceEq, or_false, or_true, or_self, Nat.zero_le, v_mul n 2305843009213693951 (mul_okR _ (by decide) (by decide)), v_mul l l (mul_okR _ (by omega) (by omega)), v_mul 40692 j (mul_okL _ (by decide) (by decide)), v_mod _ _ p0]
theorem c_atape {k : Nat} {S : Store} (ns : List Int) (j : Nat) : ∃ t : Int, callI (run P WW (k + 2)) true 5 [.lst (ns.map .int), .int j] S = .ok (.loc S.length) (S ++ [.lst [.int t]]) := by
  have hf : Val.frees [.lst (ns.map Val.int), .int j] = true := by
    show (Val.frees (ns.map Val.int) && true) = true
    rw [fr_ints]
    rfl
  obtain ⟨c, hc⟩ := c_acell (k := k) (S := []) ns j
  have p0 : (0 : Int) < 2305843009213693951 := by decide
  have p2 : (0 : Int) < 2 := by decide
  by_cases h : c % 2 = 0
  · have h1 : (c % 2 == 0) = true := by rw [h]; rfl
    refine ⟨c / 2, call_new (S' := [.lst [.int (c / 2)]]) (j := 0) hf ?_ rfl rfl⟩
    rw [run_f (d := f5) rfl rfl]
    show (execS _ WW b5 [some (.lst (ns.map Val.int)), some (.int j), none, none, none, none, none] []).res = _
    unfold b5 b5_0
    simp only [m_var, m_non, m_yes, m_bl, m_int, m_str, m_tup, m_lst, m_bin, m_neg, m_cmp, m_chain, m_and, m_or, m_not, m_ite, m_call, m_blt, m_isi, m_ix, m_sl, m_comp, m_mth, m_anil, m_acons, m_onil, m_part, m_rng, m_rng2, m_enum, m_zip, m_vals, k_tup, k_lst, k_mkT, k_mkF, k_bin1, k_bin2, k_of, k_neg, k_cmp1, k_cmp2, k_ch1, k_ch2, k_ch3T, k_ch3F, k_andT, k_andF, k_orT, k_orF, k_not, k_iteT, k_iteF, k_call, k_blt, k_isi, k_ix1, k_ix2, k_sl1, k_sl2, k_sl3, k_part, k_cons1, k_cons2, k_comp1, k_comp2, k_mth1, k_mth2, k_mth3, k_rng, k_rng1, k_rng2, k_enum, k_zip1, k_zipL, k_zipT, k_valsT, k_valsL, s_nil, s_seq, s_expr, s_asg, s_par, s_unp, s_sub, s_if, s_for, s_while, s_ret, s_retN, s_pass, s_brk, s_cnt, k_seqN, k_seqR, k_seqB, k_seqC, k_expr, k_asg, k_par1, k_par2, k_unp, k_unp2, k_sub1, k_sub2, k_sub3, k_sub4, k_ifT, k_ifF, k_ret, k_for, k_forSet, k_turnN, k_turnC, k_turnB, k_turnR, k_whT, k_whF, k_wh2N, k_wh2C, k_wh2B, k_wh2R, o_nxt, o_ret, v_add, v_sub, v_mul, v_fdiv, v_mod, v_pow, v_lt, v_le, v_gt, v_ge, v_eqI, v_neI, v_eqB, v_neB, v_isB, v_isnotB, v_lenT, v_lenL, v_abs, v_max2, v_min2, v_ixT, v_ixL, at_0, at_1, at_2, List.getElem?_cons_zero, List.getElem?_cons_succ, List.set_cons_zero, List.set_cons_succ, List.length_cons, List.length_nil, Option.map_some, Bool.not_true, Bool.not_false, if_true, isT, decide_true, decide_false, ite_true, setTg, reduceIte, Nat.zero_add, lim, Nat.reduceLeDiff, List.nil_append, List.append_nil, String.reduceEq, or_false, or_true, or_self, Nat.zero_le, hc, v_mod _ _ p2, h1, v_fdiv _ _ p2 (by decide)]
  · have h1 : (c % 2 == 0) = false := by
      cases e : (c % 2 == 0) with
      | false => rfl
      | true => exact absurd (eq_of_beq e) h
    obtain ⟨xs, hx, _⟩ := range_ints 18 0
    obtain ⟨n', l', v', hl⟩ := tape_loop (Φ := callI (run P WW (k + 1))) (S := []) (some (.lst (ns.map Val.int))) (some (.int c)) j xs 0 ((c % 2305843009213693951 * 48271 + 69621 * j + 11) % 2305843009213693951) none (Int.emod_nonneg _ (by decide)) (Int.emod_lt_of_pos _ (by decide))
    have r18 : (18 : Int).toNat = 18 := rfl
    have g18 : -(2 ^ 62) ≤ (18 : Int) ∧ (18 : Int) < 2 ^ 62 := by decide
    refine ⟨n', call_new (S' := [.lst [.int n']]) (j := 0) hf ?_ rfl rfl⟩
    rw [run_f (d := f5) rfl rfl]
    show (execS _ WW b5 [some (.lst (ns.map Val.int)), some (.int j), none, none, none, none, none] []).res = _
    unfold b5 b5_0
    simp only [m_var, m_non, m_yes, m_bl, m_int, m_str, m_tup, m_lst, m_bin, m_neg, m_cmp, m_chain, m_and, m_or, m_not, m_ite, m_call, m_blt, m_isi, m_ix, m_sl, m_comp, m_mth, m_anil, m_acons, m_onil, m_part, m_rng, m_rng2, m_enum, m_zip, m_vals, k_tup, k_lst, k_mkT, k_mkF, k_bin1, k_bin2, k_of, k_neg, k_cmp1, k_cmp2, k_ch1, k_ch2, k_ch3T, k_ch3F, k_andT, k_andF, k_orT, k_orF, k_not, k_iteT, k_iteF, k_call, k_blt, k_isi, k_ix1, k_ix2, k_sl1, k_sl2, k_sl3, k_part, k_cons1, k_cons2, k_comp1, k_comp2, k_mth1, k_mth2, k_mth3, k_rng, k_rng1, k_rng2, k_enum, k_zip1, k_zipL, k_zipT, k_valsT, k_valsL, s_nil, s_seq, s_expr, s_asg, s_par, s_unp, s_sub, s_if, s_for, s_while, s_ret, s_retN, s_pass, s_brk, s_cnt, k_seqN, k_seqR, k_seqB, k_seqC, k_expr, k_asg, k_par1, k_par2, k_unp, k_unp2, k_sub1, k_sub2, k_sub3, k_sub4, k_ifT, k_ifF, k_ret, k_for, k_forSet, k_turnN, k_turnC, k_turnB, k_turnR, k_whT, k_whF, k_wh2N, k_wh2C, k_wh2B, k_wh2R, o_nxt, o_ret, v_add, v_sub, v_mul, v_fdiv, v_mod, v_pow, v_lt, v_le, v_gt, v_ge, v_eqI, v_neI, v_eqB, v_neB, v_isB, v_isnotB, v_lenT, v_lenL, v_abs, v_max2, v_min2, v_ixT, v_ixL, at_0, at_1, at_2, List.getElem?_cons_zero, List.getElem?_cons_succ, List.set_cons_zero, List.set_cons_succ, List.length_cons, List.length_nil, Option.map_some, Bool.not_true, Bool.not_false, if_true, isT, decide_true, decide_false, ite_true, setTg, reduceIte, Nat.zero_add, lim, Nat.reduceLeDiff, List.nil_append, List.append_nil, String.reduceEq, or_false, or_true, or_self, Nat.zero_le, hc, v_mod _ _ p2, h1, v_mod _ _ p0, v_mul _ 48271 (mul_okR _ (by decide) (by decide)), v_mul 69621 _ (mul_okL _ (by decide) (by decide)), r18, if_pos g18, hx, hl]
/-- a tape's digit -/
theorem c_digit {k : Nat} {S : Store} (n : Nat) (t m : Int) (hn : S[n]? = some (.lst [.int t])) (h1 : 0 < m) (h2 : m.natAbs.log2 < 9000) :
    callI (run P WW (k + 1)) false 6 [.loc n, .int m] S = .ok (.int (t % m)) (S.set n (.lst [.int (t / m)])) := by
  refine call_loc (S' := [.lst [.int (t / m)]]) rfl hn rfl ?_ rfl rfl rfl
  rw [run_f (d := f6) rfl rfl]
  show (execS _ WW b6 [some (.loc 0), some (.int m), none] [.lst [.int t]]).res = _
  unfold b6
  have e1 : ∀ S' : Store, S'[0]? = some (.lst [.int t]) → ixV S' (.loc 0) (.int 0) = some (.int t) := fun S' h => v_ixS 0 [.int t] 0 h
  have e2 : storeSub [.lst [.int t]] (.loc 0) (.int 0) (.int (t / m)) = some [.lst [.int (t / m)]] := rfl
  simp only [m_var, m_non, m_yes, m_bl, m_int, m_str, m_tup, m_lst, m_bin, m_neg, m_cmp, m_chain, m_and, m_or, m_not, m_ite, m_call, m_blt, m_isi, m_ix, m_sl, m_comp, m_mth, m_anil, m_acons, m_onil, m_part, m_rng, m_rng2, m_enum, m_zip, m_vals, k_tup, k_lst, k_mkT, k_mkF, k_bin1, k_bin2, k_of, k_neg, k_cmp1, k_cmp2, k_ch1, k_ch2, k_ch3T, k_ch3F, k_andT, k_andF, k_orT, k_orF, k_not, k_iteT, k_iteF, k_call, k_blt, k_isi, k_ix1, k_ix2, k_sl1, k_sl2, k_sl3, k_part, k_cons1, k_cons2, k_comp1, k_comp2, k_mth1, k_mth2, k_mth3, k_rng, k_rng1, k_rng2, k_enum, k_zip1, k_zipL, k_zipT, k_valsT, k_valsL, s_nil, s_seq, s_expr, s_asg, s_par, s_unp, s_sub, s_if, s_for, s_while, s_ret, s_retN, s_pass, s_brk, s_cnt, k_seqN, k_seqR, k_seqB, k_seqC, k_expr, k_asg, k_par1, k_par2, k_unp, k_unp2, k_sub1, k_sub2, k_sub3, k_sub4, k_ifT, k_ifF, k_ret, k_for, k_forSet, k_turnN, k_turnC, k_turnB, k_turnR, k_whT, k_whF, k_wh2N, k_wh2C, k_wh2B, k_wh2R, o_nxt, o_ret, v_add, v_sub, v_mul, v_fdiv, v_mod, v_pow, v_lt, v_le, v_gt, v_ge, v_eqI, v_neI, v_eqB, v_neB, v_isB, v_isnotB, v_lenT, v_lenL, v_abs, v_max2, v_min2, v_ixT, v_ixL, at_0, at_1, at_2, List.getElem?_cons_zero, List.getElem?_cons_succ, List.set_cons_zero, List.set_cons_succ, List.length_cons, List.length_nil, Option.map_some, Bool.not_true, Bool.not_false, if_true, isT, decide_true, decide_false, ite_true, setTg, reduceIte, Nat.zero_add, lim, Nat.reduceLeDiff, List.nil_append, List.append_nil, String.reduceEq, or_false, or_true, or_self, Nat.zero_le, e1 [.lst [.int t]] rfl, v_mod _ _ h1, v_fdiv _ _ h1 h2, e2]
theorem get_last (S : Store) (x : Obj) : (S ++ [x])[S.length]? = some x := by
  rw [List.getElem?_append_right (Nat.le_refl _), Nat.sub_self]
  rfl
theorem set_last (S : Store) (x y : Obj) : (S ++ [x]).set S.length y = S ++ [y] := by
  rw [List.set_append_right _ _ (Nat.le_refl _), Nat.sub_self]
  rfl
/-- .. of the tape that came last -/
theorem c_last {k : Nat} {S : Store} (t m : Int) (h1 : 0 < m) (h2 : m.natAbs.log2 < 9000) :
    callI (run P WW (k + 1)) false 6 [.loc S.length, .int m] (S ++ [.lst [.int t]]) = .ok (.int (t % m)) (S ++ [.lst [.int (t / m)]]) := by
  rw [c_digit S.length t m (get_last _ _) h1 h2, set_last]
theorem c_whole {k : Nat} {S : Store} (i : Int) : callI (run P WW (k + 1)) false 7 [.int i] S = .ok (.bl true) S := by
  refine call_val (S' := []) rfl ?_ rfl
  rw [run_f (d := f7) rfl rfl]
  show (execS _ WW b7 [some (.int i)] []).res = _
  unfold b7
  have e1 : isT [] "int" (.int i) = some true := rfl
  have e2 : isT [] "bool" (.int i) = some false := rfl
  simp only [m_var, m_non, m_yes, m_bl, m_int, m_str, m_tup, m_lst, m_bin, m_neg, m_cmp, m_chain, m_and, m_or, m_not, m_ite, m_call, m_blt, m_isi, m_ix, m_sl, m_comp, m_mth, m_anil, m_acons, m_onil, m_part, m_rng, m_rng2, m_enum, m_zip, m_vals, k_tup, k_lst, k_mkT, k_mkF, k_bin1, k_bin2, k_of, k_neg, k_cmp1, k_cmp2, k_ch1, k_ch2, k_ch3T, k_ch3F, k_andT, k_andF, k_orT, k_orF, k_not, k_iteT, k_iteF, k_call, k_blt, k_isi, k_ix1, k_ix2, k_sl1, k_sl2, k_sl3, k_part, k_cons1, k_cons2, k_comp1, k_comp2, k_mth1, k_mth2, k_mth3, k_rng, k_rng1, k_rng2, k_enum, k_zip1, k_zipL, k_zipT, k_valsT, k_valsL, s_nil, s_seq, s_expr, s_asg, s_par, s_unp, s_sub, s_if, s_for, s_while, s_ret, s_retN, s_pass, s_brk, s_cnt, k_seqN, k_seqR, k_seqB, k_seqC, k_expr, k_asg, k_par1, k_par2, k_unp, k_unp2, k_sub1, k_sub2, k_sub3, k_sub4, k_ifT, k_ifF, k_ret, k_for, k_forSet, k_turnN, k_turnC, k_turnB, k_turnR, k_whT, k_whF, k_wh2N, k_wh2C, k_wh2B, k_wh2R, o_nxt, o_ret, v_add, v_sub, v_mul, v_fdiv, v_mod, v_pow, v_lt, v_le, v_gt, v_ge, v_eqI, v_neI, v_eqB, v_neB, v_isB, v_isnotB, v_lenT, v_lenL, v_abs, v_max2, v_min2, v_ixT, v_ixL, at_0, at_1, at_2, List.getElem?_cons_zero, List.getElem?_cons_succ, List.set_cons_zero, List.set_cons_succ, List.length_cons, List.length_nil, Option.map_some, Bool.not_true, Bool.not_false, if_true, isT, decide_true, decide_false, ite_true, setTg, reduceIte, Nat.zero_add, lim, Nat.reduceLeDiff, List.nil_append, List.append_nil, String.reduceEq, or_false, or_true, or_self, Nat.zero_le, e1, e2]
theorem gcd_step (a b : Int) : Nat.gcd (a % b).natAbs b.natAbs = Nat.gcd a.natAbs b.natAbs := by
  show Int.gcd (a % b) b = Int.gcd a b
  have h := Int.gcd_add_mul_left_left b (a % b) (a / b)
  rw [Int.emod_add_mul_ediv] at h
  exact h.symm
theorem div_loop4 {Φ : Bool → Nat → List Val → Store → R Val} {S : Store} (u v : Option Val) : ∀ (fuel x y : Nat), y < fuel →
    whileS Φ WW (.cmp .gt (.var 3) (.int 0)) (.seq (.par 2 3 (.var 3) (.bin .mod (.var 2) (.var 3))) .nil) fuel [u, v, some (.int x), some (.int y)] S
      = .nxt [u, v, some (.int (Nat.gcd x y : Nat)), some (.int 0)] S := by
  intro fuel
  induction fuel with
  | zero => intro x y h; omega
  | succ k ih =>
    intro x y h
    rw [w_succ]
    by_cases hy : y = 0
    · subst hy
      have h1 : decide ((0 : Int) < ((0 : Nat) : Int)) = false := rfl
      simp only [m_var, m_non, m_yes, m_bl, m_int, m_str, m_tup, m_lst, m_bin, m_neg, m_cmp, m_chain, m_and, m_or, m_not, m_ite, m_call, m_blt, m_isi, m_ix, m_sl, m_comp, m_mth, m_anil, m_acons, m_onil, m_part, m_rng, m_rng2, m_enum, m_zip, m_vals, k_tup, k_lst, k_mkT, k_mkF, k_bin1, k_bin2, k_of, k_neg, k_cmp1, k_cmp2, k_ch1, k_ch2, k_ch3T, k_ch3F, k_andT, k_andF, k_orT, k_orF, k_not, k_iteT, k_iteF, k_call, k_blt, k_isi, k_ix1, k_ix2, k_sl1, k_sl2, k_sl3, k_part, k_cons1, k_cons2, k_comp1, k_comp2, k_mth1, k_mth2, k_mth3, k_rng, k_rng1, k_rng2, k_enum, k_zip1, k_zipL, k_zipT, k_valsT, k_valsL, s_nil, s_seq, s_expr, s_asg, s_par, s_unp, s_sub, s_if, s_for, s_while, s_ret, s_retN, s_pass, s_brk, s_cnt, k_seqN, k_seqR, k_seqB, k_seqC, k_expr, k_asg, k_par1, k_par2, k_unp, k_unp2, k_sub1, k_sub2, k_sub3, k_sub4, k_ifT, k_ifF, k_ret, k_for, k_forSet, k_turnN, k_turnC, k_turnB, k_turnR, k_whT, k_whF, k_wh2N, k_wh2C, k_wh2B, k_wh2R, o_nxt, o_ret, v_add, v_sub, v_mul, v_fdiv, v_mod, v_pow, v_lt, v_le, v_gt, v_ge, v_eqI, v_neI, v_eqB, v_neB, v_isB, v_isnotB, v_lenT, v_lenL, v_abs, v_max2, v_min2, v_ixT, v_ixL, at_0, at_1, at_2, List.getElem?_cons_zero, List.getElem?_cons_succ, List.set_cons_zero, List.set_cons_succ, List.length_cons, List.length_nil, Option.map_some, Bool.not_true, Bool.not_false, if_true, isT, decide_true, decide_false, ite_true, setTg, reduceIte, Nat.zero_add, lim, Nat.reduceLeDiff, List.nil_append, List.append_nil, String.reduceEq, or_false, or_true, or_self, Nat.zero_le, h1]
      rw [Nat.gcd_zero_right]
      rfl
    · have h1 : (0 : Int) < (y : Int) := by omega
      have ih' := ih y (x % y) (by have := Nat.mod_lt x (Nat.pos_of_ne_zero hy); omega)
      rw [Nat.gcd_comm, Nat.gcd_rec, Nat.gcd_comm, ← ih']
      simp only [m_var, m_non, m_yes, m_bl, m_int, m_str, m_tup, m_lst, m_bin, m_neg, m_cmp, m_chain, m_and, m_or, m_not, m_ite, m_call, m_blt, m_isi, m_ix, m_sl, m_comp, m_mth, m_anil, m_acons, m_onil, m_part, m_rng, m_rng2, m_enum, m_zip, m_vals, k_tup, k_lst, k_mkT, k_mkF, k_bin1, k_bin2, k_of, k_neg, k_cmp1, k_cmp2, k_ch1, k_ch2, k_ch3T, k_ch3F, k_andT, k_andF, k_orT, k_orF, k_not, k_iteT, k_iteF, k_call, k_blt, k_isi, k_ix1, k_ix2, k_sl1, k_sl2, k_sl3, k_part, k_cons1, k_cons2, k_comp1, k_comp2, k_mth1, k_mth2, k_mth3, k_rng, k_rng1, k_rng2, k_enum, k_zip1, k_zipL, k_zipT, k_valsT, k_valsL, s_nil, s_seq, s_expr, s_asg, s_par, s_unp, s_sub, s_if, s_for, s_while, s_ret, s_retN, s_pass, s_brk, s_cnt, k_seqN, k_seqR, k_seqB, k_seqC, k_expr, k_asg, k_par1, k_par2, k_unp, k_unp2, k_sub1, k_sub2, k_sub3, k_sub4, k_ifT, k_ifF, k_ret, k_for, k_forSet, k_turnN, k_turnC, k_turnB, k_turnR, k_whT, k_whF, k_wh2N, k_wh2C, k_wh2B, k_wh2R, o_nxt, o_ret, v_add, v_sub, v_mul, v_fdiv, v_mod, v_pow, v_lt, v_le, v_gt, v_ge, v_eqI, v_neI, v_eqB, v_neB, v_isB, v_isnotB, v_lenT, v_lenL, v_abs, v_max2, v_min2, v_ixT, v_ixL, at_0, at_1, at_2, List.getElem?_cons_zero, List.getElem?_cons_succ, List.set_cons_zero, List.set_cons_succ, List.length_cons, List.length_nil, Option.map_some, Bool.not_true, Bool.not_false, if_true, isT, decide_true, decide_false, ite_true, setTg, reduceIte, Nat.zero_add, lim, Nat.reduceLeDiff, List.nil_append, List.append_nil, String.reduceEq, or_false, or_true, or_self, Nat.zero_le, h1]
      rfl
/-- gcd by steps, of a first number of any sign -/
theorem low_loop {Φ : Bool → Nat → List Val → Store → R Val} {S : Store} (a b : Int) (u v : Option Val) (hb : 1 ≤ b) (hW : b.natAbs < 2 ^ 1000) :
    whileS Φ WW (.cmp .gt (.var 3) (.int 0)) (.seq (.par 2 3 (.var 3) (.bin .mod (.var 2) (.var 3))) .nil) WW [u, v, some (.int a), some (.int b)] S
      = .nxt [u, v, some (.int (Nat.gcd a.natAbs b.natAbs : Nat)), some (.int 0)] S := by
  have h1 : (0 : Int) < b := by omega
  have hm := Int.emod_nonneg a (show b ≠ 0 by omega)
  have hl := Int.emod_lt_of_pos a h1
  have hw : WW = (WW - 1) + 1 := by decide
  have e1 : ((a % b).natAbs : Int) = a % b := by omega
  have e2 : (b.natAbs : Int) = b := by omega
  have hl2 := div_loop4 (Φ := Φ) (S := S) u v (WW - 1) b.natAbs (a % b).natAbs (by have := lt_W hW; omega)
  rw [e1, e2, Nat.gcd_comm, gcd_step] at hl2
  rw [hw, w_succ, ← hw]
  simp only [m_var, m_non, m_yes, m_bl, m_int, m_str, m_tup, m_lst, m_bin, m_neg, m_cmp, m_chain, m_and, m_or, m_not, m_ite, m_call, m_blt, m_isi, m_ix, m_sl, m_comp, m_mth, m_anil, m_acons, m_onil, m_part, m_rng, m_rng2, m_enum, m_zip, m_vals, k_tup, k_lst, k_mkT, k_mkF, k_bin1, k_bin2, k_of, k_neg, k_cmp1, k_cmp2, k_ch1, k_ch2, k_ch3T, k_ch3F, k_andT, k_andF, k_orT, k_orF, k_not, k_iteT, k_iteF, k_call, k_blt, k_isi, k_ix1, k_ix2, k_sl1, k_sl2, k_sl3, k_part, k_cons1, k_cons2, k_comp1, k_comp2, k_mth1, k_mth2, k_mth3, k_rng, k_rng1, k_rng2, k_enum, k_zip1, k_zipL, k_zipT, k_valsT, k_valsL, s_nil, s_seq, s_expr, s_asg, s_par, s_unp, s_sub, s_if, s_for, s_while, s_ret, s_retN, s_pass, s_brk, s_cnt, k_seqN, k_seqR, k_seqB, k_seqC, k_expr, k_asg, k_par1, k_par2, k_unp, k_unp2, k_sub1, k_sub2, k_sub3, k_sub4, k_ifT, k_ifF, k_ret, k_for, k_forSet, k_turnN, k_turnC, k_turnB, k_turnR, k_whT, k_whF, k_wh2N, k_wh2C, k_wh2B, k_wh2R, o_nxt, o_ret, v_add, v_sub, v_mul, v_fdiv, v_mod, v_pow, v_lt, v_le, v_gt, v_ge, v_eqI, v_neI, v_eqB, v_neB, v_isB, v_isnotB, v_lenT, v_lenL, v_abs, v_max2, v_min2, v_ixT, v_ixL, at_0, at_1, at_2, List.getElem?_cons_zero, List.getElem?_cons_succ, List.set_cons_zero, List.set_cons_succ, List.length_cons, List.length_nil, Option.map_some, Bool.not_true, Bool.not_false, if_true, isT, decide_true, decide_false, ite_true, setTg, reduceIte, Nat.zero_add, lim, Nat.reduceLeDiff, List.nil_append, List.append_nil, String.reduceEq, or_false, or_true, or_self, Nat.zero_le, h1, v_mod a b h1]
  exact hl2
theorem c_alow {k : Nat} {S : Store} (a b : Int) (h1 : 1 ≤ b) (hb : b.natAbs < 2 ^ 1000) : callI (run P WW (k + 1)) false 8 [.int a, .int b] S = .ok (lowV a b) S := by
  refine call_val (S' := []) rfl ?_ rfl
  rw [run_f (d := f8) rfl rfl]
  show (execS _ WW b8 [some (.int a), some (.int b), none, none] []).res = _
  unfold b8 b8_0
  obtain ⟨g, hg, g0, g1, _⟩ := low_math a b h1
  have g2 : ((g : Nat) : Int).natAbs.log2 < 9000 := Nat.lt_trans (log_lt (k := 1000) (by omega) (by decide)) (by decide)
  have hl := low_loop (Φ := callI (run P WW k)) (S := []) a b (some (.int a)) (some (.int b)) h1 hb
  simp only [m_var, m_non, m_yes, m_bl, m_int, m_str, m_tup, m_lst, m_bin, m_neg, m_cmp, m_chain, m_and, m_or, m_not, m_ite, m_call, m_blt, m_isi, m_ix, m_sl, m_comp, m_mth, m_anil, m_acons, m_onil, m_part, m_rng, m_rng2, m_enum, m_zip, m_vals, k_tup, k_lst, k_mkT, k_mkF, k_bin1, k_bin2, k_of, k_neg, k_cmp1, k_cmp2, k_ch1, k_ch2, k_ch3T, k_ch3F, k_andT, k_andF, k_orT, k_orF, k_not, k_iteT, k_iteF, k_call, k_blt, k_isi, k_ix1, k_ix2, k_sl1, k_sl2, k_sl3, k_part, k_cons1, k_cons2, k_comp1, k_comp2, k_mth1, k_mth2, k_mth3, k_rng, k_rng1, k_rng2, k_enum, k_zip1, k_zipL, k_zipT, k_valsT, k_valsL, s_nil, s_seq, s_expr, s_asg, s_par, s_unp, s_sub, s_if, s_for, s_while, s_ret, s_retN, s_pass, s_brk, s_cnt, k_seqN, k_seqR, k_seqB, k_seqC, k_expr, k_asg, k_par1, k_par2, k_unp, k_unp2, k_sub1, k_sub2, k_sub3, k_sub4, k_ifT, k_ifF, k_ret, k_for, k_forSet, k_turnN, k_turnC, k_turnB, k_turnR, k_whT, k_whF, k_wh2N, k_wh2C, k_wh2B, k_wh2R, o_nxt, o_ret, v_add, v_sub, v_mul, v_fdiv, v_mod, v_pow, v_lt, v_le, v_gt, v_ge, v_eqI, v_neI, v_eqB, v_neB, v_isB, v_isnotB, v_lenT, v_lenL, v_abs, v_max2, v_min2, v_ixT, v_ixL, at_0, at_1, at_2, List.getElem?_cons_zero, List.getElem?_cons_succ, List.set_cons_zero, List.set_cons_succ, List.length_cons, List.length_nil, Option.map_some, Bool.not_true, Bool.not_false, if_true, isT, decide_true, decide_false, ite_true, setTg, reduceIte, Nat.zero_add, lim, Nat.reduceLeDiff, List.nil_append, List.append_nil, String.reduceEq, or_false, or_true, or_self, Nat.zero_le, hl, ← hg, v_fdiv _ _ g0 g2]
  unfold lowV
  rw [← hg]
theorem c_common {k : Nat} {S : Store} (a b : Int) (h1 : 1 ≤ b) (hb : b.natAbs < 2 ^ 1000) : callI (run P WW (k + 1)) false 10 [.int a, .int b] S = .ok (.int (Nat.gcd a.natAbs b.natAbs : Nat)) S := by
  refine call_val (S' := []) rfl ?_ rfl
  rw [run_f (d := f10) rfl rfl]
  show (execS _ WW b10 [some (.int a), some (.int b)] []).res = _
  unfold b10 b10_0
  have hl := div_loop (Φ := callI (run P WW k)) (S := []) WW a.natAbs b.natAbs (lt_W hb)
  have e2 : (b.natAbs : Int) = b := by omega
  rw [e2] at hl
  simp only [m_var, m_non, m_yes, m_bl, m_int, m_str, m_tup, m_lst, m_bin, m_neg, m_cmp, m_chain, m_and, m_or, m_not, m_ite, m_call, m_blt, m_isi, m_ix, m_sl, m_comp, m_mth, m_anil, m_acons, m_onil, m_part, m_rng, m_rng2, m_enum, m_zip, m_vals, k_tup, k_lst, k_mkT, k_mkF, k_bin1, k_bin2, k_of, k_neg, k_cmp1, k_cmp2, k_ch1, k_ch2, k_ch3T, k_ch3F, k_andT, k_andF, k_orT, k_orF, k_not, k_iteT, k_iteF, k_call, k_blt, k_isi, k_ix1, k_ix2, k_sl1, k_sl2, k_sl3, k_part, k_cons1, k_cons2, k_comp1, k_comp2, k_mth1, k_mth2, k_mth3, k_rng, k_rng1, k_rng2, k_enum, k_zip1, k_zipL, k_zipT, k_valsT, k_valsL, s_nil, s_seq, s_expr, s_asg, s_par, s_unp, s_sub, s_if, s_for, s_while, s_ret, s_retN, s_pass, s_brk, s_cnt, k_seqN, k_seqR, k_seqB, k_seqC, k_expr, k_asg, k_par1, k_par2, k_unp, k_unp2, k_sub1, k_sub2, k_sub3, k_sub4, k_ifT, k_ifF, k_ret, k_for, k_forSet, k_turnN, k_turnC, k_turnB, k_turnR, k_whT, k_whF, k_wh2N, k_wh2C, k_wh2B, k_wh2R, o_nxt, o_ret, v_add, v_sub, v_mul, v_fdiv, v_mod, v_pow, v_lt, v_le, v_gt, v_ge, v_eqI, v_neI, v_eqB, v_neB, v_isB, v_isnotB, v_lenT, v_lenL, v_abs, v_max2, v_min2, v_ixT, v_ixL, at_0, at_1, at_2, List.getElem?_cons_zero, List.getElem?_cons_succ, List.set_cons_zero, List.set_cons_succ, List.length_cons, List.length_nil, Option.map_some, Bool.not_true, Bool.not_false, if_true, isT, decide_true, decide_false, ite_true, setTg, reduceIte, Nat.zero_add, lim, Nat.reduceLeDiff, List.nil_append, List.append_nil, String.reduceEq, or_false, or_true, or_self, Nat.zero_le, abs_nat, hl]
theorem c_islow {k : Nat} {S : Store} (a b : Int) (h1 : 1 ≤ b) (hb : b.natAbs < 2 ^ 1000) : callI (run P WW (k + 2)) false 11 [lowV a b] S = .ok (.bl true) S := by
  obtain ⟨g, hg, g0, g1, g2, g3, g4, g5, _⟩ := low_math a b h1
  have e : lowV a b = .tup [.int (a / g), .int (b / g)] := by
    unfold lowV
    rw [← hg]
  rw [e]
  refine call_val (S' := []) rfl ?_ rfl
  rw [run_f (d := f11) rfl rfl]
  show (execS _ WW b11 [some (.tup [.int (a / g), .int (b / g)])] []).res = _
  unfold b11
  have e1 : isT [] "tuple" (.tup [.int (a / g), .int (b / g)]) = some true := rfl
  have e2 : (((0 + 1 + 1 : Nat) : Int) == 2) = true := rfl
  have e3 : (((1 : Nat) : Int) == 1) = true := rfl
  have hb2 : (b / g).natAbs < 2 ^ 1000 := Nat.lt_of_le_of_lt (by omega) hb
  simp only [m_var, m_non, m_yes, m_bl, m_int, m_str, m_tup, m_lst, m_bin, m_neg, m_cmp, m_chain, m_and, m_or, m_not, m_ite, m_call, m_blt, m_isi, m_ix, m_sl, m_comp, m_mth, m_anil, m_acons, m_onil, m_part, m_rng, m_rng2, m_enum, m_zip, m_vals, k_tup, k_lst, k_mkT, k_mkF, k_bin1, k_bin2, k_of, k_neg, k_cmp1, k_cmp2, k_ch1, k_ch2, k_ch3T, k_ch3F, k_andT, k_andF, k_orT, k_orF, k_not, k_iteT, k_iteF, k_call, k_blt, k_isi, k_ix1, k_ix2, k_sl1, k_sl2, k_sl3, k_part, k_cons1, k_cons2, k_comp1, k_comp2, k_mth1, k_mth2, k_mth3, k_rng, k_rng1, k_rng2, k_enum, k_zip1, k_zipL, k_zipT, k_valsT, k_valsL, s_nil, s_seq, s_expr, s_asg, s_par, s_unp, s_sub, s_if, s_for, s_while, s_ret, s_retN, s_pass, s_brk, s_cnt, k_seqN, k_seqR, k_seqB, k_seqC, k_expr, k_asg, k_par1, k_par2, k_unp, k_unp2, k_sub1, k_sub2, k_sub3, k_sub4, k_ifT, k_ifF, k_ret, k_for, k_forSet, k_turnN, k_turnC, k_turnB, k_turnR, k_whT, k_whF, k_wh2N, k_wh2C, k_wh2B, k_wh2R, o_nxt, o_ret, v_add, v_sub, v_mul, v_fdiv, v_mod, v_pow, v_lt, v_le, v_gt, v_ge, v_eqI, v_neI, v_eqB, v_neB, v_isB, v_isnotB, v_lenT, v_lenL, v_abs, v_max2, v_min2, v_ixT, v_ixL, at_0, at_1, at_2, List.getElem?_cons_zero, List.getElem?_cons_succ, List.set_cons_zero, List.set_cons_succ, List.length_cons, List.length_nil, Option.map_some, Bool.not_true, Bool.not_false, if_true, isT, decide_true, decide_false, ite_true, setTg, reduceIte, Nat.zero_add, lim, Nat.reduceLeDiff, List.nil_append, List.append_nil, String.reduceEq, or_false, or_true, or_self, Nat.zero_le, e1, e2, e3, c_whole, g2, c_common (a / g) (b / g) g2 hb2, g5]
theorem log_c (n : Int) (h : n.natAbs < 2 ^ 100) : n.natAbs.log2 < 9000 := Nat.lt_trans (log_lt h (by decide)) (by decide)
/-- a number of draws -/
theorem c_number {k : Nat} {S : Store} (t : Int) : ∃ a t' : Int, callI (run P WW (k + 2)) false 9 [.loc S.length] (S ++ [.lst [.int t]]) = .ok (.int a) (S ++ [.lst [.int t']]) ∧ 0 ≤ a ∧ a.natAbs < 2 ^ 140 := by
  suffices h : ∃ a t' : Int, run P WW (k + 2) 9 [.loc 0] [.lst [.int t]] = .ok (.int a) [.lst [.int t']] ∧ 0 ≤ a ∧ a.natAbs < 2 ^ 140 by
    obtain ⟨a, t', h1, h2⟩ := h
    refine ⟨a, t', ?_, h2⟩
    rw [call_loc (vs := [.int t]) (S' := [.lst [.int t']]) (ws := [.int t']) rfl (get_last _ _) rfl h1 rfl rfl rfl, set_last]
  have cd : ∀ (t m : Int), 0 < m → m.natAbs.log2 < 9000 → callI (run P WW (k + 1)) false 6 [.loc 0, .int m] [.lst [.int t]] = .ok (.int (t % m)) [.lst [.int (t / m)]] := fun t m h1 h2 => c_last (S := []) t m h1 h2
  rw [run_f (d := f9) rfl rfl]
  show ∃ a t' : Int, (execS _ WW b9 [some (.loc 0), none] [.lst [.int t]]).res = .ok (.int a) [.lst [.int t']] ∧ _
  have d4 := cd t 4 (by decide) (log_c _ (by decide))
  have l20 : (100000000000000000000 : Int).natAbs.log2 < 9000 := log_c _ (by decide)
  have p20 : binV .pow (.int 10) (.int 20) = some (.int 100000000000000000000) := rfl
  have mod4 := Int.emod_nonneg t (show (4 : Int) ≠ 0 by decide)
  have mod4' := Int.emod_lt_of_pos t (show (0 : Int) < 4 by decide)
  by_cases c3 : t % 4 = 3
  · have e3 : (t % 4 == 3) = true := by rw [c3]; rfl
    have d5 := cd (t / 4) 100000000000000000000 (by decide) l20
    have d6 := cd (t / 4 / 100000000000000000000) 1000 (by decide) (log_c _ (by decide))
    have b5 := Int.emod_nonneg (t / 4) (show (100000000000000000000 : Int) ≠ 0 by decide)
    have b5' := Int.emod_lt_of_pos (t / 4) (show (0 : Int) < 100000000000000000000 by decide)
    have b6 := Int.emod_nonneg (t / 4 / 100000000000000000000) (show (1000 : Int) ≠ 0 by decide)
    have b6' := Int.emod_lt_of_pos (t / 4 / 100000000000000000000) (show (0 : Int) < 1000 by decide)
    have mk := mul_ok (i := t / 4 % 100000000000000000000) (j := 100000000000000000000) (nab_le (n := 100) (by omega) (by decide)) (nab_le (n := 100) (by decide) (by decide))
    refine ⟨t / 4 % 100000000000000000000 * 100000000000000000000 + t / 4 / 100000000000000000000 % 1000, t / 4 / 100000000000000000000 / 1000, ?_, by omega, by omega⟩
    unfold b9
    simp only [m_var, m_non, m_yes, m_bl, m_int, m_str, m_tup, m_lst, m_bin, m_neg, m_cmp, m_chain, m_and, m_or, m_not, m_ite, m_call, m_blt, m_isi, m_ix, m_sl, m_comp, m_mth, m_anil, m_acons, m_onil, m_part, m_rng, m_rng2, m_enum, m_zip, m_vals, k_tup, k_lst, k_mkT, k_mkF, k_bin1, k_bin2, k_of, k_neg, k_cmp1, k_cmp2, k_ch1, k_ch2, k_ch3T, k_ch3F, k_andT, k_andF, k_orT, k_orF, k_not, k_iteT, k_iteF, k_call, k_blt, k_isi, k_ix1, k_ix2, k_sl1, k_sl2, k_sl3, k_part, k_cons1, k_cons2, k_comp1, k_comp2, k_mth1, k_mth2, k_mth3, k_rng, k_rng1, k_rng2, k_enum, k_zip1, k_zipL, k_zipT, k_valsT, k_valsL, s_nil, s_seq, s_expr, s_asg, s_par, s_unp, s_sub, s_if, s_for, s_while, s_ret, s_retN, s_pass, s_brk, s_cnt, k_seqN, k_seqR, k_seqB, k_seqC, k_expr, k_asg, k_par1, k_par2, k_unp, k_unp2, k_sub1, k_sub2, k_sub3, k_sub4, k_ifT, k_ifF, k_ret, k_for, k_forSet, k_turnN, k_turnC, k_turnB, k_turnR, k_whT, k_whF, k_wh2N, k_wh2C, k_wh2B, k_wh2R, o_nxt, o_ret, v_add, v_sub, v_mul, v_fdiv, v_mod, v_pow, v_lt, v_le, v_gt, v_ge, v_eqI, v_neI, v_eqB, v_neB, v_isB, v_isnotB, v_lenT, v_lenL, v_abs, v_max2, v_min2, v_ixT, v_ixL, at_0, at_1, at_2, List.getElem?_cons_zero, List.getElem?_cons_succ, List.set_cons_zero, List.set_cons_succ, List.length_cons, List.length_nil, Option.map_some, Bool.not_true, Bool.not_false, if_true, isT, decide_true, decide_false, ite_true, setTg, reduceIte, Nat.zero_add, lim, Nat.reduceLeDiff, List.nil_append, List.append_nil, String.reduceEq, or_false, or_true, or_self, Nat.zero_le, d4, e3, p20, d5, d6, v_mul _ _ mk]
  · have e3 : (t % 4 == 3) = false := by
      cases e : (t % 4 == 3) with
      | false => rfl
      | true => exact absurd (eq_of_beq e) c3
    by_cases c2 : t % 4 = 2
    · have e2 : (t % 4 == 2) = true := by rw [c2]; rfl
      have d5 := cd (t / 4) 50 (by decide) (log_c _ (by decide))
      have b5 := Int.emod_nonneg (t / 4) (show (50 : Int) ≠ 0 by decide)
      have b5' := Int.emod_lt_of_pos (t / 4) (show (0 : Int) < 50 by decide)
      have mk := mul_okL (a := 60) (t / 4 % 50) (by decide) (by decide)
      refine ⟨60 * (t / 4 % 50), t / 4 / 50, ?_, by omega, by omega⟩
      unfold b9
      simp only [m_var, m_non, m_yes, m_bl, m_int, m_str, m_tup, m_lst, m_bin, m_neg, m_cmp, m_chain, m_and, m_or, m_not, m_ite, m_call, m_blt, m_isi, m_ix, m_sl, m_comp, m_mth, m_anil, m_acons, m_onil, m_part, m_rng, m_rng2, m_enum, m_zip, m_vals, k_tup, k_lst, k_mkT, k_mkF, k_bin1, k_bin2, k_of, k_neg, k_cmp1, k_cmp2, k_ch1, k_ch2, k_ch3T, k_ch3F, k_andT, k_andF, k_orT, k_orF, k_not, k_iteT, k_iteF, k_call, k_blt, k_isi, k_ix1, k_ix2, k_sl1, k_sl2, k_sl3, k_part, k_cons1, k_cons2, k_comp1, k_comp2, k_mth1, k_mth2, k_mth3, k_rng, k_rng1, k_rng2, k_enum, k_zip1, k_zipL, k_zipT, k_valsT, k_valsL, s_nil, s_seq, s_expr, s_asg, s_par, s_unp, s_sub, s_if, s_for, s_while, s_ret, s_retN, s_pass, s_brk, s_cnt, k_seqN, k_seqR, k_seqB, k_seqC, k_expr, k_asg, k_par1, k_par2, k_unp, k_unp2, k_sub1, k_sub2, k_sub3, k_sub4, k_ifT, k_ifF, k_ret, k_for, k_forSet, k_turnN, k_turnC, k_turnB, k_turnR, k_whT, k_whF, k_wh2N, k_wh2C, k_wh2B, k_wh2R, o_nxt, o_ret, v_add, v_sub, v_mul, v_fdiv, v_mod, v_pow, v_lt, v_le, v_gt, v_ge, v_eqI, v_neI, v_eqB, v_neB, v_isB, v_isnotB, v_lenT, v_lenL, v_abs, v_max2, v_min2, v_ixT, v_ixL, at_0, at_1, at_2, List.getElem?_cons_zero, List.getElem?_cons_succ, List.set_cons_zero, List.set_cons_succ, List.length_cons, List.length_nil, Option.map_some, Bool.not_true, Bool.not_false, if_true, isT, decide_true, decide_false, ite_true, setTg, reduceIte, Nat.zero_add, lim, Nat.reduceLeDiff, List.nil_append, List.append_nil, String.reduceEq, or_false, or_true, or_self, Nat.zero_le, d4, e3, e2, d5, v_mul _ _ mk]
    · have e2 : (t % 4 == 2) = false := by
        cases e : (t % 4 == 2) with
        | false => rfl
        | true => exact absurd (eq_of_beq e) c2
      have d5 := cd (t / 4) 8 (by decide) (log_c _ (by decide))
      have b5 := Int.emod_nonneg (t / 4) (show (8 : Int) ≠ 0 by decide)
      have b5' := Int.emod_lt_of_pos (t / 4) (show (0 : Int) < 8 by decide)
      refine ⟨t / 4 % 8, t / 4 / 8, ?_, by omega, by omega⟩
      unfold b9
      simp only [m_var, m_non, m_yes, m_bl, m_int, m_str, m_tup, m_lst, m_bin, m_neg, m_cmp, m_chain, m_and, m_or, m_not, m_ite, m_call, m_blt, m_isi, m_ix, m_sl, m_comp, m_mth, m_anil, m_acons, m_onil, m_part, m_rng, m_rng2, m_enum, m_zip, m_vals, k_tup, k_lst, k_mkT, k_mkF, k_bin1, k_bin2, k_of, k_neg, k_cmp1, k_cmp2, k_ch1, k_ch2, k_ch3T, k_ch3F, k_andT, k_andF, k_orT, k_orF, k_not, k_iteT, k_iteF, k_call, k_blt, k_isi, k_ix1, k_ix2, k_sl1, k_sl2, k_sl3, k_part, k_cons1, k_cons2, k_comp1, k_comp2, k_mth1, k_mth2, k_mth3, k_rng, k_rng1, k_rng2, k_enum, k_zip1, k_zipL, k_zipT, k_valsT, k_valsL, s_nil, s_seq, s_expr, s_asg, s_par, s_unp, s_sub, s_if, s_for, s_while, s_ret, s_retN, s_pass, s_brk, s_cnt, k_seqN, k_seqR, k_seqB, k_seqC, k_expr, k_asg, k_par1, k_par2, k_unp, k_unp2, k_sub1, k_sub2, k_sub3, k_sub4, k_ifT, k_ifF, k_ret, k_for, k_forSet, k_turnN, k_turnC, k_turnB, k_turnR, k_whT, k_whF, k_wh2N, k_wh2C, k_wh2B, k_wh2R, o_nxt, o_ret, v_add, v_sub, v_mul, v_fdiv, v_mod, v_pow, v_lt, v_le, v_gt, v_ge, v_eqI, v_neI, v_eqB, v_neB, v_isB, v_isnotB, v_lenT, v_lenL, v_abs, v_max2, v_min2, v_ixT, v_ixL, at_0, at_1, at_2, List.getElem?_cons_zero, List.getElem?_cons_succ, List.set_cons_zero, List.set_cons_succ, List.length_cons, List.length_nil, Option.map_some, Bool.not_true, Bool.not_false, if_true, isT, decide_true, decide_false, ite_true, setTg, reduceIte, Nat.zero_add, lim, Nat.reduceLeDiff, List.nil_append, List.append_nil, String.reduceEq, or_false, or_true, or_self, Nat.zero_le, d4, e3, e2, d5]
/-- of 1 and -1 -/
theorem sign_of (t : Int) : ∃ s : Int, L2.atI [Val.int 1, Val.int (-1)] (t % 2) = some (.int s) ∧ s.natAbs = 1 := by
  have h0 := Int.emod_nonneg t (show (2 : Int) ≠ 0 by decide)
  have h1 := Int.emod_lt_of_pos t (show (0 : Int) < 2 by decide)
  by_cases h : t % 2 = 0
  · exact ⟨1, by rw [h]; rfl, rfl⟩
  · have : t % 2 = 1 := by omega
    exact ⟨-1, by rw [this]; rfl, rfl⟩
theorem low_of (a b : Int) (h : 1 ≤ b) : ∃ A B : Int, lowV a b = .tup [.int A, .int B] ∧ 1 ≤ B ∧ B ≤ b ∧ A.natAbs ≤ a.natAbs ∧ A * b = a * B := by
  obtain ⟨g, hg, g0, g1, g2, g3, g4, g5, g6, _⟩ := low_math a b h
  refine ⟨a / g, b / g, ?_, g2, g3, g4, g6⟩
  unfold lowV
  rw [← hg]
theorem c_low {k : Nat} {S : Store} (a b : Int) (h1 : 1 ≤ b) (hb : b.natAbs < 2 ^ 1000) : callI (run P WW (k + 2)) false 1 [.int a, .int b] S = .ok (lowV a b) S := c_lowest a b h1 hb
theorem law_turn {k : Nat} (ns : List Int) (j : Nat) (o1 o2 o3 o4 o5 o6 o7 o8 o9 o10 o11 : Option Val) (S : Store) : ∃ p2 p3 p4 p5 p6 p7 p8 p9 p10 p11 S',
    execS (callI (run P WW (k + 5))) WW b12_0 [some (.lst (ns.map .int)), some (.int j), o2, o3, o4, o5, o6, o7, o8, o9, o10, o11] S
      = .nxt [some (.lst (ns.map .int)), some (.int j), p2, p3, p4, p5, p6, p7, p8, p9, p10, p11] S' := by
  obtain ⟨t, ht⟩ := c_atape (k := k + 3) (S := S) ns j
  obtain ⟨a, t1, ha, a0, a1⟩ := c_number (k := k + 3) (S := S) t
  obtain ⟨b, t2, hb, b0, b1⟩ := c_number (k := k + 3) (S := S) t1
  have hd := c_last (k := k + 4) (S := S) t2 2 (by decide) (log_c _ (by decide))
  obtain ⟨s, hs, s1⟩ := sign_of t2
  have hd2 := c_last (k := k + 4) (S := S) (t2 / 2) 2 (by decide) (log_c _ (by decide))
  obtain ⟨s', hs', s1'⟩ := sign_of (t2 / 2)
  obtain ⟨c, t3, hc, c0, c1⟩ := c_number (k := k + 3) (S := S) (t2 / 2 / 2)
  obtain ⟨d, t4, hd', d0, d1⟩ := c_number (k := k + 3) (S := S) t3
  have m1 := mul_okL (a := s) a (by omega) (by omega)
  have m2 := mul_okL (a := s') c (by omega) (by omega)
  have sa : (s * a).natAbs < 2 ^ 140 := by rw [Int.natAbs_mul, s1]; omega
  have sc : (s' * c).natAbs < 2 ^ 140 := by rw [Int.natAbs_mul, s1']; omega
  have b2 : (1 + b).natAbs < 2 ^ 141 := by omega
  have d2 : (1 + d).natAbs < 2 ^ 141 := by omega
  have b3 : 1 ≤ 1 + b := by omega
  have d3 : 1 ≤ 1 + d := by omega
  generalize hx : s * a = x at *
  generalize hy : 1 + b = y at *
  generalize hu : s' * c = u at *
  generalize hv : 1 + d = v at *
  obtain ⟨A, B, hA, A1, A2, A3, A4⟩ := low_of x y b3
  obtain ⟨C, D, hC, C1, C2, C3, C4⟩ := low_of u v d3
  have yB : B.natAbs < 2 ^ 141 := by omega
  have yD : D.natAbs < 2 ^ 141 := by omega
  have xA : A.natAbs < 2 ^ 140 := by omega
  have xC : C.natAbs < 2 ^ 140 := by omega
  have w1 : 1 ≤ B * D := Int.mul_pos A1 C1
  have w2 : (B * D).natAbs < 2 ^ 282 := nab_mul yB yD
  have w3 : (A * D).natAbs < 2 ^ 281 := nab_mul xA yD
  have w4 : (C * B).natAbs < 2 ^ 281 := nab_mul xC yB
  have w5 : (A * D + C * B).natAbs < 2 ^ 282 := nab_add w3 w4
  obtain ⟨E, F, hE, E1, E2, E3, E4⟩ := low_of (A * D + C * B) (B * D) w1
  have xE : E.natAbs < 2 ^ 282 := by omega
  have xF : F.natAbs < 2 ^ 282 := by omega
  have f1 := c_low (k := k + 3) (S := S ++ [.lst [.int (t2 / 2)]]) x y b3 (nab_le b2 (by decide))
  have f2 := c_islow (k := k + 3) (S := S ++ [.lst [.int (t2 / 2)]]) x y b3 (nab_le b2 (by decide))
  have f3 := c_alow (k := k + 4) (S := S ++ [.lst [.int (t2 / 2)]]) x y b3 (nab_le b2 (by decide))
  have f4 := c_alow (k := k + 4) (S := S ++ [.lst [.int t4]]) u v d3 (nab_le d2 (by decide))
  have f5 := c_plus (k := k + 2) (S := S ++ [.lst [.int t4]]) A B C D A1 C1 (nab_le xA (by decide)) (nab_le yB (by decide)) (nab_le xC (by decide)) (nab_le yD (by decide))
  have f6 := c_islow (k := k + 3) (S := S ++ [.lst [.int t4]]) (A * D + C * B) (B * D) w1 (nab_le w2 (by decide))
  have f7 := c_less (k := k + 4) (S := S ++ [.lst [.int t4]]) A B C D (nab_le xA (by decide)) (nab_le yB (by decide)) (nab_le xC (by decide)) (nab_le yD (by decide))
  have f8 := c_less (k := k + 4) (S := S ++ [.lst [.int t4]]) A B A B (nab_le xA (by decide)) (nab_le yB (by decide)) (nab_le xA (by decide)) (nab_le yB (by decide))
  rw [hA] at f1 f2 f3
  rw [hC] at f4
  rw [hE] at f5 f6
  have q1 := mul_ok (i := A) (j := y) (nab_le xA (by decide)) (nab_le b2 (by decide))
  have q2 := mul_ok (i := x) (j := B) (nab_le sa (by decide)) (nab_le yB (by decide))
  have q3 := mul_ok (i := A) (j := D) (nab_le xA (by decide)) (nab_le yD (by decide))
  have q4 := mul_ok (i := C) (j := B) (nab_le xC (by decide)) (nab_le yB (by decide))
  have q5 := mul_ok (i := E) (j := B) (nab_le xE (by decide)) (nab_le yB (by decide))
  have q6 := mul_ok (i := E * B) (j := D) (nab_le (nab_mul xE yB) (by decide)) (nab_le yD (by decide))
  have q7 := mul_ok (i := F) (j := A * D + C * B) (nab_le xF (by decide)) (nab_le w5 (by decide))
  have z1 : (A * y == x * B) = true := by rw [A4]; exact beq_self_eq_true _
  have z2 : (E * B * D == F * (A * D + C * B)) = true := by rw [Int.mul_assoc, E4, Int.mul_comm]; exact beq_self_eq_true _
  have z3 : decide (A * B < A * B) = false := decide_eq_false (Int.lt_irrefl _)
  have z4 : (decide (A * D < C * B) == decide (A * D < C * B)) = true := beq_self_eq_true _
  have z5 : isT (S ++ [.lst [.int t4]]) "bool" (.bl (decide (A * D < C * B))) = some true := rfl
  refine ⟨some (.loc S.length), some (.int a), some (.int y), some (.int s), some (.tup [.int A, .int B]), some (.tup [.int A, .int B]), some (.tup [.int C, .int D]), some (.tup [.int E, .int F]), some (.int (A * D + C * B)), some (.bl (decide (A * D < C * B))), S ++ [.lst [.int t4]], ?_⟩
  unfold b12_0
  simp only [m_var, m_non, m_yes, m_bl, m_int, m_str, m_tup, m_lst, m_bin, m_neg, m_cmp, m_chain, m_and, m_or, m_not, m_ite, m_call, m_blt, m_isi, m_ix, m_sl, m_comp, m_mth, m_anil, m_acons, m_onil, m_part, m_rng, m_rng2, m_enum, m_zip, m_vals, k_tup, k_lst, k_mkT, k_mkF, k_bin1, k_bin2, k_of, k_neg, k_cmp1, k_cmp2, k_ch1, k_ch2, k_ch3T, k_ch3F, k_andT, k_andF, k_orT, k_orF, k_not, k_iteT, k_iteF, k_call, k_blt, k_isi, k_ix1, k_ix2, k_sl1, k_sl2, k_sl3, k_part, k_cons1, k_cons2, k_comp1, k_comp2, k_mth1, k_mth2, k_mth3, k_rng, k_rng1, k_rng2, k_enum, k_zip1, k_zipL, k_zipT, k_valsT, k_valsL, s_nil, s_seq, s_expr, s_asg, s_par, s_unp, s_sub, s_if, s_for, s_while, s_ret, s_retN, s_pass, s_brk, s_cnt, k_seqN, k_seqR, k_seqB, k_seqC, k_expr, k_asg, k_par1, k_par2, k_unp, k_unp2, k_sub1, k_sub2, k_sub3, k_sub4, k_ifT, k_ifF, k_ret, k_for, k_forSet, k_turnN, k_turnC, k_turnB, k_turnR, k_whT, k_whF, k_wh2N, k_wh2C, k_wh2B, k_wh2R, o_nxt, o_ret, v_add, v_sub, v_mul, v_fdiv, v_mod, v_pow, v_lt, v_le, v_gt, v_ge, v_eqI, v_neI, v_eqB, v_neB, v_isB, v_isnotB, v_lenT, v_lenL, v_abs, v_max2, v_min2, v_ixT, v_ixL, at_0, at_1, at_2, List.getElem?_cons_zero, List.getElem?_cons_succ, List.set_cons_zero, List.set_cons_succ, List.length_cons, List.length_nil, Option.map_some, Bool.not_true, Bool.not_false, if_true, isT, decide_true, decide_false, ite_true, setTg, reduceIte, Nat.zero_add, lim, Nat.reduceLeDiff, List.nil_append, List.append_nil, String.reduceEq, or_false, or_true, or_self, Nat.zero_le, ht, ha, hb, hd, hs, v_mul _ _ m1, hx, hy, f1, f2, v_mul _ _ q1, v_mul _ _ q2, z1, f3, hd2, hs', hc, hd', v_mul _ _ m2, hu, hv, f4, f5, f6, f7, f8, v_mul _ _ q3, v_mul _ _ q4, v_mul _ _ q5, v_mul _ _ q6, v_mul _ _ q7, z2, z3, z4, z5]
theorem law_loop {k : Nat} (ns : List Int) : ∀ (xs : List Int), (∀ x ∈ xs, 0 ≤ x) → ∀ (o1 o2 o3 o4 o5 o6 o7 o8 o9 o10 o11 : Option Val) (S : Store), ∃ p1 p2 p3 p4 p5 p6 p7 p8 p9 p10 p11 S',
    forS (callI (run P WW (k + 5))) WW (.nm 1) b12_0 (xs.map .int) [some (.lst (ns.map .int)), o1, o2, o3, o4, o5, o6, o7, o8, o9, o10, o11] S
      = .nxt [some (.lst (ns.map .int)), p1, p2, p3, p4, p5, p6, p7, p8, p9, p10, p11] S'
  | [], _, o1, o2, o3, o4, o5, o6, o7, o8, o9, o10, o11, S => ⟨o1, o2, o3, o4, o5, o6, o7, o8, o9, o10, o11, S, rfl⟩
  | x :: xs, hx, o1, o2, o3, o4, o5, o6, o7, o8, o9, o10, o11, S => by
    have h0 := hx x List.mem_cons_self
    obtain ⟨p2, p3, p4, p5, p6, p7, p8, p9, p10, p11, S1, h1⟩ := law_turn (k := k) ns x.toNat (some (.int x)) o2 o3 o4 o5 o6 o7 o8 o9 o10 o11 S
    rw [Int.toNat_of_nonneg h0] at h1
    obtain ⟨r1, r2, r3, r4, r5, r6, r7, r8, r9, r10, r11, S2, h2⟩ := law_loop (k := k) ns xs (fun z hz => hx z (List.mem_cons_of_mem _ hz)) (some (.int x)) p2 p3 p4 p5 p6 p7 p8 p9 p10 p11 S1
    refine ⟨r1, r2, r3, r4, r5, r6, r7, r8, r9, r10, r11, S2, ?_⟩
    rw [List.map_cons, f_cons]
    simp only [m_var, m_non, m_yes, m_bl, m_int, m_str, m_tup, m_lst, m_bin, m_neg, m_cmp, m_chain, m_and, m_or, m_not, m_ite, m_call, m_blt, m_isi, m_ix, m_sl, m_comp, m_mth, m_anil, m_acons, m_onil, m_part, m_rng, m_rng2, m_enum, m_zip, m_vals, k_tup, k_lst, k_mkT, k_mkF, k_bin1, k_bin2, k_of, k_neg, k_cmp1, k_cmp2, k_ch1, k_ch2, k_ch3T, k_ch3F, k_andT, k_andF, k_orT, k_orF, k_not, k_iteT, k_iteF, k_call, k_blt, k_isi, k_ix1, k_ix2, k_sl1, k_sl2, k_sl3, k_part, k_cons1, k_cons2, k_comp1, k_comp2, k_mth1, k_mth2, k_mth3, k_rng, k_rng1, k_rng2, k_enum, k_zip1, k_zipL, k_zipT, k_valsT, k_valsL, s_nil, s_seq, s_expr, s_asg, s_par, s_unp, s_sub, s_if, s_for, s_while, s_ret, s_retN, s_pass, s_brk, s_cnt, k_seqN, k_seqR, k_seqB, k_seqC, k_expr, k_asg, k_par1, k_par2, k_unp, k_unp2, k_sub1, k_sub2, k_sub3, k_sub4, k_ifT, k_ifF, k_ret, k_for, k_forSet, k_turnN, k_turnC, k_turnB, k_turnR, k_whT, k_whF, k_wh2N, k_wh2C, k_wh2B, k_wh2R, o_nxt, o_ret, v_add, v_sub, v_mul, v_fdiv, v_mod, v_pow, v_lt, v_le, v_gt, v_ge, v_eqI, v_neI, v_eqB, v_neB, v_isB, v_isnotB, v_lenT, v_lenL, v_abs, v_max2, v_min2, v_ixT, v_ixL, at_0, at_1, at_2, List.getElem?_cons_zero, List.getElem?_cons_succ, List.set_cons_zero, List.set_cons_succ, List.length_cons, List.length_nil, Option.map_some, Bool.not_true, Bool.not_false, if_true, isT, decide_true, decide_false, ite_true, setTg, reduceIte, Nat.zero_add, lim, Nat.reduceLeDiff, List.nil_append, List.append_nil, String.reduceEq, or_false, or_true, or_self, Nat.zero_le, h1, h2]
theorem law_run (ns : List Int) (h : ns.length ≤ 63) : ∃ S', run P WW WN 12 [.lst (ns.map Val.int)] [] = .ok (.bl true) S' := by
  show ∃ S', run P WW (34 + 5 + 1) 12 _ _ = _
  rw [run_f (d := f12) rfl rfl]
  show ∃ S', (execS _ WW b12 [some (.lst (ns.map Val.int)), none, none, none, none, none, none, none, none, none, none, none] []).res = _
  obtain ⟨xs, hx, hx0⟩ := range_ints ((if (if (ns.length : Int) < 10 then (ns.length : Int) else 10) > 1 then (if (ns.length : Int) < 10 then (ns.length : Int) else 10) else 1) - 0).toNat 0
  obtain ⟨p1, p2, p3, p4, p5, p6, p7, p8, p9, p10, p11, S', hl⟩ := law_loop (k := 34) ns xs hx0 none none none none none none none none none none none []
  refine ⟨S', ?_⟩
  have e : b12 = .seq (.for_ (.nm 1) (.rng2 (.int 0) (.blt .max2 (.cons (.int 1) (.cons (.blt .min2 (.cons (.int 10) (.cons (.blt .len (.cons (.var 0) .nil)) .nil))) .nil)))) b12_0) (.seq (.ret (.bl true)) .nil) := rfl
  rw [e]
  have hr : -(2 ^ 62) ≤ (0 : Int) ∧ (0 : Int) < 2 ^ 62 ∧ -(2 ^ 62) ≤ (if (if (ns.length : Int) < 10 then (ns.length : Int) else 10) > 1 then (if (ns.length : Int) < 10 then (ns.length : Int) else 10) else 1) ∧ (if (if (ns.length : Int) < 10 then (ns.length : Int) else 10) > 1 then (if (ns.length : Int) < 10 then (ns.length : Int) else 10) else 1) < 2 ^ 62 := by
    split <;> split <;> omega
  simp only [m_var, m_non, m_yes, m_bl, m_int, m_str, m_tup, m_lst, m_bin, m_neg, m_cmp, m_chain, m_and, m_or, m_not, m_ite, m_call, m_blt, m_isi, m_ix, m_sl, m_comp, m_mth, m_anil, m_acons, m_onil, m_part, m_rng, m_rng2, m_enum, m_zip, m_vals, k_tup, k_lst, k_mkT, k_mkF, k_bin1, k_bin2, k_of, k_neg, k_cmp1, k_cmp2, k_ch1, k_ch2, k_ch3T, k_ch3F, k_andT, k_andF, k_orT, k_orF, k_not, k_iteT, k_iteF, k_call, k_blt, k_isi, k_ix1, k_ix2, k_sl1, k_sl2, k_sl3, k_part, k_cons1, k_cons2, k_comp1, k_comp2, k_mth1, k_mth2, k_mth3, k_rng, k_rng1, k_rng2, k_enum, k_zip1, k_zipL, k_zipT, k_valsT, k_valsL, s_nil, s_seq, s_expr, s_asg, s_par, s_unp, s_sub, s_if, s_for, s_while, s_ret, s_retN, s_pass, s_brk, s_cnt, k_seqN, k_seqR, k_seqB, k_seqC, k_expr, k_asg, k_par1, k_par2, k_unp, k_unp2, k_sub1, k_sub2, k_sub3, k_sub4, k_ifT, k_ifF, k_ret, k_for, k_forSet, k_turnN, k_turnC, k_turnB, k_turnR, k_whT, k_whF, k_wh2N, k_wh2C, k_wh2B, k_wh2R, o_nxt, o_ret, v_add, v_sub, v_mul, v_fdiv, v_mod, v_pow, v_lt, v_le, v_gt, v_ge, v_eqI, v_neI, v_eqB, v_neB, v_isB, v_isnotB, v_lenT, v_lenL, v_abs, v_max2, v_min2, v_ixT, v_ixL, at_0, at_1, at_2, List.getElem?_cons_zero, List.getElem?_cons_succ, List.set_cons_zero, List.set_cons_succ, List.length_cons, List.length_nil, Option.map_some, Bool.not_true, Bool.not_false, if_true, isT, decide_true, decide_false, ite_true, setTg, reduceIte, Nat.zero_add, lim, Nat.reduceLeDiff, List.nil_append, List.append_nil, String.reduceEq, or_false, or_true, or_self, Nat.zero_le, List.length_map, if_pos hr, hx, hl]
end Law_k30
namespace Law_k30
open PySem PySem.Spec PyProof.Rows L2 Iv
theorem sc0 : FnScope ["one", "other"] ["one", "other"] (defScope (topS 1)) := ⟨rfl, rfl, rfl, by decide +kernel, rfl, by decide +kernel, by decide +kernel⟩
theorem ck0 : chkB P B f0.N f0.body (defScope (topS 1)) (defBody (topS 1)) = true := by decide +kernel
theorem sc1 : FnScope ["a", "b", "common"] ["a", "b"] (defScope (topS 2)) := ⟨rfl, rfl, rfl, by decide +kernel, rfl, by decide +kernel, by decide +kernel⟩
theorem ck1 : chkB P B f1.N f1.body (defScope (topS 2)) (defBody (topS 2)) = true := by decide +kernel
theorem sc2 : FnScope ["one", "other"] ["one", "other"] (defScope (topS 3)) := ⟨rfl, rfl, rfl, by decide +kernel, rfl, by decide +kernel, by decide +kernel⟩
theorem ck2 : chkB P B f2.N f2.body (defScope (topS 3)) (defBody (topS 3)) = true := by decide +kernel
theorem sc3 : FnScope ["one", "other"] ["one", "other"] (defScope (topS 4)) := ⟨rfl, rfl, rfl, by decide +kernel, rfl, by decide +kernel, by decide +kernel⟩
theorem ck3 : chkB P B f3.N f3.body (defScope (topS 4)) (defBody (topS 4)) = true := by decide +kernel
theorem sc4 : FnScope ["script", "k"] ["script", "k"] (defScope (topS 6)) := ⟨rfl, rfl, rfl, by decide +kernel, rfl, by decide +kernel, by decide +kernel⟩
theorem ck4 : chkB P B f4.N f4.body (defScope (topS 6)) (defBody (topS 6)) = true := by decide +kernel
theorem sc5 : FnScope ["script", "k", "cell", "p", "number", "last", "turn"] ["script", "k"] (defScope (topS 7)) := ⟨rfl, rfl, rfl, by decide +kernel, rfl, by decide +kernel, by decide +kernel⟩
theorem ck5 : chkB P B f5.N f5.body (defScope (topS 7)) (defBody (topS 7)) = true := by decide +kernel
theorem sc6 : FnScope ["tape", "many", "found"] ["tape", "many"] (defScope (topS 8)) := ⟨rfl, rfl, rfl, by decide +kernel, rfl, by decide +kernel, by decide +kernel⟩
theorem ck6 : chkB P B f6.N f6.body (defScope (topS 8)) (defBody (topS 8)) = true := by decide +kernel
theorem sc7 : FnScope ["found"] ["found"] (defScope (topS 9)) := ⟨rfl, rfl, rfl, by decide +kernel, rfl, by decide +kernel, by decide +kernel⟩
theorem ck7 : chkB P B f7.N f7.body (defScope (topS 9)) (defBody (topS 9)) = true := by decide +kernel
theorem sc8 : FnScope ["a", "b", "one", "other"] ["a", "b"] (defScope (topS 10)) := ⟨rfl, rfl, rfl, by decide +kernel, rfl, by decide +kernel, by decide +kernel⟩
theorem ck8 : chkB P B f8.N f8.body (defScope (topS 10)) (defBody (topS 10)) = true := by decide +kernel
theorem sc9 : FnScope ["tape", "kind"] ["tape"] (defScope (topS 11)) := ⟨rfl, rfl, rfl, by decide +kernel, rfl, by decide +kernel, by decide +kernel⟩
theorem ck9 : chkB P B f9.N f9.body (defScope (topS 11)) (defBody (topS 11)) = true := by decide +kernel
theorem sc10 : FnScope ["one", "other"] ["one", "other"] (defScope (topS 12)) := ⟨rfl, rfl, rfl, by decide +kernel, rfl, by decide +kernel, by decide +kernel⟩
theorem ck10 : chkB P B f10.N f10.body (defScope (topS 12)) (defBody (topS 12)) = true := by decide +kernel
theorem sc11 : FnScope ["found"] ["found"] (defScope (topS 13)) := ⟨rfl, rfl, rfl, by decide +kernel, rfl, by decide +kernel, by decide +kernel⟩
theorem ck11 : chkB P B f11.N f11.body (defScope (topS 13)) (defBody (topS 13)) = true := by decide +kernel
theorem sc12 : FnScope ["script", "start", "tape", "a", "b", "sign", "found", "one", "other", "total", "due", "told"] ["script"] (defScope (topS 14)) := ⟨rfl, rfl, rfl, by decide +kernel, rfl, by decide +kernel, by decide +kernel⟩
theorem ck12 : chkB P B f12.N f12.body (defScope (topS 14)) (defBody (topS 14)) = true := by decide +kernel
section
theorem all_mk {l : PySem.W.OpenLaw} {w : World} {K : PySem.W.Frag} {h : Heap} {mg : Str → Option Value} {fa : Addr} (X : K.In h) (G : h.Ns mainGlobals mg) (hfa : mg "law" = some (.ref fa))
    {oc0 kV0 dc0 pm0 cd0 ct0 : Value} {od0 an0 : Option Addr} {sl0 : Array (Option Value)} {a0 : Addr}
    {oc1 kV1 dc1 pm1 cd1 ct1 : Value} {od1 an1 : Option Addr} {sl1 : Array (Option Value)} {a1 : Addr}
    {oc2 kV2 dc2 pm2 cd2 ct2 : Value} {od2 an2 : Option Addr} {sl2 : Array (Option Value)} {a2 : Addr}
    {oc3 kV3 dc3 pm3 cd3 ct3 : Value} {od3 an3 : Option Addr} {sl3 : Array (Option Value)} {a3 : Addr}
    {oc4 kV4 dc4 pm4 cd4 ct4 : Value} {od4 an4 : Option Addr} {sl4 : Array (Option Value)} {a4 : Addr}
    {oc5 kV5 dc5 pm5 cd5 ct5 : Value} {od5 an5 : Option Addr} {sl5 : Array (Option Value)} {a5 : Addr}
    {oc6 kV6 dc6 pm6 cd6 ct6 : Value} {od6 an6 : Option Addr} {sl6 : Array (Option Value)} {a6 : Addr}
    {oc7 kV7 dc7 pm7 cd7 ct7 : Value} {od7 an7 : Option Addr} {sl7 : Array (Option Value)} {a7 : Addr}
    {oc8 kV8 dc8 pm8 cd8 ct8 : Value} {od8 an8 : Option Addr} {sl8 : Array (Option Value)} {a8 : Addr}
    {oc9 kV9 dc9 pm9 cd9 ct9 : Value} {od9 an9 : Option Addr} {sl9 : Array (Option Value)} {a9 : Addr}
    {oc10 kV10 dc10 pm10 cd10 ct10 : Value} {od10 an10 : Option Addr} {sl10 : Array (Option Value)} {a10 : Addr}
    {oc11 kV11 dc11 pm11 cd11 ct11 : Value} {od11 an11 : Option Addr} {sl11 : Array (Option Value)} {a11 : Addr}
    {oc12 kV12 dc12 pm12 cd12 ct12 : Value} {od12 an12 : Option Addr} {sl12 : Array (Option Value)} {a12 : Addr}
    (m0 : PySem.W.nsIn K mainGlobals "divisor" = some (some (.ref a0))) (l0 : K.lookup a0 = some ⟨oc0, od0, .func (PySem.W.fnOf "divisor" "divisor" (defArgs (topS 1)) (defBody (topS 1)) (defScope (topS 1)) .none kV0 dc0 pm0 an0 cd0 ct0), sl0⟩) (c0 : PySem.W.codeIn K cd0 "divisor" = true) (k0 : PySem.W.keepIn K (.ref a0) = true)
    (m1 : PySem.W.nsIn K mainGlobals "lowest" = some (some (.ref a1))) (l1 : K.lookup a1 = some ⟨oc1, od1, .func (PySem.W.fnOf "lowest" "lowest" (defArgs (topS 2)) (defBody (topS 2)) (defScope (topS 2)) .none kV1 dc1 pm1 an1 cd1 ct1), sl1⟩) (c1 : PySem.W.codeIn K cd1 "lowest" = true) (k1 : PySem.W.keepIn K (.ref a1) = true)
    (m2 : PySem.W.nsIn K mainGlobals "plus" = some (some (.ref a2))) (l2 : K.lookup a2 = some ⟨oc2, od2, .func (PySem.W.fnOf "plus" "plus" (defArgs (topS 3)) (defBody (topS 3)) (defScope (topS 3)) .none kV2 dc2 pm2 an2 cd2 ct2), sl2⟩) (c2 : PySem.W.codeIn K cd2 "plus" = true) (k2 : PySem.W.keepIn K (.ref a2) = true)
    (m3 : PySem.W.nsIn K mainGlobals "is_less" = some (some (.ref a3))) (l3 : K.lookup a3 = some ⟨oc3, od3, .func (PySem.W.fnOf "is_less" "is_less" (defArgs (topS 4)) (defBody (topS 4)) (defScope (topS 4)) .none kV3 dc3 pm3 an3 cd3 ct3), sl3⟩) (c3 : PySem.W.codeIn K cd3 "is_less" = true) (k3 : PySem.W.keepIn K (.ref a3) = true)
    (m4 : PySem.W.nsIn K mainGlobals "_law_acell" = some (some (.ref a4))) (l4 : K.lookup a4 = some ⟨oc4, od4, .func (PySem.W.fnOf "_law_acell" "_law_acell" (defArgs (topS 6)) (defBody (topS 6)) (defScope (topS 6)) .none kV4 dc4 pm4 an4 cd4 ct4), sl4⟩) (c4 : PySem.W.codeIn K cd4 "_law_acell" = true) (k4 : PySem.W.keepIn K (.ref a4) = true)
    (m5 : PySem.W.nsIn K mainGlobals "_law_atape" = some (some (.ref a5))) (l5 : K.lookup a5 = some ⟨oc5, od5, .func (PySem.W.fnOf "_law_atape" "_law_atape" (defArgs (topS 7)) (defBody (topS 7)) (defScope (topS 7)) .none kV5 dc5 pm5 an5 cd5 ct5), sl5⟩) (c5 : PySem.W.codeIn K cd5 "_law_atape" = true) (k5 : PySem.W.keepIn K (.ref a5) = true)
    (m6 : PySem.W.nsIn K mainGlobals "_law_adigit" = some (some (.ref a6))) (l6 : K.lookup a6 = some ⟨oc6, od6, .func (PySem.W.fnOf "_law_adigit" "_law_adigit" (defArgs (topS 8)) (defBody (topS 8)) (defScope (topS 8)) .none kV6 dc6 pm6 an6 cd6 ct6), sl6⟩) (c6 : PySem.W.codeIn K cd6 "_law_adigit" = true) (k6 : PySem.W.keepIn K (.ref a6) = true)
    (m7 : PySem.W.nsIn K mainGlobals "_law_awhole" = some (some (.ref a7))) (l7 : K.lookup a7 = some ⟨oc7, od7, .func (PySem.W.fnOf "_law_awhole" "_law_awhole" (defArgs (topS 9)) (defBody (topS 9)) (defScope (topS 9)) .none kV7 dc7 pm7 an7 cd7 ct7), sl7⟩) (c7 : PySem.W.codeIn K cd7 "_law_awhole" = true) (k7 : PySem.W.keepIn K (.ref a7) = true)
    (m8 : PySem.W.nsIn K mainGlobals "_law_alow" = some (some (.ref a8))) (l8 : K.lookup a8 = some ⟨oc8, od8, .func (PySem.W.fnOf "_law_alow" "_law_alow" (defArgs (topS 10)) (defBody (topS 10)) (defScope (topS 10)) .none kV8 dc8 pm8 an8 cd8 ct8), sl8⟩) (c8 : PySem.W.codeIn K cd8 "_law_alow" = true) (k8 : PySem.W.keepIn K (.ref a8) = true)
    (m9 : PySem.W.nsIn K mainGlobals "_law_anumber" = some (some (.ref a9))) (l9 : K.lookup a9 = some ⟨oc9, od9, .func (PySem.W.fnOf "_law_anumber" "_law_anumber" (defArgs (topS 11)) (defBody (topS 11)) (defScope (topS 11)) .none kV9 dc9 pm9 an9 cd9 ct9), sl9⟩) (c9 : PySem.W.codeIn K cd9 "_law_anumber" = true) (k9 : PySem.W.keepIn K (.ref a9) = true)
    (m10 : PySem.W.nsIn K mainGlobals "_law_acommon" = some (some (.ref a10))) (l10 : K.lookup a10 = some ⟨oc10, od10, .func (PySem.W.fnOf "_law_acommon" "_law_acommon" (defArgs (topS 12)) (defBody (topS 12)) (defScope (topS 12)) .none kV10 dc10 pm10 an10 cd10 ct10), sl10⟩) (c10 : PySem.W.codeIn K cd10 "_law_acommon" = true) (k10 : PySem.W.keepIn K (.ref a10) = true)
    (m11 : PySem.W.nsIn K mainGlobals "_law_ais_low" = some (some (.ref a11))) (l11 : K.lookup a11 = some ⟨oc11, od11, .func (PySem.W.fnOf "_law_ais_low" "_law_ais_low" (defArgs (topS 13)) (defBody (topS 13)) (defScope (topS 13)) .none kV11 dc11 pm11 an11 cd11 ct11), sl11⟩) (c11 : PySem.W.codeIn K cd11 "_law_ais_low" = true) (k11 : PySem.W.keepIn K (.ref a11) = true)
    (m12 : PySem.W.nsIn K mainGlobals "law" = some (some (.ref a12))) (l12 : K.lookup a12 = some ⟨oc12, od12, .func (PySem.W.fnOf "law" "law" (defArgs (topS 14)) (defBody (topS 14)) (defScope (topS 14)) .none kV12 dc12 pm12 an12 cd12 ct12), sl12⟩) (c12 : PySem.W.codeIn K cd12 "law" = true) (k12 : PySem.W.keepIn K (.ref a12) = true)
    (z0 : PySem.W.nsIn K mainGlobals "abs" = some none)
    (z1 : PySem.W.nsIn K mainGlobals "bool" = some none)
    (z2 : PySem.W.nsIn K mainGlobals "int" = some none)
    (z3 : PySem.W.nsIn K mainGlobals "isinstance" = some none)
    (z4 : PySem.W.nsIn K mainGlobals "len" = some none)
    (z5 : PySem.W.nsIn K mainGlobals "max" = some none)
    (z6 : PySem.W.nsIn K mainGlobals "min" = some none)
    (z7 : PySem.W.nsIn K mainGlobals "range" = some none)
    (z8 : PySem.W.nsIn K mainGlobals "tuple" = some none)
    : ∃ fd : FuncData, (∀ (s : Shared) (v : Value), BindsTo s fd ⟨[v], []⟩ [("script", v)]) ∧ ∀ base : Heap, K.In base → base.Ns mainGlobals mg → FnOk l.prog w K mg base (L2.CX l.prog w) WN fa fd ["script"] (spI K (fun _ => .none) P WW WN 12) := by
  have e := hfa.symm.trans (PySem.W.mg_of X G m12)
  cases e
  have F0 := fun_mk (st := topS 1) l0 c0 k0
  have A0 : FnAt K mg P B f0 (topS 1) a0 _ := ⟨F0, PySem.W.mg_of X G m0, F0.binds (ps := ["one", "other"]) fun _ _ _ _ _ _ us hl => match us, hl with | [_, _], _ => rfl, sc0, ck0⟩
  have F1 := fun_mk (st := topS 2) l1 c1 k1
  have A1 : FnAt K mg P B f1 (topS 2) a1 _ := ⟨F1, PySem.W.mg_of X G m1, F1.binds (ps := ["a", "b"]) fun _ _ _ _ _ _ us hl => match us, hl with | [_, _], _ => rfl, sc1, ck1⟩
  have F2 := fun_mk (st := topS 3) l2 c2 k2
  have A2 : FnAt K mg P B f2 (topS 3) a2 _ := ⟨F2, PySem.W.mg_of X G m2, F2.binds (ps := ["one", "other"]) fun _ _ _ _ _ _ us hl => match us, hl with | [_, _], _ => rfl, sc2, ck2⟩
  have F3 := fun_mk (st := topS 4) l3 c3 k3
  have A3 : FnAt K mg P B f3 (topS 4) a3 _ := ⟨F3, PySem.W.mg_of X G m3, F3.binds (ps := ["one", "other"]) fun _ _ _ _ _ _ us hl => match us, hl with | [_, _], _ => rfl, sc3, ck3⟩
  have F4 := fun_mk (st := topS 6) l4 c4 k4
  have A4 : FnAt K mg P B f4 (topS 6) a4 _ := ⟨F4, PySem.W.mg_of X G m4, F4.binds (ps := ["script", "k"]) fun _ _ _ _ _ _ us hl => match us, hl with | [_, _], _ => rfl, sc4, ck4⟩
  have F5 := fun_mk (st := topS 7) l5 c5 k5
  have A5 : FnAt K mg P B f5 (topS 7) a5 _ := ⟨F5, PySem.W.mg_of X G m5, F5.binds (ps := ["script", "k"]) fun _ _ _ _ _ _ us hl => match us, hl with | [_, _], _ => rfl, sc5, ck5⟩
  have F6 := fun_mk (st := topS 8) l6 c6 k6
  have A6 : FnAt K mg P B f6 (topS 8) a6 _ := ⟨F6, PySem.W.mg_of X G m6, F6.binds (ps := ["tape", "many"]) fun _ _ _ _ _ _ us hl => match us, hl with | [_, _], _ => rfl, sc6, ck6⟩
  have F7 := fun_mk (st := topS 9) l7 c7 k7
  have A7 : FnAt K mg P B f7 (topS 9) a7 _ := ⟨F7, PySem.W.mg_of X G m7, F7.binds (ps := ["found"]) fun _ _ _ _ _ _ us hl => match us, hl with | [_], _ => rfl, sc7, ck7⟩
  have F8 := fun_mk (st := topS 10) l8 c8 k8
  have A8 : FnAt K mg P B f8 (topS 10) a8 _ := ⟨F8, PySem.W.mg_of X G m8, F8.binds (ps := ["a", "b"]) fun _ _ _ _ _ _ us hl => match us, hl with | [_, _], _ => rfl, sc8, ck8⟩
  have F9 := fun_mk (st := topS 11) l9 c9 k9
  have A9 : FnAt K mg P B f9 (topS 11) a9 _ := ⟨F9, PySem.W.mg_of X G m9, F9.binds (ps := ["tape"]) fun _ _ _ _ _ _ us hl => match us, hl with | [_], _ => rfl, sc9, ck9⟩
  have F10 := fun_mk (st := topS 12) l10 c10 k10
  have A10 : FnAt K mg P B f10 (topS 12) a10 _ := ⟨F10, PySem.W.mg_of X G m10, F10.binds (ps := ["one", "other"]) fun _ _ _ _ _ _ us hl => match us, hl with | [_, _], _ => rfl, sc10, ck10⟩
  have F11 := fun_mk (st := topS 13) l11 c11 k11
  have A11 : FnAt K mg P B f11 (topS 13) a11 _ := ⟨F11, PySem.W.mg_of X G m11, F11.binds (ps := ["found"]) fun _ _ _ _ _ _ us hl => match us, hl with | [_], _ => rfl, sc11, ck11⟩
  have F12 := fun_mk (st := topS 14) l12 c12 k12
  have A12 : FnAt K mg P B f12 (topS 14) fa _ := ⟨F12, PySem.W.mg_of X G m12, F12.binds (ps := ["script"]) fun _ _ _ _ _ _ us hl => match us, hl with | [_], _ => rfl, sc12, ck12⟩
  have hB : ∀ x ∈ B, mg x = none := fun x hx => by
    simp only [B, List.mem_cons, List.not_mem_nil, or_false] at hx
    rcases hx with rfl | rfl | rfl | rfl | rfl | rfl | rfl | rfl | rfl
    · exact PySem.W.mg_none_of X G z0
    · exact PySem.W.mg_none_of X G z1
    · exact PySem.W.mg_none_of X G z2
    · exact PySem.W.mg_none_of X G z3
    · exact PySem.W.mg_none_of X G z4
    · exact PySem.W.mg_none_of X G z5
    · exact PySem.W.mg_none_of X G z6
    · exact PySem.W.mg_none_of X G z7
    · exact PySem.W.mg_none_of X G z8
  have T : ∀ f d, P f = some d → ∃ st a fd, FnAt K mg P B d st a fd := fun f d hd => by
    match f, hd with
    | 0, hd => cases hd; exact ⟨_, _, _, A0⟩
    | 1, hd => cases hd; exact ⟨_, _, _, A1⟩
    | 2, hd => cases hd; exact ⟨_, _, _, A2⟩
    | 3, hd => cases hd; exact ⟨_, _, _, A3⟩
    | 4, hd => cases hd; exact ⟨_, _, _, A4⟩
    | 5, hd => cases hd; exact ⟨_, _, _, A5⟩
    | 6, hd => cases hd; exact ⟨_, _, _, A6⟩
    | 7, hd => cases hd; exact ⟨_, _, _, A7⟩
    | 8, hd => cases hd; exact ⟨_, _, _, A8⟩
    | 9, hd => cases hd; exact ⟨_, _, _, A9⟩
    | 10, hd => cases hd; exact ⟨_, _, _, A10⟩
    | 11, hd => cases hd; exact ⟨_, _, _, A11⟩
    | 12, hd => cases hd; exact ⟨_, _, _, A12⟩
  exact ⟨_, fun s v => .of_eq rfl, fun base _ _ => fns_ok hB T WN 12 f12 (topS 14) fa _ rfl A12⟩
end
end Law_k30
open PySem PySem.W PyProof.Rows
set_option maxHeartbeats 0 in
theorem PySem.Challenge.cw_ablehands_k30_fractions_told_holds : PySem.Challenge.rw_ablehands_k30_fractions_told.Holds := by
  w_on; o_law; k_head; (case hw => w_witness2)
  k_fill
  refine L2.walk_of (l := PySem.Challenge.rw_ablehands_k30_fractions_told) (n := 63) (k := Law_k30.WN) (x := "script") (CX := fun w => L2.CX PySem.Challenge.rw_ablehands_k30_fractions_told.prog w) (sp := fun w => Iv.spI _ (fun _ => .none) Law_k30.P Law_k30.WW Law_k30.WN 12) rfl (by decide) rfl ⟨rfl, by decide, by decide⟩ (fun w h Y => PySem.W.kIn_of Y) ?F (fun _ H a ns hl hO hS => Iv.law_sp hO hS (Law_k30.law_run ns hl)) (fun _ _ _ _ _ h => Iv.cx_false h)
  case F =>
    intro w mg fa h KX G hmg
    refine' Law_k30.all_mk KX G hmg ?m0 ?l0 ?c0 ?k0 ?m1 ?l1 ?c1 ?k1 ?m2 ?l2 ?c2 ?k2 ?m3 ?l3 ?c3 ?k3 ?m4 ?l4 ?c4 ?k4 ?m5 ?l5 ?c5 ?k5 ?m6 ?l6 ?c6 ?k6 ?m7 ?l7 ?c7 ?k7 ?m8 ?l8 ?c8 ?k8 ?m9 ?l9 ?c9 ?k9 ?m10 ?l10 ?c10 ?k10 ?m11 ?l11 ?c11 ?k11 ?m12 ?l12 ?c12 ?k12 ?z0 ?z1 ?z2 ?z3 ?z4 ?z5 ?z6 ?z7 ?z8
    (case m0 => k_is); (case l0 => k_is); (case c0 => k_is); (case k0 => k_is); (case m1 => k_is); (case l1 => k_is); (case c1 => k_is); (case k1 => k_is); (case m2 => k_is); (case l2 => k_is); (case c2 => k_is); (case k2 => k_is); (case m3 => k_is); (case l3 => k_is); (case c3 => k_is); (case k3 => k_is); (case m4 => k_is); (case l4 => k_is); (case c4 => k_is); (case k4 => k_is); (case m5 => k_is); (case l5 => k_is); (case c5 => k_is); (case k5 => k_is); (case m6 => k_is); (case l6 => k_is); (case c6 => k_is); (case k6 => k_is); (case m7 => k_is); (case l7 => k_is); (case c7 => k_is); (case k7 => k_is); (case m8 => k_is); (case l8 => k_is); (case c8 => k_is); (case k8 => k_is); (case m9 => k_is); (case l9 => k_is); (case c9 => k_is); (case k9 => k_is); (case m10 => k_is); (case l10 => k_is); (case c10 => k_is); (case k10 => k_is); (case m11 => k_is); (case l11 => k_is); (case c11 => k_is); (case k11 => k_is); (case m12 => k_is); (case l12 => k_is); (case c12 => k_is); (case k12 => k_is); (case z0 => k_is); (case z1 => k_is); (case z2 => k_is); (case z3 => k_is); (case z4 => k_is); (case z5 => k_is); (case z6 => k_is); (case z7 => k_is); (case z8 => k_is)
