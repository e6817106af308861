import PyProof.Rows.All
import Wide.All
import OpenK.AllK
import Wide.FinOn
import HandS.ForMost
import HandS.Exc
import HandS.TryOnly
import HandS.ExcOwn
import HandS.WordsExc
import HandS.Wide
import HandS.TupAny
import HandS.TupMul
import HandS.Flow
import HandS.Zip
import HandS.Rev
import HandS.Conv
import HandS.IsInst
import HandS.Deep
import HandS.Defaults
import HandS.CallRecv
import HandS.CallSlots
import HandS.Small
import HandS.More
import HandS.Head2
import HandS.HeadEnd
import HandS.HeadHook4
import HandS.WrittenGet
import HandS.Walk
import PyProof.ExcBaseAll.ValueError
import HandS.Ends
import PySem.Challenge.RW_evenkinds_k11_counts_and_things
set_option Elab.async false
set_option autoImplicit false
set_option linter.all false
set_option maxRecDepth 100000
set_option maxHeartbeats 0
namespace EK
open PySem PySem.Spec PyProof.Rows L2

/-- a value: what the evaluator reckons with; ref: a place of the store -/
inductive PV where
  | non | bl (b : Bool) | int (i : Int) | str (s : Str) | tup (xs : List PV) | ref (n : Nat)
  | dct (ks : List Str) (vs : List PV) | con (xs : List PV) | clo (f : Nat) (caps : List PV)
  deriving Inhabited

inductive Cell where
  | lst (xs : List PV) | ro (xs : List PV) | ins (c : Str) (fs : List (Str × PV))
  deriving Inhabited
abbrev Store := List Cell

inductive Res (α : Type) where
  | ok (a : α) (S : Store) | exc (c : Str) (fs : List PV) (S : Store) | bad

def Res.bind {α β : Type} (m : Res α) (f : α → Store → Res β) : Res β := match m with
  | .ok a S => f a S
  | .exc c fs S => .exc c fs S
  | .bad => .bad

abbrev Env := List (Option PV)

inductive BOp where | add | sub | mul | fdiv | mod | pow
inductive COp where | eq | ne | lt | le | gt | ge | isIn | notIn
inductive Prim where | len | int | abs | min2 | max2 | min1 | max1 | sum | tuple | list | str | any | all | sorted
inductive Mth where | append | extend | pop | index | get | clear | join
inductive IK where | over | range | enum | zip | rev
inductive TN where | tuple | list | int | bool | str
inductive Tgt where | nm (i : Nat) | tp (ts : List Nat)

mutual
inductive Ex where
  | slot (i : Nat) | cst (v : PV) | glo (x : Str)
  | tup (es : Exs) | lst (es : Exs) | dsp (ks : List Str) (es : Exs)
  | bin (op : BOp) (a b : Ex) | neg (a : Ex) | not (a : Ex)
  | cmp (op : COp) (a b : Ex) | chn (a b c : Ex)
  | and (a b : Ex) | or (a b : Ex) | ite (c a b : Ex)
  | isN (a : Ex) | notN (a : Ex)
  | ix (a b : Ex) | sl (a : Ex) (lo hi : Exs)
  | call (f : Str) (es : Exs) | lrg (es : Exs) | prim (p : Prim) (es : Exs) | meth (m : Mth) (o : Ex) (es : Exs)
  | isT (t : TN) (a : Ex)
  | comp (own : List Nat) (tg : Tgt) (k : IK) (src : Exs) (cond : Exs) (elt : Ex)
inductive Exs where
  | nil | cons (e : Ex) (es : Exs)
end

mutual
inductive Sm where
  | asg (t : Tgt) (e : Ex)
  | asgIx (o i e : Ex)
  | exp (e : Ex) | ret (e : Ex)
  | ifs (c : Ex) (a b : Sms)
  | for (t : Tgt) (k : IK) (src : Exs) (body : Sms)
  | while (c : Ex) (body : Sms)
  | raise (c : Str)
  | pass
inductive Sms where
  | nil | cons (s : Sm) (ss : Sms)
end

/-! ### equality -/
mutual
def beqPV : PV → PV → Bool
  | .non, .non => true
  | .bl a, .bl b => a == b
  | .int a, .int b => decide (a = b)
  | .str a, .str b => decide (a = b)
  | .tup xs, .tup ys => beqPVs xs ys
  | _, _ => false
def beqPVs : List PV → List PV → Bool
  | [], [] => true
  | x :: xs, y :: ys => beqPV x y && beqPVs xs ys
  | _, _ => false
end
/-- the texts that lie in the model's line -/
def strOkB (x : Str) : Bool := x.cps.all (· < 0x110000)
mutual
/-- plain data: none, ints, texts, tuples of these -/
def clean : PV → Bool
  | .non => true
  | .int _ => true
  | .str x => strOkB x
  | .tup xs => cleans xs
  | _ => false
def cleans : List PV → Bool
  | [] => true
  | x :: xs => clean x && cleans xs
end
mutual
def depth : PV → Nat
  | .tup xs => depths xs + 1
  | _ => 0
def depths : List PV → Nat
  | [] => 0
  | x :: xs => max (depth x) (depths xs)
end
/-- with lists looked at -/
def toD : Nat → Store → PV → Option PyData
  | 0, _, _ => none
  | _ + 1, _, .non => some .none
  | _ + 1, _, .bl b => some (.bool b)
  | _ + 1, _, .int i => some (.int i)
  | _ + 1, _, .str x => some (.str x)
  | n + 1, S, .tup xs => (xs.mapM (toD n S)).map .tuple
  | n + 1, S, .ref i => match S[i]? with
    | some (.lst xs) => (xs.mapM (toD n S)).map .list
    | some (.ro xs) => (xs.mapM (toD n S)).map .list
    | _ => none
  | _ + 1, _, _ => none
def eqM (S : Store) (x y : PV) : Option Bool :=
  if clean x && clean y && (decide (depth x ≤ 150) || decide (depth y ≤ 150)) then some (beqPV x y) else
  match toD 160 S x, toD 160 S y with
  | some d, some e => if d.canLay0 && e.canLay0 && (decide (min d.depth e.depth ≤ 150)) then some (PyData.eqv d e) else none
  | _, _ => none

/-! ### the single deeds -/
def isNonP : PV → Bool
  | .non => true
  | _ => false
def truthM (S : Store) : PV → Option Bool
  | .non => some false
  | .bl b => some b
  | .int i => some (i != 0)
  | .str x => if x.length ≤ sizeLine then some (x.length != 0) else none
  | .tup xs => some (!xs.isEmpty)
  | .ref n => match S[n]? with
    | some (.lst xs) => some (!xs.isEmpty)
    | some (.ro xs) => some (!xs.isEmpty)
    | _ => none
  | _ => none
def mulOk (i j : Int) : Bool := decide (i.natAbs < 2 ^ 63) || decide (j.natAbs < 2 ^ 63) || decide (i.natAbs.log2 + j.natAbs.log2 < 900000)
def addM (x y : PV) (S : Store) : Res PV :=
  match x, y with
  | .int i, .int j => .ok (.int (i + j)) S
  | .str i, .str j => if i.length + j.length ≤ sizeLine then .ok (.str (i ++ j)) S else .bad
  | .tup xs, .tup ys => if xs.length + ys.length ≤ sizeLine then .ok (.tup (xs ++ ys)) S else .bad
  | .ref m, .ref n => match S[m]?, S[n]? with
    | some (.lst xs), some (.lst ys) => if xs.length + ys.length ≤ sizeLine then .ok (.ref S.length) (S ++ [.lst (xs ++ ys)]) else .bad
    | _, _ => .bad
  | _, _ => .bad
def mulM (x y : PV) (S : Store) : Res PV :=
  match x, y with
  | .int i, .int j => if mulOk i j then .ok (.int (i * j)) S else .bad
  | .tup xs, .int k => if !xs.isEmpty && decide (2 ≤ k) && decide (k ≤ 1000) && decide (xs.length ≤ 1000) then .ok (.tup (List.replicate k.toNat xs).flatten) S else .bad
  | _, _ => .bad
def intM (f : Int → Int → Option Int) (x y : PV) (S : Store) : Res PV :=
  match x, y with
  | .int i, .int j => match f i j with
    | some k => .ok (.int k) S
    | none => .bad
  | _, _ => .bad
def binM (op : BOp) (x y : PV) (S : Store) : Res PV :=
  match op with
  | .add => addM x y S
  | .sub => intM (fun i j => some (i - j)) x y S
  | .mul => mulM x y S
  | .fdiv => intM (fun i j => if decide (0 < j) && decide (j.natAbs < 2 ^ 200) then some (i / j) else none) x y S
  | .mod => intM (fun i j => if 0 < j then some (i % j) else none) x y S
  | .pow => intM (fun i j => if decide (0 ≤ j) && decide (j ≤ 1000000) && decide (i.natAbs < 2 ^ 64) then some (i ^ j.toNat) else none) x y S
/-- x in xs, by == -/
def anyEq (S : Store) (x : PV) (xs : List PV) : Option Bool :=
  if clean x && cleans xs && decide (depth x ≤ 150) then some (xs.any fun y => beqPV y x) else
  match toD 160 S x, xs.mapM (toD 160 S) with
  | some d, some ds => if d.canLay0 && PyData.canLayAll0 ds && decide (d.depth ≤ 150) then some (ds.any fun e => PyData.eqv e d) else none
  | _, _ => none
def inM (S : Store) (x y : PV) : Option Bool := match y with
  | .tup xs => anyEq S x xs
  | .ref n => match S[n]? with
    | some (.lst xs) => anyEq S x xs
    | some (.ro xs) => anyEq S x xs
    | _ => none
  | .dct ks _ => match x with
    | .str k => some (ks.contains k)
    | _ => none
  | .str z => match x with
    | .str c => if c.cps.size = 1 then some (decide (c.cps.getD 0 0 ∈ z.cps.toList)) else none
    | _ => none
  | _ => none
def okB (S : Store) (b : Option Bool) : Res PV := match b with
  | some b => .ok (.bl b) S
  | none => .bad
def cmpM (op : COp) (x y : PV) (S : Store) : Res PV :=
  match op with
  | .eq => okB S (eqM S x y)
  | .ne => okB S ((eqM S x y).map (!·))
  | .isIn => okB S (inM S x y)
  | .notIn => okB S ((inM S x y).map (!·))
  | _ => match x, y with
    | .int i, .int j => .ok (.bl (match op with
      | .lt => decide (i < j)
      | .le => decide (i ≤ j)
      | .gt => decide (j < i)
      | _ => decide (j ≤ i))) S
    | _, _ => .bad
def lookD (k : Str) : List Str → List PV → Option PV
  | q :: ks, v :: vs => if k = q then some v else lookD k ks vs
  | _, _ => none
def ixM (x y : PV) (S : Store) : Res PV :=
  match x, y with
  | .tup xs, .int i => match atI xs i with
    | some v => .ok v S
    | none => .bad
  | .ref n, .int i => match S[n]? with
    | some (.lst xs) => match atI xs i with
      | some v => .ok v S
      | none => .bad
    | some (.ro xs) => match atI xs i with
      | some v => .ok v S
      | none => .bad
    | _ => .bad
  | .con xs, .int i => match atI xs i with
    | some v => .ok v S
    | none => .bad
  | .str z, .int i => if z.length ≤ sizeLine then match atI z.cps.toList i with
      | some c => .ok (.str ⟨#[c]⟩) S
      | none => .bad
    else .bad
  | .dct ks vs, .str k => match lookD k ks vs with
    | some v => .ok v S
    | none => .bad
  | _, _ => .bad
def cutP (xs : List PV) (lo hi : Option Int) : List PV := (xs.drop (HT.sIx xs.length 0 lo)).take (HT.sIx xs.length xs.length hi - HT.sIx xs.length 0 lo)
def partM : List PV → Option (Option Int)
  | [] => some none
  | [.int i] => some (some i)
  | _ => none
def partR (m : Res (List PV)) : Res (Option Int) := m.bind fun vs S => match partM vs with
  | some o => .ok o S
  | none => .bad
def slM (x : PV) (l h : Option Int) (S : Store) : Res PV :=
  match x with
    | .tup xs => .ok (.tup (cutP xs l h)) S
    | .ref n => match S[n]? with
      | some (.lst xs) => .ok (.ref S.length) (S ++ [.lst (cutP xs l h)])
      | some (.ro xs) => .ok (.ref S.length) (S ++ [.lst (cutP xs l h)])
      | _ => .bad
    | .con xs => .ok (.ref S.length) (S ++ [.lst (cutP xs l h)])
    | .str z => if z.length ≤ sizeLine then .ok (.str (cutS z l h)) S else .bad
    | _ => .bad
def cellL (S : Store) (n : Nat) : Option (List PV) := match S[n]? with
  | some (.lst xs) => some xs
  | some (.ro xs) => some xs
  | _ => none
def seqL (S : Store) : PV → Option (List PV)
  | .tup xs => some xs
  | .ref n => cellL S n
  | _ => none
def intsP : List PV → Option (List Int)
  | [] => some []
  | .int i :: xs => (intsP xs).map (i :: ·)
  | _ => none
def blsP : List PV → Option (List Bool)
  | [] => some []
  | .bl i :: xs => (blsP xs).map (i :: ·)
  | _ => none
def maxI : List Int → Int
  | [] => 0
  | [a] => a
  | a :: r => max a (maxI r)
def minI : List Int → Int
  | [] => 0
  | [a] => a
  | a :: r => min a (minI r)
def primM (p : Prim) (vs : List PV) (S : Store) : Res PV :=
  match p, vs with
  | .len, [.str z] => if z.length ≤ sizeLine then .ok (.int z.length) S else .bad
  | .len, [.con xs] => .ok (.int xs.length) S
  | .len, [v] => match seqL S v with
    | some xs => .ok (.int xs.length) S
    | none => .bad
  | .int, [.int i] => .ok (.int i) S
  | .int, [.bl b] => .ok (.int (if b then 1 else 0)) S
  | .int, [.str z] => if z.length ≤ 640 then match intText? z with
      | some n => .ok (.int n) S
      | none => .bad
    else .bad
  | .abs, [.int i] => .ok (.int (if i < 0 then -i else i)) S
  | .max2, [.int i, .int j] => .ok (.int (if j > i then j else i)) S
  | .min2, [.int i, .int j] => .ok (.int (if j < i then j else i)) S
  | .max1, [.ref n] => match (cellL S n).bind intsP with
    | some (a :: r) => .ok (.int (maxI (a :: r))) S
    | _ => .bad
  | .min1, [.ref n] => match (cellL S n).bind intsP with
    | some (a :: r) => .ok (.int (minI (a :: r))) S
    | _ => .bad
  | .sum, [.ref n] => match (cellL S n).bind intsP with
    | some xs => .ok (.int xs.sum) S
    | none => .bad
  | .any, [.ref n] => match (cellL S n).bind blsP with
    | some xs => .ok (.bl (xs.any id)) S
    | none => .bad
  | .all, [.ref n] => match (cellL S n).bind blsP with
    | some xs => .ok (.bl (xs.all id)) S
    | none => .bad
  | .tuple, [.tup xs] => .ok (.tup xs) S
  | .tuple, [.ref n] => match cellL S n with
    | some xs => .ok (.tup xs) S
    | none => .bad
  | .list, [v] => match seqL S v with
    | some xs => .ok (.ref S.length) (S ++ [.lst xs])
    | none => .bad
  | .str, [.int i] => if i.natAbs < 2 ^ 64 then .ok (.str (toString i)) S else .bad
  | _, _ => .bad
def rangeP (lo : Int) (n : Nat) : List PV := (List.range n).map fun k => .int (lo + (k : Nat))
/-- list(range(..)) -/
@[irreducible] def fitsL (j : Int) : Bool := decide (0 ≤ j) && decide (j ≤ 16777216)
theorem fitsL_iff {j : Int} : fitsL j = true ↔ 0 ≤ j ∧ j ≤ 16777216 := by
  unfold fitsL
  simp only [Bool.and_eq_true, decide_eq_true_eq]
def listRg (vs : List PV) (S : Store) : Res PV := match vs with
  | [.int j] => if fitsL j then .ok (.ref S.length) (S ++ [.lst (rangeP 0 j.toNat)]) else .bad
  | _ => .bad
/-- the first place of an equal one -/
def idxEq (S : Store) (x : PV) (xs : List PV) : Option Nat :=
  if clean x && cleans xs && decide (depth x ≤ 150) then xs.findIdx? (fun y => beqPV y x) else
  match toD 160 S x, xs.mapM (toD 160 S) with
  | some d, some ds => if d.canLay0 && PyData.canLayAll0 ds && decide (d.depth ≤ 150) then ds.findIdx? (fun e => PyData.eqv e d) else none
  | _, _ => none
def strsP : List PV → Option (List Str)
  | [] => some []
  | .str i :: xs => (strsP xs).map (i :: ·)
  | _ => none
/-- the receivers that have it -/
def methFor (m : Mth) (o : PV) : Bool := match m, o with
  | .append, .ref _ => true | .extend, .ref _ => true | .pop, .ref _ => true | .clear, .ref _ => true
  | .index, .ref _ => true
  | .get, .dct _ _ => true
  | _, _ => false
def appM (o : PV) (vs : List PV) (S : Store) : Res PV := match o, vs with
  | .ref n, [v] => match S[n]? with
    | some (.lst xs) => if xs.length < sizeLine then .ok .non (S.set n (.lst (xs ++ [v]))) else .bad
    | _ => .bad
  | _, _ => .bad
def extM (o : PV) (vs : List PV) (S : Store) : Res PV := match o, vs with
  | .ref n, [.ref k] => match S[n]?, S[k]? with
    | some (.lst xs), some (.lst ys) => if xs.length + ys.length ≤ sizeLine then .ok .non (S.set n (.lst (xs ++ ys))) else .bad
    | _, _ => .bad
  | _, _ => .bad
def popM (o : PV) (vs : List PV) (S : Store) : Res PV := match o, vs with
  | .ref n, [] => match S[n]? with
    | some (.lst xs) => match xs[xs.length - 1]? with
      | some v => .ok v (S.set n (.lst xs.dropLast))
      | none => .bad
    | _ => .bad
  | .ref n, [.int 0] => match S[n]? with
    | some (.lst (v :: xs)) => .ok v (S.set n (.lst xs))
    | _ => .bad
  | _, _ => .bad
def clrM (o : PV) (vs : List PV) (S : Store) : Res PV := match o, vs with
  | .ref n, [] => match S[n]? with
    | some (.lst _) => .ok .non (S.set n (.lst []))
    | _ => .bad
  | _, _ => .bad
def idxM (o : PV) (vs : List PV) (S : Store) : Res PV := match vs with
  | [x] => match seqL S o with
    | some xs => match idxEq S x xs with
      | some k => .ok (.int k) S
      | none => .bad
    | none => .bad
  | _ => .bad
def getM (o : PV) (vs : List PV) (S : Store) : Res PV := match o, vs with
  | .dct ks ws, [.str k] => .ok ((lookD k ks ws).getD .non) S
  | .dct ks ws, [.str k, d] => .ok ((lookD k ks ws).getD d) S
  | _, _ => .bad
def methM (m : Mth) (o : PV) (vs : List PV) (S : Store) : Res PV :=
  match m with
  | .append => appM o vs S
  | .extend => extM o vs S
  | .pop => popM o vs S
  | .clear => clrM o vs S
  | .index => idxM o vs S
  | .get => getM o vs S
  | .join => .bad
def tyS : PV → Store → Option String
  | .non, _ => some "NoneType"
  | .bl _, _ => some "bool"
  | .int _, _ => some "int"
  | .str _, _ => some "str"
  | .tup _, _ => some "tuple"
  | .ref n, S => match S[n]? with
    | some (.lst _) => some "list"
    | _ => none
  | _, _ => none
def kitS (t : TN) (s : String) : Bool := match t with
  | .tuple => s == "tuple" | .list => s == "list" | .int => s == "int" || s == "bool" | .bool => s == "bool" | .str => s == "str"
def isTM (t : TN) (v : PV) (S : Store) : Res PV := match tyS v S with
  | some s => .ok (.bl (kitS t s)) S
  | none => .bad

/-! ### targets, iterables -/
def setSlots (env : Env) : List Nat → List PV → Option Env
  | [], [] => some env
  | i :: is, v :: vs => setSlots (env.set i (some v)) is vs
  | _, _ => none
def asgM (t : Tgt) (v : PV) (env : Env) : Option Env := match t with
  | .nm i => some (env.set i (some v))
  | .tp is => match v with
    | .tup vs => setSlots env is vs
    | _ => none
def wipeE (env : Env) : List Nat → Env
  | [] => env
  | v :: vs => (wipeE env vs).set v none
/-- what is walked: a list of the store (by place), or items that stand -/
inductive Walk where
  | cells (ns : List Nat) (k : IK) | items (xs : List PV)
def rangeD (hi : Int) (n : Nat) : List PV := (List.range n).map fun k => .int (hi + (k : Nat) * (-1))
/-- small enough for a range -/
@[irreducible] def fits (i : Int) : Bool := decide (-(2 ^ 62) ≤ i) && decide (i < 2 ^ 62)
theorem fits_iff {i : Int} : fits i = true ↔ -(2 ^ 62) ≤ i ∧ i < 2 ^ 62 := by
  unfold fits
  simp only [Bool.and_eq_true, decide_eq_true_eq]
def rangeM (vs : List PV) : Option (List PV) := match vs with
  | [.int j] => if fits j then some (rangeP 0 j.toNat) else none
  | [.int i, .int j] => if fits i && fits j then some (rangeP i (j - i).toNat) else none
  | [.int i, .int j, .int k] => if decide (k = -1) && fits i && fits j then some (rangeD i (i - j).toNat) else none
  | _ => none
def zipP : List PV → List PV → List PV
  | x :: xs, y :: ys => .tup [x, y] :: zipP xs ys
  | _, _ => []
def enumP : Nat → List PV → List PV
  | _, [] => []
  | k, x :: xs => .tup [.int k, x] :: enumP (k + 1) xs
end EK

namespace EK
open PySem PySem.Spec PyProof.Rows L2

/-- how a statement ends -/
inductive SRes where
  | nx (env : Env) (S : Store) | ret (v : PV) (S : Store) | brk (env : Env) (S : Store) | ct (env : Env) (S : Store)
  | exc (c : Str) (fs : List PV) (env : Env) (S : Store) | bad

def Res.sbind (env : Env) (m : Res PV) (f : PV → Store → SRes) : SRes := match m with
  | .ok a S => f a S
  | .exc c fs S => .exc c fs env S
  | .bad => .bad
def SRes.thn (m : SRes) (f : Env → Store → SRes) : SRes := match m with
  | .nx env S => f env S
  | r => r

/-- what the program's names stand for; what a call tells -/
structure Conf where
  glob : Str → Option PV
  call : Str → List PV → Store → Res PV
  /-- whether calls are served at all -/
  can : Bool

/-- the next item of what is walked -/
inductive Stp where
  | bad | stop | item (v : PV)
def itemAt (f : PV → PV) (xs : Option (List PV)) (i : Nat) : Stp := match xs with
  | none => .bad
  | some xs => match xs[i]? with
    | some x => .item (f x)
    | none => .stop
def zipAt (xs ys : List PV) (i : Nat) : Stp := match xs[i]?, ys[i]? with
  | some x, some y => .item (.tup [x, y])
  | _, _ => .stop
def stepM (k : IK) (src : List PV) (n0 : Nat) (i : Nat) (S : Store) : Stp :=
  match k, src with
  | .over, [v] => itemAt id (seqL S v) i
  | .enum, [.ref n] => itemAt (fun x => .tup [.int i, x]) (cellL S n) i
  | .zip, [.ref m, .ref n] => match cellL S m, cellL S n with
    | some xs, some ys => zipAt xs ys i
    | _, _ => .bad
  | .zip, [.tup xs, .tup ys] => zipAt xs ys i
  | .rev, [.ref n] => if n0 ≤ i then .stop else match cellL S n with
    | some xs => match xs[n0 - 1 - i]? with
      | some x => .item x
      | none => .bad
    | none => .bad
  | .range, vs => match rangeM vs with
    | some xs => itemAt id (some xs) i
    | none => .bad
  | _, _ => .bad
/-- how many items there are as the walk begins -/
def lenM (k : IK) (src : List PV) (S : Store) : Option Nat :=
  match k, src with
  | .over, [v] => (seqL S v).map List.length
  | .enum, [.ref n] => (cellL S n).map List.length
  | .zip, [.ref m, .ref n] => match cellL S m, cellL S n with
    | some xs, some ys => some (min xs.length ys.length)
    | _, _ => none
  | .zip, [.tup xs, .tup ys] => some (min xs.length ys.length)
  | .rev, [.ref n] => (cellL S n).map List.length
  | .range, vs => (rangeM vs).map List.length
  | _, _ => none

def forLoop (stp : Nat → Store → Stp) (asg : PV → Env → Option Env) (body : Env → Store → SRes) : Nat → Nat → Env → Store → SRes
  | 0, _, _, _ => .bad
  | f + 1, i, env, S => match stp i S with
    | .bad => .bad
    | .stop => .nx env S
    | .item v => match asg v env with
      | none => .bad
      | some e1 => match body e1 S with
        | .nx e2 S2 => forLoop stp asg body f (i + 1) e2 S2
        | .ct e2 S2 => forLoop stp asg body f (i + 1) e2 S2
        | .brk e2 S2 => .nx e2 S2
        | r => r
/-- a comprehension's turns: the list grows at the place d -/
def compLoop (stp : Nat → Store → Stp) (turn : PV → Store → Res (Option PV)) (d : Nat) : Nat → Nat → Store → Res PV
  | 0, _, _ => .bad
  | f + 1, i, S => match stp i S with
    | .bad => .bad
    | .stop => .ok (.ref d) S
    | .item v => match turn v S with
      | .ok none S2 => compLoop stp turn d f (i + 1) S2
      | .ok (some y) S2 => match S2[d]? with
        | some (.lst acc) => if acc.length < sizeLine then compLoop stp turn d f (i + 1) (S2.set d (.lst (acc ++ [y]))) else .bad
        | _ => .bad
      | _ => .bad
def whileLoop (test : Env → Store → Res Bool) (body : Env → Store → SRes) : Nat → Env → Store → SRes
  | 0, _, _ => .bad
  | f + 1, env, S => match test env S with
    | .ok false S1 => .nx env S1
    | .ok true S1 => match body env S1 with
      | .nx e2 S2 => whileLoop test body f e2 S2
      | .ct e2 S2 => whileLoop test body f e2 S2
      | .brk e2 S2 => .nx e2 S2
      | r => r
    | .exc c fs S1 => .exc c fs env S1
    | .bad => .bad

def truB (m : Res PV) : Res Bool := m.bind fun v S => match truthM S v with
  | some b => .ok b S
  | none => .bad

mutual
def evalE (G : Conf) : Ex → Env → Store → Res PV
  | .slot i, env, S => match env[i]? with
    | some (some v) => .ok v S
    | _ => .bad
  | .cst v, _, S => .ok v S
  | .glo x, _, S => match G.glob x with
    | some v => .ok v S
    | none => .bad
  | .tup es, env, S => (evalEs G es env S).bind fun vs S1 => if vs.length ≤ sizeLine then .ok (.tup vs) S1 else .bad
  | .lst es, env, S => (evalEs G es env S).bind fun vs S1 => if vs.length ≤ sizeLine then .ok (.ref S1.length) (S1 ++ [.lst vs]) else .bad
  | .dsp ks es, env, S => (evalEs G es env S).bind fun vs S1 => if vs.length = ks.length then .ok (.dct ks vs) S1 else .bad
  | .bin op a b, env, S => (evalE G a env S).bind fun x S1 => (evalE G b env S1).bind fun y S2 => binM op x y S2
  | .neg a, env, S => (evalE G a env S).bind fun x S1 => match x with
    | .int i => .ok (.int (-i)) S1
    | _ => .bad
  | .not a, env, S => (truB (evalE G a env S)).bind fun b S1 => .ok (.bl (!b)) S1
  | .cmp op a b, env, S => (evalE G a env S).bind fun x S1 => (evalE G b env S1).bind fun y S2 => cmpM op x y S2
  | .chn a b c, env, S => (evalE G a env S).bind fun x S1 => (evalE G b env S1).bind fun y S2 => match x, y with
    | .int i, .int j => if i < j then (evalE G c env S2).bind fun z S3 => match z with
        | .int k => .ok (.bl (decide (j < k))) S3
        | _ => .bad
      else .ok (.bl false) S2
    | _, _ => .bad
  | .and a b, env, S => (evalE G a env S).bind fun x S1 => match truthM S1 x with
    | some true => evalE G b env S1
    | some false => .ok x S1
    | none => .bad
  | .or a b, env, S => (evalE G a env S).bind fun x S1 => match truthM S1 x with
    | some true => .ok x S1
    | some false => evalE G b env S1
    | none => .bad
  | .ite c a b, env, S => (truB (evalE G c env S)).bind fun t S1 => if t then evalE G a env S1 else evalE G b env S1
  | .isN a, env, S => (evalE G a env S).bind fun x S1 => .ok (.bl (isNonP x)) S1
  | .notN a, env, S => (evalE G a env S).bind fun x S1 => .ok (.bl (!isNonP x)) S1
  | .ix a b, env, S => (evalE G a env S).bind fun x S1 => (evalE G b env S1).bind fun y S2 => ixM x y S2
  | .sl a lo hi, env, S => (evalE G a env S).bind fun x S1 => (partR (evalEs G lo env S1)).bind fun l S2 => (partR (evalEs G hi env S2)).bind fun h S3 => slM x l h S3
  | .call f es, env, S => if G.can then (evalEs G es env S).bind fun vs S1 => G.call f vs S1 else .bad
  | .prim p es, env, S => (evalEs G es env S).bind fun vs S1 => primM p vs S1
  | .lrg es, env, S => (evalEs G es env S).bind fun vs S1 => listRg vs S1
  | .meth m o es, env, S => (evalE G o env S).bind fun x S1 => if methFor m x then (evalEs G es env S1).bind fun vs S2 => methM m x vs S2 else .bad
  | .isT t a, env, S => (evalE G a env S).bind fun x S1 => isTM t x S1
  | .comp own tg k src cond elt, env, S => (evalEs G src env S).bind fun vs S1 => match lenM k vs S1 with
    | none => .bad
    | some n0 => compLoop (stepM k vs n0) (fun v S2 => match asgM tg v (wipeE env own) with
      | none => .bad
      | some e1 => (evalC G cond e1 S2).bind fun b S3 => if b then (evalE G elt e1 S3).bind fun y S4 => .ok (some y) S4 else .ok none S3)
        S1.length (n0 + 1) 0 (S1 ++ [.lst []])
def evalEs (G : Conf) : Exs → Env → Store → Res (List PV)
  | .nil, _, S => .ok [] S
  | .cons e es, env, S => (evalE G e env S).bind fun v S1 => (evalEs G es env S1).bind fun vs S2 => .ok (v :: vs) S2
/-- a comprehension's tests: none or one -/
def evalC (G : Conf) : Exs → Env → Store → Res Bool
  | .nil, _, S => .ok true S
  | .cons e es, env, S => match es with
    | .nil => truB (evalE G e env S)
    | _ => .bad
end
/-- turns of a while that are looked at -/
def whileMost : Nat := 1000000
def setIxM (o i v : PV) (S : Store) : Option Store := match o, i with
  | .ref n, .int k => match S[n]? with
    | some (.lst xs) => match ixN xs.length k with
      | some j => some (S.set n (.lst (xs.set j v)))
      | none => none
    | _ => none
  | _, _ => none
mutual
def execS (G : Conf) : Sm → Env → Store → SRes
  | .asg t e, env, S => (evalE G e env S).sbind env fun v S1 => match asgM t v env with
    | some e1 => .nx e1 S1
    | none => .bad
  | .asgIx o i e, env, S => (evalE G e env S).sbind env fun v S1 => (evalE G o env S1).sbind env fun x S2 => (evalE G i env S2).sbind env fun y S3 => match setIxM x y v S3 with
    | some S4 => .nx env S4
    | none => .bad
  | .exp e, env, S => (evalE G e env S).sbind env fun _ S1 => .nx env S1
  | .ret e, env, S => (evalE G e env S).sbind env fun v S1 => .ret v S1
  | .ifs c a b, env, S => match truB (evalE G c env S) with
    | .ok true S1 => execSs G a env S1
    | .ok false S1 => execSs G b env S1
    | .exc c fs S1 => .exc c fs env S1
    | .bad => .bad
  | .for t k src body, env, S => match evalEs G src env S with
    | .ok vs S1 => match lenM k vs S1 with
      | none => .bad
      | some n0 => forLoop (stepM k vs n0) (asgM t) (execSs G body) (n0 + 1) 0 env S1
    | .exc c fs S1 => .exc c fs env S1
    | .bad => .bad
  | .while c body, env, S => whileLoop (fun env S => truB (evalE G c env S)) (execSs G body) whileMost env S
  | .raise c, env, S => .exc c [] env S
  | .pass, env, S => .nx env S
def execSs (G : Conf) : Sms → Env → Store → SRes
  | .nil, env, S => .nx env S
  | .cons s ss, env, S => (execS G s env S).thn (execSs G ss)
end
/-- a def: how many parameters, how many slots in all, the defaults of the last parameters, the body -/
structure FnI where
  params : List Str
  slots : List Str
  dfl : List PV
  body : Sms
def callBody (G : Conf) (f : FnI) (vs : List PV) (S : Store) : Res PV :=
  if vs.length = f.params.length then match execSs G f.body (vs.map some ++ List.replicate (f.slots.length - vs.length) none) S with
    | .ret v S1 => .ok v S1
    | .nx _ S1 => .ok .non S1
    | .exc c fs _ S1 => .exc c fs S1
    | _ => .bad
  else .bad
/-- the text: its defs by name, its constants -/
structure Text where
  fns : List (Str × FnI)
  glob : Str → Option PV
  /-- the own exception classes, without parts -/
  excs : List Str := []
/-- calls at most r deep -/
def callF (T : Text) : Nat → Str → List PV → Store → Res PV
  | 0, _, _, _ => .bad
  | r + 1, x, vs, S => match T.fns.lookup x with
    | some f => callBody ⟨T.glob, callF T r, r != 0⟩ f (vs ++ f.dfl.drop (f.dfl.length - (f.params.length - vs.length))) S
    | none => .bad
abbrev conf (T : Text) (r : Nat) : Conf := ⟨T.glob, callF T r, r != 0⟩
end EK

namespace EK
open PySem PySem.Spec PyProof.Rows L2

/-! ### how the heap bears the store -/
/-- what stays as it is as long as it is tracked -/
def Fixed : HO → Prop
  | .tup _ => True
  | .frz _ _ => True
  | .dK kvs => kvs ≠ []
  | .ext _ => True
  | _ => False
/-- a dict that stands: made (tracked), or of the text's top -/
def DctAt (K : PySem.W.Frag) (w : World) (H : Hp) (a : Addr) (ks : List Str) (vs : List V) : Prop :=
  (∃ kvs, H a = some (.dK kvs) ∧ kvs ≠ [] ∧ kvs.map (·.1) = ks.map Sum.inr ∧ kvs.map (·.2) = vs ∧ ks.Nodup) ∨
  ((∃ es n, KDict K w a es n) ∧ ks.length = vs.length ∧ (∀ k, k ∉ ks → PySem.W.nsIn K a k = some none) ∧ ∀ (i : Nat) (k : Str) (v : V), ks[i]? = some k → vs[i]? = some v → ∃ u, PySem.W.nsIn K a k = some (some u) ∧ RelV v u)
/-- a list that never changes: the law's script -/
def ConL (K : PySem.W.Frag) (H : Hp) (a : Addr) (vs : List V) : Prop := (∃ o, H a = some (.frz o (.lst vs))) ∨
  ∃ (o : Obj) (its : Array Value) (n : Nat), K.lookup a = some o ∧ o.cls = .type "list" ∧ o.dict = none ∧ o.data = .seq its n ∧ its.size ≤ sizeLine ∧ Vals vs its.toList
mutual
def Rep (K : PySem.W.Frag) (w : World) (ι : List Addr) (H : Hp) : PV → V → Prop
  | .non, v => v = .non
  | .bl b, v => v = .bl b
  | .int i, v => v = .int i
  | .str s, v => v = .str s
  | .tup xs, v => ∃ a vs, v = .ref a ∧ SqT K H a vs ∧ Reps K w ι H xs vs
  | .ref n, v => ∃ a, v = .ref a ∧ ι[n]? = some a
  | .dct ks xs, v => ∃ a vs, v = .ref a ∧ DctAt K w H a ks vs ∧ Reps K w ι H xs vs
  | .con xs, v => ∃ a vs, v = .ref a ∧ ConL K H a vs ∧ Reps K w ι H xs vs
  | .clo _ _, _ => False
def Reps (K : PySem.W.Frag) (w : World) (ι : List Addr) (H : Hp) : List PV → List V → Prop
  | [], vs => vs = []
  | x :: xs, vs => ∃ v r, vs = v :: r ∧ Rep K w ι H x v ∧ Reps K w ι H xs r
end
def CellOk (K : PySem.W.Frag) (w : World) (ι : List Addr) (H : Hp) (a : Addr) : Cell → Prop
  | .lst xs => ∃ vs, H a = some (.lst vs) ∧ Reps K w ι H xs vs
  | .ro xs => ∃ vs o, H a = some (.frz o (.lst vs)) ∧ Reps K w ι H xs vs
  | .ins _ _ => False
structure Sim (K : PySem.W.Frag) (w : World) (ι : List Addr) (S : Store) (H : Hp) : Prop where
  len : ι.length = S.length
  nd : ι.Nodup
  cell : ∀ (i : Nat) (c : Cell), S[i]? = some c → ∃ a : Addr, ι[i]? = some a ∧ CellOk K w ι H a c
structure Ext (ι : List Addr) (H : Hp) (ι' : List Addr) (H' : Hp) : Prop where
  pre : ι <+: ι'
  kept : ∀ a o, H a = some o → Fixed o → H' a = some o
/-- what an evaluation does: it lays new things, it changes the store's lists -/
structure Grow (ι : List Addr) (H : Hp) (ι' : List Addr) (H' : Hp) : Prop extends Ext ι H ι' H' where
  all : ∀ a o, H a = some o → a ∉ ι → H' a = some o
  new : ∀ a, a ∈ ι' → a ∉ ι → H a = none
def EnvR (K : PySem.W.Frag) (w : World) (ι : List Addr) (H : Hp) (env : Env) (σ : L2.St) : Prop :=
  env.length = σ.length ∧ ∀ (i : Nat) x, env[i]? = some (some x) → ∃ v, σ[i]? = some (some v) ∧ Rep K w ι H x v

section
variable {K : PySem.W.Frag} {w : World} {ι ι' ι'' : List Addr} {H H' H'' : Hp} {S : Store} {env : Env} {σ : L2.St}
theorem Grow.refl : Grow ι H ι H := ⟨⟨List.prefix_rfl, fun _ _ h _ => h⟩, fun _ _ h _ => h, fun _ h h' => absurd h h'⟩
theorem Grow.trans (a : Grow ι H ι' H') (b : Grow ι' H' ι'' H'') : Grow ι H ι'' H'' :=
  ⟨⟨a.pre.trans b.pre, fun x o h f => b.kept x o (a.kept x o h f) f⟩, fun x o h hx => b.all x o (a.all x o h hx) (fun hx' => (by
    have hn := a.new x hx' hx
    rw [hn] at h; cases h)), fun x h1 h2 => by
    by_cases h3 : x ∈ ι'
    · exact a.new x h3 h2
    · have h4 := b.new x h1 h3
      cases q : H x with
      | none => rfl
      | some o =>
        rw [a.all x o q h2] at h4; cases h4⟩
theorem Ext.get (g : Ext ι H ι' H') {n : Nat} {a : Addr} (h : ι[n]? = some a) : ι'[n]? = some a := by
  obtain ⟨t, rfl⟩ := g.pre
  rw [List.getElem?_append_left (List.getElem?_eq_some_iff.mp h).1]
  exact h
theorem Grow.get (g : Grow ι H ι' H') {n : Nat} {a : Addr} (h : ι[n]? = some a) : ι'[n]? = some a := g.toExt.get h
theorem SqT.ext {a : Addr} {xs : List V} (g : Ext ι H ι' H') (h : SqT K H a xs) : SqT K H' a xs := by
  rcases h with (h | ⟨o, h⟩) | h
  · exact .inl (.inl (g.kept _ _ h trivial))
  · exact .inl (.inr ⟨o, g.kept _ _ h trivial⟩)
  · exact .inr h
theorem DctAt.ext {a : Addr} {ks : List Str} {vs : List V} (g : Ext ι H ι' H') (h : DctAt K w H a ks vs) : DctAt K w H' a ks vs := by
  rcases h with ⟨kvs, h, hn, e⟩ | h
  · exact .inl ⟨kvs, g.kept _ _ h hn, hn, e⟩
  · exact .inr h
mutual
theorem Rep.ext (g : Ext ι H ι' H') : ∀ {x : PV} {v : V}, Rep K w ι H x v → Rep K w ι' H' x v
  | .non, _, h => by unfold Rep at h ⊢; exact h
  | .bl b, _, h => by unfold Rep at h ⊢; exact h
  | .int i, _, h => by unfold Rep at h ⊢; exact h
  | .str s, _, h => by unfold Rep at h ⊢; exact h
  | .tup xs, _, h => by
    unfold Rep at h ⊢
    obtain ⟨a, vs, e, hs, hr⟩ := h
    exact ⟨a, vs, e, SqT.ext g hs, Reps.ext g hr⟩
  | .ref n, _, h => by
    unfold Rep at h ⊢
    obtain ⟨a, e, hn⟩ := h
    exact ⟨a, e, g.get hn⟩
  | .dct ks xs, _, h => by
    unfold Rep at h ⊢
    obtain ⟨a, vs, e, hs, hr⟩ := h
    exact ⟨a, vs, e, DctAt.ext g hs, Reps.ext g hr⟩
  | .con xs, _, h => by
    unfold Rep at h ⊢
    obtain ⟨a, vs, e, hs, hr⟩ := h
    exact ⟨a, vs, e, hs.imp (fun ⟨o, q⟩ => ⟨o, g.kept _ _ q trivial⟩) id, Reps.ext g hr⟩
  | .clo _ _, _, h => by unfold Rep at h; exact h.elim
theorem Reps.ext (g : Ext ι H ι' H') : ∀ {xs : List PV} {vs : List V}, Reps K w ι H xs vs → Reps K w ι' H' xs vs
  | [], _, h => by unfold Reps at h ⊢; exact h
  | x :: xs, _, h => by
    unfold Reps at h ⊢
    obtain ⟨v, r, e, h1, h2⟩ := h
    exact ⟨v, r, e, Rep.ext g h1, Reps.ext g h2⟩
end
theorem Rep.grow {x : PV} {v : V} (g : Grow ι H ι' H') (h : Rep K w ι H x v) : Rep K w ι' H' x v := h.ext g.toExt
theorem Reps.grow {xs : List PV} {vs : List V} (g : Grow ι H ι' H') (h : Reps K w ι H xs vs) : Reps K w ι' H' xs vs := h.ext g.toExt
theorem Reps.length : ∀ {xs : List PV} {vs : List V}, Reps K w ι H xs vs → vs.length = xs.length
  | [], _, h => by unfold Reps at h; subst h; rfl
  | x :: xs, _, h => by
    unfold Reps at h
    obtain ⟨v, r, rfl, _, h2⟩ := h
    rw [List.length_cons, List.length_cons, Reps.length h2]
theorem Reps.get : ∀ {xs : List PV} {vs : List V} {i : Nat} {x : PV}, Reps K w ι H xs vs → xs[i]? = some x → ∃ v, vs[i]? = some v ∧ Rep K w ι H x v
  | [], _, _, _, _, e => by simp at e
  | x :: xs, _, i, y, h, e => by
    unfold Reps at h
    obtain ⟨v, r, rfl, h1, h2⟩ := h
    cases i with
    | zero => simp at e; subst e; exact ⟨v, rfl, h1⟩
    | succ i => exact Reps.get (i := i) h2 (by simpa using e)
theorem Reps.nil : Reps K w ι H [] [] := by unfold Reps; rfl
theorem Reps.cons {x : PV} {v : V} {xs : List PV} {vs : List V} (a : Rep K w ι H x v) (b : Reps K w ι H xs vs) : Reps K w ι H (x :: xs) (v :: vs) := by unfold Reps; exact ⟨v, vs, rfl, a, b⟩
theorem Reps.append : ∀ {xs ys : List PV} {vs ws : List V}, Reps K w ι H xs vs → Reps K w ι H ys ws → Reps K w ι H (xs ++ ys) (vs ++ ws)
  | [], _, _, _, h, k => by unfold Reps at h; subst h; exact k
  | x :: xs, _, _, _, h, k => by
    unfold Reps at h
    obtain ⟨v, r, rfl, h1, h2⟩ := h
    exact Reps.cons h1 (Reps.append h2 k)
theorem Reps.drop : ∀ {xs : List PV} {vs : List V} (n : Nat), Reps K w ι H xs vs → Reps K w ι H (xs.drop n) (vs.drop n)
  | _, _, 0, h => h
  | [], _, n + 1, h => by unfold Reps at h; subst h; exact Reps.nil
  | x :: xs, _, n + 1, h => by
    unfold Reps at h
    obtain ⟨v, r, rfl, h1, h2⟩ := h
    exact Reps.drop n h2
theorem Reps.take : ∀ {xs : List PV} {vs : List V} (n : Nat), Reps K w ι H xs vs → Reps K w ι H (xs.take n) (vs.take n)
  | _, _, 0, h => Reps.nil
  | [], _, n + 1, h => by unfold Reps at h; subst h; exact Reps.nil
  | x :: xs, _, n + 1, h => by
    unfold Reps at h
    obtain ⟨v, r, rfl, h1, h2⟩ := h
    exact Reps.cons h1 (Reps.take n h2)
theorem Reps.set : ∀ {xs : List PV} {vs : List V} {x : PV} {v : V} (n : Nat), Rep K w ι H x v → Reps K w ι H xs vs → Reps K w ι H (xs.set n x) (vs.set n v)
  | [], _, _, _, _, _, h => by unfold Reps at h; subst h; exact Reps.nil
  | y :: xs, _, x, v, 0, a, h => by
    unfold Reps at h
    obtain ⟨u, r, rfl, h1, h2⟩ := h
    exact Reps.cons a h2
  | y :: xs, _, x, v, n + 1, a, h => by
    unfold Reps at h
    obtain ⟨u, r, rfl, h1, h2⟩ := h
    exact Reps.cons h1 (Reps.set n a h2)
theorem Reps.rep {xs : List PV} {vs : List V} (h : Reps K w ι H xs vs) : ∀ k : Nat, Reps K w ι H (List.replicate k xs).flatten (List.replicate k vs).flatten
  | 0 => Reps.nil
  | k + 1 => by
    rw [List.replicate_succ, List.replicate_succ, List.flatten_cons, List.flatten_cons]
    exact Reps.append h (Reps.rep h k)
theorem Reps.isEmpty {xs : List PV} {vs : List V} (h : Reps K w ι H xs vs) : vs.isEmpty = xs.isEmpty := by
  have e := h.length
  cases xs <;> cases vs <;> simp at e <;> rfl
theorem Reps.ne_nil {xs : List PV} {vs : List V} (h : Reps K w ι H xs vs) : vs ≠ [] ↔ xs ≠ [] := by
  have e := h.length
  cases xs <;> cases vs <;> simp at e <;> simp
theorem CellOk.grow {a : Addr} {c : Cell} (g : Ext ι H ι' H') (hl : ∀ vs, H a = some (.lst vs) → H' a = some (.lst vs)) (h : CellOk K w ι H a c) : CellOk K w ι' H' a c := by
  cases c with
  | lst xs => obtain ⟨vs, e, r⟩ := h; exact ⟨vs, hl _ e, r.ext g⟩
  | ro xs => obtain ⟨vs, o, e, r⟩ := h; exact ⟨vs, o, g.kept _ _ e trivial, r.ext g⟩
  | ins _ _ => exact h.elim
theorem CellOk.there {a : Addr} {c : Cell} (h : CellOk K w ι H a c) : ∃ o, H a = some o := by
  cases c with
  | lst xs => obtain ⟨vs, e, r⟩ := h; exact ⟨_, e⟩
  | ro xs => obtain ⟨vs, o, e, r⟩ := h; exact ⟨_, e⟩
  | ins _ _ => exact h.elim
theorem EnvR.grow (g : Grow ι H ι' H') (h : EnvR K w ι H env σ) : EnvR K w ι' H' env σ :=
  ⟨h.1, fun i x e => by
    obtain ⟨v, e2, r⟩ := h.2 i x e
    exact ⟨v, e2, r.grow g⟩⟩
/-- a new thing is laid -/
theorem Grow.laid {p : Addr} {o : HO} (hp : H p = none) : Grow ι H ι (upd H p o) :=
  ⟨⟨List.prefix_rfl, fun a u e _ => by rw [upd_ne (ne_of_none e hp)]; exact e⟩, fun a u e _ => by rw [upd_ne (ne_of_none e hp)]; exact e, fun _ h h' => absurd h h'⟩
/-- a new cell -/
theorem Grow.cell {p : Addr} {o : HO} (hp : H p = none) : Grow ι H (ι ++ [p]) (upd H p o) :=
  ⟨⟨List.prefix_append _ _, fun a u e _ => by rw [upd_ne (ne_of_none e hp)]; exact e⟩, fun a u e _ => by rw [upd_ne (ne_of_none e hp)]; exact e, fun a h h' => by
    rcases List.mem_append.mp h with h | h
    · exact absurd h h'
    · rw [List.mem_singleton.mp h]; exact hp⟩
/-- a list changes -/
theorem Grow.write {p : Addr} {vs : List V} {o : HO} {n : Nat} (hi : ι[n]? = some p) (hp : H p = some (.lst vs)) : Grow ι H ι (upd H p o) :=
  ⟨⟨List.prefix_rfl, fun a u e f => by
    by_cases h : a = p
    · subst h; rw [hp] at e; cases e; exact f.elim
    · rw [upd_ne h]; exact e⟩, fun a u e ha => by
    have : a ≠ p := fun z => ha (z ▸ List.mem_of_getElem? hi)
    rw [upd_ne this]; exact e, fun _ h h' => absurd h h'⟩
/-- what is no cell and no fixed thing changes -/
theorem Ext.other {p : Addr} {o u : HO} (hp : H p = some o) (hf : ¬ Fixed o) : Ext ι H ι (upd H p u) :=
  ⟨List.prefix_rfl, fun a z e f => by
    by_cases h : a = p
    · subst h; rw [hp] at e; cases e; exact absurd f hf
    · rw [upd_ne h]; exact e⟩
theorem Sim.other {p : Addr} {o u : HO} (s : Sim K w ι S H) (hp : H p = some o) (hf : ¬ Fixed o) (hl : ∀ vs, o ≠ .lst vs) : Sim K w ι S (upd H p u) :=
  ⟨s.len, s.nd, fun i c e => by
    obtain ⟨a, ea, ca⟩ := s.cell i c e
    refine ⟨a, ea, ca.grow (.other hp hf) fun vs h => ?_⟩
    have : a ≠ p := fun z => by subst z; rw [hp] at h; exact hl vs (Option.some.inj h)
    rw [upd_ne this]; exact h⟩
theorem Sim.there (s : Sim K w ι S H) {i : Nat} {a : Addr} (h : ι[i]? = some a) : ∃ o, H a = some o := by
  have hi := (List.getElem?_eq_some_iff.mp h).1
  rw [s.len] at hi
  obtain ⟨b, e, c⟩ := s.cell i _ (List.getElem?_eq_getElem hi)
  rw [h] at e; cases e
  exact c.there
/-- a new thing that is no cell -/
theorem Sim.laid {p : Addr} {o : HO} (s : Sim K w ι S H) (hp : H p = none) : Sim K w ι S (upd H p o) :=
  ⟨s.len, s.nd, fun i c e => by
    obtain ⟨a, ea, ca⟩ := s.cell i c e
    refine ⟨a, ea, ca.grow (Grow.laid hp).toExt fun vs h => ?_⟩
    rw [upd_ne (ne_of_none h hp)]; exact h⟩
/-- a new list, a cell -/
theorem Sim.new {p : Addr} {xs : List PV} {vs : List V} (s : Sim K w ι S H) (hp : H p = none) (r : Reps K w ι H xs vs) : Sim K w (ι ++ [p]) (S ++ [.lst xs]) (upd H p (.lst vs)) := by
  have g : Grow ι H (ι ++ [p]) (upd H p (.lst vs)) := .cell hp
  refine ⟨by rw [List.length_append, List.length_append, s.len]; rfl, ?_, fun i c e => ?_⟩
  · refine List.nodup_append.mpr ⟨s.nd, by simp, fun a ha b hb => ?_⟩
    rw [List.mem_singleton] at hb
    subst hb
    obtain ⟨i, hi, e⟩ := List.mem_iff_getElem.mp ha
    obtain ⟨o, q⟩ := s.there (i := i) (a := a) (by rw [List.getElem?_eq_getElem hi, e])
    exact ne_of_none q hp
  · by_cases hi : i < S.length
    · rw [List.getElem?_append_left hi] at e
      obtain ⟨a, ea, ca⟩ := s.cell i c e
      refine ⟨a, g.get ea, ca.grow g.toExt fun us h => ?_⟩
      rw [upd_ne (ne_of_none h hp)]; exact h
    · rw [List.getElem?_append_right (by omega)] at e
      obtain ⟨h1, h2⟩ := List.getElem?_eq_some_iff.mp e
      have : i = S.length := by simp at h1; omega
      subst this
      simp at h2
      subst h2
      refine ⟨p, ?_, ⟨vs, upd_same, r.grow g⟩⟩
      rw [← s.len]; simp
/-- a list, a cell, changes -/
theorem Sim.write {n : Nat} {a : Addr} {ys : List PV} {us vs : List V} (s : Sim K w ι S H) (ea : ι[n]? = some a) (ha : H a = some (.lst us)) (r : Reps K w ι H ys vs) (hn : n < S.length) : Sim K w ι (S.set n (.lst ys)) (upd H a (.lst vs)) := by
  have g : Grow ι H ι (upd H a (.lst vs)) := .write ea ha
  refine ⟨by rw [List.length_set]; exact s.len, s.nd, fun i c e => ?_⟩
  by_cases hi : i = n
  · subst hi
    rw [List.getElem?_set_self hn] at e
    cases e
    exact ⟨a, ea, vs, upd_same, r.grow g⟩
  · rw [List.getElem?_set_ne (fun z => hi z.symm)] at e
    obtain ⟨b, eb, cb⟩ := s.cell i c e
    have hab : b ≠ a := fun z => by
      subst z
      have h1 := List.getElem?_eq_some_iff.mp ea
      have h2 := List.getElem?_eq_some_iff.mp eb
      exact hi ((List.getElem_inj s.nd).mp (h2.2.trans h1.2.symm))
    refine ⟨b, eb, cb.grow g.toExt fun us h => ?_⟩
    rw [upd_ne hab]; exact h
theorem Sim.lst {n : Nat} {xs : List PV} (s : Sim K w ι S H) (e : S[n]? = some (.lst xs)) : ∃ a vs, ι[n]? = some a ∧ H a = some (.lst vs) ∧ Reps K w ι H xs vs := by
  obtain ⟨a, ea, vs, h, r⟩ := s.cell n _ e
  exact ⟨a, vs, ea, h, r⟩
theorem Sim.ro {n : Nat} {xs : List PV} (s : Sim K w ι S H) (e : S[n]? = some (.ro xs)) : ∃ a vs o, ι[n]? = some a ∧ H a = some (.frz o (.lst vs)) ∧ Reps K w ι H xs vs := by
  obtain ⟨a, ea, vs, o, h, r⟩ := s.cell n _ e
  exact ⟨a, vs, o, ea, h, r⟩
theorem Sim.sq {n : Nat} {xs : List PV} (s : Sim K w ι S H) (e : cellL S n = some xs) : ∃ a vs, ι[n]? = some a ∧ SqL K H a vs ∧ Reps K w ι H xs vs := by
  unfold cellL at e
  split at e
  · rename_i ys q
    cases e
    obtain ⟨a, vs, ea, h, r⟩ := s.lst q
    exact ⟨a, vs, ea, .inl (.inl h), r⟩
  · rename_i ys q
    cases e
    obtain ⟨a, vs, o, ea, h, r⟩ := s.ro q
    exact ⟨a, vs, ea, .inl (.inr ⟨o, h⟩), r⟩
  · cases e
end

/-! ### ends -/
/-- an evaluation's end: what is wanted of its value; EX of what it raises -/
def FinG {α : Type} (K : PySem.W.Frag) (w : World) (mg : Str → Option Value) (EX : XK) (ι : List Addr) (H : Hp) (m : Res α) (k : α → Store → List Addr → Hp → Prop) : Prop := match m with
  | .ok v S => ∀ ι' H', Grow ι H ι' H' → Sim K w ι' S H' → k v S ι' H'
  | .exc c fs S => fs = [] ∧ ∀ ι' H' cls, Grow ι H ι' H' → Sim K w ι' S H' → mg c = some cls → EX cls none H'
  | .bad => False
section
variable {α β : Type} {K : PySem.W.Frag} {w : World} {mg : Str → Option Value} {EX : XK} {ι ι' : List Addr} {H H' : Hp}
theorem FinG.grow {m : Res α} {k : α → Store → List Addr → Hp → Prop} (g : Grow ι H ι' H') (h : FinG K w mg EX ι H m k) : FinG K w mg EX ι' H' m k := by
  cases m with
  | ok v S => exact fun i2 H2 g2 s2 => h i2 H2 (g.trans g2) s2
  | exc c fs S => exact ⟨h.1, fun i2 H2 cls g2 s2 => h.2 i2 H2 cls (g.trans g2) s2⟩
  | bad => exact h
theorem FinG.bind {m : Res α} {f : α → Store → Res β} {k : β → Store → List Addr → Hp → Prop} (h : FinG K w mg EX ι H (m.bind f) k) :
    FinG K w mg EX ι H m fun v S i2 H2 => FinG K w mg EX i2 H2 (f v S) k := by
  cases m with
  | ok v S => exact fun i2 H2 g2 s2 => FinG.grow g2 h
  | exc c fs S => exact h
  | bad => exact h
theorem FinG.imp {m : Res α} {k k' : α → Store → List Addr → Hp → Prop} (h : FinG K w mg EX ι H m k) (hk : ∀ v S i2 H2, Grow ι H i2 H2 → Sim K w i2 S H2 → k v S i2 H2 → k' v S i2 H2) : FinG K w mg EX ι H m k' := by
  cases m with
  | ok v S => exact fun i2 H2 g2 s2 => hk _ _ _ _ g2 s2 (h i2 H2 g2 s2)
  | exc c fs S => exact h
  | bad => exact h
end
abbrev Sem1 := Env → Store → Res PV
/-- the reading of an expression that reckons m -/
def tM (K : PySem.W.Frag) (w : World) (mg : Str → Option Value) (W : WX) (m : Sem1) : TE := fun σ H Q => ∃ ι S env, Sim K w ι S H ∧ EnvR K w ι H env σ ∧
  FinG K w mg (WE W σ) ι H (m env S) fun v _ ι' H' => ∀ v', Rep K w ι' H' v v' → Q v' H'
def tMs (K : PySem.W.Frag) (w : World) (mg : Str → Option Value) (W : WX) (m : Env → Store → Res (List PV)) : TA := fun σ H Q => ∃ ι S env, Sim K w ι S H ∧ EnvR K w ι H env σ ∧
  FinG K w mg (WE W σ) ι H (m env S) fun v _ ι' H' => ∀ v', Reps K w ι' H' v v' → Q v' H'
def tMt (K : PySem.W.Frag) (w : World) (mg : Str → Option Value) (W : WX) (m : Env → Store → Res Bool) : TT := fun σ H Q => ∃ ι S env, Sim K w ι S H ∧ EnvR K w ι H env σ ∧
  FinG K w mg (WE W σ) ι H (m env S) fun b _ _ H' => Q b H'
theorem PE.imp {X : Cx} {e : Expr} {t t' : TE} (h : PE X e t) (i : ∀ σ H Q, t' σ H Q → t σ H Q) : PE X e t' := ⟨fun pins s σ H Q I hw => h.run pins s σ H Q I (i _ _ _ hw)⟩
theorem PT.imp {X : Cx} {e : Expr} {t t' : TT} (h : PT X e t) (i : ∀ σ H Q, t' σ H Q → t σ H Q) : PT X e t' := ⟨fun pins s σ H Q I hw => h.run pins s σ H Q I (i _ _ _ hw)⟩
theorem PA.imp {X : Cx} {e : List Expr} {t t' : TA} (h : PA X e t) (i : ∀ σ H Q, t' σ H Q → t σ H Q) : PA X e t' := ⟨fun pos pins s σ H Q I hw => h.run pos pins s σ H Q I (i _ _ _ hw)⟩
theorem PS.imp {X : Cx} {e : Stmt} {t t' : TS} (h : PS X e t) (i : ∀ D σ H, t' D σ H → t D σ H) : PS X e t' := ⟨fun pins s σ H D I hw => h.run pins s σ H D I (i _ _ _ hw)⟩
theorem PSs.imp {X : Cx} {e : List Stmt} {t t' : TS} (h : PSs X e t) (i : ∀ D σ H, t' D σ H → t D σ H) : PSs X e t' := ⟨fun pins s σ H D I hw => h.run pins s σ H D I (i _ _ _ hw)⟩
end EK

namespace EK
open PySem PySem.Spec PyProof.Rows L2

/-! ### plain data as the library's data -/
mutual
def cD : PV → PyData
  | .non => .none
  | .bl b => .bool b
  | .int i => .int i
  | .str x => .str x
  | .tup xs => .tuple (cDs xs)
  | _ => .none
def cDs : List PV → List PyData
  | [] => []
  | x :: xs => cD x :: cDs xs
end
mutual
theorem cD_lay : ∀ x : PV, clean x = true → (cD x).canLay0 = true
  | .non, _ => rfl
  | .int i, _ => rfl
  | .str x, h => by
    simp only [clean] at h
    simp only [cD, PyData.canLay0]
    exact h
  | .tup xs, h => by
    simp only [clean] at h
    simp only [cD, PyData.canLay0]
    exact cDs_lay xs h
  | .bl _, h => by simp [clean] at h
  | .ref _, h => by simp [clean] at h
  | .dct _ _, h => by simp [clean] at h
  | .con _, h => by simp [clean] at h
  | .clo _ _, h => by simp [clean] at h
theorem cDs_lay : ∀ xs : List PV, cleans xs = true → PyData.canLayAll0 (cDs xs) = true
  | [], _ => rfl
  | x :: xs, h => by
    simp only [cleans, Bool.and_eq_true] at h
    simp only [cDs, PyData.canLayAll0, Bool.and_eq_true]
    exact ⟨cD_lay x h.1, cDs_lay xs h.2⟩
end
mutual
theorem cD_depth : ∀ x : PV, (cD x).depth = depth x
  | .non => by simp [cD, PyData.depth, depth]
  | .int i => by simp [cD, PyData.depth, depth]
  | .str x => by simp [cD, PyData.depth, depth]
  | .tup xs => by
    simp only [cD, PyData.depth, depth]
    rw [cDs_depth xs]
  | .bl _ => by simp [cD, PyData.depth, depth]
  | .ref _ => by simp [cD, PyData.depth, depth]
  | .dct _ _ => by simp [cD, PyData.depth, depth]
  | .con _ => by simp [cD, PyData.depth, depth]
  | .clo _ _ => by simp [cD, PyData.depth, depth]
theorem cDs_depth : ∀ xs : List PV, PyData.depthAll (cDs xs) = depths xs
  | [] => by simp [cDs, PyData.depthAll, depths]
  | x :: xs => by
    simp only [cDs, PyData.depthAll, depths]
    rw [cD_depth x, cDs_depth xs]
end
theorem str_beq_dec (a b : Str) : (a == b) = decide (a = b) := by
  by_cases h : a = b
  · subst h; simp
  · rw [decide_eq_false h]; exact beq_eq_false_iff_ne.mpr h
mutual
theorem cD_eqv : ∀ x y : PV, clean x = true → clean y = true → PyData.eqv (cD x) (cD y) = beqPV x y
  | .non, y, _, hy => by cases y <;> simp_all [clean, cD, PyData.eqv, beqPV]
  | .int i, y, _, hy => by
    cases y <;> simp_all [clean, cD, PyData.eqv, beqPV]
    rw [Bool.beq_eq_decide_eq]
  | .str x, y, _, hy => by
    cases y <;> simp_all [clean, cD, PyData.eqv, beqPV]
    exact str_beq_dec _ _
  | .tup xs, .tup ys, hx, hy => by
    simp only [clean] at hx hy
    simp only [cD, PyData.eqv, beqPV]
    exact cDs_eqv xs ys hx hy
  | .tup xs, .non, _, _ => by simp [cD, PyData.eqv, beqPV]
  | .tup xs, .int _, _, _ => by simp [cD, PyData.eqv, beqPV]
  | .tup xs, .str _, _, _ => by simp [cD, PyData.eqv, beqPV]
  | .tup xs, .bl _, _, h => by simp [clean] at h
  | .tup xs, .ref _, _, h => by simp [clean] at h
  | .tup xs, .dct _ _, _, h => by simp [clean] at h
  | .tup xs, .con _, _, h => by simp [clean] at h
  | .tup xs, .clo _ _, _, h => by simp [clean] at h
  | .bl _, _, h, _ => by simp [clean] at h
  | .ref _, _, h, _ => by simp [clean] at h
  | .dct _ _, _, h, _ => by simp [clean] at h
  | .con _, _, h, _ => by simp [clean] at h
  | .clo _ _, _, h, _ => by simp [clean] at h
theorem cDs_eqv : ∀ xs ys : List PV, cleans xs = true → cleans ys = true → PyData.eqvAll (cDs xs) (cDs ys) = beqPVs xs ys
  | [], [], _, _ => by simp [cDs, PyData.eqvAll, beqPVs]
  | [], _ :: _, _, _ => by simp [cDs, PyData.eqvAll, beqPVs]
  | _ :: _, [], _, _ => by simp [cDs, PyData.eqvAll, beqPVs]
  | x :: xs, y :: ys, hx, hy => by
    simp only [cleans, Bool.and_eq_true] at hx hy
    simp only [cDs, PyData.eqvAll, beqPVs]
    rw [cD_eqv x y hx.1 hy.1, cDs_eqv xs ys hx.2 hy.2]
end

section
variable {K : PySem.W.Frag} {w : World} {ι : List Addr} {H : Hp} {S : Store}
mutual
theorem Rep.dp : ∀ {x : PV} {v : V}, clean x = true → Rep K w ι H x v → Dp K H v (cD x)
  | .non, _, _, h => by unfold Rep at h; subst h; exact .non
  | .int i, _, _, h => by unfold Rep at h; subst h; exact .int i
  | .str x, _, _, h => by unfold Rep at h; subst h; exact .str x
  | .tup xs, _, hc, h => by
    unfold Rep at h
    obtain ⟨a, vs, rfl, hs, hr⟩ := h
    simp only [clean] at hc
    simp only [cD]
    exact .tup hs (Reps.dp hc hr)
  | .bl _, _, h, _ => by simp [clean] at h
  | .ref _, _, h, _ => by simp [clean] at h
  | .dct _ _, _, h, _ => by simp [clean] at h
  | .con _, _, h, _ => by simp [clean] at h
  | .clo _ _, _, h, _ => by simp [clean] at h
theorem Reps.dp : ∀ {xs : List PV} {vs : List V}, cleans xs = true → Reps K w ι H xs vs → DpAll K H vs (cDs xs)
  | [], _, _, h => by unfold Reps at h; subst h; exact .nil
  | x :: xs, _, hc, h => by
    unfold Reps at h
    obtain ⟨v, r, rfl, h1, h2⟩ := h
    simp only [cleans, Bool.and_eq_true] at hc
    exact .cons (Rep.dp hc.1 h1) (Reps.dp hc.2 h2)
end
theorem mapM_dp {f : PV → Option PyData} (hf : ∀ x v d, f x = some d → Rep K w ι H x v → Dp K H v d) : ∀ {xs : List PV} {vs : List V} {ds : List PyData}, xs.mapM f = some ds → Reps K w ι H xs vs → DpAll K H vs ds
  | [], _, ds, e, h => by
    unfold Reps at h; subst h
    simp at e; subst e; exact .nil
  | x :: xs, _, ds, e, h => by
    unfold Reps at h
    obtain ⟨v, r, rfl, h1, h2⟩ := h
    rw [List.mapM_cons] at e
    cases q : f x with
    | none => simp [q] at e
    | some d =>
      cases q2 : xs.mapM f with
      | none => simp [q, q2] at e
      | some ds' =>
        simp [q, q2] at e
        subst e
        exact .cons (hf x v d q h1) (mapM_dp hf q2 h2)
theorem toD_dp (s : Sim K w ι S H) : ∀ (n : Nat) (x : PV) (v : V) (d : PyData), toD n S x = some d → Rep K w ι H x v → Dp K H v d
  | 0, _, _, _, e, _ => by simp [toD] at e
  | n + 1, .non, _, _, e, h => by unfold Rep at h; subst h; simp [toD] at e; subst e; exact .non
  | n + 1, .bl b, _, _, e, h => by unfold Rep at h; subst h; simp [toD] at e; subst e; exact .bl b
  | n + 1, .int i, _, _, e, h => by unfold Rep at h; subst h; simp [toD] at e; subst e; exact .int i
  | n + 1, .str x, _, _, e, h => by unfold Rep at h; subst h; simp [toD] at e; subst e; exact .str x
  | n + 1, .tup xs, _, _, e, h => by
    unfold Rep at h
    obtain ⟨a, vs, rfl, hs, hr⟩ := h
    simp only [toD] at e
    cases q : xs.mapM (toD n S) with
    | none => simp [q] at e
    | some ds =>
      simp [q] at e; subst e
      exact .tup hs (mapM_dp (fun x v d => toD_dp s n x v d) q hr)
  | n + 1, .ref i, _, _, e, h => by
    unfold Rep at h
    obtain ⟨a, rfl, ha⟩ := h
    simp only [toD] at e
    split at e
    · rename_i xs q
      obtain ⟨b, vs, eb, hb, hr⟩ := s.lst q
      rw [ha] at eb; cases eb
      cases q2 : xs.mapM (toD n S) with
      | none => simp [q2] at e
      | some ds =>
        simp [q2] at e; subst e
        exact .lst (.inl (.inl hb)) (mapM_dp (fun x v d => toD_dp s n x v d) q2 hr)
    · rename_i xs q
      obtain ⟨b, vs, o, eb, hb, hr⟩ := s.ro q
      rw [ha] at eb; cases eb
      cases q2 : xs.mapM (toD n S) with
      | none => simp [q2] at e
      | some ds =>
        simp [q2] at e; subst e
        exact .lst (.inl (.inr ⟨o, hb⟩)) (mapM_dp (fun x v d => toD_dp s n x v d) q2 hr)
    · cases e
  | n + 1, .dct _ _, _, _, e, _ => by simp [toD] at e
  | n + 1, .con _, _, _, e, _ => by simp [toD] at e
  | n + 1, .clo _ _, _, _, e, _ => by simp [toD] at e
/-- what eqM tells is the data's == -/
theorem eqM_dp {x y : PV} {u v : V} {b : Bool} (s : Sim K w ι S H) (e : eqM S x y = some b) (rx : Rep K w ι H x u) (ry : Rep K w ι H y v) :
    ∃ d d', Dp K H u d ∧ Dp K H v d' ∧ d.canLay0 = true ∧ d'.canLay0 = true ∧ min d.depth d'.depth ≤ 150 ∧ PyData.eqv d d' = b := by
  unfold eqM at e
  split at e
  · rename_i h
    simp only [Bool.and_eq_true, Bool.or_eq_true, decide_eq_true_eq] at h
    cases e
    refine ⟨_, _, Rep.dp h.1.1 rx, Rep.dp h.1.2 ry, cD_lay _ h.1.1, cD_lay _ h.1.2, ?_, cD_eqv _ _ h.1.1 h.1.2⟩
    rw [cD_depth, cD_depth]
    rcases h.2 with h | h <;> omega
  · split at e
    · rename_i d d' h1 h2
      split at e
      · rename_i h
        simp only [Bool.and_eq_true, decide_eq_true_eq] at h
        cases e
        exact ⟨d, d', toD_dp s _ _ _ _ h1 rx, toD_dp s _ _ _ _ h2 ry, h.1.1, h.1.2, h.2, rfl⟩
      · cases e
    · cases e
end
section
variable {X : Cx}
def rEqA (K : PySem.W.Frag) (f : Bool → Bool) : R2 := fun x y H Q => ∃ d e, Dp K H x d ∧ Dp K H y e ∧ d.canLay0 = true ∧ e.canLay0 = true ∧ min d.depth e.depth ≤ 150 ∧ Q (.bl (f (PyData.eqv d e))) H
theorem op_eqA (hu : X.A.units + 200 < cLine) : OpR X (compareOp .Eq) (rEqA X.K id) := by
  intro pins s σ H x y v u Q I rx ry h
  obtain ⟨d, e, hd, he, sd, se, hm, q⟩ := h
  obtain ⟨as, r1⟩ := Dp.reads I d x v hd rx
  obtain ⟨bs, r2⟩ := Dp.reads I e y u he ry
  exact SeqAt.compareEq_reads r1 r2 sd se (by omega) ⟨.bl _, H, I, rfl, q⟩
theorem op_neA (hu : X.A.units + 200 < cLine) : OpR X (compareOp .NotEq) (rEqA X.K (!·)) := by
  intro pins s σ H x y v u Q I rx ry h
  obtain ⟨d, e, hd, he, sd, se, hm, q⟩ := h
  obtain ⟨as, r1⟩ := Dp.reads I d x v hd rx
  obtain ⟨bs, r2⟩ := Dp.reads I e y u he ry
  exact SeqAt.compareNe_reads r1 r2 sd se (by omega) ⟨.bl _, H, I, rfl, q⟩
theorem any_cDs : ∀ {xs : List PV} {x : PV}, cleans xs = true → clean x = true → ((cDs xs).any fun e => PyData.eqv e (cD x)) = xs.any fun y => beqPV y x
  | [], _, _, _ => rfl
  | y :: ys, x, h, hx => by
    simp only [cleans, Bool.and_eq_true] at h
    simp only [cDs, List.any_cons]
    rw [cD_eqv y x h.1 hx, any_cDs h.2 hx]
theorem anyEq_dp {K : PySem.W.Frag} {w : World} {ι : List Addr} {H : Hp} {S : Store} {x : PV} {u : V} {xs : List PV} {vs : List V} {b : Bool} (s : Sim K w ι S H) (rx : Rep K w ι H x u) (rs : Reps K w ι H xs vs) (e : anyEq S x xs = some b) :
    ∃ d ds, Dp K H u d ∧ DpAll K H vs ds ∧ d.canLay0 = true ∧ PyData.canLayAll0 ds = true ∧ d.depth ≤ 150 ∧ (ds.any fun z => PyData.eqv z d) = b := by
  unfold anyEq at e
  split at e
  · rename_i h
    simp only [Bool.and_eq_true, decide_eq_true_eq] at h
    cases e
    exact ⟨_, _, Rep.dp h.1.1 rx, Reps.dp h.1.2 rs, cD_lay _ h.1.1, cDs_lay _ h.1.2, by rw [cD_depth]; exact h.2, any_cDs h.1.2 h.1.1⟩
  · split at e
    · rename_i d ds h1 h2
      split at e
      · rename_i h
        simp only [Bool.and_eq_true, decide_eq_true_eq] at h
        cases e
        exact ⟨d, ds, toD_dp s _ _ _ _ h1 rx, mapM_dp (fun x v d => toD_dp s _ x v d) h2 rs, h.1.1, h.1.2, h.2, rfl⟩
      · cases e
    · cases e
def rInA (K : PySem.W.Frag) (f : Bool → Bool) : R2 := fun x y H Q => ∃ d ds a vs, y = .ref a ∧ (SqL K H a vs ∨ SqT K H a vs) ∧ Dp K H x d ∧ DpAll K H vs ds ∧ d.canLay0 = true ∧ PyData.canLayAll0 ds = true ∧ d.depth ≤ 150 ∧ Q (.bl (f (ds.any fun z => PyData.eqv z d))) H
theorem op_inA (hu : X.A.units + 200 < cLine) : OpR X (compareOp .In) (rInA X.K id) := by
  intro pins s σ H x y v u Q I rx ry h
  obtain ⟨d, ds, a, vs, rfl, hs, hd, hds, sd, sds, hm, q⟩ := h
  obtain ⟨as, r1⟩ := Dp.reads I d x v hd rx
  rcases hs with hs | hs
  · obtain ⟨bs, r2⟩ := Dp.reads I (.list ds) (.ref a) u (.lst hs hds) ry
    exact SeqAt.in_list_reads r2 r1 sds sd (by omega) ⟨.bl _, H, I, rfl, q⟩
  · obtain ⟨bs, r2⟩ := Dp.reads I (.tuple ds) (.ref a) u (.tup hs hds) ry
    exact SeqAt.in_tuple_reads r2 r1 sds sd (by omega) ⟨.bl _, H, I, rfl, q⟩
theorem op_notInA (hu : X.A.units + 200 < cLine) : OpR X (compareOp .NotIn) (rInA X.K (!·)) := by
  intro pins s σ H x y v u Q I rx ry h
  obtain ⟨d, ds, a, vs, rfl, hs, hd, hds, sd, sds, hm, q⟩ := h
  obtain ⟨as, r1⟩ := Dp.reads I d x v hd rx
  rcases hs with hs | hs
  · obtain ⟨bs, r2⟩ := Dp.reads I (.list ds) (.ref a) u (.lst hs hds) ry
    exact SeqAt.notIn_list_reads r2 r1 sds sd (by omega) ⟨.bl _, H, I, rfl, q⟩
  · obtain ⟨bs, r2⟩ := Dp.reads I (.tuple ds) (.ref a) u (.tup hs hds) ry
    exact SeqAt.notIn_tuple_reads r2 r1 sds sd (by omega) ⟨.bl _, H, I, rfl, q⟩
end
end EK

namespace EK
open PySem PySem.Spec PyProof.Rows L2

/-! ### the text's forms looked at -/
def notStar : Expr → Bool
  | .Starred _ _ => false
  | _ => true
theorem star_cons {e : Expr} {es : List Expr} {env : PySem.Env} (h : notStar e = true) : starEach (e :: es) env = (false, eval e env) :: starEach es env := by
  cases e <;> first | rfl | (simp [notStar] at h)
theorem star_plain {pos : Pos} {env : PySem.Env} : ∀ {es : List Expr}, es.all notStar = true → (backTo pos (starEach es env)).any (·.1) = false
  | [], _ => rfl
  | e :: es, h => by
    simp only [List.all_cons, Bool.and_eq_true] at h
    rw [star_cons h.1]
    show (false || (backTo pos (starEach es env)).any (·.1)) = false
    rw [star_plain h.2]; rfl
theorem star_plain2 {pos : Pos} {env : PySem.Env} : ∀ {es : List Expr}, es.all notStar = true → (backTo pos (starEach es env)).all (fun x => !x.1) = true
  | [], _ => rfl
  | e :: es, h => by
    simp only [List.all_cons, Bool.and_eq_true] at h
    rw [star_cons h.1]
    show (true && (backTo pos (starEach es env)).all (fun x => !x.1)) = true
    rw [star_plain2 h.2]; rfl
def notComp : Expr → Bool
  | .ListComp .. => false
  | .SetComp .. => false
  | .DictComp .. => false
  | _ => true
theorem swaps_no {e : Expr} {t : Option Expr} {l : Nat} {env : PySem.Env} (h : notComp e = true) : swapsWith e t l env = pure false := by
  cases e <;> first | rfl | (simp [notComp] at h)
def notSlice : Expr → Bool
  | .Slice .. => false
  | _ => true
theorem plain_ix {b : Expr} (h : notSlice b = true) : PlainIx b := fun o i => by
  cases b <;> first | rfl | (simp [notSlice] at h)
/-- what isTrue takes as its value's truth -/
def plainTest : Expr → Bool
  | .UnaryOp .Not _ _ => false
  | .BoolOp .. => false
  | .IfExp .. => false
  | .Compare .. => false
  | _ => true
theorem test_plain {a : Expr} {env : PySem.Env} (h : plainTest a = true) : ∀ whole, isTrue a env whole = (do let v ← whole; standAt a.pos; holding [v] (truthy v)) := fun whole => by
  cases a with
  | UnaryOp op x pos => cases op <;> first | rfl | (simp [plainTest] at h)
  | _ => first | rfl | (simp [plainTest] at h)
def plainBase : Expr → Bool
  | .Call (.Name x _) [] [] _ => !(x == ("super" : Str))
  | _ => true
theorem base_plain {o : Expr} {attr : Str} {env : PySem.Env} (h : plainBase o = true) : attributeBase o attr env (eval o env) = eval o env := by
  unfold attributeBase
  split
  · rename_i x p1 p
    simp only [plainBase, Bool.not_eq_true'] at h
    have h : (x != ("super" : Str)) = true := by simp [bne, h]
    simp only [h, Bool.true_or, if_true, bind_pure]
  · simp only [bind_pure]

/-- what is looked at in a def: its slots, its scope's names, the module's constants -/
structure Chk where
  N : List Str
  names : List (Str × NameKind)
  line : Bool := true
def isVis (c : Chk) (x : Str) : Bool := match c.names.lookup x with
  | some .local => true
  | some .cell => true
  | some .free => true
  | _ => false
def isLoc (c : Chk) (x : Str) : Bool := match c.names.lookup x with
  | some .local => true
  | _ => false
def isTg (c : Chk) (x : Str) : Bool := match c.names.lookup x with
  | some .local => true
  | some .cell => true
  | _ => false
def isGl (c : Chk) (x : Str) : Bool := match c.names.lookup x with
  | some .globalImplicit => true
  | _ => false
def dbg (x : Str) : Bool := x == ("__debug__" : Str)
def dbg2 (x : Str) : Bool := x == ("__classdict__" : Str)
def bltNames : List Str := ["len", "int", "abs", "max", "min", "sum", "tuple", "list", "str", "any", "all", "range", "enumerate", "zip", "reversed", "isinstance", "bool", "dict"]

def primNm : Prim → String × Nat
  | .len => ("len", 1) | .int => ("int", 1) | .abs => ("abs", 1) | .min2 => ("min", 2) | .max2 => ("max", 2) | .min1 => ("min", 1) | .max1 => ("max", 1)
  | .sum => ("sum", 1) | .tuple => ("tuple", 1) | .list => ("list", 1) | .str => ("str", 1) | .any => ("any", 1) | .all => ("all", 1) | .sorted => ("sorted", 1)
def tnNm : TN → String
  | .tuple => "tuple" | .list => "list" | .int => "int" | .bool => "bool" | .str => "str"
def opNm : BOp → Operator
  | .add => .Add | .sub => .Sub | .mul => .Mult | .fdiv => .FloorDiv | .mod => .Mod | .pow => .Pow
def cmpNm : COp → CmpOp
  | .eq => .Eq | .ne => .NotEq | .lt => .Lt | .le => .LtE | .gt => .Gt | .ge => .GtE | .isIn => .In | .notIn => .NotIn
def mthNm : Mth → String
  | .append => "append" | .extend => "extend" | .pop => "pop" | .index => "index" | .get => "get" | .clear => "clear" | .join => "join"

def chkEs (f : Expr → Ex → Bool) : List Expr → Exs → Bool
  | [], .nil => true
  | e :: es, .cons x xs => notStar e && f e x && chkEs f es xs
  | _, _ => false
def chkKs : List (Option Expr) → List Str → Bool
  | [], [] => true
  | some (.Constant (.str k) _ _) :: ks, q :: qs => decide (k = q) && chkKs ks qs
  | _, _ => false
def lenXs : Exs → Nat
  | .nil => 0
  | .cons _ xs => lenXs xs + 1
def scal : PV → Bool
  | .non => true | .bl _ => true | .int _ => true | .str _ => true
  | _ => false
def constIs : Const → PV → Bool
  | .none, .non => true
  | .bool a, .bl b => a == b
  | .int a, .int b => decide (a = b)
  | .str a, .str b => decide (a = b)
  | _, _ => false
/-- slots of names in order -/
def chkIs (c : Chk) : List Expr → List Nat → Bool
  | [], [] => true
  | .Name x _ :: es, i :: is => decide (c.N[i]? = some x) && isTg c x && chkIs c es is
  | _, _ => false
def chkTg (c : Chk) : Expr → Tgt → Bool
  | .Name x _, .nm i => decide (c.N[i]? = some x) && isTg c x
  | .Tuple es _ _, .tp is => chkIs c es is
  | _, _ => false
def inOwn (own : List Nat) : Tgt → Bool
  | .nm i => own.contains i
  | .tp is => is.all own.contains
def isTup : Expr → Bool
  | .Tuple .. => true
  | _ => false
/-- the source of a walk: f looks at its expressions -/
def callIt (c : Chk) (f : Expr → Ex → Bool) (iter : Expr) (nm : Str) (src : Exs) : Bool := match iter with
  | .Call (.Name n _) es [] _ => isGl c n && decide (n = nm) && chkEs f es src
  | _ => false
def chkIt (c : Chk) (f : Expr → Ex → Bool) (iter tg : Expr) (k : IK) (src : Exs) : Bool := match k with
  | .over => match src with
    | .cons x .nil => f iter x
    | _ => false
  | .range => callIt c f iter "range" src && decide (1 ≤ lenXs src) && decide (lenXs src ≤ 3)
  | .enum => callIt c f iter "enumerate" src && decide (lenXs src = 1) && isTup tg
  | .zip => callIt c f iter "zip" src && decide (lenXs src = 2) && isTup tg
  | .rev => callIt c f iter "reversed" src && decide (lenXs src = 1)
/-- a test: f looks at its expressions -/
def chkT (f : Expr → Ex → Bool) : Ex → Expr → Bool
  | .and x y, e => match e with
    | .BoolOp .And [a, b] _ => chkT f x a && chkT f y b
    | .BoolOp .And (a :: b :: d :: rest) pos => chkT f x a && chkT f y (.BoolOp .And (b :: d :: rest) pos)
    | _ => false
  | .or x y, e => match e with
    | .BoolOp .Or [a, b] _ => chkT f x a && chkT f y b
    | .BoolOp .Or (a :: b :: d :: rest) pos => chkT f x a && chkT f y (.BoolOp .Or (b :: d :: rest) pos)
    | _ => false
  | .not x, e => match e with
    | .UnaryOp .Not a _ => chkT f x a
    | _ => false
  | .cmp op x y, e => match e with
    | .Compare a [o] [b] _ => decide (o = cmpNm op) && f a x && f b y && !behindInMarks o b
    | _ => false
  | .chn x y z, e => match e with
    | .Compare a [.Lt, .Lt] [b, d] _ => f a x && f b y && f d z
    | _ => false
  | .isN x, e => match e with
    | .Compare a [.Is] [.Constant .none _ _] _ => f a x
    | _ => false
  | .notN x, e => match e with
    | .Compare a [.IsNot] [.Constant .none _ _] _ => f a x
    | _ => false
  | x, e => plainTest e && f e x
def chkCs (f : Expr → Ex → Bool) : List Expr → Exs → Bool
  | [], .nil => true
  | [e], .cons x .nil => chkT f x e
  | _, _ => false
def notSet : Expr → Bool
  | .Set .. => false
  | _ => true
def chkE (T : Text) : Nat → Chk → Expr → Ex → Bool
  | 0, _, _, _ => false
  | n + 1, c, e, x => match x with
    | .slot i => match e with
      | .Name y _ => decide (c.N[i]? = some y) && isVis c y && !dbg y && !dbg2 y
      | _ => false
    | .cst v => match e with
      | .Constant k _ _ => constIs k v
      | _ => false
    | .glo z => match e with
      | .Name y _ => decide (y = z) && isGl c y && !dbg y
      | _ => false
    | .tup xs => match e with
      | .Tuple es _ _ => chkEs (chkE T n c) es xs
      | _ => false
    | .lst xs => match e with
      | .List es _ => chkEs (chkE T n c) es xs
      | _ => false
    | .dsp ks xs => match e with
      | .Dict keys es _ => chkKs keys ks && chkEs (chkE T n c) es xs && decide (ks.length = lenXs xs) && decide (1 ≤ ks.length) && decide (ks.length ≤ 15) && decide ks.Nodup
      | _ => false
    | .bin op x y => match e with
      | .BinOp a o b _ => decide (o = opNm op) && chkE T n c a x && chkE T n c b y
      | _ => false
    | .neg x => match e with
      | .UnaryOp .USub a _ => chkE T n c a x
      | _ => false
    | .not x => match e with
      | .UnaryOp .Not a _ => chkE T n c a x
      | _ => false
    | .cmp op x y => match e with
      | .Compare a [o] [b] _ => decide (o = cmpNm op) && chkE T n c a x && chkE T n c b y && !behindInMarks o b
      | _ => false
    | .chn x y z => match e with
      | .Compare a [.Lt, .Lt] [b, d] _ => chkE T n c a x && chkE T n c b y && chkE T n c d z
      | _ => false
    | .and x y => match e with
      | .BoolOp .And [a, b] _ => chkE T n c a x && chkE T n c b y
      | .BoolOp .And (a :: b :: d :: rest) pos => chkE T n c a x && chkE T n c (.BoolOp .And (b :: d :: rest) pos) y
      | _ => false
    | .or x y => match e with
      | .BoolOp .Or [a, b] _ => chkE T n c a x && chkE T n c b y
      | .BoolOp .Or (a :: b :: d :: rest) pos => chkE T n c a x && chkE T n c (.BoolOp .Or (b :: d :: rest) pos) y
      | _ => false
    | .ite x y z => match e with
      | .IfExp t a b _ => chkT (chkE T n c) x t && chkE T n c a y && chkE T n c b z
      | _ => false
    | .isN x => match e with
      | .Compare a [.Is] [.Constant .none _ _] _ => chkE T n c a x
      | _ => false
    | .notN x => match e with
      | .Compare a [.IsNot] [.Constant .none _ _] _ => chkE T n c a x
      | _ => false
    | .ix x y => match e with
      | .Subscript a b _ => notSlice b && chkE T n c a x && chkE T n c b y
      | _ => false
    | .sl x lo hi => match e with
      | .Subscript a (.Slice l h none _) _ => chkE T n c a x && (match l, lo with
        | none, .nil => true
        | some l, .cons y .nil => chkE T n c l y
        | _, _ => false) && (match h, hi with
        | none, .nil => true
        | some h, .cons y .nil => chkE T n c h y
        | _, _ => false)
      | _ => false
    | .call f xs => match e with
      | .Call (.Name y _) es [] _ => decide (y = f) && isGl c y && !dbg y && chkEs (chkE T n c) es xs && (match T.fns.lookup f with
        | some fi => decide (lenXs xs ≤ fi.params.length) && decide (fi.params.length - lenXs xs ≤ fi.dfl.length)
        | none => false)
      | _ => false
    | .prim p xs => match e with
      | .Call (.Name y _) es [] _ => decide (y = ((primNm p).1 : String)) && isGl c y && (match p with
        | .sorted => false
        | _ => true) && chkEs (chkE T n c) es xs && decide (lenXs xs = (primNm p).2)
      | _ => false
    | .lrg xs => match e with
      | .Call (.Name y _) [.Call (.Name z _) [a] [] _] [] _ => decide (y = "list") && isGl c y && decide (z = "range") && isGl c z && chkEs (chkE T n c) [a] xs
      | _ => false
    | .meth m x xs => match e with
      | .Call (.Attribute o nm apos) es [] cpos => decide (nm = (mthNm m : String)) && plainBase o && (apos.endLine == cpos.line) && chkE T n c o x && chkEs (chkE T n c) es xs && decide (lenXs xs < 20)
      | _ => false
    | .isT t x => match e with
      | .Call (.Name y _) [a, .Name z _] [] _ => decide (y = "isinstance") && isGl c y && notStar a && chkE T n c a x && decide (z = (tnNm t : String)) && isGl c z
      | _ => false
    | .comp own tg k src cond elt => match e with
      | .ListComp el [⟨tge, iter, ifs, 0⟩] scope _ => chkIt c (chkE T n c) iter tge k src && chkTg { c with names := scope.names } tge tg && inOwn own tg &&
          chkCs (chkE T n { c with names := scope.names }) ifs cond && chkE T n { c with names := scope.names } el elt &&
          notSet iter &&
          (match scope.kind with
            | .function => true
            | _ => false) && (scope.names.all fun y => decide (scope.names.lookup y.1 = some y.2)) && (scope.names.all fun y => match y.2 with
              | .free => (match c.names.lookup y.1 with
                | some .cell => true
                | some .free => true
                | _ => false)
              | .local => (own.any fun i => decide (c.N[i]? = some y.1)) || decide (y.1 ∉ c.N)
              | .cell => (own.any fun i => decide (c.N[i]? = some y.1)) || decide (y.1 ∉ c.N)
              | _ => true) && own.all fun i => decide (i < c.N.length)
      | _ => false
end EK

namespace EK
open PySem PySem.Spec PyProof.Rows L2

/-! ### where one stands -/
def scV : PV → V
  | .non => .non
  | .bl b => .bl b
  | .int i => .int i
  | .str x => .str x
  | _ => .non
/-- what a def of the text promises, calls at most r deep -/
def spF (T : Text) (K : PySem.W.Frag) (w : World) (mg : Str → Option Value) (r : Nat) (f : FnI) : Sp := fun vs H Q E => ∃ ι S args, Sim K w ι S H ∧ Reps K w ι H args vs ∧ vs.length = f.params.length ∧
  FinG K w mg E ι H (callBody (conf T r) f args S) fun v _ ι' H' => ∀ v', Rep K w ι' H' v v' → Q v' H'
structure FnAt (T : Text) (P : Program) (w : World) (K : PySem.W.Frag) (mg : Str → Option Value) (base : Heap) (r : Nat) (x : Str) (f : FnI) : Prop where
  at_ : ∃ (a : Addr) (fd : FuncData), mg x = some (.ref a) ∧ PySem.W.keepIn K (.ref a) = true ∧
    (∀ j, j ≤ f.dfl.length → ∃ ds, Binds K fd f.params ds ∧ Vals ((f.dfl.drop (f.dfl.length - j)).map scV) ds) ∧ FnOk P w K mg base (L2.CX P w) (r + 1) a fd f.params (spF T K w mg r f)
  scal : f.dfl.all scal = true
structure FnsOk (T : Text) (P : Program) (w : World) (K : PySem.W.Frag) (mg : Str → Option Value) (base : Heap) (r : Nat) : Prop where
  fn : ∀ r', r = r' + 1 → ∀ x f, T.fns.lookup x = some f → FnAt T P w K mg base r' x f
/-- an own exception class without parts -/
def ExcAt (K : PySem.W.Frag) (mg : Str → Option Value) (x : Str) : Prop := ∃ C, mg x = some (.ref C) ∧ PySem.W.excIn K C He.veBase "ValueError.__new__" = true ∧ PySem.W.keepIn K (.ref C) = true ∧ PySem.W.subIn K (.ref C) (.type "BaseException") = some true ∧
  PySem.W.typeIn K (.ref C) = some (.type "type")
structure Ctx (T : Text) (c : Chk) (X : Cx) (W : WX) (r : Nat) : Prop where
  hN : X.N = c.N
  nd : X.N.Nodup
  vis : ∀ x, isVis c x = true → Vis X.env.scope x
  loc : ∀ x, isLoc c x = true → X.env.scope.names.lookup x = some .local
  tg : ∀ x, isTg c x = true → Loc X.env.scope x ∧ (X.fn x = true ∨ X.env.scope.names.lookup x = some .local)
  gl : ∀ x, isGl c x = true → Gl X x
  fre : ∀ x, c.names.lookup x = some .cell ∨ c.names.lookup x = some .free → X.env.scope.names.lookup x = some .cell ∨ X.env.scope.names.lookup x = some .free
  cel : ∀ x, c.names.lookup x = some .cell → X.env.scope.names.lookup x = some .cell
  calm : X.calm = true
  room : Room r X.A
  tk : Takes X W
  fns : FnsOk T X.prog X.w X.K X.mg X.base r
  free : ∀ x ∈ bltNames, X.mg x = none
  exc : ∀ x ∈ T.excs, ExcAt X.K X.mg x
  glob : ∀ x v, T.glob x = some v → ∃ v' u, X.mg x = some u ∧ RelV v' u ∧ ∀ ι H, Rep X.K X.w ι H v v'
theorem Ctx.un {T : Text} {c : Chk} {X : Cx} {W : WX} {r : Nat} (C : Ctx T c X W r) : X.A.units + 200 < cLine := by
  have := C.room.un
  omega
theorem Ctx.name {T : Text} {c : Chk} {X : Cx} {W : WX} {r : Nat} (C : Ctx T c X W r) {i : Nat} {x : Str} (h : c.N[i]? = some x) : X.N[i]? = some x := by rw [C.hN]; exact h
abbrev SE (T : Text) (X : Cx) (W : WX) (r : Nat) (x : Ex) : TE := tM X.K X.w X.mg W (evalE (conf T r) x)
abbrev SEs (T : Text) (X : Cx) (W : WX) (r : Nat) (x : Exs) : TA := tMs X.K X.w X.mg W (evalEs (conf T r) x)

section
variable {T : Text} {c : Chk} {X : Cx} {W : WX} {r : Nat}
theorem rep_scal {K : PySem.W.Frag} {w : World} {ι : List Addr} {H : Hp} {v : PV} (h : scal v = true) : Rep K w ι H v (scV v) := by
  cases v <;> first | (unfold Rep scV; rfl) | (simp [scal] at h)
theorem reps_scal {K : PySem.W.Frag} {w : World} {ι : List Addr} {H : Hp} : ∀ {vs : List PV}, vs.all scal = true → Reps K w ι H vs (vs.map scV)
  | [], _ => Reps.nil
  | v :: vs, h => by
    simp only [List.all_cons, Bool.and_eq_true] at h
    exact Reps.cons (rep_scal h.1) (reps_scal h.2)
theorem FinG.ok {α : Type} {K : PySem.W.Frag} {w : World} {mg : Str → Option Value} {EX : XK} {ι : List Addr} {H : Hp} {v : α} {S : Store} {k : α → Store → List Addr → Hp → Prop} (h : FinG K w mg EX ι H (.ok v S) k) (s : Sim K w ι S H) : k v S ι H := h ι H .refl s
theorem FinG.at {α : Type} {K : PySem.W.Frag} {w : World} {mg : Str → Option Value} {EX : XK} {ι ι' : List Addr} {H H' : Hp} {v : α} {S : Store} {k : α → Store → List Addr → Hp → Prop} (h : FinG K w mg EX ι H (.ok v S) k) (g : Grow ι H ι' H') (s : Sim K w ι' S H') : k v S ι' H' := h ι' H' g s

theorem snd_slot (C : Ctx T c X W r) {i : Nat} {y : Str} {p : Pos} (h1 : c.N[i]? = some y) (h2 : isVis c y = true) (h3 : dbg y = false) (h4 : dbg2 y = false) : PE X (.Name y p) (SE T X W r (.slot i)) := by
  refine PE.imp (pe_var (C.name h1) (C.vis y h2) h3 h4) fun σ H Q ⟨ι, S, env, s, er, f⟩ => ?_
  simp only [evalE] at f
  split at f
  · rename_i v q
    obtain ⟨v', e, rv⟩ := er.2 i v q
    exact ⟨v', e, f.ok s v' rv⟩
  · exact f.elim
theorem snd_cst (C : Ctx T c X W r) {k : Const} {v : PV} {j : Nat} {p : Pos} (h : constIs k v = true) : PE X (.Constant k j p) (SE T X W r (.cst v)) := by
  have sv : scal v = true := by cases k <;> cases v <;> first | rfl | (simp [constIs] at h)
  have key : PE X (.Constant k j p) (tC (scV v)) := by
    cases k <;> cases v <;> first
      | (simp [constIs] at h; done)
      | exact pe_non
      | (simp only [constIs, beq_iff_eq, decide_eq_true_eq] at h; subst h; first | exact pe_bl | exact pe_int | exact pe_str)
  exact PE.imp key fun σ H Q ⟨ι, S, env, s, er, f⟩ => FinG.ok (v := v) (S := S) f s _ (rep_scal sv)
theorem snd_glo (C : Ctx T c X W r) {y : Str} {p : Pos} (h2 : isGl c y = true) (h3 : dbg y = false) : PE X (.Name y p) (SE T X W r (.glo y)) := by
  cases hg : T.glob y with
  | none =>
    have : PE X (.Name y p) (fun _ _ _ => False) := ⟨fun _ _ _ _ _ _ h => h.elim⟩
    refine PE.imp this fun σ H Q ⟨ι, S, env, s, er, f⟩ => ?_
    simp only [evalE, hg] at f
    exact f
  | some v =>
    obtain ⟨v', u, hm, rv, rep⟩ := C.glob y v hg
    refine PE.imp (pe_glob (C.gl y h2) hm rv h3) fun σ H Q ⟨ι, S, env, s, er, f⟩ => ?_
    simp only [evalE, hg] at f
    exact f.ok s v' (rep ι H)
/-! argument lists -/
theorem snd_es (C : Ctx T c X W r) {f : Expr → Ex → Bool} (hf : ∀ e x, f e x = true → PE X e (SE T X W r x)) : ∀ {es : List Expr} {xs : Exs}, chkEs f es xs = true → PA X es (SEs T X W r xs) ∧ es.all notStar = true
  | [], .nil, _ => ⟨PA.imp pa_nil fun σ H Q ⟨ι, S, env, s, er, g⟩ => by
      simp only [evalEs] at g
      exact g.ok s [] Reps.nil, rfl⟩
  | e :: es, .cons x xs, h => by
    simp only [chkEs, Bool.and_eq_true] at h
    obtain ⟨⟨h1, h2⟩, h3⟩ := h
    obtain ⟨i1, i2⟩ := snd_es C hf h3
    refine ⟨PA.imp (pa_cons (hf e x h2) i1 (star_cons h1)) fun σ H Q ⟨ι, S, env, s, er, g⟩ => ?_, by simp [h1, i2]⟩
    simp only [evalEs] at g
    refine ⟨ι, S, env, s, er, g.bind.imp fun v S1 ι1 H1 g1 s1 k1 v' rv => ?_⟩
    refine ⟨ι1, S1, env, s1, er.grow g1, k1.bind.imp fun vs S2 ι2 H2 g2 s2 k2 vs' rvs => ?_⟩
    exact k2.ok s2 _ (Reps.cons (rv.grow g2) rvs)
  | [], .cons _ _, h => by simp [chkEs] at h
  | _ :: _, .nil, h => by simp [chkEs] at h
theorem evalEs_len {G : Conf} : ∀ {xs : Exs} {env : Env} {S S' : Store} {vs : List PV}, evalEs G xs env S = .ok vs S' → vs.length = lenXs xs
  | .nil, _, _, _, _, h => by simp only [evalEs, Res.ok.injEq] at h; rw [← h.1]; rfl
  | .cons x xs, env, S, S', vs, h => by
    simp only [evalEs] at h
    cases q : evalE G x env S with
    | ok v S1 =>
      rw [q] at h
      simp only [Res.bind] at h
      cases q2 : evalEs G xs env S1 with
      | ok ws S2 =>
        rw [q2] at h
        simp only [Res.ok.injEq] at h
        rw [← h.1, List.length_cons, evalEs_len q2]; rfl
      | exc _ _ _ => rw [q2] at h; cases h
      | bad => rw [q2] at h; cases h
    | exc _ _ _ => rw [q] at h; cases h
    | bad => rw [q] at h; cases h
theorem snd_tup (C : Ctx T c X W r) {es : List Expr} {xs : Exs} {k : Nat} {p : Pos} (h : PA X es (SEs T X W r xs)) : PE X (.Tuple es k p) (SE T X W r (.tup xs)) := by
  refine PE.imp (pe_tup h) fun σ H Q ⟨ι, S, env, s, er, f⟩ => ?_
  simp only [evalE] at f
  refine ⟨ι, S, env, s, er, f.bind.imp fun vs S1 ι1 H1 g1 s1 k1 vs' rvs => ?_⟩
  split at k1
  · rename_i hl
    refine ⟨by rw [rvs.length]; exact hl, fun p hp => ?_⟩
    refine k1.at (.laid hp) (s1.laid hp) _ ?_
    unfold Rep
    exact ⟨p, vs', rfl, SqT.of upd_same, rvs.grow (.laid hp)⟩
  · exact k1.elim
theorem snd_lst (C : Ctx T c X W r) {es : List Expr} {xs : Exs} {p : Pos} (h : PA X es (SEs T X W r xs)) : PE X (.List es p) (SE T X W r (.lst xs)) := by
  refine PE.imp (pe_lst h) fun σ H Q ⟨ι, S, env, s, er, f⟩ => ?_
  simp only [evalE] at f
  refine ⟨ι, S, env, s, er, f.bind.imp fun vs S1 ι1 H1 g1 s1 k1 vs' rvs => ?_⟩
  split at k1
  · rename_i hl
    refine ⟨by rw [rvs.length]; exact hl, fun p hp => ?_⟩
    refine k1.at (.cell hp) (s1.new hp rvs) _ ?_
    unfold Rep
    exact ⟨p, rfl, by rw [← s1.len]; simp⟩
  · exact k1.elim
/-- two in a row -/
theorem two {f : PV → PV → Store → Res PV} {a b : Ex} {σ : L2.St} {H : Hp} {Q : VK} {R : R2} {ι : List Addr} {S : Store} {env : Env} (s : Sim X.K X.w ι S H) (er : EnvR X.K X.w ι H env σ)
    (g : FinG X.K X.w X.mg (WE W σ) ι H ((evalE (conf T r) a env S).bind fun x S1 => (evalE (conf T r) b env S1).bind fun y S2 => f x y S2) fun v _ ι' H' => ∀ v', Rep X.K X.w ι' H' v v' → Q v' H')
    (hR : ∀ (x y : PV) (S : Store) (ι : List Addr) (H : Hp) (x' y' : V), Sim X.K X.w ι S H → Rep X.K X.w ι H x x' → Rep X.K X.w ι H y y' →
      FinG X.K X.w X.mg (WE W σ) ι H (f x y S) (fun v _ ι' H' => ∀ v', Rep X.K X.w ι' H' v v' → Q v' H') → R x' y' H Q) :
    tOp R (SE T X W r a) (SE T X W r b) σ H Q := by
  refine ⟨ι, S, env, s, er, g.bind.imp fun x S1 ι1 H1 g1 s1 k1 x' rx => ?_⟩
  refine ⟨ι1, S1, env, s1, er.grow g1, k1.bind.imp fun y S2 ι2 H2 g2 s2 k2 y' ry => ?_⟩
  exact hR x y S2 ι2 H2 x' y' s2 (rx.grow g2) ry k2
theorem Rep.intE {K : PySem.W.Frag} {w : World} {ι : List Addr} {H : Hp} {i : Int} {v : V} (h : Rep K w ι H (.int i) v) : v = .int i := by unfold Rep at h; exact h
theorem Rep.strE {K : PySem.W.Frag} {w : World} {ι : List Addr} {H : Hp} {i : Str} {v : V} (h : Rep K w ι H (.str i) v) : v = .str i := by unfold Rep at h; exact h
theorem Rep.blE {K : PySem.W.Frag} {w : World} {ι : List Addr} {H : Hp} {i : Bool} {v : V} (h : Rep K w ι H (.bl i) v) : v = .bl i := by unfold Rep at h; exact h
theorem Rep.tupE {K : PySem.W.Frag} {w : World} {ι : List Addr} {H : Hp} {xs : List PV} {v : V} (h : Rep K w ι H (.tup xs) v) : ∃ a vs, v = .ref a ∧ SqT K H a vs ∧ Reps K w ι H xs vs := by unfold Rep at h; exact h
theorem Rep.refE {K : PySem.W.Frag} {w : World} {ι : List Addr} {H : Hp} {n : Nat} {v : V} (h : Rep K w ι H (.ref n) v) : ∃ a, v = .ref a ∧ ι[n]? = some a := by unfold Rep at h; exact h
theorem Rep.dctE {K : PySem.W.Frag} {w : World} {ι : List Addr} {H : Hp} {ks : List Str} {xs : List PV} {v : V} (h : Rep K w ι H (.dct ks xs) v) : ∃ a vs, v = .ref a ∧ DctAt K w H a ks vs ∧ Reps K w ι H xs vs := by unfold Rep at h; exact h
theorem Rep.conE {K : PySem.W.Frag} {w : World} {ι : List Addr} {H : Hp} {xs : List PV} {v : V} (h : Rep K w ι H (.con xs) v) : ∃ a vs, v = .ref a ∧ ConL K H a vs ∧ Reps K w ι H xs vs := by unfold Rep at h; exact h
theorem ConL.sq {K : PySem.W.Frag} {H : Hp} {a : Addr} {vs : List V} (h : ConL K H a vs) : SqL K H a vs := h.imp (fun ⟨o, q⟩ => .inr ⟨o, q⟩) id
theorem Rep.ofInt {K : PySem.W.Frag} {w : World} {ι : List Addr} {H : Hp} {i : Int} : Rep K w ι H (.int i) (.int i) := by unfold Rep; rfl
theorem Rep.ofBl {K : PySem.W.Frag} {w : World} {ι : List Addr} {H : Hp} {i : Bool} : Rep K w ι H (.bl i) (.bl i) := by unfold Rep; rfl
theorem Rep.ofStr {K : PySem.W.Frag} {w : World} {ι : List Addr} {H : Hp} {i : Str} : Rep K w ι H (.str i) (.str i) := by unfold Rep; rfl
theorem Rep.ofNon {K : PySem.W.Frag} {w : World} {ι : List Addr} {H : Hp} : Rep K w ι H .non .non := by unfold Rep; rfl
theorem Rep.ofTup {K : PySem.W.Frag} {w : World} {ι : List Addr} {H : Hp} {a : Addr} {vs : List V} {xs : List PV} (h : SqT K H a vs) (q : Reps K w ι H xs vs) : Rep K w ι H (.tup xs) (.ref a) := by unfold Rep; exact ⟨a, vs, rfl, h, q⟩
theorem Rep.ofRef {K : PySem.W.Frag} {w : World} {ι : List Addr} {H : Hp} {a : Addr} {n : Nat} (h : ι[n]? = some a) : Rep K w ι H (.ref n) (.ref a) := by unfold Rep; exact ⟨a, rfl, h⟩
theorem newIx {S : Store} {ι : List Addr} {p : Addr} (h : ι.length = S.length) : (ι ++ [p])[S.length]? = some p := by rw [← h]; simp
theorem mulOk_c {i j : Int} (h : mulOk i j = true) : CMul i j ∨ CMulW i j := by
  unfold mulOk at h
  simp only [Bool.or_eq_true, decide_eq_true_eq] at h
  rcases h with (h | h) | h
  · refine .inl (.inl ⟨?_, ?_⟩) <;> omega
  · refine .inl (.inr ⟨?_, ?_⟩) <;> omega
  · right; unfold CMulW; omega
theorem Reps.nilR {K : PySem.W.Frag} {w : World} {ι : List Addr} {H : Hp} {xs : List PV} (h : Reps K w ι H xs []) : xs = [] := by
  have := h.length
  cases xs
  · rfl
  · simp at this
theorem add_ok {u v : PV} {S : Store} {ι : List Addr} {H : Hp} {u' v' : V} {EX : XK} {Q : VK} (s : Sim X.K X.w ι S H) (ru : Rep X.K X.w ι H u u') (rv : Rep X.K X.w ι H v v')
    (k : FinG X.K X.w X.mg EX ι H (addM u v S) fun v _ ι' H' => ∀ v', Rep X.K X.w ι' H' v v' → Q v' H') :
    rI0 (fun i j => .int (i + j)) u' v' H Q ∨ (∃ i j, u' = .str i ∧ v' = .str j ∧ i.length + j.length ≤ sizeLine ∧ Q (.str (i ++ j)) H) ∨ rCatA X.K u' v' H Q ∨ rCat u' v' H Q := by
  unfold addM at k
  split at k
  · cases ru.intE; cases rv.intE
    exact .inl ⟨_, _, rfl, rfl, k.ok s _ .ofInt⟩
  · cases ru.strE; cases rv.strE
    split at k
    · rename_i hl
      exact .inr (.inl ⟨_, _, rfl, rfl, hl, k.ok s _ .ofStr⟩)
    · exact k.elim
  · rename_i xs ys
    obtain ⟨a1, us, rfl, h1, r1⟩ := ru.tupE
    obtain ⟨a2, vs, rfl, h2, r2⟩ := rv.tupE
    split at k
    · rename_i hl
      refine .inr (.inr (.inl ⟨a1, a2, us, vs, rfl, rfl, h1, h2, by rw [r1.length, r2.length]; exact hl, fun e => ?_, fun e1 e2 => ?_, fun e1 e2 p hp => ?_⟩))
      · subst e
        have e2 := r1.nilR
        subst e2
        exact k.ok s _ (.ofTup h2 r2)
      · subst e2
        have e2 := r2.nilR
        subst e2
        rw [List.append_nil] at k
        exact k.ok s _ (.ofTup h1 r1)
      · refine k.at (.laid hp) (s.laid hp) _ (.ofTup (SqT.of upd_same) ((r1.append r2).grow (.laid hp)))
    · exact k.elim
  · obtain ⟨a1, rfl, h1⟩ := ru.refE
    obtain ⟨a2, rfl, h2⟩ := rv.refE
    split at k
    · rename_i xs ys q1 q2
      obtain ⟨b1, us, e1, k1, r1⟩ := s.lst q1
      obtain ⟨b2, vs, e2, k2, r2⟩ := s.lst q2
      rw [h1] at e1; cases e1
      rw [h2] at e2; cases e2
      split at k
      · rename_i hl
        refine .inr (.inr (.inr ⟨a1, a2, us, vs, rfl, rfl, k1, k2, by rw [r1.length, r2.length]; exact hl, fun p hp => ?_⟩))
        exact k.at (.cell hp) (s.new hp (r1.append r2)) _ (.ofRef (newIx s.len))
      · exact k.elim
    · exact k.elim
  · exact k.elim
theorem int_ok {f : Int → Int → Option Int} {u v : PV} {S : Store} {ι : List Addr} {H : Hp} {u' v' : V} {EX : XK} {Q : VK} (s : Sim X.K X.w ι S H) (ru : Rep X.K X.w ι H u u') (rv : Rep X.K X.w ι H v v')
    (k : FinG X.K X.w X.mg EX ι H (intM f u v S) fun v _ ι' H' => ∀ v', Rep X.K X.w ι' H' v v' → Q v' H') : ∃ i j n, u' = .int i ∧ v' = .int j ∧ f i j = some n ∧ Q (.int n) H := by
  unfold intM at k
  split at k
  · cases ru.intE; cases rv.intE
    split at k
    · rename_i q
      exact ⟨_, _, _, rfl, rfl, q, k.ok s _ .ofInt⟩
    · exact k.elim
  · exact k.elim
theorem snd_bin (C : Ctx T c X W r) {op : BOp} {a b : Expr} {x y : Ex} {p : Pos} (ha : PE X a (SE T X W r x)) (hb : PE X b (SE T X W r y)) : PE X (.BinOp a (opNm op) b p) (SE T X W r (.bin op x y)) := by
  cases op with
  | add =>
    refine PE.imp (pe_op (op_add.or (op_add_str.or (op_catA.or op_cat))) ha hb) fun σ H Q ⟨ι, S, env, s, er, f⟩ => ?_
    exact two s er f fun u v S ι H u' v' s ru rv k => add_ok s ru rv k
  | sub =>
    refine PE.imp (pe_op op_sub ha hb) fun σ H Q ⟨ι, S, env, s, er, f⟩ => ?_
    refine two s er f fun u v S ι H u' v' s ru rv k => ?_
    obtain ⟨i, j, n, rfl, rfl, e, q⟩ := int_ok (f := fun i j => some (i - j)) s ru rv k
    cases e
    exact ⟨_, _, rfl, rfl, q⟩
  | mul =>
    refine PE.imp (pe_op (op_mul.or (op_mulW.or op_repT)) ha hb) fun σ H Q ⟨ι, S, env, s, er, f⟩ => ?_
    refine two s er f fun u v S ι H u' v' s ru rv k => ?_
    replace k : FinG X.K X.w X.mg (WE W σ) ι H (mulM u v S) fun v _ ι' H' => ∀ v', Rep X.K X.w ι' H' v v' → Q v' H' := k
    unfold mulM at k
    split at k
    · cases ru.intE; cases rv.intE
      split at k
      · rename_i hm
        rcases mulOk_c hm with hm | hm
        · exact .inl ⟨_, _, rfl, rfl, hm, k.ok s _ .ofInt⟩
        · exact .inr (.inl ⟨_, _, rfl, rfl, hm, k.ok s _ .ofInt⟩)
      · exact k.elim
    · obtain ⟨a1, us, rfl, h1, r1⟩ := ru.tupE
      cases rv.intE
      split at k
      · rename_i hm
        simp only [Bool.and_eq_true, decide_eq_true_eq, Bool.not_eq_true'] at hm
        obtain ⟨⟨⟨m1, m2⟩, m3⟩, m4⟩ := hm
        refine .inr (.inr ⟨a1, _, us, rfl, rfl, h1, ?_, m2, m3, by rw [r1.length]; exact m4, fun p hp => ?_⟩)
        · refine r1.ne_nil.mpr fun e => ?_
          subst e; simp at m1
        · exact k.at (.laid hp) (s.laid hp) _ (.ofTup (SqT.of upd_same) ((r1.rep _).grow (.laid hp)))
      · exact k.elim
    · exact k.elim
  | fdiv =>
    refine PE.imp (pe_op op_fdivW ha hb) fun σ H Q ⟨ι, S, env, s, er, f⟩ => ?_
    refine two s er f fun u v S ι H u' v' s ru rv k => ?_
    obtain ⟨i, j, n, rfl, rfl, e, q⟩ := int_ok s ru rv k
    split at e
    · rename_i hm
      simp only [Bool.and_eq_true, decide_eq_true_eq] at hm
      cases e
      exact ⟨_, _, rfl, rfl, wide_div (b := 200) hm.1 hm.2 (by decide) (by decide), q⟩
    · cases e
  | mod =>
    refine PE.imp (pe_op op_mod ha hb) fun σ H Q ⟨ι, S, env, s, er, f⟩ => ?_
    refine two s er f fun u v S ι H u' v' s ru rv k => ?_
    obtain ⟨i, j, n, rfl, rfl, e, q⟩ := int_ok s ru rv k
    split at e
    · rename_i hm
      cases e
      exact ⟨_, _, rfl, rfl, hm, q⟩
    · cases e
  | pow =>
    refine PE.imp (pe_op op_pow ha hb) fun σ H Q ⟨ι, S, env, s, er, f⟩ => ?_
    refine two s er f fun u v S ι H u' v' s ru rv k => ?_
    obtain ⟨i, j, n, rfl, rfl, e, q⟩ := int_ok s ru rv k
    split at e
    · rename_i hm
      simp only [Bool.and_eq_true, decide_eq_true_eq] at hm
      cases e
      exact ⟨_, _, rfl, rfl, ⟨hm.1.1, hm.1.2, hm.2⟩, q⟩
    · cases e
end
end EK

namespace EK
open PySem PySem.Spec PyProof.Rows L2
abbrev wantV (K : PySem.W.Frag) (w : World) (Q : VK) : PV → Store → List Addr → Hp → Prop := fun v _ ι' H' => ∀ v', Rep K w ι' H' v v' → Q v' H'
section
variable {T : Text} {c : Chk} {X : Cx} {W : WX} {r : Nat}

/-! ### truth -/
theorem tru_of {K : PySem.W.Frag} {w : World} {ι : List Addr} {S : Store} {H : Hp} {v : PV} {v' : V} {b : Bool} (s : Sim K w ι S H) (rv : Rep K w ι H v v') (e : truthM S v = some b) : TruV K v' H b := by
  cases v with
  | non => unfold Rep at rv; subst rv; cases e; rfl
  | bl k => cases rv.blE; cases e; rfl
  | int i => cases rv.intE; cases e; rfl
  | str x =>
    cases rv.strE
    simp only [truthM] at e
    split at e
    · rename_i hl
      cases e
      refine ⟨hl, ?_⟩
      by_cases h : x.length = 0
      · rw [h]; rfl
      · have h1 : (x.length != 0) = true := by simpa using h
        rw [h1]
        have h2 : ((x.length : Int) != 0) = true := by
          have : (x.length : Int) ≠ 0 := by omega
          simpa using this
        exact h2.symm
    · cases e
  | tup xs =>
    obtain ⟨a, vs, rfl, hs, hr⟩ := rv.tupE
    cases e
    exact .inr (.inl ⟨vs, hs, by rw [hr.isEmpty]⟩)
  | ref n =>
    obtain ⟨a, rfl, ha⟩ := rv.refE
    simp only [truthM] at e
    split at e
    · rename_i xs q
      obtain ⟨b, vs, eb, hb, hr⟩ := s.lst q
      rw [ha] at eb; cases eb; cases e
      exact .inl ⟨vs, .inl (.inl hb), by rw [hr.isEmpty]⟩
    · rename_i xs q
      obtain ⟨b, vs, o, eb, hb, hr⟩ := s.ro q
      rw [ha] at eb; cases eb; cases e
      exact .inl ⟨vs, .inl (.inr ⟨o, hb⟩), by rw [hr.isEmpty]⟩
    · cases e
  | dct _ _ => cases e
  | con _ => cases e
  | clo _ _ => cases e
/-- a test as a value's truth -/
theorem truB_fin {EX : XK} {ι : List Addr} {H : Hp} {m : Res PV} {k : Bool → Store → List Addr → Hp → Prop} (h : FinG X.K X.w X.mg EX ι H (truB m) k) :
    FinG X.K X.w X.mg EX ι H m fun v S ι' H' => ∃ b, truthM S v = some b ∧ FinG X.K X.w X.mg EX ι' H' (.ok b S) k := by
  refine h.bind.imp fun v S ι1 H1 g1 s1 q => ?_
  split at q
  · rename_i b e
    exact ⟨b, e, q⟩
  · exact q.elim
theorem snd_neg (C : Ctx T c X W r) {a : Expr} {x : Ex} {p : Pos} (ha : PE X a (SE T X W r x)) : PE X (.UnaryOp .USub a p) (SE T X W r (.neg x)) := by
  refine PE.imp (pe_un un_neg ha) fun σ H Q ⟨ι, S, env, s, er, f⟩ => ?_
  refine ⟨ι, S, env, s, er, (FinG.bind (by simp only [evalE] at f; exact f)).imp fun v S1 ι1 H1 g1 s1 k v' rv => ?_⟩
  split at k
  · cases rv.intE
    exact ⟨_, rfl, k.ok s1 _ .ofInt⟩
  · exact k.elim
theorem snd_not (C : Ctx T c X W r) {a : Expr} {x : Ex} {p : Pos} (ha : PE X a (SE T X W r x)) : PE X (.UnaryOp .Not a p) (SE T X W r (.not x)) := by
  refine PE.imp (pe_notT ha) fun σ H Q ⟨ι, S, env, s, er, f⟩ => ?_
  simp only [evalE] at f
  refine ⟨ι, S, env, s, er, (truB_fin f.bind).imp fun v S1 ι1 H1 g1 s1 ⟨b, e, k⟩ v' rv => ?_⟩
  exact ⟨b, tru_of s1 rv e, (k.ok s1).ok s1 _ .ofBl⟩
theorem cmp_eq {u v : PV} {S : Store} {ι : List Addr} {H : Hp} {u' v' : V} {EX : XK} {Q : VK} {f : Bool → Bool} (s : Sim X.K X.w ι S H) (ru : Rep X.K X.w ι H u u') (rv : Rep X.K X.w ι H v v')
    (k : FinG X.K X.w X.mg EX ι H (okB S ((eqM S u v).map f)) (wantV X.K X.w Q)) : rEqA X.K f u' v' H Q := by
  cases e : eqM S u v with
  | none => rw [e] at k; exact k.elim
  | some b =>
    rw [e] at k
    obtain ⟨d, d', h1, h2, h3, h4, h5, rfl⟩ := eqM_dp s e ru rv
    exact ⟨d, d', h1, h2, h3, h4, h5, FinG.ok (v := PV.bl (f (PyData.eqv d d'))) k s _ .ofBl⟩
def rInD (K : PySem.W.Frag) (w : World) (f : Bool → Bool) : R2 := fun x y H Q => ∃ z a ks vs, x = .str z ∧ y = .ref a ∧ DctAt K w H a ks vs ∧ Q (.bl (f (ks.contains z))) H
theorem find_any {κ α : Type} [DecidableEq κ] (k : κ) : ∀ kvs : List (κ × α), ((kvs.find? fun kv => decide (kv.1 = k)).map (·.2)).isSome = true ↔ k ∈ kvs.map (·.1)
  | [] => by simp
  | (a, b) :: r => by
    rw [List.find?_cons, List.map_cons]
    by_cases h : a = k
    · subst h; simp
    · have ih := find_any k r
      have h3 : ¬ k = a := fun e => h e.symm
      simp only [h, decide_false, List.mem_cons, h3, false_or]
      exact ih
theorem inr_mem (z : Str) (ks : List Str) : (Sum.inr z : Key) ∈ ks.map (Sum.inr : Str → Key) ↔ z ∈ ks :=
  ⟨fun hm => by
    obtain ⟨q, h1, h2⟩ := List.mem_map.mp hm
    exact Sum.inr.inj h2 ▸ h1, fun h => List.mem_map.mpr ⟨z, h, rfl⟩⟩
theorem val_some {kvs : List (Key × V)} {ks : List Str} {z : Str} (h3 : kvs.map (·.1) = ks.map Sum.inr) : (valV kvs (Sum.inr z : Key)).isSome = ks.contains z := by
  rw [Bool.eq_iff_iff]
  unfold valV
  rw [find_any, h3, inr_mem, List.contains_iff_mem]
theorem op_inD (hu : X.A.units + 1 < cLine) : OpR X (compareOp .In) (rInD X.K X.w id) := by
  intro pins s σ H x y v u Q I rx ry h
  obtain ⟨z, a, ks, vs, rfl, rfl, hd, q⟩ := h
  rcases hd with ⟨kvs, h1, h2, h3, h4, h5⟩ | ⟨⟨es, n, D⟩, h2, h3, h4⟩
  · obtain rfl : u = Value.ref a := ry
    refine d_in hu I (DGet.k (k := Sum.inr z) h1) rx fun s' I' => ⟨.bl _, H, I', rfl, ?_⟩
    rw [val_some h3]; exact q
  · cases hk : ks.contains z with
    | false =>
      have hn : z ∉ ks := fun hm => by simp [hm] at hk
      refine op_in_kd D pins s σ H _ _ v u Q I rx ry ⟨z, none, rfl, rfl, h3 z hn, ?_⟩
      rw [hk] at q; exact q
    | true =>
      have hm : z ∈ ks := by simpa using hk
      obtain ⟨i, hi, e⟩ := List.mem_iff_getElem.mp hm
      have hv : i < vs.length := by omega
      obtain ⟨w0, e0, _⟩ := h4 i z vs[i] (by rw [List.getElem?_eq_getElem hi, e]) (List.getElem?_eq_getElem hv)
      refine op_in_kd D pins s σ H _ _ v u Q I rx ry ⟨z, some w0, rfl, rfl, e0, ?_⟩
      rw [hk] at q; exact q
theorem op_notInD (hu : X.A.units + 1 < cLine) : OpR X (compareOp .NotIn) (rInD X.K X.w (!·)) := by
  intro pins s σ H x y v u Q I rx ry h
  obtain ⟨z, a, ks, vs, rfl, rfl, hd, q⟩ := h
  rcases hd with ⟨kvs, h1, h2, h3, h4, h5⟩ | ⟨⟨es, n, D⟩, h2, h3, h4⟩
  · obtain rfl : u = Value.ref a := ry
    refine d_notIn hu I (DGet.k (k := Sum.inr z) h1) rx fun s' I' => ⟨.bl _, H, I', rfl, ?_⟩
    rw [val_some h3]; exact q
  · cases hk : ks.contains z with
    | false =>
      have hn : z ∉ ks := fun hm => by simp [hm] at hk
      refine op_notIn_kd D pins s σ H _ _ v u Q I rx ry ⟨z, none, rfl, rfl, h3 z hn, ?_⟩
      rw [hk] at q; exact q
    | true =>
      have hm : z ∈ ks := by simpa using hk
      obtain ⟨i, hi, e⟩ := List.mem_iff_getElem.mp hm
      have hv : i < vs.length := by omega
      obtain ⟨w0, e0, _⟩ := h4 i z vs[i] (by rw [List.getElem?_eq_getElem hi, e]) (List.getElem?_eq_getElem hv)
      refine op_notIn_kd D pins s σ H _ _ v u Q I rx ry ⟨z, some w0, rfl, rfl, e0, ?_⟩
      rw [hk] at q; exact q
def rIn3 (K : PySem.W.Frag) (w : World) (f : Bool → Bool) : R2 := fun x y H Q => rInA K f x y H Q ∨ rInD K w f x y H Q ∨ ∃ (c : Nat) (z : Str), x = .str ⟨#[c]⟩ ∧ y = .str z ∧ Q (.bl (f (decide (c ∈ z.cps.toList)))) H
theorem one_sign {x : Str} (h : x.cps.size = 1) : x = ⟨#[x.cps.getD 0 0]⟩ := by
  obtain ⟨a⟩ := x
  have h : a.size = 1 := h
  congr 1
  apply Array.ext
  · simp [h]
  · intro i h1 h2
    have : i = 0 := by omega
    subst this
    simp [Array.getD, h]
theorem cmp_in {u v : PV} {S : Store} {ι : List Addr} {H : Hp} {u' v' : V} {EX : XK} {Q : VK} {f : Bool → Bool} (s : Sim X.K X.w ι S H) (ru : Rep X.K X.w ι H u u') (rv : Rep X.K X.w ι H v v')
    (k : FinG X.K X.w X.mg EX ι H (okB S ((inM S u v).map f)) (wantV X.K X.w Q)) : rIn3 X.K X.w f u' v' H Q := by
  cases e : inM S u v with
  | none => rw [e] at k; exact k.elim
  | some b =>
    rw [e] at k
    have q : Q (.bl (f b)) H := FinG.ok (v := PV.bl (f b)) k s _ .ofBl
    cases v with
    | tup xs =>
      obtain ⟨a, vs, rfl, hs, hr⟩ := rv.tupE
      obtain ⟨d, ds, h1, h2, h3, h4, h5, rfl⟩ := anyEq_dp s ru hr e
      exact .inl ⟨d, ds, a, vs, rfl, .inr hs, h1, h2, h3, h4, h5, q⟩
    | ref n =>
      obtain ⟨a, rfl, ha⟩ := rv.refE
      simp only [inM] at e
      split at e
      · rename_i xs q1
        obtain ⟨b1, vs, eb, hb, hr⟩ := s.lst q1
        rw [ha] at eb; cases eb
        obtain ⟨d, ds, h1, h2, h3, h4, h5, rfl⟩ := anyEq_dp s ru hr e
        exact .inl ⟨d, ds, a, vs, rfl, .inl (.inl (.inl hb)), h1, h2, h3, h4, h5, q⟩
      · rename_i xs q1
        obtain ⟨b1, vs, o, eb, hb, hr⟩ := s.ro q1
        rw [ha] at eb; cases eb
        obtain ⟨d, ds, h1, h2, h3, h4, h5, rfl⟩ := anyEq_dp s ru hr e
        exact .inl ⟨d, ds, a, vs, rfl, .inl (.inl (.inr ⟨o, hb⟩)), h1, h2, h3, h4, h5, q⟩
      · cases e
    | dct ks ws =>
      obtain ⟨a, vs, rfl, hd, hr⟩ := rv.dctE
      cases u with
      | str z =>
        cases ru.strE
        simp only [inM] at e
        cases e
        exact .inr (.inl ⟨z, a, ks, vs, rfl, rfl, hd, q⟩)
      | _ => simp [inM] at e
    | str z =>
      cases rv.strE
      cases u with
      | str x =>
        cases ru.strE
        simp only [inM] at e
        split at e
        · rename_i h
          cases e
          exact .inr (.inr ⟨_, z, by rw [← one_sign h], rfl, q⟩)
        · cases e
      | _ => simp [inM] at e
    | _ => simp [inM] at e
theorem cmp_int {g : Int → Int → Bool} {op : COp} {u v : PV} {S : Store} {ι : List Addr} {H : Hp} {u' v' : V} {EX : XK} {Q : VK} (hop : ∀ u v S, cmpM op u v S = match u, v with
      | .int i, .int j => .ok (.bl (g i j)) S
      | _, _ => .bad) (s : Sim X.K X.w ι S H) (ru : Rep X.K X.w ι H u u') (rv : Rep X.K X.w ι H v v')
    (k : FinG X.K X.w X.mg EX ι H (cmpM op u v S) (wantV X.K X.w Q)) : rI0 (fun i j => .bl (g i j)) u' v' H Q := by
  rw [hop] at k
  split at k
  · cases ru.intE; cases rv.intE
    exact ⟨_, _, rfl, rfl, k.ok s _ .ofBl⟩
  · exact k.elim
theorem okB_id {S : Store} {b : Option Bool} : okB S b = okB S (b.map id) := by cases b <;> rfl
/-- the operator's reading -/
def rCmp (K : PySem.W.Frag) (w : World) : COp → R2
  | .eq => rEqA K id
  | .ne => rEqA K (!·)
  | .lt => rI0 fun i j => .bl (decide (i < j))
  | .le => rI0 fun i j => .bl (decide (i ≤ j))
  | .gt => rI0 fun i j => .bl (decide (j < i))
  | .ge => rI0 fun i j => .bl (decide (j ≤ i))
  | .isIn => rIn3 K w id
  | .notIn => rIn3 K w (!·)
theorem op_cmp (C : Ctx T c X W r) (op : COp) : OpR X (compareOp (cmpNm op)) (rCmp X.K X.w op) := by
  have hu := C.un
  have hu1 : X.A.units + 1 < cLine := by omega
  cases op with
  | eq => exact op_eqA hu
  | ne => exact op_neA hu
  | lt => exact op_lt
  | le => exact op_le
  | gt => exact op_gt
  | ge => exact op_ge
  | isIn => exact (op_inA hu).or ((op_inD hu1).or op_in_sign)
  | notIn => exact (op_notInA hu).or ((op_notInD hu1).or op_notIn_sign)
theorem cmp_ok {op : COp} {u v : PV} {S : Store} {ι : List Addr} {H : Hp} {u' v' : V} {EX : XK} {Q : VK} (s : Sim X.K X.w ι S H) (ru : Rep X.K X.w ι H u u') (rv : Rep X.K X.w ι H v v')
    (k : FinG X.K X.w X.mg EX ι H (cmpM op u v S) (wantV X.K X.w Q)) : rCmp X.K X.w op u' v' H Q := by
  cases op with
  | eq => exact cmp_eq s ru rv (okB_id ▸ (show FinG X.K X.w X.mg EX ι H (okB S (eqM S u v)) (wantV X.K X.w Q) from k))
  | ne => exact cmp_eq s ru rv k
  | lt => exact cmp_int (g := fun i j => decide (i < j)) (fun _ _ _ => rfl) s ru rv k
  | le => exact cmp_int (g := fun i j => decide (i ≤ j)) (fun _ _ _ => rfl) s ru rv k
  | gt => exact cmp_int (g := fun i j => decide (j < i)) (fun _ _ _ => rfl) s ru rv k
  | ge => exact cmp_int (g := fun i j => decide (j ≤ i)) (fun _ _ _ => rfl) s ru rv k
  | isIn => exact cmp_in s ru rv (okB_id ▸ (show FinG X.K X.w X.mg EX ι H (okB S (inM S u v)) (wantV X.K X.w Q) from k))
  | notIn => exact cmp_in s ru rv k
theorem snd_cmp (C : Ctx T c X W r) {op : COp} {a b : Expr} {x y : Ex} {p : Pos} (ha : PE X a (SE T X W r x)) (hb : PE X b (SE T X W r y)) (hm : behindInMarks (cmpNm op) b = false) :
    PE X (.Compare a [cmpNm op] [b] p) (SE T X W r (.cmp op x y)) := by
  refine PE.imp (pe_cmpR (op_cmp C op) ha hb hm) fun σ H Q ⟨ι, S, env, s, er, f⟩ => ?_
  exact two s er f fun u v S ι H u' v' s ru rv k => cmp_ok s ru rv k
theorem cmp_bl {op : COp} {u v : PV} {S : Store} : ∀ {z : PV} {S' : Store}, cmpM op u v S = .ok z S' → ∃ b, z = .bl b := by
  have okb : ∀ {o : Option Bool} {z : PV} {S' : Store}, okB S o = .ok z S' → ∃ b, z = .bl b := fun {o z S'} h => by
    cases o with
    | none => cases h
    | some b => exact ⟨b, by cases h; rfl⟩
  intro z S' h
  cases op with
  | eq => exact okb h
  | ne => exact okb h
  | isIn => exact okb h
  | notIn => exact okb h
  | _ =>
    simp only [cmpM] at h
    split at h
    · cases h; exact ⟨_, rfl⟩
    · cases h
theorem fin_with {α : Type} {K : PySem.W.Frag} {w : World} {mg : Str → Option Value} {EX : XK} {ι : List Addr} {H : Hp} {m : Res α} {k : α → Store → List Addr → Hp → Prop} {P : α → Prop} (h : FinG K w mg EX ι H m k) (hp : ∀ v S, m = .ok v S → P v) :
    FinG K w mg EX ι H m fun v S i2 H2 => P v ∧ k v S i2 H2 := by
  cases m with
  | ok v S => exact fun i2 H2 g2 s2 => ⟨hp v S rfl, h i2 H2 g2 s2⟩
  | exc c fs S => exact h
  | bad => exact h
theorem bind_ok {α β : Type} {m : Res α} {f : α → Store → Res β} {v : β} {S : Store} (h : m.bind f = .ok v S) : ∃ a S1, m = .ok a S1 ∧ f a S1 = .ok v S := by
  cases m with
  | ok a S1 => exact ⟨a, S1, rfl, h⟩
  | exc c fs S => cases h
  | bad => cases h
/-- the test's reading from one that tells a Bool -/
theorem bl_test {e : Ex} {σ : L2.St} {H : Hp} {Q : Bool → Hp → Prop} {ι : List Addr} {S : Store} {env : Env}
    (f : FinG X.K X.w X.mg (WE W σ) ι H (truB (evalE (conf T r) e env S)) fun b _ _ H' => Q b H') (hp : ∀ v S', evalE (conf T r) e env S = .ok v S' → ∃ b, v = .bl b) :
    FinG X.K X.w X.mg (WE W σ) ι H (evalE (conf T r) e env S) (wantV X.K X.w fun z H' => ∃ k, z = V.bl k ∧ Q k H') := by
  refine (fin_with (truB_fin f) hp).imp fun v S1 ι1 H1 g1 s1 ⟨⟨z, hz⟩, b, e, k⟩ v' rv => ?_
  subst hz
  cases rv.blE
  cases e
  exact ⟨z, rfl, k.ok s1⟩
/-- as a test -/
theorem snd_cmpT (C : Ctx T c X W r) {op : COp} {a b : Expr} {x y : Ex} {p : Pos} (ha : PE X a (SE T X W r x)) (hb : PE X b (SE T X W r y)) (hm : behindInMarks (cmpNm op) b = false) :
    PT X (.Compare a [cmpNm op] [b] p) (tMt X.K X.w X.mg W fun env S => truB (evalE (conf T r) (.cmp op x y) env S)) := by
  refine PT.imp (pt_cmpR (op_cmp C op) ha hb hm) fun σ H Q ⟨ι, S, env, s, er, f⟩ => ?_
  refine two (Q := fun z H' => ∃ k, z = V.bl k ∧ Q k H') s er (bl_test f fun v S' h => ?_) fun u v S ι H u' v' s ru rv k => cmp_ok s ru rv k
  simp only [evalE] at h
  obtain ⟨u, S1, _, h⟩ := bind_ok h
  obtain ⟨v, S2, _, h⟩ := bind_ok h
  exact cmp_bl h
theorem chn_read {a b d : Ex} {σ : L2.St} {H : Hp} {Q : VK} {ι : List Addr} {S : Store} {env : Env} (s : Sim X.K X.w ι S H) (er : EnvR X.K X.w ι H env σ)
    (f : FinG X.K X.w X.mg (WE W σ) ι H (evalE (conf T r) (.chn a b d) env S) (wantV X.K X.w Q)) :
    tChain (rI0 fun i j => .bl (decide (i < j))) (rI0 fun i j => .bl (decide (i < j))) (SE T X W r a) (SE T X W r b) (SE T X W r d) σ H Q := by
  simp only [evalE] at f
  refine ⟨ι, S, env, s, er, f.bind.imp fun u S1 ι1 H1 g1 s1 k1 u' ru => ?_⟩
  refine ⟨ι1, S1, env, s1, er.grow g1, k1.bind.imp fun v S2 ι2 H2 g2 s2 k2 v' rv => ?_⟩
  split at k2
  · rename_i i j
    cases (ru.grow g2).intE
    cases rv.intE
    refine ⟨i, j, rfl, rfl, _, rfl, ?_⟩
    by_cases h : i < j
    · rw [decide_eq_true h]
      rw [if_pos h] at k2
      rw [if_pos rfl]
      refine ⟨ι2, S2, env, s2, (er.grow g1).grow g2, k2.bind.imp fun z S3 ι3 H3 g3 s3 k3 z' rz => ?_⟩
      split at k3
      · cases rz.intE
        exact ⟨j, _, rfl, rfl, k3.ok s3 _ .ofBl⟩
      · exact k3.elim
    · rw [decide_eq_false h]
      rw [if_neg h] at k2
      rw [if_neg Bool.false_ne_true]
      exact k2.ok s2 _ .ofBl
  · exact k2.elim
theorem chn_bl {a b d : Ex} {G : Conf} {S S' : Store} {env : Env} {v : PV} (h : evalE G (.chn a b d) env S = .ok v S') : ∃ b, v = .bl b := by
  simp only [evalE] at h
  obtain ⟨u, S1, _, h⟩ := bind_ok h
  obtain ⟨w, S2, _, h⟩ := bind_ok h
  split at h
  · split at h
    · obtain ⟨z, S3, _, h⟩ := bind_ok h
      split at h
      · cases h; exact ⟨_, rfl⟩
      · cases h
    · cases h; exact ⟨_, rfl⟩
  · cases h
theorem snd_chn (C : Ctx T c X W r) {a b d : Expr} {x y z : Ex} {p : Pos} (ha : PE X a (SE T X W r x)) (hb : PE X b (SE T X W r y)) (hd : PE X d (SE T X W r z)) : PE X (.Compare a [.Lt, .Lt] [b, d] p) (SE T X W r (.chn x y z)) :=
  PE.imp (pe_chain op_lt op_lt ha hb hd (nomark d)) fun σ H Q ⟨ι, S, env, s, er, f⟩ => chn_read s er f
theorem snd_chnT (C : Ctx T c X W r) {a b d : Expr} {x y z : Ex} {p : Pos} (ha : PE X a (SE T X W r x)) (hb : PE X b (SE T X W r y)) (hd : PE X d (SE T X W r z)) :
    PT X (.Compare a [.Lt, .Lt] [b, d] p) (tMt X.K X.w X.mg W fun env S => truB (evalE (conf T r) (.chn x y z) env S)) := by
  refine PT.imp (pt_chain op_lt op_lt ha hb hd (nomark d)) fun σ H Q ⟨ι, S, env, s, er, f⟩ => ?_
  exact chn_read s er (bl_test f fun v S' h => chn_bl h)
end
end EK

namespace EK
open PySem PySem.Spec PyProof.Rows L2
section
variable {T : Text} {c : Chk} {X : Cx} {W : WX} {r : Nat}

/-! ### and, or, if -/
theorem snd_and (C : Ctx T c X W r) {a b : Expr} {rest : List Expr} {x y : Ex} {p : Pos} (ha : PE X a (SE T X W r x)) (hb : PE X (.BoolOp .And (b :: rest) p) (SE T X W r y)) : PE X (.BoolOp .And (a :: b :: rest) p) (SE T X W r (.and x y)) := by
  refine PE.imp (pe_andT ha hb) fun σ H Q ⟨ι, S, env, s, er, f⟩ => ?_
  simp only [evalE] at f
  refine ⟨ι, S, env, s, er, f.bind.imp fun v S1 ι1 H1 g1 s1 k v' rv => ?_⟩
  split at k
  · rename_i e
    refine ⟨true, tru_of s1 rv e, ?_⟩
    rw [if_pos rfl]
    exact ⟨ι1, S1, env, s1, er.grow g1, k⟩
  · rename_i e
    refine ⟨false, tru_of s1 rv e, ?_⟩
    rw [if_neg Bool.false_ne_true]
    exact k.ok s1 _ rv
  · exact k.elim
theorem snd_or (C : Ctx T c X W r) {a b : Expr} {rest : List Expr} {x y : Ex} {p : Pos} (ha : PE X a (SE T X W r x)) (hb : PE X (.BoolOp .Or (b :: rest) p) (SE T X W r y)) : PE X (.BoolOp .Or (a :: b :: rest) p) (SE T X W r (.or x y)) := by
  refine PE.imp (pe_orT ha hb) fun σ H Q ⟨ι, S, env, s, er, f⟩ => ?_
  simp only [evalE] at f
  refine ⟨ι, S, env, s, er, f.bind.imp fun v S1 ι1 H1 g1 s1 k v' rv => ?_⟩
  split at k
  · rename_i e
    refine ⟨true, tru_of s1 rv e, ?_⟩
    rw [if_pos rfl]
    exact k.ok s1 _ rv
  · rename_i e
    refine ⟨false, tru_of s1 rv e, ?_⟩
    rw [if_neg Bool.false_ne_true]
    exact ⟨ι1, S1, env, s1, er.grow g1, k⟩
  · exact k.elim
abbrev ST (T : Text) (X : Cx) (W : WX) (r : Nat) (x : Ex) : TT := tMt X.K X.w X.mg W fun env S => truB (evalE (conf T r) x env S)
theorem truB_ok {S : Store} {v : PV} : truB (.ok v S) = match truthM S v with
  | some b => .ok b S
  | none => .bad := rfl
theorem and_test {EX : XK} {ι : List Addr} {H : Hp} {A : Res PV} {B : Store → Res PV} {k : Bool → Store → List Addr → Hp → Prop}
    (h : FinG X.K X.w X.mg EX ι H (truB (A.bind fun x S1 => match truthM S1 x with
      | some true => B S1
      | some false => .ok x S1
      | none => .bad)) k) :
    FinG X.K X.w X.mg EX ι H (truB A) fun t S1 ι1 H1 => if t = true then FinG X.K X.w X.mg EX ι1 H1 (truB (B S1)) k else FinG X.K X.w X.mg EX ι1 H1 (.ok false S1) k := by
  cases A with
  | ok v S =>
    rw [truB_ok]
    simp only [Res.bind] at h
    cases e : truthM S v with
    | none => simp only [e] at h; exact h.elim
    | some b =>
      cases b with
      | true => simp only [e] at h; exact fun i2 H2 g2 s2 => FinG.grow g2 h
      | false =>
        simp only [e] at h
        rw [truB_ok] at h
        simp only [e] at h
        exact fun i2 H2 g2 s2 => FinG.grow g2 h
  | exc c fs S => exact h
  | bad => exact h
theorem or_test {EX : XK} {ι : List Addr} {H : Hp} {A : Res PV} {B : Store → Res PV} {k : Bool → Store → List Addr → Hp → Prop}
    (h : FinG X.K X.w X.mg EX ι H (truB (A.bind fun x S1 => match truthM S1 x with
      | some true => .ok x S1
      | some false => B S1
      | none => .bad)) k) :
    FinG X.K X.w X.mg EX ι H (truB A) fun t S1 ι1 H1 => if t = true then FinG X.K X.w X.mg EX ι1 H1 (.ok true S1) k else FinG X.K X.w X.mg EX ι1 H1 (truB (B S1)) k := by
  cases A with
  | ok v S =>
    rw [truB_ok]
    simp only [Res.bind] at h
    cases e : truthM S v with
    | none => simp only [e] at h; exact h.elim
    | some b =>
      cases b with
      | false => simp only [e] at h; exact fun i2 H2 g2 s2 => FinG.grow g2 h
      | true =>
        simp only [e] at h
        rw [truB_ok] at h
        simp only [e] at h
        exact fun i2 H2 g2 s2 => FinG.grow g2 h
  | exc c fs S => exact h
  | bad => exact h
theorem PW.imp {X : Cx} {e : Expr} {t t' : TT} (h : PW X e t) (i : ∀ σ H Q, t' σ H Q → t σ H Q) : PW X e t' := ⟨fun wh pins s σ H Q I hw => h.run wh pins s σ H Q I (i _ _ _ hw)⟩
theorem snd_andT (C : Ctx T c X W r) {a b : Expr} {rest : List Expr} {x y : Ex} {p : Pos} (ha : PT X a (ST T X W r x)) (hb : PW X (.BoolOp .And (b :: rest) p) (ST T X W r y)) : PW X (.BoolOp .And (a :: b :: rest) p) (ST T X W r (.and x y)) := by
  refine PW.imp (pw_and ha hb) fun σ H Q ⟨ι, S, env, s, er, f⟩ => ?_
  simp only [evalE] at f
  refine ⟨ι, S, env, s, er, (and_test f).imp fun t S1 ι1 H1 g1 s1 k => ?_⟩
  cases t with
  | true =>
    rw [if_pos rfl] at k ⊢
    exact ⟨ι1, S1, env, s1, er.grow g1, k⟩
  | false =>
    rw [if_neg Bool.false_ne_true] at k ⊢
    exact k.ok s1
theorem snd_orT (C : Ctx T c X W r) {a b : Expr} {rest : List Expr} {x y : Ex} {p : Pos} (ha : PT X a (ST T X W r x)) (hb : PW X (.BoolOp .Or (b :: rest) p) (ST T X W r y)) : PW X (.BoolOp .Or (a :: b :: rest) p) (ST T X W r (.or x y)) := by
  refine PW.imp (pw_or ha hb) fun σ H Q ⟨ι, S, env, s, er, f⟩ => ?_
  simp only [evalE] at f
  refine ⟨ι, S, env, s, er, (or_test f).imp fun t S1 ι1 H1 g1 s1 k => ?_⟩
  cases t with
  | false =>
    rw [if_neg Bool.false_ne_true] at k ⊢
    exact ⟨ι1, S1, env, s1, er.grow g1, k⟩
  | true =>
    rw [if_pos rfl] at k ⊢
    exact k.ok s1
theorem truB_not {A : Res PV} : truB ((truB A).bind fun b S1 => .ok (.bl (!b)) S1) = (truB A).bind fun b S1 => .ok (!b) S1 := by
  cases A with
  | ok v S =>
    rw [truB_ok]
    cases truthM S v <;> rfl
  | exc c fs S => rfl
  | bad => rfl
theorem snd_notT (C : Ctx T c X W r) {a : Expr} {x : Ex} {p : Pos} (ha : PT X a (ST T X W r x)) : PT X (.UnaryOp .Not a p) (ST T X W r (.not x)) := by
  refine PT.imp (pt_not ha) fun σ H Q ⟨ι, S, env, s, er, f⟩ => ?_
  simp only [evalE, truB_not] at f
  exact ⟨ι, S, env, s, er, f.bind.imp fun t S1 ι1 H1 g1 s1 k => k.ok s1⟩
theorem snd_plainT (C : Ctx T c X W r) {a : Expr} {x : Ex} (hp : plainTest a = true) (ha : PE X a (SE T X W r x)) : PT X a (ST T X W r x) := by
  refine PT.imp (pt_truth ha (test_plain hp)) fun σ H Q ⟨ι, S, env, s, er, f⟩ => ?_
  refine ⟨ι, S, env, s, er, (truB_fin f).imp fun v S1 ι1 H1 g1 s1 ⟨b, e, k⟩ v' rv => ⟨b, tru_of s1 rv e, k.ok s1⟩⟩
theorem snd_ite (C : Ctx T c X W r) {t a b : Expr} {x y z : Ex} {p : Pos} (ht : PT X t (ST T X W r x)) (ha : PE X a (SE T X W r y)) (hb : PE X b (SE T X W r z)) : PE X (.IfExp t a b p) (SE T X W r (.ite x y z)) := by
  refine PE.imp (pe_ifExp ht ha hb) fun σ H Q ⟨ι, S, env, s, er, f⟩ => ?_
  simp only [evalE] at f
  refine ⟨ι, S, env, s, er, f.bind.imp fun t S1 ι1 H1 g1 s1 k => ?_⟩
  cases t with
  | true => rw [if_pos rfl] at k ⊢; exact ⟨ι1, S1, env, s1, er.grow g1, k⟩
  | false => rw [if_neg Bool.false_ne_true] at k ⊢; exact ⟨ι1, S1, env, s1, er.grow g1, k⟩
theorem rep_non {K : PySem.W.Frag} {w : World} {ι : List Addr} {H : Hp} {v : PV} {v' : V} (h : Rep K w ι H v v') : decide (v' = .non) = isNonP v := by
  cases v with
  | non => unfold Rep at h; subst h; rfl
  | bl b => cases h.blE; rfl
  | int b => cases h.intE; rfl
  | str b => cases h.strE; rfl
  | tup b => obtain ⟨a, vs, rfl, _⟩ := h.tupE; rfl
  | ref b => obtain ⟨a, rfl, _⟩ := h.refE; rfl
  | dct b d => obtain ⟨a, vs, rfl, _⟩ := h.dctE; rfl
  | con _ => obtain ⟨a, vs, rfl, _⟩ := h.conE; rfl
  | clo _ _ => unfold Rep at h; exact h.elim
theorem isN_read {x : Ex} {σ : L2.St} {H : Hp} {Q : VK} {ι : List Addr} {S : Store} {env : Env} (s : Sim X.K X.w ι S H) (er : EnvR X.K X.w ι H env σ)
    (f : FinG X.K X.w X.mg (WE W σ) ι H (evalE (conf T r) (.isN x) env S) (wantV X.K X.w Q)) :
    tOp (fun x y H Q => y = .non ∧ Q (.bl (decide (x = .non))) H) (SE T X W r x) (tC .non) σ H Q := by
  simp only [evalE] at f
  refine ⟨ι, S, env, s, er, f.bind.imp fun v S1 ι1 H1 g1 s1 k v' rv => ⟨rfl, ?_⟩⟩
  rw [rep_non rv]
  exact k.ok s1 _ .ofBl
theorem notN_read {x : Ex} {σ : L2.St} {H : Hp} {Q : VK} {ι : List Addr} {S : Store} {env : Env} (s : Sim X.K X.w ι S H) (er : EnvR X.K X.w ι H env σ)
    (f : FinG X.K X.w X.mg (WE W σ) ι H (evalE (conf T r) (.notN x) env S) (wantV X.K X.w Q)) :
    tOp (fun x y H Q => y = .non ∧ Q (.bl (!decide (x = .non))) H) (SE T X W r x) (tC .non) σ H Q := by
  simp only [evalE] at f
  refine ⟨ι, S, env, s, er, f.bind.imp fun v S1 ι1 H1 g1 s1 k v' rv => ⟨rfl, ?_⟩⟩
  rw [rep_non rv]
  exact k.ok s1 _ .ofBl
theorem snd_isN (C : Ctx T c X W r) {a : Expr} {x : Ex} {p p2 : Pos} {j : Nat} (ha : PE X a (SE T X W r x)) : PE X (.Compare a [.Is] [.Constant .none j p2] p) (SE T X W r (.isN x)) :=
  PE.imp (pe_cmpR op_isN ha pe_non (nomark _)) fun σ H Q ⟨ι, S, env, s, er, f⟩ => isN_read s er f
theorem snd_notN (C : Ctx T c X W r) {a : Expr} {x : Ex} {p p2 : Pos} {j : Nat} (ha : PE X a (SE T X W r x)) : PE X (.Compare a [.IsNot] [.Constant .none j p2] p) (SE T X W r (.notN x)) :=
  PE.imp (pe_cmpR op_notN ha pe_non (nomark _)) fun σ H Q ⟨ι, S, env, s, er, f⟩ => notN_read s er f
theorem snd_isNT (C : Ctx T c X W r) {a : Expr} {x : Ex} {p p2 : Pos} {j : Nat} (ha : PE X a (SE T X W r x)) : PT X (.Compare a [.Is] [.Constant .none j p2] p) (ST T X W r (.isN x)) :=
  PT.imp (pt_cmpR op_isN ha pe_non (nomark _)) fun σ H Q ⟨ι, S, env, s, er, f⟩ => isN_read s er (bl_test f fun v S' h => by
    simp only [evalE] at h
    obtain ⟨u, S1, _, h⟩ := bind_ok h
    cases h; exact ⟨_, rfl⟩)
theorem snd_notNT (C : Ctx T c X W r) {a : Expr} {x : Ex} {p p2 : Pos} {j : Nat} (ha : PE X a (SE T X W r x)) : PT X (.Compare a [.IsNot] [.Constant .none j p2] p) (ST T X W r (.notN x)) :=
  PT.imp (pt_cmpR op_notN ha pe_non (nomark _)) fun σ H Q ⟨ι, S, env, s, er, f⟩ => notN_read s er (bl_test f fun v S' h => by
    simp only [evalE] at h
    obtain ⟨u, S1, _, h⟩ := bind_ok h
    cases h; exact ⟨_, rfl⟩)

/-! ### subscripts -/
theorem look_get : ∀ {ks : List Str} {vs : List PV} {k : Str} {v : PV}, lookD k ks vs = some v → ∃ i : Nat, ks[i]? = some k ∧ vs[i]? = some v ∧ ∀ j : Nat, j < i → ks[j]? ≠ some k
  | [], _, _, _, h => by simp [lookD] at h
  | _ :: _, [], _, _, h => by simp [lookD] at h
  | q :: ks, u :: vs, k, v, h => by
    simp only [lookD] at h
    split at h
    · rename_i e
      cases h
      exact ⟨0, by simp [e], rfl, fun j hj => by omega⟩
    · rename_i e
      obtain ⟨i, h1, h2, h3⟩ := look_get h
      refine ⟨i + 1, by simpa using h1, by simpa using h2, fun j hj => ?_⟩
      cases j with
      | zero => intro z; simp at z; exact e z.symm
      | succ j => simpa using h3 j (by omega)
theorem look_none : ∀ {ks : List Str} {vs : List PV} {k : Str}, ks.length = vs.length → lookD k ks vs = none → k ∉ ks
  | [], _, _, _, _ => by simp
  | q :: ks, [], _, h, _ => by simp at h
  | q :: ks, u :: vs, k, hl, h => by
    simp only [lookD] at h
    split at h
    · cases h
    · rename_i e
      have := look_none (by simpa using hl) h
      simp [e, this]
theorem valV_get {kvs : List (Key × V)} : ∀ {ks : List Str} {i : Nat} {k : Str} {v : V}, kvs.map (·.1) = ks.map Sum.inr → (kvs.map (·.2))[i]? = some v → ks[i]? = some k → (∀ j : Nat, j < i → ks[j]? ≠ some k) → valV kvs (Sum.inr k : Key) = some v := by
  induction kvs with
  | nil => intro ks i k v _ h; simp at h
  | cons kv kvs ih =>
    intro ks i k v h1 h2 h3 h4
    obtain ⟨a, b⟩ := kv
    cases ks with
    | nil => simp at h1
    | cons q ks =>
      simp only [List.map_cons, List.cons.injEq] at h1
      obtain ⟨e1, h1⟩ := h1
      unfold valV
      rw [List.find?_cons]
      cases i with
      | zero =>
        simp at h3 h2
        subst h3 h2
        simp [e1]
      | succ i =>
        have hne : ¬ a = Sum.inr k := fun z => by
          rw [e1] at z
          exact h4 0 (by omega) (by simp [Sum.inr.inj z])
        simp only [hne, decide_false]
        exact ih h1 (by simpa using h2) (by simpa using h3) fun j hj => by simpa using h4 (j + 1) (by omega)
/-- d[k], of a dict that stands -/
def rIxDc (K : PySem.W.Frag) (w : World) : R2 := fun x y H Q => ∃ a ks vs i k v, x = .ref a ∧ y = .str k ∧ DctAt K w H a ks vs ∧ ks[(i : Nat)]? = some k ∧ vs[i]? = some v ∧ (∀ j : Nat, j < i → ks[j]? ≠ some k) ∧ Q v H
theorem ix_dc (hu : X.A.units + 1 < cLine) : IxR X (rIxDc X.K X.w) := by
  intro value slice pins s σ H x y v u Q I rx ry h hs
  obtain ⟨a, ks, vs, i, k, v0, rfl, rfl, hd, h1, h2, h3, q⟩ := h
  rcases hd with ⟨kvs, e, e1, e2, e3, e4⟩ | ⟨⟨es, n, D⟩, e1, e2, e3⟩
  · obtain rfl : v = Value.ref a := rx
    subst e3
    have g : DGet H a (.str k) (some v0) := by
      have := DGet.k (k := Sum.inr k) e
      rw [valV_get e2 h2 h1 h3] at this
      exact this
    exact tail_any (dict_typeIs I g) slot_dict_getitem.lookup (d_getItem hu I g ry fun w' s' I' rw' => ⟨v0, H, I', rw', q⟩) hs
  · obtain ⟨u0, hn, ru⟩ := e3 i k v0 h1 h2
    exact ix_kdict value slice pins s σ H _ _ v u Q I rx ry ⟨a, k, v0, rfl, rfl, ⟨es, n, u0, D.at_, D.lit, hn, ru⟩, q⟩ hs
theorem atI_rep {K : PySem.W.Frag} {w : World} {ι : List Addr} {H : Hp} {xs : List PV} {vs : List V} {i : Int} {v : PV} (r : Reps K w ι H xs vs) (h : atI xs i = some v) : ∃ v', atI vs i = some v' ∧ Rep K w ι H v v' := by
  unfold atI at h ⊢
  rw [r.length]
  cases q : ixN xs.length i with
  | none => rw [q] at h; cases h
  | some j =>
    rw [q] at h
    obtain ⟨v', e, rv⟩ := r.get h
    exact ⟨v', e, rv⟩
theorem ix_ok {u v : PV} {S : Store} {ι : List Addr} {H : Hp} {u' v' : V} {EX : XK} {Q : VK} (s : Sim X.K X.w ι S H) (ru : Rep X.K X.w ι H u u') (rv : Rep X.K X.w ι H v v')
    (k : FinG X.K X.w X.mg EX ι H (ixM u v S) (wantV X.K X.w Q)) : rIx X.K u' v' H Q ∨ rIxDc X.K X.w u' v' H Q := by
  unfold ixM at k
  split at k
  · obtain ⟨a, vs, rfl, hs, hr⟩ := ru.tupE
    cases rv.intE
    split at k
    · rename_i z e
      obtain ⟨z', e', rz⟩ := atI_rep hr e
      exact .inl (.inr (.inl ⟨a, vs, _, z', rfl, rfl, hs, e', k.ok s _ rz⟩))
    · exact k.elim
  · obtain ⟨a, rfl, ha⟩ := ru.refE
    cases rv.intE
    split at k
    · rename_i xs q
      obtain ⟨b, vs, eb, hb, hr⟩ := s.lst q
      rw [ha] at eb; cases eb
      split at k
      · rename_i z e
        obtain ⟨z', e', rz⟩ := atI_rep hr e
        exact .inl (.inl ⟨a, vs, _, z', rfl, rfl, .inl (.inl hb), e', k.ok s _ rz⟩)
      · exact k.elim
    · rename_i xs q
      obtain ⟨b, vs, o, eb, hb, hr⟩ := s.ro q
      rw [ha] at eb; cases eb
      split at k
      · rename_i z e
        obtain ⟨z', e', rz⟩ := atI_rep hr e
        exact .inl (.inl ⟨a, vs, _, z', rfl, rfl, .inl (.inr ⟨o, hb⟩), e', k.ok s _ rz⟩)
      · exact k.elim
    · exact k.elim
  · obtain ⟨a, vs, rfl, hs, hr⟩ := ru.conE
    cases rv.intE
    split at k
    · rename_i z e
      obtain ⟨z', e', rz⟩ := atI_rep hr e
      exact .inl (.inl ⟨a, vs, _, z', rfl, rfl, hs.sq, e', k.ok s _ rz⟩)
    · exact k.elim
  · cases ru.strE; cases rv.intE
    split at k
    · rename_i hl
      split at k
      · rename_i e
        exact .inl (.inr (.inr ⟨_, _, _, rfl, rfl, hl, e, k.ok s _ .ofStr⟩))
      · exact k.elim
    · exact k.elim
  · obtain ⟨a, vs, rfl, hd, hr⟩ := ru.dctE
    cases rv.strE
    split at k
    · rename_i e
      obtain ⟨i, h1, h2, h3⟩ := look_get e
      obtain ⟨z', e', rz⟩ := hr.get h2
      exact .inr ⟨a, _, vs, i, _, z', rfl, rfl, hd, h1, e', h3, k.ok s _ rz⟩
    · exact k.elim
  · exact k.elim
theorem snd_ix (C : Ctx T c X W r) {a b : Expr} {x y : Ex} {p : Pos} (ha : PE X a (SE T X W r x)) (hb : PE X b (SE T X W r y)) (hs : notSlice b = true) : PE X (.Subscript a b p) (SE T X W r (.ix x y)) := by
  have hu := C.un
  refine PE.imp (pe_ix (ix_seq.or (ix_dc (by omega))) ha hb (plain_ix hs)) fun σ H Q ⟨ι, S, env, s, er, f⟩ => ?_
  exact two s er f fun u v S ι H u' v' s ru rv k => ix_ok s ru rv k
/-! ### slices -/
def tPt (K : PySem.W.Frag) (w : World) (mg : Str → Option Value) (W : WX) (m : Env → Store → Res (Option Int)) : TO := fun σ H Q => ∃ ι S env, Sim K w ι S H ∧ EnvR K w ι H env σ ∧
  FinG K w mg (WE W σ) ι H (m env S) fun o _ _ H' => Q o H'
theorem PO.imp {X : Cx} {e : Option Expr} {t t' : TO} (h : PO X e t) (i : ∀ σ H Q, t' σ H Q → t σ H Q) : PO X e t' := ⟨fun pins s σ H Q I hw => h.run pins s σ H Q I (i _ _ _ hw)⟩
abbrev SP (T : Text) (X : Cx) (W : WX) (r : Nat) (x : Exs) : TO := tPt X.K X.w X.mg W fun env S => partR (evalEs (conf T r) x env S)
theorem snd_po0 : PO X none (SP T X W r .nil) := PO.imp po_none fun σ H Q ⟨ι, S, env, s, er, f⟩ => by
  have f2 : FinG X.K X.w X.mg (WE W σ) ι H (Res.ok (none : Option Int) S) (fun o _ _ H' => Q o H') := by
    simp only [evalEs] at f
    exact f
  exact f2.ok s
theorem snd_po1 {e : Expr} {x : Ex} (h : PE X e (SE T X W r x)) : PO X (some e) (SP T X W r (.cons x .nil)) := PO.imp (po_some h) fun σ H Q ⟨ι, S, env, s, er, f⟩ => by
  refine ⟨ι, S, env, s, er, ?_⟩
  simp only [evalEs] at f
  cases q : evalE (conf T r) x env S with
  | ok v S1 =>
    rw [q] at f
    simp only [Res.bind, partR] at f
    intro i2 H2 g2 s2 v' rv
    cases v with
    | int i =>
      cases rv.intE
      exact ⟨i, rfl, FinG.at (v := some i) (S := S1) f g2 s2⟩
    | _ => exact False.elim f
  | exc c fs S1 => rw [q] at f; exact f
  | bad => rw [q] at f; exact f
def rSlAll (K : PySem.W.Frag) : V → Option Int → Option Int → Hp → VK → Prop := fun x lo hi H Q => rSlA K x lo hi H Q ∨ rSlL K x lo hi H Q ∨ rSlS x lo hi H Q
theorem cut_rep {K : PySem.W.Frag} {w : World} {ι : List Addr} {H : Hp} {xs : List PV} {vs : List V} {l h : Option Int} (r : Reps K w ι H xs vs) : Reps K w ι H (cutP xs l h) (cutV vs l h) := by
  unfold cutP cutV
  rw [r.length]
  exact (r.drop _).take _
theorem cut_whole {xs : List PV} {l h : Option Int} (e : HT.sIx xs.length 0 l = 0 ∧ HT.sIx xs.length xs.length h = xs.length) : cutP xs l h = xs := by
  unfold cutP
  rw [e.1, e.2]
  simp
theorem sl_ok {u : PV} {l h : Option Int} {S : Store} {ι : List Addr} {H : Hp} {u' : V} {EX : XK} {Q : VK} (s : Sim X.K X.w ι S H) (ru : Rep X.K X.w ι H u u')
    (k : FinG X.K X.w X.mg EX ι H (slM u l h S) (wantV X.K X.w Q)) : rSlAll X.K u' l h H Q := by
  unfold slM at k
  split at k
  · obtain ⟨a, vs, rfl, hs, hr⟩ := ru.tupE
    refine .inl ⟨a, vs, rfl, hs, fun e => ?_, fun e p hp => ?_⟩
    · rw [hr.length] at e
      rw [cut_whole e] at k
      exact k.ok s _ (.ofTup hs hr)
    · exact k.at (.laid hp) (s.laid hp) _ (.ofTup (SqT.of upd_same) ((cut_rep hr).grow (.laid hp)))
  · obtain ⟨a, rfl, ha⟩ := ru.refE
    split at k
    · rename_i xs q
      obtain ⟨b, vs, eb, hb, hr⟩ := s.lst q
      rw [ha] at eb; cases eb
      exact .inr (.inl ⟨a, vs, rfl, .inl (.inl hb), fun p hp => k.at (.cell hp) (s.new hp (cut_rep hr)) _ (.ofRef (newIx s.len))⟩)
    · rename_i xs q
      obtain ⟨b, vs, o, eb, hb, hr⟩ := s.ro q
      rw [ha] at eb; cases eb
      exact .inr (.inl ⟨a, vs, rfl, .inl (.inr ⟨o, hb⟩), fun p hp => k.at (.cell hp) (s.new hp (cut_rep hr)) _ (.ofRef (newIx s.len))⟩)
    · exact k.elim
  · obtain ⟨a, vs, rfl, hs, hr⟩ := ru.conE
    exact .inr (.inl ⟨a, vs, rfl, hs.sq, fun p hp => k.at (.cell hp) (s.new hp (cut_rep hr)) _ (.ofRef (newIx s.len))⟩)
  · cases ru.strE
    split at k
    · rename_i hl
      exact .inr (.inr ⟨_, rfl, hl, k.ok s _ .ofStr⟩)
    · exact k.elim
  · exact k.elim
theorem snd_sl (C : Ctx T c X W r) {a : Expr} {lo hi : Option Expr} {x : Ex} {l h : Exs} {p p2 : Pos} (ha : PE X a (SE T X W r x)) (hl : PO X lo (SP T X W r l)) (hh : PO X hi (SP T X W r h)) :
    PE X (.Subscript a (.Slice lo hi none p2) p) (SE T X W r (.sl x l h)) := by
  refine PE.imp (pe_slice (sl_tupA.or (sl_list.or sl_str)) ha hl hh) fun σ H Q ⟨ι, S, env, s, er, f⟩ => ?_
  simp only [evalE] at f
  refine ⟨ι, S, env, s, er, f.bind.imp fun u S1 ι1 H1 g1 s1 k1 u' ru => ?_⟩
  refine ⟨ι1, S1, env, s1, er.grow g1, k1.bind.imp fun lv S2 ι2 H2 g2 s2 k2 => ?_⟩
  refine ⟨ι2, S2, env, s2, (er.grow g1).grow g2, k2.bind.imp fun hv S3 ι3 H3 g3 s3 k3 => ?_⟩
  exact sl_ok s3 ((ru.grow g2).grow g3) k3
end
end EK

namespace EK
open PySem PySem.Spec PyProof.Rows L2
section
variable {T : Text} {c : Chk} {X : Cx} {W : WX} {r : Nat}

/-! ### a dict's display -/
def trsOf (f : Ex → TE) : List Str → Exs → List (TE × TE)
  | k :: ks, .cons x xs => (tC (.str k), f x) :: trsOf f ks xs
  | _, _ => []
theorem snd_pps (C : Ctx T c X W r) {f : Expr → Ex → Bool} (hf : ∀ e x, f e x = true → PE X e (SE T X W r x)) {pos : Pos} : ∀ {keys : List (Option Expr)} {es : List Expr} {ks : List Str} {xs : Exs}, chkKs keys ks = true → chkEs f es xs = true → ks.length = lenXs xs →
    PPs X pos keys es (trsOf (SE T X W r) ks xs) ∧ keys.all (·.isSome) = true ∧ keys.length = es.length
  | [], [], [], .nil, _, _, _ => ⟨pps_nil, rfl, rfl⟩
  | some (.Constant (.str k) j p) :: keys, e :: es, q :: ks, .cons x xs, h1, h2, hl => by
    simp only [chkKs, Bool.and_eq_true, decide_eq_true_eq] at h1
    simp only [chkEs, Bool.and_eq_true] at h2
    obtain ⟨rfl, h1⟩ := h1
    obtain ⟨⟨_, h2⟩, h3⟩ := h2
    obtain ⟨i1, i2, i3⟩ := snd_pps C hf (pos := pos) h1 h3 (by simpa [lenXs] using hl)
    exact ⟨pps_cons pe_str (hf e x h2) i1, by simpa using i2, by simpa using i3⟩
  | [], _ :: _, [], .nil, _, h, _ => by simp [chkEs] at h
  | [], _, [], .cons _ _, _, h, hl => by simp [lenXs] at hl
  | [], _, _ :: _, _, h, _, _ => by simp [chkKs] at h
  | some e :: _, _, [], _, h, _, _ => by simp [chkKs] at h
  | none :: _, _, _, _, h, _, _ => by simp [chkKs] at h
  | some _ :: _, [], _ :: _, .cons _ _, _, h, _ => by simp [chkEs] at h
  | some _ :: _, _, _ :: _, .nil, _, _, h => by simp [lenXs] at h
  | some (.BoolOp ..) :: _, _, _ :: _, _, h, _, _ => by simp [chkKs] at h
  | some (.NamedExpr ..) :: _, _, _ :: _, _, h, _, _ => by simp [chkKs] at h
  | some (.BinOp ..) :: _, _, _ :: _, _, h, _, _ => by simp [chkKs] at h
  | some (.UnaryOp ..) :: _, _, _ :: _, _, h, _, _ => by simp [chkKs] at h
  | some (.Lambda ..) :: _, _, _ :: _, _, h, _, _ => by simp [chkKs] at h
  | some (.IfExp ..) :: _, _, _ :: _, _, h, _, _ => by simp [chkKs] at h
  | some (.Dict ..) :: _, _, _ :: _, _, h, _, _ => by simp [chkKs] at h
  | some (.Set ..) :: _, _, _ :: _, _, h, _, _ => by simp [chkKs] at h
  | some (.ListComp ..) :: _, _, _ :: _, _, h, _, _ => by simp [chkKs] at h
  | some (.SetComp ..) :: _, _, _ :: _, _, h, _, _ => by simp [chkKs] at h
  | some (.DictComp ..) :: _, _, _ :: _, _, h, _, _ => by simp [chkKs] at h
  | some (.GeneratorExp ..) :: _, _, _ :: _, _, h, _, _ => by simp [chkKs] at h
  | some (.Await ..) :: _, _, _ :: _, _, h, _, _ => by simp [chkKs] at h
  | some (.Yield ..) :: _, _, _ :: _, _, h, _, _ => by simp [chkKs] at h
  | some (.YieldFrom ..) :: _, _, _ :: _, _, h, _, _ => by simp [chkKs] at h
  | some (.Compare ..) :: _, _, _ :: _, _, h, _, _ => by simp [chkKs] at h
  | some (.Call ..) :: _, _, _ :: _, _, h, _, _ => by simp [chkKs] at h
  | some (.FormattedValue ..) :: _, _, _ :: _, _, h, _, _ => by simp [chkKs] at h
  | some (.JoinedStr ..) :: _, _, _ :: _, _, h, _, _ => by simp [chkKs] at h
  | some (.Attribute ..) :: _, _, _ :: _, _, h, _, _ => by simp [chkKs] at h
  | some (.Subscript ..) :: _, _, _ :: _, _, h, _, _ => by simp [chkKs] at h
  | some (.Starred ..) :: _, _, _ :: _, _, h, _, _ => by simp [chkKs] at h
  | some (.Name ..) :: _, _, _ :: _, _, h, _, _ => by simp [chkKs] at h
  | some (.List ..) :: _, _, _ :: _, _, h, _, _ => by simp [chkKs] at h
  | some (.Tuple ..) :: _, _, _ :: _, _, h, _, _ => by simp [chkKs] at h
  | some (.Slice ..) :: _, _, _ :: _, _, h, _, _ => by simp [chkKs] at h
  | some (.Constant .none _ _) :: _, _, _ :: _, _, h, _, _ => by simp [chkKs] at h
  | some (.Constant (.bool _) _ _) :: _, _, _ :: _, _, h, _, _ => by simp [chkKs] at h
  | some (.Constant (.int _) _ _) :: _, _, _ :: _, _, h, _, _ => by simp [chkKs] at h
  | some (.Constant (.float _) _ _) :: _, _, _ :: _, _, h, _, _ => by simp [chkKs] at h
  | some (.Constant (.complex _ _) _ _) :: _, _, _ :: _, _, h, _, _ => by simp [chkKs] at h
  | some (.Constant (.bytes _) _ _) :: _, _, _ :: _, _, h, _, _ => by simp [chkKs] at h
  | some (.Constant .ellipsis _ _) :: _, _, _ :: _, _, h, _, _ => by simp [chkKs] at h
theorem pairs_read : ∀ {ks : List Str} {xs : Exs} {σ : L2.St} {H : Hp} {ι : List Addr} {S : Store} {env : Env} {Q : List (V × V) → Hp → Prop}, ks.length = lenXs xs → Sim X.K X.w ι S H → EnvR X.K X.w ι H env σ →
    FinG X.K X.w X.mg (WE W σ) ι H (evalEs (conf T r) xs env S) (fun vs _ ι' H' => ∀ vs', Reps X.K X.w ι' H' vs vs' → Q ((ks.map V.str).zip vs') H') → tPairs (trsOf (SE T X W r) ks xs) σ H Q
  | [], .nil, σ, H, ι, S, env, Q, _, s, er, f => by
    simp only [evalEs] at f
    exact f.ok s [] Reps.nil
  | k :: ks, .cons x xs, σ, H, ι, S, env, Q, hl, s, er, f => by
    simp only [evalEs] at f
    refine ⟨ι, S, env, s, er, f.bind.imp fun v S1 ι1 H1 g1 s1 k1 v' rv => ?_⟩
    refine pairs_read (by simpa [lenXs] using hl) s1 (er.grow g1) (k1.bind.imp fun vs S2 ι2 H2 g2 s2 k2 vs' rvs => ?_)
    exact k2.ok s2 _ (Reps.cons (rv.grow g2) rvs)
  | [], .cons _ _, _, _, _, _, _, _, h, _, _, _ => by simp [lenXs] at h
  | _ :: _, .nil, _, _, _, _, _, _, h, _, _, _ => by simp [lenXs] at h
theorem Grow.around {ι ι' : List Addr} {H H' : Hp} {p : Addr} {o u : HO} (hp : H p = none) (g : Grow ι (upd H p o) ι' H') : Grow ι H ι' (upd H' p u) := by
  have key : ∀ a z, H a = some z → (upd H p o) a = some z ∧ a ≠ p := fun a z e => by
    have := ne_of_none e hp
    exact ⟨by rw [upd_ne this]; exact e, this⟩
  refine ⟨⟨g.pre, fun a z e f => ?_⟩, fun a z e ha => ?_, fun a h1 h2 => ?_⟩
  · obtain ⟨k1, k2⟩ := key a z e
    rw [upd_ne k2]; exact g.kept a z k1 f
  · obtain ⟨k1, k2⟩ := key a z e
    rw [upd_ne k2]; exact g.all a z k1 ha
  · have := g.new a h1 h2
    by_cases e : a = p
    · subst e; rw [upd_same] at this; cases this
    · rw [upd_ne e] at this; exact this
theorem merge_nodup : ∀ (kvs acc : List (Key × V)), ((acc ++ kvs).map (·.1)).Nodup → mergeK acc kvs = acc ++ kvs
  | [], acc, _ => by simp [mergeK]
  | (k, v) :: kvs, acc, h => by
    have hk : (acc.any fun kv => decide (kv.1 = k)) = false := by
      rw [List.any_eq_false]
      intro q hq
      simp only [decide_eq_true_eq]
      intro e
      rw [List.map_append] at h
      have h2 := (List.nodup_append.mp h).2.2
      exact h2 q.1 (List.mem_map.mpr ⟨q, hq, rfl⟩) k (by simp) e
    have e1 : mergeK acc ((k, v) :: kvs) = mergeK (acc ++ [(k, v)]) kvs := by
      unfold mergeK
      rw [List.foldl_cons]
      congr 1
      unfold putK
      simp [hk]
    rw [e1, merge_nodup kvs (acc ++ [(k, v)]) (by simpa [List.append_assoc] using h)]
    simp
theorem zip_keys : ∀ {ks : List Str} {vs : List V}, ks.length = vs.length → ∃ kvs : List (Key × V), (ks.map V.str).zip vs = kvs.map (fun kv => (kV kv.1, kv.2)) ∧ kvs.map (·.1) = ks.map Sum.inr ∧ kvs.map (·.2) = vs ∧ kvs.length = ks.length
  | [], [], _ => ⟨[], rfl, rfl, rfl, rfl⟩
  | k :: ks, v :: vs, h => by
    obtain ⟨kvs, h1, h2, h3, h4⟩ := zip_keys (ks := ks) (vs := vs) (by simpa using h)
    exact ⟨(Sum.inr k, v) :: kvs, by simp [h1, kV], by simp [h2], by simp [h3], by simp [h4]⟩
  | [], _ :: _, h => by simp at h
  | _ :: _, [], h => by simp at h
theorem snd_dsp (C : Ctx T c X W r) {keys : List (Option Expr)} {es : List Expr} {ks : List Str} {xs : Exs} {p : Pos} (hp : PPs X p keys es (trsOf (SE T X W r) ks xs)) (ha : keys.all (·.isSome) = true) (hl : keys.length = es.length) (hk : keys.length = ks.length)
    (hx : ks.length = lenXs xs) (h1 : 1 ≤ ks.length) (h2 : ks.length ≤ 15) (hn : ks.Nodup) : PE X (.Dict keys es p) (SE T X W r (.dsp ks xs)) := by
  refine PE.imp (pe_disp hp ha hl (by intro e; rw [e] at hk; simp at hk; omega) (by omega)) fun σ H Q ⟨ι, S, env, s, er, f⟩ => ?_
  simp only [evalE] at f
  intro q hq
  have g0 : Grow ι H ι (upd H q (.dK [])) := .laid hq
  refine pairs_read hx (s.laid hq) (er.grow g0) ?_
  have f2 := f.bind
  cases ev : evalEs (conf T r) xs env S with
  | bad => rw [ev] at f2; exact f2
  | exc cc fs S1 =>
    rw [ev] at f2
    exact FinG.grow g0 f2
  | ok vs S1 =>
    rw [ev] at f2
    intro ι' H' g' s' vs' rvs
    have hlen := evalEs_len ev
    have hql : q ∉ ι := fun hm => by
      obtain ⟨i, hi, e⟩ := List.mem_iff_getElem.mp hm
      obtain ⟨o, z⟩ := s.there (i := i) (a := q) (by rw [List.getElem?_eq_getElem hi, e])
      rw [hq] at z; cases z
    have hq' : H' q = some (.dK []) := g'.all q _ upd_same hql
    refine ⟨hq', ?_⟩
    have hvl : ks.length = vs'.length := by rw [rvs.length, hlen]; exact hx
    obtain ⟨kvs, e1, e2, e3, e4⟩ := zip_keys hvl
    refine ⟨kvs, e1, by omega, ?_⟩
    have hnd : (kvs.map (·.1)).Nodup := by
      rw [e2]
      exact List.Pairwise.map _ (fun a b (h : a ≠ b) e => h (Sum.inr.inj e)) hn
    have em : mergeK [] kvs = kvs := by
      have := merge_nodup kvs [] (by simpa using hnd)
      simpa using this
    rw [em]
    have hne : kvs ≠ [] := fun e => by subst e; simp at e4; omega
    have nf : ¬ Fixed (HO.dK []) := fun z => z rfl
    have gx : Ext ι' H' ι' (upd H' q (.dK kvs)) := .other hq' nf
    have k := FinG.at f2 (ι' := ι') (H' := upd H' q (.dK kvs)) (Grow.around hq g') (s'.other hq' nf fun _ z => by cases z)
    rw [if_pos (by rw [hlen]; exact hx.symm)] at k
    refine k.ok (s'.other hq' nf fun _ z => by cases z) _ ?_
    unfold Rep
    exact ⟨q, vs', rfl, .inl ⟨kvs, upd_same, hne, e2, e3, hn⟩, rvs.ext gx⟩

/-! ### calls of the text's defs -/
theorem pe_call0SD {CX : CXT} {k : Nat} {f : Addr} {fd : FuncData} {ps : List Str} {sp : Sp} {dvs : List V} {ds : List Value} {E : L2.St → XK} {x : Str} {p pos : Pos} (F : FnOk X.prog X.w X.K X.mg X.base CX k f fd ps sp) (hr : Room k X.A) (hg : Gl X x) (hm : X.mg x = some (.ref f)) (hk : PySem.W.keepIn X.K (.ref f) = true) (hb : Binds X.K fd ps ds) (hd : Vals dvs ds) (hx : ∀ σ, PassesAt CX X σ (E σ))
    (hdb : (x == ("__debug__" : Str)) = false) : PE X (.Call (.Name x p) [] [] pos) (tCallSD sp dvs E tNil) := by
  refine ⟨fun pins s σ H Q I h => ?_⟩
  refine wpAny_Call_Name_kw (ld_glob I hg hm ?_ hdb)
  exact PySem.W.callWith_K0 I.kIn hk (run_fnSD (us := []) F hr hb hd (hx σ) I .nil h)
theorem call_read {f : FnI} {fx : Str} {r' : Nat} {xs : Exs} {σ : L2.St} {H : Hp} {Q : VK} {ι : List Addr} {S : Store} {env : Env} (hr : r = r' + 1) (hf : T.fns.lookup fx = some f) (hs : f.dfl.all scal = true) (hj : lenXs xs ≤ f.params.length) (hd : f.params.length - lenXs xs ≤ f.dfl.length)
    (s : Sim X.K X.w ι S H) (er : EnvR X.K X.w ι H env σ) (g : FinG X.K X.w X.mg (WE W σ) ι H (evalE (conf T r) (.call fx xs) env S) (wantV X.K X.w Q)) :
    tCallSD (spF T X.K X.w X.mg r' f) ((f.dfl.drop (f.dfl.length - (f.params.length - lenXs xs))).map scV) (WE W) (SEs T X W r xs) σ H Q := by
  subst hr
  simp only [evalE] at g
  refine ⟨ι, S, env, s, er, ?_⟩
  rw [if_pos (by rfl)] at g
  have g2 := g.bind
  refine (fin_with (P := fun vs => vs.length = lenXs xs) g2 fun v S h => evalEs_len h).imp fun vs S1 ι1 H1 g1 s1 ⟨hl, k⟩ vs' rvs => ?_
  have e : callF T (r' + 1) fx vs S1 = callBody (conf T r') f (vs ++ f.dfl.drop (f.dfl.length - (f.params.length - vs.length))) S1 := by
    simp only [callF, hf]
  rw [e, hl] at k
  refine ⟨ι1, S1, _, s1, rvs.append (reps_scal (List.all_eq_true.mpr fun z hz => List.all_eq_true.mp hs z (List.mem_of_mem_drop hz))), ?_, k⟩
  rw [List.length_append, List.length_map, List.length_drop, rvs.length, hl]
  omega
theorem snd_call (C : Ctx T c X W r) {fx : Str} {es : List Expr} {xs : Exs} {f : FnI} {p p2 : Pos} (ha : PA X es (SEs T X W r xs)) (hst : es.all notStar = true) (hn : es.length = lenXs xs) (hg : isGl c fx = true) (hdb : dbg fx = false)
    (hf : T.fns.lookup fx = some f) (h1 : lenXs xs ≤ f.params.length) (h2 : f.params.length - lenXs xs ≤ f.dfl.length) :
    PE X (.Call (.Name fx p) es [] p2) (SE T X W r (.call fx xs)) := by
  cases r with
  | zero =>
    have : PE X (.Call (.Name fx p) es [] p2) (fun _ _ _ => False) := ⟨fun _ _ _ _ _ _ h => h.elim⟩
    refine PE.imp this fun σ H Q ⟨ι, S, env, s, er, g⟩ => ?_
    simp only [evalE] at g
    exact g
  | succ r' =>
    obtain ⟨⟨a, fd, hm, hk, hb, ok⟩, hs⟩ := C.fns.fn r' rfl fx f hf
    obtain ⟨ds, b, hd⟩ := hb _ h2
    cases es with
    | nil =>
      cases xs with
      | cons _ _ => simp [lenXs] at hn
      | nil =>
        refine PE.imp (pe_call0SD ok C.room (C.gl fx hg) hm hk b hd (fun σ => passAt C.tk σ) hdb) fun σ H Q ⟨ι, S, env, s, er, g⟩ => ?_
        obtain ⟨ι', S', env', s', er', g'⟩ := call_read rfl hf hs h1 h2 s er g
        simp only [evalEs] at g'
        exact g'.ok s' [] Reps.nil
    | cons e es =>
      simp only [List.all_cons, Bool.and_eq_true] at hst
      refine PE.imp (pe_callSD ok C.room (C.gl fx hg) hm hk b hd (fun σ => passAt C.tk σ) ha hdb (star_cons hst.1) (star_plain hst.2)) fun σ H Q ⟨ι, S, env, s, er, g⟩ => ?_
      exact call_read rfl hf hs h1 h2 s er g
end
end EK

namespace EK
open PySem PySem.Spec PyProof.Rows L2
section
variable {T : Text} {c : Chk} {X : Cx} {W : WX} {r : Nat}

/-! ### built-in calls -/
theorem Reps.one {K : PySem.W.Frag} {w : World} {ι : List Addr} {H : Hp} {x : PV} {vs : List V} (h : Reps K w ι H [x] vs) : ∃ v, vs = [v] ∧ Rep K w ι H x v := by
  unfold Reps at h
  obtain ⟨v, r, rfl, h1, h2⟩ := h
  unfold Reps at h2
  subst h2
  exact ⟨v, rfl, h1⟩
theorem Reps.two {K : PySem.W.Frag} {w : World} {ι : List Addr} {H : Hp} {x y : PV} {vs : List V} (h : Reps K w ι H [x, y] vs) : ∃ v u, vs = [v, u] ∧ Rep K w ι H x v ∧ Rep K w ι H y u := by
  unfold Reps at h
  obtain ⟨v, r, rfl, h1, h2⟩ := h
  obtain ⟨u, rfl, h3⟩ := h2.one
  exact ⟨v, u, rfl, h1, h3⟩
theorem seq_of {K : PySem.W.Frag} {w : World} {ι : List Addr} {S : Store} {H : Hp} {v : PV} {v' : V} {xs : List PV} (s : Sim K w ι S H) (rv : Rep K w ι H v v') (e : seqL S v = some xs) :
    ∃ a vs, v' = .ref a ∧ (SqL K H a vs ∨ SqT K H a vs) ∧ Reps K w ι H xs vs := by
  unfold seqL at e
  split at e
  · cases e
    obtain ⟨a, vs, rfl, hs, hr⟩ := rv.tupE
    exact ⟨a, vs, rfl, .inr hs, hr⟩
  · obtain ⟨a, rfl, ha⟩ := rv.refE
    obtain ⟨b, vs, eb, hs, hr⟩ := s.sq e
    rw [ha] at eb; cases eb
    exact ⟨a, vs, rfl, .inl hs, hr⟩
  · cases e
theorem cell_of {K : PySem.W.Frag} {w : World} {ι : List Addr} {S : Store} {H : Hp} {n : Nat} {v' : V} {xs : List PV} (s : Sim K w ι S H) (rv : Rep K w ι H (.ref n) v') (e : cellL S n = some xs) :
    ∃ a vs, v' = .ref a ∧ SqL K H a vs ∧ Reps K w ι H xs vs := by
  obtain ⟨a, rfl, ha⟩ := rv.refE
  obtain ⟨b, vs, eb, hs, hr⟩ := s.sq e
  rw [ha] at eb; cases eb
  exact ⟨a, vs, rfl, hs, hr⟩
theorem ints_of {K : PySem.W.Frag} {w : World} {ι : List Addr} {H : Hp} : ∀ {xs : List PV} {vs : List V} {ns : List Int}, intsP xs = some ns → Reps K w ι H xs vs → vs = ns.map V.int
  | [], _, ns, e, h => by unfold Reps at h; subst h; cases e; rfl
  | x :: xs, _, ns, e, h => by
    unfold Reps at h
    obtain ⟨v, r, rfl, h1, h2⟩ := h
    cases x with
    | int i =>
      simp only [intsP] at e
      cases q : intsP xs with
      | none => rw [q] at e; cases e
      | some ms =>
        rw [q] at e
        cases e
        cases h1.intE
        rw [ints_of q h2]; rfl
    | _ => simp [intsP] at e
theorem bls_of {K : PySem.W.Frag} {w : World} {ι : List Addr} {H : Hp} : ∀ {xs : List PV} {vs : List V} {ns : List Bool}, blsP xs = some ns → Reps K w ι H xs vs → vs = ns.map V.bl
  | [], _, ns, e, h => by unfold Reps at h; subst h; cases e; rfl
  | x :: xs, _, ns, e, h => by
    unfold Reps at h
    obtain ⟨v, r, rfl, h1, h2⟩ := h
    cases x with
    | bl i =>
      simp only [blsP] at e
      cases q : blsP xs with
      | none => rw [q] at e; cases e
      | some ms =>
        rw [q] at e
        cases e
        cases h1.blE
        rw [bls_of q h2]; rfl
    | _ => simp [blsP] at e
theorem maxI_is : ∀ {a : Int} {r : List Int} {m : Int}, m ∈ a :: r → (∀ y, y ∈ a :: r → y ≤ m) → m = maxI (a :: r)
  | a, [], m, h1, h2 => by simpa [maxI] using h1
  | a, b :: r, m, h1, h2 => by
    simp only [maxI]
    have hb : ∀ y, y ∈ b :: r → y ≤ m := fun y hy => h2 y (List.mem_cons_of_mem _ hy)
    have ha : a ≤ m := h2 a List.mem_cons_self
    have hle : maxI (b :: r) ≤ m := by
      have key : ∀ (r : List Int) (b : Int), maxI (b :: r) ∈ b :: r := fun r => by
        induction r with
        | nil => intro b; simp [maxI]
        | cons d r ih =>
          intro b
          simp only [maxI]
          rcases Int.le_total b (maxI (d :: r)) with h | h
          · rw [Int.max_eq_right h]; exact List.mem_cons_of_mem _ (ih d)
          · rw [Int.max_eq_left h]; exact List.mem_cons_self
      exact hb _ (key r b)
    rcases List.mem_cons.mp h1 with h | h
    · rw [h] at hle ⊢; exact (Int.max_eq_left hle).symm
    · have := maxI_is h hb
      rw [← this]; exact (Int.max_eq_right ha).symm
theorem minI_is : ∀ {a : Int} {r : List Int} {m : Int}, m ∈ a :: r → (∀ y, y ∈ a :: r → m ≤ y) → m = minI (a :: r)
  | a, [], m, h1, h2 => by simpa [minI] using h1
  | a, b :: r, m, h1, h2 => by
    simp only [minI]
    have hb : ∀ y, y ∈ b :: r → m ≤ y := fun y hy => h2 y (List.mem_cons_of_mem _ hy)
    have ha : m ≤ a := h2 a List.mem_cons_self
    have hle : m ≤ minI (b :: r) := by
      have key : ∀ (r : List Int) (b : Int), minI (b :: r) ∈ b :: r := fun r => by
        induction r with
        | nil => intro b; simp [minI]
        | cons d r ih =>
          intro b
          simp only [minI]
          rcases Int.le_total b (minI (d :: r)) with h | h
          · rw [Int.min_eq_left h]; exact List.mem_cons_self
          · rw [Int.min_eq_right h]; exact List.mem_cons_of_mem _ (ih d)
      exact hb _ (key r b)
    rcases List.mem_cons.mp h1 with h | h
    · rw [h] at hle ⊢; exact (Int.min_eq_left hle).symm
    · have := minI_is h hb
      rw [← this]; exact (Int.min_eq_right ha).symm
/-- the reading of a built-in by values -/
abbrev RL := List V → Hp → VK → Prop
def rPrim (K : PySem.W.Frag) : Prim → RL
  | .len => fun xs H Q => ∃ x n, xs = [x] ∧ LenV K x H n ∧ Q (.int n) H
  | .int => fun xs H Q => ((∃ i, xs = [.int i] ∧ Q (.int i) H) ∨ ∃ k, xs = [.bl k] ∧ Q (.int (if k then 1 else 0)) H) ∨ ∃ a n, xs = [.str a] ∧ PySem.intText? a = some n ∧ a.length ≤ 640 ∧ Q (.int n) H
  | .abs => fun xs H Q => ∃ i, xs = [.int i] ∧ Q (.int (if i < 0 then -i else i)) H
  | .max2 => fun xs H Q => ∃ i j, xs = [.int i, .int j] ∧ Q (.int (if j > i then j else i)) H
  | .min2 => fun xs H Q => ∃ i j, xs = [.int i, .int j] ∧ Q (.int (if j < i then j else i)) H
  | .max1 => rMax K
  | .min1 => rMin K
  | .sum => rSum K
  | .any => rAny K
  | .all => rAll K
  | .tuple => fun xs H Q => ∃ p ys, xs = [.ref p] ∧ ((SqL K H p ys ∧ ∀ l, H l = none → Q (.ref l) (upd H l (.tup ys))) ∨ (SqT K H p ys ∧ Q (.ref p) H))
  | .list => fun xs H Q => ∃ p ys, xs = [.ref p] ∧ (SqL K H p ys ∨ SqT K H p ys) ∧ ∀ l, H l = none → Q (.ref l) (upd H l (.lst ys))
  | .str => fun xs H Q => ∃ i, xs = [.int i] ∧ i.natAbs.log2 < 1920 ∧ Q (.str (toString i)) H
  | .sorted => fun _ _ _ => False
theorem prim_ok {p : Prim} {us : List PV} {S : Store} {ι : List Addr} {H : Hp} {us' : List V} {EX : XK} {Q : VK} (s : Sim X.K X.w ι S H) (ru : Reps X.K X.w ι H us us')
    (k : FinG X.K X.w X.mg EX ι H (primM p us S) (wantV X.K X.w Q)) : rPrim X.K p us' H Q := by
  cases p with
  | len =>
    unfold primM at k
    split at k <;> rename_i heq <;> try (first | exact k.elim | (cases heq; done))
    · obtain ⟨v, rfl, rv⟩ := ru.one
      cases rv.strE
      split at k
      · rename_i hl
        exact ⟨_, _, rfl, ⟨hl, rfl⟩, k.ok s _ .ofInt⟩
      · exact k.elim
    · obtain ⟨v, rfl, rv⟩ := ru.one
      obtain ⟨a, vs, rfl, hs, hr⟩ := rv.conE
      refine ⟨.ref a, vs.length, rfl, .inl ⟨vs, hs.sq, rfl⟩, ?_⟩
      rw [hr.length]; exact k.ok s _ .ofInt
    · obtain ⟨v, rfl, rv⟩ := ru.one
      split at k
      · rename_i xs e
        obtain ⟨a, vs, rfl, hs, hr⟩ := seq_of s rv e
        refine ⟨.ref a, vs.length, rfl, ?_, ?_⟩
        · rcases hs with hs | hs
          · exact .inl ⟨vs, hs, rfl⟩
          · exact .inr ⟨vs, hs, rfl⟩
        · rw [hr.length]; exact k.ok s _ .ofInt
      · exact k.elim
  | int =>
    unfold primM at k
    split at k <;> rename_i heq <;> try (first | exact k.elim | (cases heq; done))
    · obtain ⟨v, rfl, rv⟩ := ru.one
      cases rv.intE
      exact .inl (.inl ⟨_, rfl, k.ok s _ .ofInt⟩)
    · obtain ⟨v, rfl, rv⟩ := ru.one
      cases rv.blE
      exact .inl (.inr ⟨_, rfl, k.ok s _ .ofInt⟩)
    · obtain ⟨v, rfl, rv⟩ := ru.one
      cases rv.strE
      split at k
      · rename_i hl
        split at k
        · rename_i n e
          exact .inr ⟨_, n, rfl, e, hl, k.ok s _ .ofInt⟩
        · exact k.elim
      · exact k.elim
  | abs =>
    unfold primM at k
    split at k <;> rename_i heq <;> try (first | exact k.elim | (cases heq; done))
    obtain ⟨v, rfl, rv⟩ := ru.one
    cases rv.intE
    exact ⟨_, rfl, k.ok s _ .ofInt⟩
  | max2 =>
    unfold primM at k
    split at k <;> rename_i heq <;> try (first | exact k.elim | (cases heq; done))
    obtain ⟨v, u, rfl, rv, ru2⟩ := ru.two
    cases rv.intE; cases ru2.intE
    exact ⟨_, _, rfl, k.ok s _ .ofInt⟩
  | min2 =>
    unfold primM at k
    split at k <;> rename_i heq <;> try (first | exact k.elim | (cases heq; done))
    obtain ⟨v, u, rfl, rv, ru2⟩ := ru.two
    cases rv.intE; cases ru2.intE
    exact ⟨_, _, rfl, k.ok s _ .ofInt⟩
  | max1 =>
    unfold primM at k
    split at k <;> rename_i heq <;> try (first | exact k.elim | (cases heq; done))
    obtain ⟨v, rfl, rv⟩ := ru.one
    split at k
    · rename_i a rr e
      obtain ⟨xs, e1, e2⟩ := Option.bind_eq_some_iff.mp e
      obtain ⟨b, vs, rfl, hs, hr⟩ := cell_of s rv e1
      have := ints_of e2 hr
      subst this
      refine ⟨b, a :: rr, rfl, hs, by simp, fun m h1 h2 => ?_⟩
      rw [maxI_is h1 h2]
      exact k.ok s _ .ofInt
    · exact k.elim
  | min1 =>
    unfold primM at k
    split at k <;> rename_i heq <;> try (first | exact k.elim | (cases heq; done))
    obtain ⟨v, rfl, rv⟩ := ru.one
    split at k
    · rename_i a rr e
      obtain ⟨xs, e1, e2⟩ := Option.bind_eq_some_iff.mp e
      obtain ⟨b, vs, rfl, hs, hr⟩ := cell_of s rv e1
      have := ints_of e2 hr
      subst this
      refine ⟨b, a :: rr, rfl, hs, by simp, fun m h1 h2 => ?_⟩
      rw [minI_is h1 h2]
      exact k.ok s _ .ofInt
    · exact k.elim
  | sum =>
    unfold primM at k
    split at k <;> rename_i heq <;> try (first | exact k.elim | (cases heq; done))
    obtain ⟨v, rfl, rv⟩ := ru.one
    split at k
    · rename_i ns e
      obtain ⟨xs, e1, e2⟩ := Option.bind_eq_some_iff.mp e
      obtain ⟨b, vs, rfl, hs, hr⟩ := cell_of s rv e1
      have := ints_of e2 hr
      subst this
      exact ⟨b, ns, rfl, hs, k.ok s _ .ofInt⟩
    · exact k.elim
  | any =>
    unfold primM at k
    split at k <;> rename_i heq <;> try (first | exact k.elim | (cases heq; done))
    obtain ⟨v, rfl, rv⟩ := ru.one
    split at k
    · rename_i ns e
      obtain ⟨xs, e1, e2⟩ := Option.bind_eq_some_iff.mp e
      obtain ⟨b, vs, rfl, hs, hr⟩ := cell_of s rv e1
      have := bls_of e2 hr
      subst this
      exact ⟨b, ns, rfl, hs, k.ok s _ .ofBl⟩
    · exact k.elim
  | all =>
    unfold primM at k
    split at k <;> rename_i heq <;> try (first | exact k.elim | (cases heq; done))
    obtain ⟨v, rfl, rv⟩ := ru.one
    split at k
    · rename_i ns e
      obtain ⟨xs, e1, e2⟩ := Option.bind_eq_some_iff.mp e
      obtain ⟨b, vs, rfl, hs, hr⟩ := cell_of s rv e1
      have := bls_of e2 hr
      subst this
      exact ⟨b, ns, rfl, hs, k.ok s _ .ofBl⟩
    · exact k.elim
  | tuple =>
    unfold primM at k
    split at k <;> rename_i heq <;> try (first | exact k.elim | (cases heq; done))
    · obtain ⟨v, rfl, rv⟩ := ru.one
      obtain ⟨a, vs, rfl, hs, hr⟩ := rv.tupE
      exact ⟨a, vs, rfl, .inr ⟨hs, k.ok s _ (.ofTup hs hr)⟩⟩
    · obtain ⟨v, rfl, rv⟩ := ru.one
      split at k
      · rename_i xs e
        obtain ⟨a, vs, rfl, hs, hr⟩ := cell_of s rv e
        exact ⟨a, vs, rfl, .inl ⟨hs, fun l hl => k.at (.laid hl) (s.laid hl) _ (.ofTup (SqT.of upd_same) (hr.grow (.laid hl)))⟩⟩
      · exact k.elim
  | list =>
    unfold primM at k
    split at k <;> rename_i heq <;> try (first | exact k.elim | (cases heq; done))
    obtain ⟨v, rfl, rv⟩ := ru.one
    split at k
    · rename_i xs e
      obtain ⟨a, vs, rfl, hs, hr⟩ := seq_of s rv e
      exact ⟨a, vs, rfl, hs, fun l hl => k.at (.cell hl) (s.new hl hr) _ (.ofRef (newIx s.len))⟩
    · exact k.elim
  | str =>
    unfold primM at k
    split at k <;> rename_i heq <;> try (first | exact k.elim | (cases heq; done))
    obtain ⟨v, rfl, rv⟩ := ru.one
    cases rv.intE
    split at k
    · rename_i hl
      exact ⟨_, rfl, Nat.lt_of_lt_of_le (PySem.Flt.log2_lt_of (by decide) hl) (by decide), k.ok s _ .ofStr⟩
    · exact k.elim
  | sorted => exact k.elim
theorem prim_pe (C : Ctx T c X W r) (p : Prim) (hp : p ≠ .sorted) {e : Expr} {es : List Expr} {t : TA} {q pos : Pos} (ha : PA X (e :: es) t) (hg : isGl c ((primNm p).1 : String) = true)
    (he : starEach (e :: es) X.env = (false, eval e X.env) :: starEach es X.env) (hpl : (backTo pos (starEach es X.env)).any (·.1) = false) : PE X (.Call (.Name ((primNm p).1 : String) q) (e :: es) [] pos) (tCB (rPrim X.K p) t) := by
  cases p with
  | len => exact pe_callB call_len (C.gl _ hg) (C.free _ (by decide)) (by decide +kernel) ha (by decide) (by decide) he hpl
  | int => exact pe_callTy (call_int1.or call_int_str) (C.gl _ hg) (C.free _ (by decide)) (by decide +kernel) ha (by decide) (by decide) he hpl
  | abs => exact pe_callB call_abs (C.gl _ hg) (C.free _ (by decide)) (by decide +kernel) ha (by decide) (by decide) he hpl
  | max2 => exact pe_callB (call_max2 C.calm) (C.gl _ hg) (C.free _ (by decide)) (by decide +kernel) ha (by decide) (by decide) he hpl
  | min2 => exact pe_callB (call_min2 C.calm) (C.gl _ hg) (C.free _ (by decide)) (by decide +kernel) ha (by decide) (by decide) he hpl
  | max1 => exact pe_callB (cr_max C.calm) (C.gl _ hg) (C.free _ (by decide)) (by decide +kernel) ha (by decide) (by decide) he hpl
  | min1 => exact pe_callB (cr_min C.calm) (C.gl _ hg) (C.free _ (by decide)) (by decide +kernel) ha (by decide) (by decide) he hpl
  | sum => exact pe_callB (cr_sum C.calm) (C.gl _ hg) (C.free _ (by decide)) (by decide +kernel) ha (by decide) (by decide) he hpl
  | any => exact pe_callB (cr_any C.calm) (C.gl _ hg) (C.free _ (by decide)) (by decide +kernel) ha (by decide) (by decide) he hpl
  | all => exact pe_callB (cr_all C.calm) (C.gl _ hg) (C.free _ (by decide)) (by decide +kernel) ha (by decide) (by decide) he hpl
  | tuple => exact pe_callTy call_tuple_of (C.gl _ hg) (C.free _ (by decide)) (by decide +kernel) ha (by decide) (by decide) he hpl
  | list => exact pe_callTy call_list_of (C.gl _ hg) (C.free _ (by decide)) (by decide +kernel) ha (by decide) (by decide) he hpl
  | str => exact pe_callTy call_str_int (C.gl _ hg) (C.free _ (by decide)) (by decide +kernel) ha (by decide) (by decide) he hpl
  | sorted => exact absurd rfl hp
theorem snd_prim (C : Ctx T c X W r) {p : Prim} {es : List Expr} {xs : Exs} {q pos : Pos} (ha : PA X es (SEs T X W r xs)) (hst : es.all notStar = true) (hn : es ≠ []) (hp : p ≠ .sorted) (hg : isGl c ((primNm p).1 : String) = true) :
    PE X (.Call (.Name ((primNm p).1 : String) q) es [] pos) (SE T X W r (.prim p xs)) := by
  cases es with
  | nil => exact absurd rfl hn
  | cons e es =>
    simp only [List.all_cons, Bool.and_eq_true] at hst
    refine PE.imp (prim_pe C p hp ha hg (star_cons hst.1) (star_plain hst.2)) fun σ H Q ⟨ι, S, env, s, er, f⟩ => ?_
    simp only [evalE] at f
    exact ⟨ι, S, env, s, er, f.bind.imp fun vs S1 ι1 H1 g1 s1 k vs' rvs => prim_ok s1 rvs k⟩
end
end EK

namespace EK
open PySem PySem.Spec PyProof.Rows L2
section
variable {T : Text} {c : Chk} {X : Cx} {W : WX} {r : Nat}

/-! ### list(range(n)) -/
theorem reps_range {K : PySem.W.Frag} {w : World} {ι : List Addr} {H : Hp} (lo : Int) (n : Nat) : Reps K w ι H (rangeP lo n) ((List.range n).map fun i => V.int (lo + (i : Nat))) := by
  unfold rangeP
  generalize List.range n = l
  induction l with
  | nil => exact Reps.nil
  | cons i l ih => exact Reps.cons .ofInt ih
theorem snd_lrg (C : Ctx T c X W r) {a : Expr} {xs : Exs} {p1 p2 p3 p4 : Pos} {f : Expr → Ex → Bool} (hf : ∀ e x, f e x = true → PE X e (SE T X W r x)) (hc : chkEs f [a] xs = true) (g1 : isGl c "list" = true) (g2 : isGl c "range" = true) :
    PE X (.Call (.Name "list" p1) [.Call (.Name "range" p2) [a] [] p3] [] p4) (SE T X W r (.lrg xs)) := by
  cases xs with
  | nil => simp [chkEs] at hc
  | cons x xs =>
    cases xs with
    | cons _ _ => simp [chkEs] at hc
    | nil =>
      simp only [chkEs, Bool.and_eq_true] at hc
      have ha := hf a x hc.1.2
      have hs := hc.1.1
      refine PE.imp (pe_listRg C.calm (C.gl _ g1) (C.free _ (by decide)) (prg_1 (C.gl _ g2) (C.free _ (by decide)) ha (star_cons hs)) rfl) fun σ H Q ⟨ι, S, env, s, er, k⟩ => ?_
      simp only [evalE, evalEs] at k
      refine ⟨ι, S, env, s, er, ?_⟩
      cases q : evalE (conf T r) x env S with
      | ok v S1 =>
        rw [q] at k
        simp only [Res.bind] at k
        intro i2 H2 g2 s2 v' rv
        unfold listRg at k
        split at k
        · rename_i j heq
          cases heq
          cases rv.intE
          split at k
          · rename_i hb
            have hb := fitsL_iff.mp hb
            refine ⟨j, rfl, RgOk.of_le (Int.le_refl 0) hb.2 (by decide) hb.1, fun l hl => ?_⟩
            have e : rgV 0 j = (List.range j.toNat).map fun i => V.int (0 + (i : Nat)) := by
              unfold rgV; rw [Int.sub_zero]
            rw [e]
            exact FinG.at k (g2.trans (.cell hl)) (s2.new hl (reps_range 0 j.toNat)) _ (.ofRef (newIx s2.len))
          · exact k.elim
        · exact k.elim
      | exc cc fs S1 => rw [q] at k; exact k
      | bad => rw [q] at k; exact k

/-! ### isinstance -/
theorem isT_tyS {t : TN} {v : PV} {S : Store} : isTM t v S = match tyS v S with
    | some s => .ok (.bl (kitS t s)) S
    | none => .bad := rfl
theorem tyS_ty {K : PySem.W.Frag} {w : World} {ι : List Addr} {H : Hp} {S : Store} {v : PV} {v' : V} {t : String} (s : Sim K w ι S H) (rv : Rep K w ι H v v') (e : tyS v S = some t) : TyX K H v' (.type t) := by
  cases v with
  | non => unfold Rep at rv; subst rv; cases e; exact .base .non
  | bl b => cases rv.blE; cases e; exact .base (.bl b)
  | int b => cases rv.intE; cases e; exact .base (.int b)
  | str b => cases rv.strE; cases e; exact .base (.str b)
  | tup xs =>
    obtain ⟨a, vs, rfl, hs, _⟩ := rv.tupE
    cases e
    rcases hs with (h | ⟨o, h⟩) | ⟨o, its, n, h1, h2, _⟩
    · exact .base (.tup h)
    · exact .fTuple h
    · exact .kTuple h1 h2
  | ref n =>
    obtain ⟨a, rfl, ha⟩ := rv.refE
    simp only [tyS] at e
    split at e
    · rename_i xs q
      cases e
      obtain ⟨b, vs, eb, hb, _⟩ := s.lst q
      rw [ha] at eb; cases eb
      exact .base (.lst hb)
    · cases e
  | dct _ _ => cases e
  | con _ => cases e
  | clo _ _ => cases e
theorem kit_all (t : TN) : ∀ s ∈ ["NoneType", "bool", "int", "str", "tuple", "list"], kitB s (tnNm t) = some (kitS t s) := by
  cases t <;> decide +kernel
theorem tyS_mem {v : PV} {S : Store} {t : String} (e : tyS v S = some t) : t ∈ ["NoneType", "bool", "int", "str", "tuple", "list"] := by
  cases v with
  | ref n =>
    simp only [tyS] at e
    split at e <;> cases e
    decide
  | _ => cases e <;> decide
theorem boot_ty (t : TN) : bootBuiltins ((tnNm t : String) : Str) = some (.type (tnNm t)) := by cases t <;> decide +kernel
theorem blt_ty (t : TN) : ((tnNm t : String) : Str) ∈ bltNames := by cases t <;> decide
theorem snd_isT (C : Ctx T c X W r) {t : TN} {a : Expr} {x : Ex} {p1 p2 p3 : Pos} (ha : PE X a (SE T X W r x)) (hs : notStar a = true) (g1 : isGl c "isinstance" = true) (g2 : isGl c ((tnNm t : String) : Str) = true) :
    PE X (.Call (.Name "isinstance" p1) [a, .Name ((tnNm t : String) : Str) p2] [] p3) (SE T X W r (.isT t x)) := by
  have h2 : PE X (.Name ((tnNm t : String) : Str) p2) (tC (.ty (tnNm t))) := pe_bltn (C.gl _ g2) (C.free _ (blt_ty t)) (boot_ty t) rfl (by cases t <;> decide) (by cases t <;> decide)
  refine PE.imp (pe_callB call_isi (C.gl _ g1) (C.free _ (by decide)) (by decide +kernel) (pa_cons ha (pa_cons h2 pa_nil (star_cons rfl)) (star_cons hs)) (by decide) (by decide) (star_cons hs) (star_plain (by rfl))) fun σ H Q ⟨ι, S, env, s, er, f⟩ => ?_
  simp only [evalE] at f
  refine ⟨ι, S, env, s, er, f.bind.imp fun v S1 ι1 H1 g1 s1 k v' rv => ?_⟩
  rw [isT_tyS] at k
  split at k
  · rename_i ty e
    exact ⟨v', .ty (tnNm t), .type ty, .type (tnNm t), _, rfl, .ty _, tyS_ty s1 rv e, kit_ty (kit_all t ty (tyS_mem e)), k.ok s1 _ .ofBl⟩
  · exact k.elim

/-! ### methods of built-in types -/
/-- of that built-in type, without attributes of its own -/
def tyW (K : PySem.W.Frag) (w : World) (T : String) (x : V) (H : Hp) : Prop := match x with
  | .str _ => T = "str"
  | .ref p => (T = "list" ∧ ∃ xs, SqL K H p xs) ∨ (T = "dict" ∧ ∃ ks vs, DctAt K w H p ks vs) ∨ (T = "tuple" ∧ ((∃ o, K.lookup p = some o ∧ o.cls = .type "tuple" ∧ o.dict = none) ∨ ∃ o xs, H p = some (.frz o (.tup xs)) ∧ o.cls = .type "tuple" ∧ o.dict = none))
  | _ => False
theorem tyW_is {pins : List (Addr × Obj)} {σ : L2.St} {H : Hp} {s : Shared} {T : String} {x : V} {v : Value} (I : Inv X pins σ H s) (r : RelV x v) (ty : tyW X.K X.w T x H) :
    s.TypeIs v T ∧ ∀ a, v = .ref a → ∃ ob, s.heap.get? a = some ob ∧ ob.dict = none := by
  cases x with
  | str z =>
    obtain ⟨t, rfl⟩ := r
    cases (show T = "str" from ty)
    exact ⟨typeIs_str s z t, fun _ e => nomatch e⟩
  | ref p =>
    obtain rfl : v = Value.ref p := r
    rcases ty with ⟨rfl, xs, hq⟩ | ⟨rfl, ks, vs, hd⟩ | ⟨rfl, hk⟩
    · exact tyV_is (T := "list") (x := .ref p) I rfl (.inl ⟨rfl, xs, hq⟩)
    · rcases hd with ⟨kvs, h, _⟩ | ⟨⟨es, n, D⟩, _⟩
      · exact tyV_is (T := "dict") (x := .ref p) I rfl (.inr (.inr (.inl ⟨rfl, .inl ⟨kvs, h⟩⟩)))
      · refine ⟨kd_type D I, fun a e => ?_⟩
        cases e
        exact ⟨_, I.kIn _ _ D.at_, rfl⟩
    · rcases hk with ⟨o, h, h1, h2⟩ | ⟨o, xs, h, h1, h2⟩
      · exact tyV_is (T := "tuple") (x := .ref p) I rfl (.inr (.inl ⟨rfl, o, h, h1, h2⟩))
      · have ho : s.heap.get? p = some o := (I.hok p _ h).1
        refine ⟨⟨o, ho, h1⟩, fun a e => ?_⟩
        cases e
        exact ⟨o, ho, h2⟩
  | _ => exact False.elim ty
/-- a method of that type -/
structure MthAt (X : Cx) (name : Str) (Ty id : String) (r : V → RL) : Prop where
  pa : PlainAttrs Ty
  slot : Slot Ty name id
  hty : typeOf (.builtin id) = pure (.type "method_descriptor")
  hm : MtR X id r
def tMX (X : Cx) (name : Str) (to : TE) (t : TA) : TE := fun σ H Q => to σ H fun x H1 => ∃ Ty id r, MthAt X name Ty id r ∧ tyW X.K X.w Ty x H1 ∧ t σ H1 fun xs H2 => r x xs H2 Q
theorem pe_mx0 {o : Expr} {name : Str} {apos cpos : Pos} {to : TE} (ho : PE X o to) (hbase : attributeBase o name X.env (eval o X.env) = eval o X.env) (hline : (apos.endLine == cpos.line) = true) :
    PE X (.Call (.Attribute o name apos) [] [] cpos) (tMX X name to tNil) := by
  refine ⟨fun pins s σ H Q I h => ?_⟩
  refine wpAny_Call_method0_late hbase hline (thn (ho.run pins s σ H _ I h) fun v s1 ⟨x, H1, I1, r1, Ty, id, r, m, ty, q1⟩ => ?_)
  obtain ⟨h1, h2⟩ := tyW_is I1 r1 ty
  exact ⟨Ty, id, m.pa, m.slot, m.hty, h1, h2, Calls.callWith_builtin rfl (PySem.evalArgs_none (m.hm pins s1 σ H1 x [] v [] Q I1 r1 .nil q1))⟩
theorem pe_mx {o e : Expr} {es : List Expr} {name : Str} {apos cpos : Pos} {to : TE} {t : TA} (ho : PE X o to) (ha : PA X (e :: es) t) (hbase : attributeBase o name X.env (eval o X.env) = eval o X.env)
    (hfew : ((backTo cpos (starEach (e :: es) X.env)).all (fun x => !x.1) && (backToKw cpos (keywordEach [] X.env)).all (fun x => x.1.isSome)
      && decide ((e :: es).length + ([] : List Keyword).length + (if ([] : List Keyword).isEmpty then 0 else 1) < 30)) = true)
    (hline : (apos.endLine == cpos.line) = true) (hs : starEach (e :: es) X.env = (false, eval e X.env) :: starEach es X.env) (hplain : (backTo cpos (starEach es X.env)).any (·.1) = false) :
    PE X (.Call (.Attribute o name apos) (e :: es) [] cpos) (tMX X name to t) := by
  refine ⟨fun pins s σ H Q I h => ?_⟩
  refine wpAny_Call_method_late hbase hfew hline rfl (thn (ho.run pins s σ H _ I h) fun v s1 ⟨x, H1, I1, r1, Ty, id, r, m, ty, q1⟩ => ?_)
  obtain ⟨h1, h2⟩ := tyW_is I1 r1 ty
  refine ⟨Ty, id, m.pa, m.slot, m.hty, h1, h2, ?_⟩
  have hA := ha.run cpos pins s1 σ H1 _ I1 q1
  rw [hs] at hA ⊢
  refine Calls.callWith_builtin (by show (false || (backTo cpos (starEach es X.env)).any (·.1)) = false; rw [hplain] <;> rfl) (Calls.evalArgs_plain ?_)
  exact thn hA fun us s2 ⟨vs, H2, I2, r2, q2⟩ => m.hm pins s2 σ H2 x vs v us Q I2 r1 r2 q2
/-- l.index(x), deep -/
def rIndexA (K : PySem.W.Frag) : V → RL := fun x xs H Q => ∃ (a : Addr) (y : V) (d : PyData) (vs : List V) (ds : List PyData) (j : Nat), x = V.ref a ∧ xs = [y] ∧ SqL K H a vs ∧ DpAll K H vs ds ∧ Dp K H y d ∧
  PyData.canLayAll0 ds = true ∧ d.canLay0 = true ∧ d.depth ≤ 150 ∧ ds.findIdx? (fun z => PyData.eqv z d) = some j ∧ Q (.int (j : Nat)) H
theorem mt_indexA (hu : X.A.units + 200 < cLine) : MtR X "list.index" (rIndexA X.K) := by
  intro pins s σ H x xs v us Q I rx rxs h
  obtain ⟨a, y, d, vs, ds, j, rfl, rfl, hs, ha, hy, hxs, sd, hdd, hfi, q⟩ := h
  obtain rfl : v = Value.ref a := rx
  cases rxs with
  | cons ry rt =>
    rename_i uy ut
    cases rt
    obtain ⟨bs, r1⟩ := Dp.reads I d y uy hy ry
    have hroom : X.A.units + 1 + min (PyData.depthAll ds) d.depth < cLine := by
      have := Nat.min_le_right (PyData.depthAll ds) d.depth
      omega
    obtain ⟨its, rv, ⟨⟨cls, dd, data, sls⟩, n, ho, hc, hdn, hdt⟩, hlen⟩ := I.list hs
    simp only at hc hdt
    subst hc hdt
    obtain ⟨as, h4⟩ := Dp.readsAll I ds _ its ha rv
    have hn : its.length = ds.length := SeqAt.ReadsAll.length ds its as h4
    have hmap : its.map (SeqAt.readOf s.heap) = ds := SeqAt.readsAll_map ds its as hxs h4
    have hvl := rv.length
    have hsl := sizeLine_eq
    obtain ⟨hjd, hjt, hjf⟩ := List.findIdx?_eq_some_iff_getElem.mp hfi
    have hjl : j < its.length := by omega
    have hj : j < its.toArray.size := by simpa using hjl
    have at_ : ∀ (m : Nat) (hm : m < its.toArray.size) (z' : PyData), ds[m]? = some z' → SeqAt.readOf s.heap its.toArray[m] = z' := by
      intro m hm z' hz'
      have hml : m < its.length := by simpa using hm
      rw [← hmap, List.getElem?_map, List.getElem?_eq_getElem hml] at hz'
      have e1 : SeqAt.readOf s.heap its[m] = z' := Option.some.inj (show some (SeqAt.readOf s.heap its[m]) = some z' from hz')
      simpa using e1
    refine call_meets PySem.F.slot_list_index ⟨_, ho, rfl⟩ PySem.F.entry_list_index (PySem.F.args_list_index_2 _ _)
      (SeqAt.list_indexAt a its.toArray n dd sls uy (fun u => PyData.eqv (SeqAt.readOf s.heap u) d) j hj (by omega) ?_ ?_) ⟨ho, SeqAt.items_eqAt (vs := its.toArray) (show ReadsAll s.heap its.toArray.toList ds as from h4) r1 hxs sd hroom, ?_⟩
    · show PyData.eqv (SeqAt.readOf s.heap its.toArray[j]) d = true
      rw [at_ j hj ds[j] (List.getElem?_eq_getElem hjd)]
      exact hjt
    · intro m hm hmj
      have hmd : m < ds.length := by omega
      have hz' : ds[m]? = some ds[m] := List.getElem?_eq_getElem hmd
      show PyData.eqv (SeqAt.readOf s.heap its.toArray[m]) d = false
      rw [at_ m hm _ hz']
      simpa using hjf m hmj
    · exact ⟨.int (j : Nat), H, I.tok _, ⟨_, rfl⟩, q⟩
theorem find_cDs : ∀ {xs : List PV} {x : PV}, cleans xs = true → clean x = true → (cDs xs).findIdx? (fun e => PyData.eqv e (cD x)) = xs.findIdx? fun y => beqPV y x
  | [], _, _, _ => rfl
  | y :: ys, x, h, hx => by
    simp only [cleans, Bool.and_eq_true] at h
    simp only [cDs, List.findIdx?_cons]
    rw [cD_eqv y x h.1 hx, find_cDs h.2 hx]
theorem idx_dp {K : PySem.W.Frag} {w : World} {ι : List Addr} {H : Hp} {S : Store} {x : PV} {u : V} {xs : List PV} {vs : List V} {j : Nat} (s : Sim K w ι S H) (rx : Rep K w ι H x u) (rs : Reps K w ι H xs vs) (e : idxEq S x xs = some j) :
    ∃ d ds, Dp K H u d ∧ DpAll K H vs ds ∧ d.canLay0 = true ∧ PyData.canLayAll0 ds = true ∧ d.depth ≤ 150 ∧ ds.findIdx? (fun z => PyData.eqv z d) = some j := by
  unfold idxEq at e
  split at e
  · rename_i h
    simp only [Bool.and_eq_true, decide_eq_true_eq] at h
    exact ⟨_, _, Rep.dp h.1.1 rx, Reps.dp h.1.2 rs, cD_lay _ h.1.1, cDs_lay _ h.1.2, by rw [cD_depth]; exact h.2, by rw [find_cDs h.1.2 h.1.1]; exact e⟩
  · split at e
    · rename_i d ds h1 h2
      split at e
      · rename_i h
        simp only [Bool.and_eq_true, decide_eq_true_eq] at h
        exact ⟨d, ds, toD_dp s _ _ _ _ h1 rx, mapM_dp (fun x v d => toD_dp s _ x v d) h2 rs, h.1.1, h.1.2, h.2, e⟩
      · cases e
    · cases e
/-- d.get(k), d.get(k, x) -/
def rGet (K : PySem.W.Frag) (w : World) : V → RL := fun x xs H Q => ∃ a ks vs k, x = .ref a ∧ DctAt K w H a ks vs ∧ ((xs = [.str k] ∧ ((∃ v, (∃ i : Nat, ks[i]? = some k ∧ vs[i]? = some v ∧ ∀ j : Nat, j < i → ks[j]? ≠ some k) ∧ Q v H) ∨ (k ∉ ks ∧ Q .non H))) ∨
  ∃ d, xs = [.str k, d] ∧ ((∃ v, (∃ i : Nat, ks[i]? = some k ∧ vs[i]? = some v ∧ ∀ j : Nat, j < i → ks[j]? ≠ some k) ∧ Q v H) ∨ (k ∉ ks ∧ Q d H)))
theorem kd_get1 {pins : List (Addr × Obj)} {σ : L2.St} {H : Hp} {s : Shared} {a : Addr} {es : Array DictEntry} {n : Nat} {k : Str} {t : Tok} {o : Option Value} {Q : Value → Shared → Prop} {E : Value → Shared → Prop} (D : KDict X.K X.w a es n) (I : Inv X pins σ H s) (e : PySem.W.nsIn X.K a k = some o)
    (h : Q (o.getD .none) { s with toks := s.toks + 1 }) : wpAny (model X.prog X.w) X.A (call (.builtin "dict.get") [.ref a, .str k t]) Q E s := by
  have hm := PySem.W.mapOf_K (prog := X.prog) (w := X.w) I.kIn D.at_ D.lit
  refine call_meetsIn PySem.F.slot_dict_get hm.typeIs PySem.F.entry_dict_get (PySem.F.args_dict_get_2 _ _) (meets_dict_get (strKind X.prog X.w) a (strKind_is X.prog X.w k t) D.low) ⟨_, hm, ?_⟩
  rw [PySem.W.find_K D.at_ e]
  exact h
theorem kd_get2 {pins : List (Addr × Obj)} {σ : L2.St} {H : Hp} {s : Shared} {a : Addr} {es : Array DictEntry} {n : Nat} {k : Str} {t : Tok} {o : Option Value} {d : Value} {Q : Value → Shared → Prop} {E : Value → Shared → Prop} (D : KDict X.K X.w a es n) (I : Inv X pins σ H s) (e : PySem.W.nsIn X.K a k = some o)
    (h : Q (o.getD d) { s with toks := s.toks + 1 }) : wpAny (model X.prog X.w) X.A (call (.builtin "dict.get") [.ref a, .str k t, d]) Q E s := by
  have hm := PySem.W.mapOf_K (prog := X.prog) (w := X.w) I.kIn D.at_ D.lit
  refine call_meetsIn PySem.F.slot_dict_get hm.typeIs PySem.F.entry_dict_get (PySem.F.args_dict_get_3 _ _ _) (meets_dict_get_default (strKind X.prog X.w) a (strKind_is X.prog X.w k t) D.low d) ⟨_, hm, ?_⟩
  rw [PySem.W.find_K D.at_ e]
  exact h
theorem valV_miss {kvs : List (Key × V)} {ks : List Str} {k : Str} (h : kvs.map (·.1) = ks.map Sum.inr) (hk : k ∉ ks) : valV kvs (Sum.inr k : Key) = none := by
  have e := val_some (z := k) h
  have : ks.contains k = false := by
    cases q : ks.contains k with
    | false => rfl
    | true => exact absurd (List.contains_iff_mem.mp q) hk
  rw [this] at e
  cases q : valV kvs (Sum.inr k : Key) with
  | none => rfl
  | some v => rw [q] at e; cases e
theorem mt_get (hu : X.A.units + 200 < cLine) : MtR X "dict.get" (rGet X.K X.w) := by
  intro pins s σ H x xs v us Q I rx rxs h
  obtain ⟨a, ks, vs, k, rfl, hd, h⟩ := h
  obtain rfl : v = Value.ref a := rx
  rcases h with ⟨rfl, h⟩ | ⟨d, rfl, h⟩
  · obtain ⟨u, rfl, ru⟩ := Vals.one rxs
    rcases hd with ⟨kvs, e, e1, e2, e3, e4⟩ | ⟨⟨es, n, D⟩, e1, e2, e3⟩
    · subst e3
      refine d_get1 (by omega) I (DGet.k (k := Sum.inr k) e) ru fun w' s' I' rw' => ?_
      rcases h with ⟨v0, ⟨i, h1, h2, h3⟩, q⟩ | ⟨hn, q⟩
      · rw [valV_get e2 h2 h1 h3] at rw'
        exact ⟨v0, H, I', rw', q⟩
      · rw [valV_miss e2 hn] at rw'
        exact ⟨.non, H, I', rw', q⟩
    · obtain ⟨t, rfl⟩ := ru
      rcases h with ⟨v0, ⟨i, h1, h2, h3⟩, q⟩ | ⟨hn, q⟩
      · obtain ⟨u0, hn, ru⟩ := e3 i k v0 h1 h2
        exact kd_get1 D I hn ⟨v0, H, I.tok _, ru, q⟩
      · exact kd_get1 D I (e2 k hn) ⟨.non, H, I.tok _, rfl, q⟩
  · obtain ⟨u, u2, rfl, ru, ru2⟩ := Vals.two rxs
    rcases hd with ⟨kvs, e, e1, e2, e3, e4⟩ | ⟨⟨es, n, D⟩, e1, e2, e3⟩
    · subst e3
      refine d_get2 (by omega) I (DGet.k (k := Sum.inr k) e) ru ru2 fun w' s' I' rw' => ?_
      rcases h with ⟨v0, ⟨i, h1, h2, h3⟩, q⟩ | ⟨hn, q⟩
      · rw [valV_get e2 h2 h1 h3] at rw'
        exact ⟨v0, H, I', rw', q⟩
      · rw [valV_miss e2 hn] at rw'
        exact ⟨d, H, I', rw', q⟩
    · obtain ⟨t, rfl⟩ := ru
      rcases h with ⟨v0, ⟨i, h1, h2, h3⟩, q⟩ | ⟨hn, q⟩
      · obtain ⟨u0, hn, ru⟩ := e3 i k v0 h1 h2
        exact kd_get2 D I hn ⟨v0, H, I.tok _, ru, q⟩
      · exact kd_get2 D I (e2 k hn) ⟨d, H, I.tok _, ru2, q⟩
end
end EK

namespace EK
open PySem PySem.Spec PyProof.Rows L2
section
variable {T : Text} {c : Chk} {X : Cx} {W : WX} {r : Nat}
theorem ref_list {K : PySem.W.Frag} {w : World} {ι : List Addr} {H : Hp} {S : Store} {n : Nat} {v' : V} (s : Sim K w ι S H) (rv : Rep K w ι H (.ref n) v') : ∃ a vs, v' = .ref a ∧ SqL K H a vs := by
  obtain ⟨a, rfl, ha⟩ := rv.refE
  have hi := (List.getElem?_eq_some_iff.mp ha).1
  rw [s.len] at hi
  obtain ⟨b, e, c⟩ := s.cell n _ (List.getElem?_eq_getElem hi)
  rw [ha] at e; cases e
  generalize S[n] = cc at c
  cases cc with
  | lst xs => obtain ⟨vs, h, _⟩ := c; exact ⟨a, vs, rfl, .inl (.inl h)⟩
  | ro xs => obtain ⟨vs, o, h, _⟩ := c; exact ⟨a, vs, rfl, .inl (.inr ⟨o, h⟩)⟩
  | ins _ _ => exact c.elim
theorem ref_ty {K : PySem.W.Frag} {w : World} {ι : List Addr} {H : Hp} {S : Store} {n : Nat} {v' : V} (s : Sim K w ι S H) (rv : Rep K w ι H (.ref n) v') : tyW K w "list" v' H := by
  obtain ⟨a, vs, rfl, h⟩ := ref_list s rv
  exact .inl ⟨rfl, vs, h⟩
/-- which method of which type it is -/
def idOf : Mth → String
  | .append => "list.append" | .extend => "list.extend" | .pop => "list.pop" | .clear => "list.clear" | .index => "list.index" | .get => "dict.get" | .join => "str.join"
def tyOf : Mth → String
  | .get => "dict" | .join => "str"
  | _ => "list"
def rMth (K : PySem.W.Frag) (w : World) : Mth → V → RL
  | .append => rAppend
  | .extend => rExtend
  | .pop => fun x vs H Q => rPop x vs H Q ∨ rPopAt x vs H Q
  | .clear => rClear
  | .index => rIndexA K
  | .get => rGet K w
  | .join => fun _ _ _ _ => False
theorem mth_at (C : Ctx T c X W r) (m : Mth) (hm : m ≠ .join) : MthAt X ((mthNm m : String) : Str) (tyOf m) (idOf m) (rMth X.K X.w m) := by
  have hu := C.un
  cases m with
  | append => exact ⟨PySem.F.plainAttrs_list, PySem.F.slot_list_append, PySem.F.type_list_append, mt_append⟩
  | extend => exact ⟨PySem.F.plainAttrs_list, PySem.F.slot_list_extend, PySem.F.type_list_extend, mt_extend⟩
  | pop => exact ⟨PySem.F.plainAttrs_list, PySem.F.slot_list_pop, PySem.F.type_list_pop, MtR.or mt_pop mt_popAt⟩
  | clear => exact ⟨PySem.F.plainAttrs_list, PySem.F.slot_list_clear, PySem.F.type_list_clear, mt_clear⟩
  | index => exact ⟨PySem.F.plainAttrs_list, PySem.F.slot_list_index, PySem.F.type_list_index, mt_indexA hu⟩
  | get => exact ⟨PySem.F.plainAttrs_dict, PySem.F.slot_dict_get, PySem.F.type_dict_get, mt_get hu⟩
  | join => exact absurd rfl hm
theorem mth_ok {m : Mth} {u : PV} {us : List PV} {S : Store} {ι : List Addr} {H : Hp} {u' : V} {us' : List V} {EX : XK} {Q : VK} (s : Sim X.K X.w ι S H) (ro : Rep X.K X.w ι H u u') (ru : Reps X.K X.w ι H us us')
    (hf : methFor m u = true) (k : FinG X.K X.w X.mg EX ι H (methM m u us S) (wantV X.K X.w Q)) : rMth X.K X.w m u' us' H Q := by
  cases m with
  | append =>
    replace k : FinG X.K X.w X.mg EX ι H (appM u us S) (wantV X.K X.w Q) := k
    unfold appM at k
    split at k <;> try exact k.elim
    obtain ⟨v, rfl, rv⟩ := ru.one
    obtain ⟨a, rfl, ha⟩ := ro.refE
    split at k
    · rename_i xs q
      obtain ⟨b, vs, eb, hb, hr⟩ := s.lst q
      rw [ha] at eb; cases eb
      split at k
      · rename_i hl
        have hn := (List.getElem?_eq_some_iff.mp q).1
        exact ⟨a, vs, v, rfl, rfl, hb, by rw [hr.length]; exact hl, k.at (.write ha hb) (s.write ha hb (hr.append (Reps.cons rv Reps.nil)) hn) _ .ofNon⟩
      · exact k.elim
    · exact k.elim
  | extend =>
    replace k : FinG X.K X.w X.mg EX ι H (extM u us S) (wantV X.K X.w Q) := k
    unfold extM at k
    split at k <;> try exact k.elim
    obtain ⟨v, rfl, rv⟩ := ru.one
    obtain ⟨a, rfl, ha⟩ := ro.refE
    obtain ⟨a2, rfl, ha2⟩ := rv.refE
    split at k
    · rename_i xs ys q q2
      obtain ⟨b, vs, eb, hb, hr⟩ := s.lst q
      rw [ha] at eb; cases eb
      obtain ⟨b2, ws, eb2, hb2, hr2⟩ := s.lst q2
      rw [ha2] at eb2; cases eb2
      split at k
      · rename_i hl
        have hn := (List.getElem?_eq_some_iff.mp q).1
        exact ⟨a, a2, vs, ws, rfl, rfl, hb, hb2, by rw [hr.length, hr2.length]; exact hl, k.at (.write ha hb) (s.write ha hb (hr.append hr2) hn) _ .ofNon⟩
      · exact k.elim
    · exact k.elim
  | pop =>
    replace k : FinG X.K X.w X.mg EX ι H (popM u us S) (wantV X.K X.w Q) := k
    unfold popM at k
    split at k <;> try exact k.elim
    · unfold Reps at ru
      subst ru
      obtain ⟨a, rfl, ha⟩ := ro.refE
      split at k
      · rename_i xs q
        obtain ⟨b, vs, eb, hb, hr⟩ := s.lst q
        rw [ha] at eb; cases eb
        have hn := (List.getElem?_eq_some_iff.mp q).1
        split at k
        · rename_i z e
          obtain ⟨z', e', rz⟩ := hr.get e
          refine .inl ⟨a, vs, z', rfl, rfl, hb, by rw [hr.length]; exact e', ?_⟩
          have hd : Reps X.K X.w ι H xs.dropLast vs.dropLast := by
            rw [List.dropLast_eq_take, List.dropLast_eq_take, hr.length]
            exact hr.take _
          exact k.at (.write ha hb) (s.write ha hb hd hn) _ (rz.grow (.write ha hb))
        · exact k.elim
      · exact k.elim
    · obtain ⟨v, rfl, rv⟩ := ru.one
      cases rv.intE
      obtain ⟨a, rfl, ha⟩ := ro.refE
      split at k
      · rename_i z xs q
        obtain ⟨b, vs, eb, hb, hr⟩ := s.lst q
        rw [ha] at eb; cases eb
        have hn := (List.getElem?_eq_some_iff.mp q).1
        have hr0 := hr
        unfold Reps at hr
        obtain ⟨z', vs', rfl, rz, hr'⟩ := hr
        refine .inr ⟨a, _, 0, 0, z', rfl, rfl, hb, by decide, by decide, ?_, rfl, k.at (.write ha hb) (s.write ha hb hr' hn) _ (rz.grow (.write ha hb))⟩
        exact seqIndex_of (Int.le_refl 0) (by simp)
      · exact k.elim
  | clear =>
    replace k : FinG X.K X.w X.mg EX ι H (clrM u us S) (wantV X.K X.w Q) := k
    unfold clrM at k
    split at k <;> try exact k.elim
    unfold Reps at ru
    subst ru
    obtain ⟨a, rfl, ha⟩ := ro.refE
    split at k
    · rename_i xs q
      obtain ⟨b, vs, eb, hb, hr⟩ := s.lst q
      rw [ha] at eb; cases eb
      have hn := (List.getElem?_eq_some_iff.mp q).1
      exact ⟨a, vs, rfl, rfl, hb, k.at (.write ha hb) (s.write ha hb Reps.nil hn) _ .ofNon⟩
    · exact k.elim
  | index =>
    replace k : FinG X.K X.w X.mg EX ι H (idxM u us S) (wantV X.K X.w Q) := k
    cases u with
    | ref n =>
      unfold idxM at k
      split at k <;> try exact k.elim
      obtain ⟨v, rfl, rv⟩ := ru.one
      split at k
      · rename_i xs e
        obtain ⟨a, vs, rfl, hs, hr⟩ := cell_of s ro e
        split at k
        · rename_i j e2
          obtain ⟨d, ds, h1, h2, h3, h4, h5, h6⟩ := idx_dp s rv hr e2
          exact ⟨a, v, d, vs, ds, j, rfl, rfl, hs, h2, h1, h4, h3, h5, h6, k.ok s _ .ofInt⟩
        · exact k.elim
      · exact k.elim
    | _ => cases hf
  | get =>
    replace k : FinG X.K X.w X.mg EX ι H (getM u us S) (wantV X.K X.w Q) := k
    unfold getM at k
    split at k <;> try exact k.elim
    · obtain ⟨v, rfl, rv⟩ := ru.one
      cases rv.strE
      obtain ⟨a, vs, rfl, hd, hr⟩ := ro.dctE
      rename_i ks vs' key
      refine ⟨a, ks, vs, key, rfl, hd, .inl ⟨rfl, ?_⟩⟩
      cases e : lookD key ks vs' with
      | some z =>
        rw [e] at k
        obtain ⟨i, h1, h2, h3⟩ := look_get e
        obtain ⟨z', e', rz⟩ := hr.get h2
        exact .inl ⟨z', ⟨i, h1, e', h3⟩, k.ok s _ rz⟩
      | none =>
        rw [e] at k
        refine .inr ⟨?_, k.ok s _ .ofNon⟩
        refine look_none ?_ e
        rcases hd with ⟨kvs, _, _, q1, q2, _⟩ | ⟨_, q, _⟩
        · have := congrArg List.length q1
          have := congrArg List.length q2
          have := hr.length
          simp at *
          omega
        · rw [q, hr.length]
    · obtain ⟨v, d, rfl, rv, rd⟩ := ru.two
      cases rv.strE
      obtain ⟨a, vs, rfl, hd, hr⟩ := ro.dctE
      rename_i ks vs' key _
      refine ⟨a, ks, vs, key, rfl, hd, .inr ⟨d, rfl, ?_⟩⟩
      cases e : lookD key ks vs' with
      | some z =>
        rw [e] at k
        obtain ⟨i, h1, h2, h3⟩ := look_get e
        obtain ⟨z', e', rz⟩ := hr.get h2
        exact .inl ⟨z', ⟨i, h1, e', h3⟩, k.ok s _ rz⟩
      | none =>
        rw [e] at k
        refine .inr ⟨?_, k.ok s _ rd⟩
        refine look_none ?_ e
        rcases hd with ⟨kvs, _, _, q1, q2, _⟩ | ⟨_, q, _⟩
        · have := congrArg List.length q1
          have := congrArg List.length q2
          have := hr.length
          simp at *
          omega
        · rw [q, hr.length]
  | join => cases hf
theorem mth_ty {m : Mth} {u : PV} {S : Store} {ι : List Addr} {H : Hp} {u' : V} (s : Sim X.K X.w ι S H) (ro : Rep X.K X.w ι H u u') (hf : methFor m u = true) : tyW X.K X.w (tyOf m) u' H := by
  cases m <;> cases u <;> first
    | (cases hf; done)
    | exact ref_ty s ro
    | (obtain ⟨a, vs, rfl, hd, _⟩ := ro.dctE; exact .inr (.inl ⟨rfl, _, vs, hd⟩))
theorem snd_meth (C : Ctx T c X W r) {m : Mth} {o : Expr} {es : List Expr} {x : Ex} {xs : Exs} {apos cpos : Pos} (ho : PE X o (SE T X W r x)) (ha : PA X es (SEs T X W r xs)) (hst : es.all notStar = true) (hl : es.length < 20) (hx : es.length = lenXs xs) (hb : plainBase o = true) (hline : (apos.endLine == cpos.line) = true) :
    PE X (.Call (.Attribute o ((mthNm m : String) : Str) apos) es [] cpos) (SE T X W r (.meth m x xs)) := by
  have key : ∀ {σ : L2.St} {H : Hp} {Q : VK} {t : TA}, (∀ {σ : L2.St} {H : Hp} {Q : List V → Hp → Prop}, SEs T X W r xs σ H Q → t σ H Q) → SE T X W r (.meth m x xs) σ H Q → tMX X ((mthNm m : String) : Str) (SE T X W r x) t σ H Q := by
    intro σ H Q t ht ⟨ι, S, env, s, er, f⟩
    simp only [evalE] at f
    refine ⟨ι, S, env, s, er, f.bind.imp fun v S1 ι1 H1 g1 s1 k v' rv => ?_⟩
    split at k
    · rename_i hf
      have hm : m ≠ .join := fun e => by subst e; cases hf
      refine ⟨tyOf m, idOf m, _, mth_at C m hm, mth_ty s1 rv hf, ht ⟨ι1, S1, env, s1, er.grow g1, k.bind.imp fun vs S2 ι2 H2 g2 s2 k2 vs' rvs => ?_⟩⟩
      exact mth_ok s2 (rv.grow g2) rvs hf k2
    · exact k.elim
  cases es with
  | nil =>
    cases xs with
    | cons _ _ => simp [lenXs] at hx
    | nil =>
      refine PE.imp (pe_mx0 ho (base_plain hb) hline) fun σ H Q h => key (fun {σ H Q} ⟨ι, S, env, s, er, f⟩ => ?_) h
      simp only [evalEs] at f
      exact f.ok s [] Reps.nil
  | cons e es =>
    simp only [List.all_cons, Bool.and_eq_true] at hst
    refine PE.imp (pe_mx ho ha (base_plain hb) ?_ hline (star_cons hst.1) (star_plain hst.2)) fun σ H Q h => key (fun h => h) h
    rw [star_cons hst.1]
    have e1 : (backTo cpos ((false, eval e X.env) :: starEach es X.env)).all (fun x => !x.1) = true := by
      show (true && (backTo cpos (starEach es X.env)).all (fun x => !x.1)) = true
      rw [star_plain2 hst.2]; rfl
    rw [e1]
    have hl2 : (e :: es).length + 0 + 0 < 30 := by omega
    show (true && decide ((e :: es).length + 0 + 0 < 30)) = true
    rw [decide_eq_true hl2]; rfl
end
end EK

namespace EK
open PySem PySem.Spec PyProof.Rows L2

/-! ### what is walked -/
/-- the walk J bears the steps stp from (ι₀, H₀) on -/
def Bear (K : PySem.W.Frag) (w : World) (J : It) (stp : Nat → Store → Stp) (ι0 : List Addr) (H0 : Hp) : Prop :=
  ∀ ι S H, Grow ι0 H0 ι H → Sim K w ι S H → ∀ i, (stp i S = .stop → J.stop i H) ∧
    ∀ v, stp i S = .item v → J.go i H ∧ ∀ x H', J.yld i H x H' → Grow ι H ι H' ∧ Sim K w ι S H' ∧ Rep K w ι H' v x
/-- the reading of a walk's source -/
def tI (K : PySem.W.Frag) (w : World) (mg : Str → Option Value) (W : WX) (k : IK) (m : Env → Store → Res (List PV)) : TI := fun σ H R => ∃ ι S env, Sim K w ι S H ∧ EnvR K w ι H env σ ∧
  FinG K w mg (WE W σ) ι H (m env S) fun vs S1 ι1 H1 => ∃ n0, lenM k vs S1 = some n0 ∧ ∀ J, Bear K w J (stepM k vs n0) ι1 H1 → R J H1
theorem PI.imp {X : Cx} {tg e : Expr} {t t' : TI} (h : PI X tg e t) (i : ∀ σ H Q, t' σ H Q → t σ H Q) : PI X tg e t' := ⟨fun pins s σ H Q I hw => h.run pins s σ H Q I (i _ _ _ hw)⟩
section
variable {T : Text} {c : Chk} {X : Cx} {W : WX} {r : Nat}
abbrev SI (T : Text) (X : Cx) (W : WX) (r : Nat) (k : IK) (x : Exs) : TI := tI X.K X.w X.mg W k (evalEs (conf T r) x)
/-- a list or a tuple -/
def iSeq (K : PySem.W.Frag) (tl : TE) : TI := fun σ H R => tl σ H fun x H1 => ∃ a, x = .ref a ∧ (((∃ xs, SqL K H1 a xs) ∧ R (Itl K a) H1) ∨ ((∃ xs, SqT K H1 a xs) ∧ R (Itt K a) H1))
theorem pi_seq {tg l : Expr} {tl : TE} (hl : PE X l tl) : PI X tg l (iSeq X.K tl) := by
  refine ⟨fun pins s σ H R I h => ?_⟩
  refine thn (hl.run pins s σ H _ I h) fun v s1 ⟨x, H1, I1, r1, q1⟩ => ?_
  obtain ⟨a, e, q⟩ := q1
  subst e
  obtain rfl : v = Value.ref a := r1
  rcases q with ⟨⟨xs, hq⟩, q⟩ | ⟨⟨xs, hq⟩, q⟩
  · obtain ⟨its, rv, p, hz⟩ := I1.list hq
    refine wpAny_pyIter_list p.isList ?_
    refine ⟨s1.heap.objs.size, [s1.heap.objs.size], _, _, H1, rfl, I1.kept (t' := s1.toks) fun b o e => Heap.get?_push_of_some _ e, turn_list a _, ⟨_, Heap.get?_push_size _ rfl, rfl, rfl⟩, fun b hb => ?_, q⟩
    have e : b = s1.heap.objs.size := by simpa using hb
    subst e
    exact I1.fpOk (Nat.le_refl _) (I1.hok.fresh (Nat.le_refl _))
  · obtain ⟨its, rv, p, hz⟩ := I1.tuple hq
    refine wpAny_pyIter_tuple (show s1.heap.IsTuple a its.toArray from p) ?_
    refine ⟨s1.heap.objs.size, [s1.heap.objs.size], _, _, H1, rfl, I1.kept (t' := s1.toks) fun b o e => Heap.get?_push_of_some _ e, turn_tuple a _, ⟨_, Heap.get?_push_size _ rfl, rfl, rfl⟩, fun b hb => ?_, q⟩
    have e : b = s1.heap.objs.size := by simpa using hb
    subst e
    exact I1.fpOk (Nat.le_refl _) (I1.hok.fresh (Nat.le_refl _))
theorem itemAt_stop {f : PV → PV} {o : Option (List PV)} {i : Nat} (h : itemAt f o i = .stop) : ∃ xs, o = some xs ∧ xs.length ≤ i := by
  unfold itemAt at h
  cases o with
  | none => cases h
  | some xs =>
    simp only at h
    cases q : xs[i]? with
    | none => exact ⟨xs, rfl, List.getElem?_eq_none_iff.mp q⟩
    | some x => rw [q] at h; cases h
theorem itemAt_item {f : PV → PV} {o : Option (List PV)} {i : Nat} {v : PV} (h : itemAt f o i = .item v) : ∃ xs x, o = some xs ∧ xs[i]? = some x ∧ v = f x := by
  unfold itemAt at h
  cases o with
  | none => cases h
  | some xs =>
    simp only at h
    cases q : xs[i]? with
    | none => rw [q] at h; cases h
    | some x => rw [q] at h; cases h; exact ⟨xs, x, rfl, q, rfl⟩
theorem bear_list {K : PySem.W.Frag} {w : World} {n n0 : Nat} {a : Addr} {ι0 : List Addr} {H0 : Hp} (ha : ι0[n]? = some a) : Bear K w (Itl K a) (stepM .over [.ref n] n0) ι0 H0 := fun ι S H g s i => by
  have hn := g.get ha
  refine ⟨fun h => ?_, fun v h => ?_⟩
  · obtain ⟨xs, e, hl⟩ := itemAt_stop (f := id) (o := cellL S n) h
    obtain ⟨b, vs, eb, hs, hr⟩ := s.sq e
    rw [hn] at eb; cases eb
    exact ⟨vs, hs, by rw [hr.length]; exact hl⟩
  · obtain ⟨xs, x, e, hx, rfl⟩ := itemAt_item (f := id) (o := cellL S n) h
    obtain ⟨b, vs, eb, hs, hr⟩ := s.sq e
    rw [hn] at eb; cases eb
    obtain ⟨x', ex, rx⟩ := hr.get hx
    refine ⟨⟨vs, x', hs, ex⟩, fun y H' ⟨e1, e2⟩ => ?_⟩
    subst e1
    have := e2 vs hs
    rw [ex] at this; cases this
    exact ⟨.refl, s, rx⟩
theorem bear_tup {K : PySem.W.Frag} {w : World} {n0 : Nat} {a : Addr} {xs : List PV} {vs : List V} {ι0 : List Addr} {H0 : Hp} (hs : SqT K H0 a vs) (hr : Reps K w ι0 H0 xs vs) (inj : ∀ H, (∃ ι, Grow ι0 H0 ι H) → ∀ ys, SqT K H a ys → ys = vs) :
    Bear K w (Itt K a) (stepM .over [.tup xs] n0) ι0 H0 := fun ι S H g s i => by
  have hs' := SqT.ext g.toExt hs
  have hr' := hr.grow g
  refine ⟨fun h => ?_, fun v h => ?_⟩
  · obtain ⟨ys, e, hl⟩ := itemAt_stop (f := id) (o := some xs) h
    cases e
    exact ⟨vs, hs', by rw [hr.length]; exact hl⟩
  · obtain ⟨ys, x, e, hx, rfl⟩ := itemAt_item (f := id) (o := some xs) h
    cases e
    obtain ⟨x', ex, rx⟩ := hr'.get hx
    refine ⟨⟨vs, x', hs', ex⟩, fun y H' ⟨e1, e2⟩ => ?_⟩
    subst e1
    have := e2 vs hs'
    rw [ex] at this; cases this
    exact ⟨.refl, s, rx⟩
theorem snd_over (C : Ctx T c X W r) {e tg : Expr} {x : Ex} (h : PE X e (SE T X W r x)) : PI X tg e (SI T X W r .over (.cons x .nil)) := by
  refine PI.imp (pi_seq h) fun σ H R ⟨ι, S, env, s, er, f⟩ => ?_
  simp only [evalEs] at f
  refine ⟨ι, S, env, s, er, ?_⟩
  cases q : evalE (conf T r) x env S with
  | bad => rw [q] at f; exact f
  | exc cc fs S1 => rw [q] at f; exact f
  | ok v S1 =>
    rw [q] at f
    intro ι1 H1 g1 s1 v' rv
    obtain ⟨n0, e0, k⟩ := FinG.at (v := [v]) (S := S1) f g1 s1
    cases v with
    | tup xs =>
      obtain ⟨a, vs, rfl, hs, hr⟩ := rv.tupE
      exact ⟨a, rfl, .inr ⟨⟨vs, hs⟩, k _ (by
        refine fun ι S H g s i => ?_
        have hs' := SqT.ext g.toExt hs
        have hr' := hr.grow g
        refine ⟨fun h => ?_, fun v h => ?_⟩
        · obtain ⟨ys, e, hl⟩ := itemAt_stop (f := id) (o := some xs) h
          cases e
          exact ⟨vs, hs', by rw [hr.length]; exact hl⟩
        · obtain ⟨ys, x, e, hx, rfl⟩ := itemAt_item (f := id) (o := some xs) h
          cases e
          obtain ⟨x', ex, rx⟩ := hr'.get hx
          refine ⟨⟨vs, x', hs', ex⟩, fun y H' ⟨e1, e2⟩ => ?_⟩
          subst e1
          have := e2 vs hs'
          rw [ex] at this; cases this
          exact ⟨.refl, s, rx⟩)⟩⟩
    | ref n =>
      obtain ⟨a, rfl, ha⟩ := rv.refE
      obtain ⟨b, vs, eb, hl⟩ := ref_list s1 rv
      cases eb
      exact ⟨a, rfl, .inl ⟨⟨vs, hl⟩, k _ (bear_list ha)⟩⟩
    | _ => cases e0
theorem bear_range {K : PySem.W.Frag} {w : World} {vs : List PV} {lo : Int} {n n0 : Nat} {ι0 : List Addr} {H0 : Hp} (e : rangeM vs = some (rangeP lo n)) : Bear K w (Itr lo n) (stepM .range vs n0) ι0 H0 := fun ι S H g s i => by
  have es : stepM .range vs n0 i S = itemAt id (some (rangeP lo n)) i := by
    simp only [stepM, e]
  rw [es]
  have hl : (rangeP lo n).length = n := by simp [rangeP]
  refine ⟨fun h => ?_, fun v h => ?_⟩
  · obtain ⟨ys, e, hl2⟩ := itemAt_stop h
    cases e
    rw [hl] at hl2; exact hl2
  · obtain ⟨ys, x, e, hx, hv⟩ := itemAt_item h
    have hv : v = x := hv
    subst hv
    cases e
    have hi : i < n := by
      have := (List.getElem?_eq_some_iff.mp hx).1
      rw [hl] at this; exact this
    have ex : v = .int (lo + (i : Nat)) := by
      unfold rangeP at hx
      rw [List.getElem?_map, List.getElem?_range hi] at hx
      exact (Option.some.inj hx).symm
    refine ⟨hi, fun y H' ⟨e1, e2⟩ => ?_⟩
    subst e1 e2 ex
    exact ⟨.refl, s, .ofInt⟩
theorem bear_rangeD {K : PySem.W.Frag} {w : World} {vs : List PV} {lo : Int} {n n0 : Nat} {ι0 : List Addr} {H0 : Hp} (e : rangeM vs = some (rangeD lo n)) : Bear K w (Itc lo (-1) n) (stepM .range vs n0) ι0 H0 := fun ι S H g s i => by
  have es : stepM .range vs n0 i S = itemAt id (some (rangeD lo n)) i := by
    simp only [stepM, e]
  rw [es]
  have hl : (rangeD lo n).length = n := by simp [rangeD]
  refine ⟨fun h => ?_, fun v h => ?_⟩
  · obtain ⟨ys, e, hl2⟩ := itemAt_stop h
    cases e
    rw [hl] at hl2; exact hl2
  · obtain ⟨ys, x, e, hx, hv⟩ := itemAt_item h
    have hv : v = x := hv
    subst hv
    cases e
    have hi : i < n := by
      have := (List.getElem?_eq_some_iff.mp hx).1
      rw [hl] at this; exact this
    have ex : v = .int (lo + (i : Nat) * (-1)) := by
      unfold rangeD at hx
      rw [List.getElem?_map, List.getElem?_range hi] at hx
      exact (Option.some.inj hx).symm
    refine ⟨hi, fun y H' ⟨e1, e2⟩ => ?_⟩
    subst e1 e2 ex
    exact ⟨.refl, s, .ofInt⟩
theorem Reps.three {K : PySem.W.Frag} {w : World} {ι : List Addr} {H : Hp} {x y z : PV} {vs : List V} (h : Reps K w ι H [x, y, z] vs) : ∃ a b c, vs = [a, b, c] ∧ Rep K w ι H x a ∧ Rep K w ι H y b ∧ Rep K w ι H z c := by
  unfold Reps at h
  obtain ⟨v, r, rfl, h1, h2⟩ := h
  obtain ⟨b, c, rfl, h3, h4⟩ := h2.two
  exact ⟨v, b, c, rfl, h1, h3, h4⟩
theorem snd_range (C : Ctx T c X W r) {es : List Expr} {xs : Exs} {tg : Expr} {p pos : Pos} (ha : PA X es (SEs T X W r xs)) (hst : es.all notStar = true) (hn : es.length = lenXs xs) (h1 : 1 ≤ lenXs xs) (h2 : lenXs xs ≤ 3) (hg : isGl c "range" = true) :
    PI X tg (.Call (.Name "range" p) es [] pos) (SI T X W r .range xs) := by
  match es, hn, hst, ha with
  | [], hn, _, _ => simp at hn; omega
  | [a], hn, hst, ha =>
    simp only [List.all_cons, List.all_nil, Bool.and_true] at hst
    refine PI.imp (pi_range1 (C.gl _ hg) (C.free _ (by decide)) ha (star_cons hst)) fun σ H R ⟨ι, S, env, s, er, f⟩ => ?_
    refine ⟨ι, S, env, s, er, (fin_with (P := fun vs => vs.length = 1) f fun v S' h => by rw [evalEs_len h, ← hn]; rfl).imp fun vs S1 ι1 H1 g1 s1 ⟨hl, n0, e0, k⟩ vs' rvs => ?_⟩
    match vs, hl with
    | [v], _ =>
      obtain ⟨v', rfl, rv⟩ := rvs.one
      cases v with
      | int j =>
        cases rv.intE
        simp only [lenM, rangeM] at e0
        split at e0
        · rename_i hb
          have h := fits_iff.mp hb
          exact ⟨j, rfl, h.1, h.2, k _ (bear_range (if_pos hb))⟩
        · cases e0
      | _ => cases e0
  | [a, b], hn, hst, ha =>
    simp only [List.all_cons, List.all_nil, Bool.and_true, Bool.and_eq_true] at hst
    refine PI.imp (pi_range2 (C.gl _ hg) (C.free _ (by decide)) ha (by rw [star_cons hst.1, star_cons hst.2]; rfl) (star_cons hst.2)) fun σ H R ⟨ι, S, env, s, er, f⟩ => ?_
    refine ⟨ι, S, env, s, er, (fin_with (P := fun vs => vs.length = 2) f fun v S' h => by rw [evalEs_len h, ← hn]; rfl).imp fun vs S1 ι1 H1 g1 s1 ⟨hl, n0, e0, k⟩ vs' rvs => ?_⟩
    match vs, hl with
    | [u, v], _ =>
      obtain ⟨u', v', rfl, ru, rv⟩ := rvs.two
      cases u with
      | int i =>
        cases v with
        | int j =>
          cases rv.intE; cases ru.intE
          simp only [lenM, rangeM] at e0
          split at e0
          · rename_i hb
            have h := Bool.and_eq_true_iff.mp hb
            have h1 := fits_iff.mp h.1
            have h2 := fits_iff.mp h.2
            exact ⟨i, j, rfl, ⟨h1.1, h1.2, h2.1, h2.2⟩, k _ (bear_range (if_pos hb))⟩
          · cases e0
        | _ => cases e0
      | _ => cases e0
  | [a, b, d], hn, hst, ha =>
    simp only [List.all_cons, List.all_nil, Bool.and_true, Bool.and_eq_true] at hst
    refine PI.imp (pi_range3 (C.gl _ hg) (C.free _ (by decide)) ha (star_cons hst.1) (star_plain (by simp [hst.2.1, hst.2.2]))) fun σ H R ⟨ι, S, env, s, er, f⟩ => ?_
    refine ⟨ι, S, env, s, er, (fin_with (P := fun vs => vs.length = 3) f fun v S' h => by rw [evalEs_len h, ← hn]; rfl).imp fun vs S1 ι1 H1 g1 s1 ⟨hl, n0, e0, k⟩ vs' rvs => ?_⟩
    match vs, hl with
    | [u, v, z], _ =>
      obtain ⟨u', v', z', rfl, ru, rv, rz⟩ := rvs.three
      cases u with
      | int i =>
        cases v with
        | int j =>
          cases z with
          | int q =>
            cases rv.intE; cases ru.intE; cases rz.intE
            simp only [lenM, rangeM] at e0
            split at e0
            · rename_i hb
              have hb' := hb
              simp only [Bool.and_eq_true, decide_eq_true_eq] at hb
              obtain ⟨⟨rfl, h3⟩, h4⟩ := hb
              have h1 := fits_iff.mp h3
              have h2 := fits_iff.mp h4
              exact ⟨i, j, -1, _, rfl, .neg h1.1 h1.2 h2.1 h2.2, k _ (bear_rangeD (if_pos hb'))⟩
            · cases e0
          | _ => cases e0
        | _ => cases e0
      | _ => cases e0
  | _ :: _ :: _ :: _ :: _, hn, _, _ => simp at hn; omega
theorem bear_enum {K : PySem.W.Frag} {w : World} {n n0 : Nat} {a : Addr} {ι0 : List Addr} {H0 : Hp} (ha : ι0[n]? = some a) : Bear K w (Ite K a) (stepM .enum [.ref n] n0) ι0 H0 := fun ι S H g s i => by
  have hn := g.get ha
  refine ⟨fun h => ?_, fun v h => ?_⟩
  · obtain ⟨xs, e, hl⟩ := itemAt_stop (f := fun x => .tup [.int i, x]) (o := cellL S n) h
    obtain ⟨b, vs, eb, hs, hr⟩ := s.sq e
    rw [hn] at eb; cases eb
    exact ⟨vs, hs, by rw [hr.length]; exact hl⟩
  · obtain ⟨xs, x, e, hx, rfl⟩ := itemAt_item (f := fun x => .tup [.int i, x]) (o := cellL S n) h
    obtain ⟨b, vs, eb, hs, hr⟩ := s.sq e
    rw [hn] at eb; cases eb
    obtain ⟨x', ex, rx⟩ := hr.get hx
    refine ⟨⟨vs, x', hs, ex⟩, fun y H' ⟨t, z, e1, e2, e3, e4⟩ => ?_⟩
    subst e1 e3
    have := e4 vs hs
    rw [ex] at this; cases this
    have g : Grow ι H ι (upd H t (.tup [.int (i : Nat), x'])) := .laid e2
    exact ⟨g, s.laid e2, .ofTup (SqT.of upd_same) (Reps.cons .ofInt (Reps.cons (rx.grow g) Reps.nil))⟩
theorem bear_rev {K : PySem.W.Frag} {w : World} {n m : Nat} {a : Addr} {ι0 : List Addr} {H0 : Hp} (ha : ι0[n]? = some a) : Bear K w (Itv K a m) (stepM .rev [.ref n] m) ι0 H0 := fun ι S H g s i => by
  have hn := g.get ha
  by_cases hi : m ≤ i
  · have es : stepM .rev [.ref n] m i S = .stop := if_pos hi
    rw [es]
    exact ⟨fun _ => hi, fun v h => nomatch h⟩
  · have es : stepM .rev [.ref n] m i S = match cellL S n with
      | some xs => match xs[m - 1 - i]? with
        | some x => .item x
        | none => .bad
      | none => .bad := if_neg hi
    rw [es]
    refine ⟨fun h => ?_, fun v h => ?_⟩
    · split at h
      · split at h <;> cases h
      · cases h
    · split at h
      · rename_i xs e
        obtain ⟨b, vs, eb, hs, hr⟩ := s.sq e
        rw [hn] at eb; cases eb
        split at h
        · rename_i x hx
          cases h
          obtain ⟨x', ex, rx⟩ := hr.get hx
          refine ⟨⟨by omega, vs, x', hs, ex⟩, fun y H' ⟨e1, e2⟩ => ?_⟩
          subst e1
          have := e2 vs hs
          rw [ex] at this; cases this
          exact ⟨.refl, s, rx⟩
        · cases h
      · cases h
theorem snd_enum (C : Ctx T c X W r) {a : Expr} {x : Ex} {elts : List Expr} {kk : Nat} {tpos p pos : Pos} (ha : PA X [a] (SEs T X W r (.cons x .nil))) (hst : notStar a = true) (hg : isGl c "enumerate" = true) :
    PI X (.Tuple elts kk tpos) (.Call (.Name "enumerate" p) [a] [] pos) (SI T X W r .enum (.cons x .nil)) := by
  refine PI.imp (pi_enum (C.gl _ hg) (C.free _ (by decide)) ha (star_cons hst)) fun σ H R ⟨ι, S, env, s, er, f⟩ => ?_
  refine ⟨ι, S, env, s, er, (fin_with (P := fun vs => vs.length = 1) f fun v S' h => evalEs_len h).imp fun vs S1 ι1 H1 g1 s1 ⟨hl, n0, e0, k⟩ vs' rvs => ?_⟩
  match vs, hl with
  | [v], _ =>
    obtain ⟨v', rfl, rv⟩ := rvs.one
    cases v with
    | ref n =>
      obtain ⟨b, vs, rfl, hl⟩ := ref_list s1 rv
      obtain ⟨_, eb, ha⟩ := rv.refE
      cases eb
      exact ⟨b, vs, rfl, hl, k _ (bear_enum ha)⟩
    | _ => cases e0
theorem snd_rev (C : Ctx T c X W r) {a tg : Expr} {x : Ex} {p pos : Pos} (ha : PA X [a] (SEs T X W r (.cons x .nil))) (hst : notStar a = true) (hg : isGl c "reversed" = true) :
    PI X tg (.Call (.Name "reversed" p) [a] [] pos) (SI T X W r .rev (.cons x .nil)) := by
  refine PI.imp (pi_reversed (C.gl _ hg) (C.free _ (by decide)) ha (star_cons hst)) fun σ H R ⟨ι, S, env, s, er, f⟩ => ?_
  refine ⟨ι, S, env, s, er, (fin_with (P := fun vs => vs.length = 1) f fun v S' h => evalEs_len h).imp fun vs S1 ι1 H1 g1 s1 ⟨hl, n0, e0, k⟩ vs' rvs => ?_⟩
  match vs, hl with
  | [v], _ =>
    obtain ⟨v', rfl, rv⟩ := rvs.one
    cases v with
    | ref n =>
      obtain ⟨_, eb, ha⟩ := rv.refE
      cases eb
      simp only [lenM] at e0
      cases q : cellL S1 n with
      | none => rw [q] at e0; cases e0
      | some xs =>
        rw [q] at e0; cases e0
        obtain ⟨b, vs, eb, hs, hr⟩ := s1.sq q
        rw [ha] at eb; cases eb
        exact ⟨_, vs, rfl, hs, by rw [hr.length]; exact k _ (bear_rev ha)⟩
    | _ => cases e0
theorem bear_zip {K : PySem.W.Frag} {w : World} {m n n0 : Nat} {a b : Addr} {ι0 : List Addr} {H0 : Hp} (ha : ι0[m]? = some a) (hb : ι0[n]? = some b) : Bear K w (Itz K a b) (stepM .zip [.ref m, .ref n] n0) ι0 H0 := fun ι S H g s i => by
  have hm := g.get ha
  have hn := g.get hb
  simp only [stepM]
  cases q1 : cellL S m with
  | none => exact ⟨fun h => by simp at h, fun v h => by simp at h⟩
  | some xs =>
    cases q2 : cellL S n with
    | none => exact ⟨fun h => by simp at h, fun v h => by simp at h⟩
    | some ys =>
      obtain ⟨b1, us, eb, hs, hr⟩ := s.sq q1
      rw [hm] at eb; cases eb
      obtain ⟨b2, vs, eb, hs2, hr2⟩ := s.sq q2
      rw [hn] at eb; cases eb
      simp only [zipAt]
      cases e1 : xs[i]? with
      | none => exact ⟨fun _ => ⟨us, vs, hs, hs2, .inl (by rw [hr.length]; exact List.getElem?_eq_none_iff.mp e1)⟩, fun v h => nomatch h⟩
      | some x =>
        cases e2 : ys[i]? with
        | none => exact ⟨fun _ => ⟨us, vs, hs, hs2, .inr (by rw [hr2.length]; exact List.getElem?_eq_none_iff.mp e2)⟩, fun v h => nomatch h⟩
        | some y =>
          refine ⟨fun h => (nomatch h), fun v h => ?_⟩
          cases h
          obtain ⟨x', ex, rx⟩ := hr.get e1
          obtain ⟨y', ey, ry⟩ := hr2.get e2
          refine ⟨⟨us, vs, x', y', hs, hs2, ex, ey⟩, fun z H' ⟨t, z1, z2, f1, f2, f3, f4, f5⟩ => ?_⟩
          subst f1 f3
          have := f4 us hs
          rw [ex] at this; cases this
          have := f5 vs hs2
          rw [ey] at this; cases this
          have g : Grow ι H ι (upd H t (.tup [x', y'])) := .laid f2
          exact ⟨g, s.laid f2, .ofTup (SqT.of upd_same) (Reps.cons (rx.grow g) (Reps.cons (ry.grow g) Reps.nil))⟩
theorem bear_zipT {K : PySem.W.Frag} {w : World} {n0 : Nat} {a b : Addr} {xs ys : List PV} {us vs : List V} {ι0 : List Addr} {H0 : Hp} (h1 : SqT K H0 a us) (hr1 : Reps K w ι0 H0 xs us) (h2 : SqT K H0 b vs) (hr2 : Reps K w ι0 H0 ys vs) :
    Bear K w (RZ.ItzT K a b) (stepM .zip [.tup xs, .tup ys] n0) ι0 H0 := fun ι S H g s i => by
  have hs := SqT.ext g.toExt h1
  have hr := hr1.grow g
  have hs2 := SqT.ext g.toExt h2
  have hr2 := hr2.grow g
  simp only [stepM, zipAt]
  cases e1 : xs[i]? with
  | none => exact ⟨fun _ => ⟨us, vs, hs, hs2, .inl (by rw [hr.length]; exact List.getElem?_eq_none_iff.mp e1)⟩, fun v h => nomatch h⟩
  | some x =>
    cases e2 : ys[i]? with
    | none => exact ⟨fun _ => ⟨us, vs, hs, hs2, .inr (by rw [hr2.length]; exact List.getElem?_eq_none_iff.mp e2)⟩, fun v h => nomatch h⟩
    | some y =>
      refine ⟨fun h => (nomatch h), fun v h => ?_⟩
      cases h
      obtain ⟨x', ex, rx⟩ := hr.get e1
      obtain ⟨y', ey, ry⟩ := hr2.get e2
      refine ⟨⟨us, vs, x', y', hs, hs2, ex, ey⟩, fun z H' ⟨t, z1, z2, f1, f2, f3, f4, f5⟩ => ?_⟩
      subst f1 f3
      have := f4 us hs
      rw [ex] at this; cases this
      have := f5 vs hs2
      rw [ey] at this; cases this
      have g : Grow ι H ι (upd H t (.tup [x', y'])) := .laid f2
      exact ⟨g, s.laid f2, .ofTup (SqT.of upd_same) (Reps.cons (rx.grow g) (Reps.cons (ry.grow g) Reps.nil))⟩
theorem snd_zip (C : Ctx T c X W r) {a b : Expr} {x y : Ex} {elts : List Expr} {kk : Nat} {tpos p pos : Pos} (ha : PA X [a, b] (SEs T X W r (.cons x (.cons y .nil)))) (hst : notStar a = true) (hst2 : notStar b = true) (hg : isGl c "zip" = true) :
    PI X (.Tuple elts kk tpos) (.Call (.Name "zip" p) [a, b] [] pos) (SI T X W r .zip (.cons x (.cons y .nil))) := by
  refine PI.imp (RZ.pi_zipA (C.gl _ hg) (C.free _ (by decide)) ha (star_cons hst) (star_plain (by simp [hst2]))) fun σ H R ⟨ι, S, env, s, er, f⟩ => ?_
  refine ⟨ι, S, env, s, er, (fin_with (P := fun vs => vs.length = 2) f fun v S' h => evalEs_len h).imp fun vs S1 ι1 H1 g1 s1 ⟨hl, n0, e0, k⟩ vs' rvs => ?_⟩
  match vs, hl with
  | [u, v], _ =>
    obtain ⟨u', v', rfl, ru, rv⟩ := rvs.two
    cases u with
    | ref m =>
      cases v with
      | ref n =>
        obtain ⟨b1, us, rfl, h1⟩ := ref_list s1 ru
        obtain ⟨_, eb, ha⟩ := ru.refE
        cases eb
        obtain ⟨b2, ws, rfl, h2⟩ := ref_list s1 rv
        obtain ⟨_, eb, hb⟩ := rv.refE
        cases eb
        exact ⟨_, _, us, ws, rfl, .inl ⟨h1, h2, k _ (bear_zip ha hb)⟩⟩
      | _ => cases e0
    | tup xs =>
      cases v with
      | tup ys =>
        obtain ⟨a1, us, rfl, h1, r1⟩ := ru.tupE
        obtain ⟨a2, ws, rfl, h2, r2⟩ := rv.tupE
        exact ⟨_, _, us, ws, rfl, .inr ⟨h1, h2, k _ (bear_zipT h1 r1 h2 r2)⟩⟩
      | _ => cases e0
    | _ => cases e0
theorem callIt_of {f : Expr → Ex → Bool} {iter : Expr} {nm : Str} {src : Exs} (C : Ctx T c X W r) (hf : ∀ e x, f e x = true → PE X e (SE T X W r x)) (h : callIt c f iter nm src = true) :
    ∃ p es pos, iter = .Call (.Name nm p) es [] pos ∧ isGl c nm = true ∧ PA X es (SEs T X W r src) ∧ es.all notStar = true ∧ es.length = lenXs src := by
  unfold callIt at h
  split at h
  · rename_i n p es pos
    simp only [Bool.and_eq_true, decide_eq_true_eq] at h
    obtain ⟨⟨h1, rfl⟩, h2⟩ := h
    obtain ⟨ha, hst⟩ := snd_es C hf h2
    refine ⟨p, es, pos, rfl, h1, ha, hst, ?_⟩
    clear ha hst
    induction es generalizing src with
    | nil => cases src <;> simp [chkEs] at h2; rfl
    | cons e es ih =>
      cases src with
      | nil => simp [chkEs] at h2
      | cons x xs =>
        simp only [chkEs, Bool.and_eq_true] at h2
        rw [List.length_cons, ih h2.2]; rfl
  · cases h
theorem isTup_of {tg : Expr} (h : isTup tg = true) : ∃ es k p, tg = .Tuple es k p := by
  cases tg <;> first | (cases h; done) | exact ⟨_, _, _, rfl⟩
/-- a walk's source by its look -/
theorem snd_it (C : Ctx T c X W r) {f : Expr → Ex → Bool} (hf : ∀ e x, f e x = true → PE X e (SE T X W r x)) {iter tg : Expr} {k : IK} {src : Exs} (h : chkIt c f iter tg k src = true) : PI X tg iter (SI T X W r k src) := by
  cases k with
  | over =>
    unfold chkIt at h
    match src, h with
    | .cons x .nil, h => exact snd_over C (hf _ _ h)
    | .nil, h => simp at h
    | .cons _ (.cons _ _), h => simp at h
  | range =>
    simp only [chkIt, Bool.and_eq_true, decide_eq_true_eq] at h
    obtain ⟨p, es, pos, rfl, h1, ha, hst, hn⟩ := callIt_of C hf h.1.1
    exact snd_range C ha hst hn h.1.2 h.2 h1
  | enum =>
    simp only [chkIt, Bool.and_eq_true, decide_eq_true_eq] at h
    obtain ⟨p, es, pos, rfl, h1, ha, hst, hn⟩ := callIt_of C hf h.1.1
    obtain ⟨ts, k, tp, rfl⟩ := isTup_of h.2
    match es, src, hn, h.1.2, ha, hst with
    | [a], .cons x .nil, _, _, ha, hst =>
      simp only [List.all_cons, List.all_nil, Bool.and_true] at hst
      exact snd_enum C ha hst h1
    | _, .nil, _, h3, _, _ => simp [lenXs] at h3
    | _, .cons _ (.cons _ _), _, h3, _, _ => simp [lenXs] at h3
    | [], .cons _ .nil, h3, _, _, _ => simp [lenXs] at h3
    | _ :: _ :: _, .cons _ .nil, h3, _, _, _ => simp [lenXs] at h3
  | zip =>
    simp only [chkIt, Bool.and_eq_true, decide_eq_true_eq] at h
    obtain ⟨p, es, pos, rfl, h1, ha, hst, hn⟩ := callIt_of C hf h.1.1
    obtain ⟨ts, k, tp, rfl⟩ := isTup_of h.2
    match es, src, hn, h.1.2, ha, hst with
    | [a, b], .cons x (.cons y .nil), _, _, ha, hst =>
      simp only [List.all_cons, List.all_nil, Bool.and_true, Bool.and_eq_true] at hst
      exact snd_zip C ha hst.1 hst.2 h1
    | _, .nil, _, h3, _, _ => simp [lenXs] at h3
    | _, .cons _ .nil, _, h3, _, _ => simp [lenXs] at h3
    | _, .cons _ (.cons _ (.cons _ _)), _, h3, _, _ => simp [lenXs] at h3
    | [], .cons _ (.cons _ .nil), h3, _, _, _ => simp [lenXs] at h3
    | [_], .cons _ (.cons _ .nil), h3, _, _, _ => simp [lenXs] at h3
    | _ :: _ :: _ :: _, .cons _ (.cons _ .nil), h3, _, _, _ => simp [lenXs] at h3
  | rev =>
    simp only [chkIt, Bool.and_eq_true, decide_eq_true_eq] at h
    obtain ⟨p, es, pos, rfl, h1, ha, hst, hn⟩ := callIt_of C hf h.1
    match es, src, hn, h.2, ha, hst with
    | [a], .cons x .nil, _, _, ha, hst =>
      simp only [List.all_cons, List.all_nil, Bool.and_true] at hst
      exact snd_rev C ha hst h1
    | _, .nil, _, h3, _, _ => simp [lenXs] at h3
    | _, .cons _ (.cons _ _), _, h3, _, _ => simp [lenXs] at h3
    | [], .cons _ .nil, h3, _, _, _ => simp [lenXs] at h3
    | _ :: _ :: _, .cons _ .nil, h3, _, _, _ => simp [lenXs] at h3
end
end EK

namespace EK
open PySem PySem.Spec PyProof.Rows L2

/-! ### targets -/
section
variable {K : PySem.W.Frag} {w : World} {ι : List Addr} {H : Hp}
theorem EnvR.set {env : Env} {σ : L2.St} {v : PV} {v' : V} (i : Nat) (h : EnvR K w ι H env σ) (r : Rep K w ι H v v') : EnvR K w ι H (env.set i (some v)) (σ.set i (some v')) := by
  refine ⟨by rw [List.length_set, List.length_set]; exact h.1, fun j x e => ?_⟩
  by_cases hj : j = i
  · subst hj
    have hl : j < env.length := by
      have := (List.getElem?_eq_some_iff.mp e).1
      simpa using this
    rw [List.getElem?_set_self hl] at e
    cases e
    exact ⟨v', by rw [List.getElem?_set_self (by rw [← h.1]; exact hl)], r⟩
  · rw [List.getElem?_set_ne (fun z => hj z.symm)] at e
    obtain ⟨u, e2, r2⟩ := h.2 j x e
    exact ⟨u, by rw [List.getElem?_set_ne (fun z => hj z.symm)]; exact e2, r2⟩
theorem EnvR.none {env : Env} {σ : L2.St} (i : Nat) (h : EnvR K w ι H env σ) : EnvR K w ι H (env.set i none) (σ.set i none) := by
  refine ⟨by rw [List.length_set, List.length_set]; exact h.1, fun j x e => ?_⟩
  by_cases hj : j = i
  · subst hj
    have hl : j < env.length := by
      have := (List.getElem?_eq_some_iff.mp e).1
      simpa using this
    rw [List.getElem?_set_self hl] at e
    cases e
  · rw [List.getElem?_set_ne (fun z => hj z.symm)] at e
    obtain ⟨u, e2, r2⟩ := h.2 j x e
    exact ⟨u, by rw [List.getElem?_set_ne (fun z => hj z.symm)]; exact e2, r2⟩
theorem EnvR.wipe {env : Env} {σ : L2.St} (h : EnvR K w ι H env σ) : ∀ vs : List Nat, EnvR K w ι H (wipeE env vs) (L2.wipe σ vs)
  | [] => h
  | v :: vs => (EnvR.wipe h vs).none v
theorem wipe_set {x y : Option V} {i : Nat} {σ : L2.St} : ∀ vs : List Nat, (L2.wipe (σ.set i x) vs).set i y = (L2.wipe σ vs).set i y
  | [] => by simp [L2.wipe]
  | v :: vs => by
    unfold L2.wipe
    by_cases h : v = i
    · subst h
      rw [wipe_set vs, List.set_set]
    · rw [List.set_comm _ _ h, wipe_set vs, List.set_comm _ _ (fun e => h e.symm)]
theorem wipe_own {x : Option V} {i : Nat} {σ : L2.St} : ∀ {vs : List Nat}, i ∈ vs → L2.wipe (σ.set i x) vs = L2.wipe σ vs
  | v :: vs, h => by
    unfold L2.wipe
    by_cases e : v = i
    · subst e
      exact wipe_set vs
    · rw [wipe_own (vs := vs) (by
        rcases List.mem_cons.mp h with h | h
        · exact absurd h.symm e
        · exact h)]
end
/-- the reading of a target -/
def tT (K : PySem.W.Frag) (w : World) (t : Tgt) : TG := fun v' σ H Q => ∃ ι S env v env', Sim K w ι S H ∧ EnvR K w ι H env σ ∧ Rep K w ι H v v' ∧ asgM t v env = some env' ∧
  ∀ σ', EnvR K w ι H env' σ' → (∀ vs : List Nat, inOwn vs t = true → L2.wipe σ' vs = L2.wipe σ vs) → Q σ' H
theorem PG.imp {X : Cx} {e : Expr} {t t' : TG} (h : PG X e t) (i : ∀ v σ H Q, t' v σ H Q → t v σ H Q) : PG X e t' := ⟨fun pins s σ H v u Q I r hw => h.run pins s σ H v u Q I r (i _ _ _ _ hw)⟩
section
variable {T : Text} {c : Chk} {X : Cx} {W : WX} {r : Nat}
theorem loc_of (C : Ctx T c X W r) {x : Str} (h : isTg c x = true) : Loc X.env.scope x ∧ (X.fn x = true ∨ X.env.scope.names.lookup x = some .local) := C.tg x h
def gIs : List Nat → TGs
  | [] => gNil
  | i :: is => gCons (gName i) (gIs is)
theorem snd_is (C : Ctx T c X W r) : ∀ {es : List Expr} {is : List Nat}, chkIs c es is = true → PGs X es (gIs is) ∧ es.all notStar = true ∧ es.length = is.length
  | [], [], _ => ⟨pgs_nil, rfl, rfl⟩
  | .Name x p :: es, i :: is, h => by
    simp only [chkIs, Bool.and_eq_true, decide_eq_true_eq] at h
    obtain ⟨h1, h2, h3⟩ := snd_is C h.2
    obtain ⟨l1, l2⟩ := loc_of C h.1.2
    exact ⟨pgs_cons (pg_name C.nd (C.name h.1.1) l1 l2) h1, by simp [notStar, h2], by simp [h3]⟩
  | [], _ :: _, h => by simp [chkIs] at h
  | e :: _, [], h => by cases e <;> simp [chkIs] at h
  | .BoolOp .. :: _, _ :: _, h => by simp [chkIs] at h
  | .NamedExpr .. :: _, _ :: _, h => by simp [chkIs] at h
  | .BinOp .. :: _, _ :: _, h => by simp [chkIs] at h
  | .UnaryOp .. :: _, _ :: _, h => by simp [chkIs] at h
  | .Lambda .. :: _, _ :: _, h => by simp [chkIs] at h
  | .IfExp .. :: _, _ :: _, h => by simp [chkIs] at h
  | .Dict .. :: _, _ :: _, h => by simp [chkIs] at h
  | .Set .. :: _, _ :: _, h => by simp [chkIs] at h
  | .ListComp .. :: _, _ :: _, h => by simp [chkIs] at h
  | .SetComp .. :: _, _ :: _, h => by simp [chkIs] at h
  | .DictComp .. :: _, _ :: _, h => by simp [chkIs] at h
  | .GeneratorExp .. :: _, _ :: _, h => by simp [chkIs] at h
  | .Await .. :: _, _ :: _, h => by simp [chkIs] at h
  | .Yield .. :: _, _ :: _, h => by simp [chkIs] at h
  | .YieldFrom .. :: _, _ :: _, h => by simp [chkIs] at h
  | .Compare .. :: _, _ :: _, h => by simp [chkIs] at h
  | .Call .. :: _, _ :: _, h => by simp [chkIs] at h
  | .FormattedValue .. :: _, _ :: _, h => by simp [chkIs] at h
  | .JoinedStr .. :: _, _ :: _, h => by simp [chkIs] at h
  | .Constant .. :: _, _ :: _, h => by simp [chkIs] at h
  | .Attribute .. :: _, _ :: _, h => by simp [chkIs] at h
  | .Subscript .. :: _, _ :: _, h => by simp [chkIs] at h
  | .Starred .. :: _, _ :: _, h => by simp [chkIs] at h
  | .List .. :: _, _ :: _, h => by simp [chkIs] at h
  | .Tuple .. :: _, _ :: _, h => by simp [chkIs] at h
  | .Slice .. :: _, _ :: _, h => by simp [chkIs] at h
theorem gIs_read {K : PySem.W.Frag} {w : World} : ∀ {is : List Nat} {vs : List PV} {vs' : List V} {env env' : Env} {σ : L2.St} {ι : List Addr} {H : Hp} {Q : L2.St → Hp → Prop}, setSlots env is vs = some env' → EnvR K w ι H env σ → Reps K w ι H vs vs' →
    (∀ σ', EnvR K w ι H env' σ' → (∀ ws : List Nat, is.all ws.contains = true → L2.wipe σ' ws = L2.wipe σ ws) → Q σ' H) → gIs is vs' σ H Q
  | [], [], vs', env, env', σ, ι, H, Q, e, er, rs, q => by
    unfold Reps at rs
    cases e
    exact ⟨rs, q σ er fun _ _ => rfl⟩
  | i :: is, v :: vs, vs', env, env', σ, ι, H, Q, e, er, rs, q => by
    unfold Reps at rs
    obtain ⟨v', r', rfl, h1, h2⟩ := rs
    refine ⟨v', r', rfl, ?_⟩
    refine gIs_read (is := is) e (er.set i h1) h2 fun σ' e' hw => q σ' e' fun ws hws => ?_
    simp only [List.all_cons, Bool.and_eq_true] at hws
    rw [hw ws hws.2]
    exact wipe_own (List.contains_iff_mem.mp hws.1)
  | [], _ :: _, _, _, _, _, _, _, _, e, _, _, _ => by cases e
  | _ :: _, [], _, _, _, _, _, _, _, e, _, _, _ => by cases e
theorem set_len {env env' : Env} : ∀ {is : List Nat} {vs : List PV}, setSlots env is vs = some env' → is.length = vs.length := by
  intro is
  induction is generalizing env with
  | nil => intro vs h; cases vs <;> first | rfl | cases h
  | cons i is ih =>
    intro vs h
    cases vs with
    | nil => cases h
    | cons v vs => rw [List.length_cons, List.length_cons, ih h]
theorem assignEach_len {env : PySem.Env} : ∀ {es : List Expr}, es.all notStar = true → (assignEach es env).length = es.length ∧ (assignEach es env).findIdx? (·.1) = none
  | [], _ => ⟨rfl, rfl⟩
  | e :: es, h => by
    simp only [List.all_cons, Bool.and_eq_true] at h
    obtain ⟨h1, h2⟩ := assignEach_len (env := env) h.2
    have e1 : assignEach (e :: es) env = (false, assign e env) :: assignEach es env := by
      cases e <;> first | rfl | (simp [notStar] at h)
    rw [e1]
    exact ⟨by simp [h1], by simp [List.findIdx?_cons, h2]⟩
theorem snd_tg (C : Ctx T c X W r) {e : Expr} {t : Tgt} (h : chkTg c e t = true) : PG X e (tT X.K X.w t) := by
  cases t with
  | nm i =>
    cases e <;> try (simp [chkTg] at h; done)
    rename_i x p
    simp only [chkTg, Bool.and_eq_true, decide_eq_true_eq] at h
    obtain ⟨l1, l2⟩ := loc_of C h.2
    refine PG.imp (pg_name C.nd (C.name h.1) l1 l2) fun v' σ H Q ⟨ι, S, env, v, env', s, er, rv, e, q⟩ => ?_
    cases e
    exact q _ (er.set i rv) fun vs hvs => wipe_own (List.contains_iff_mem.mp hvs)
  | tp is =>
    cases e <;> try (simp [chkTg] at h; done)
    rename_i es k p
    simp only [chkTg] at h
    obtain ⟨h1, h2, h3⟩ := snd_is C h
    obtain ⟨a1, a2⟩ := assignEach_len (env := X.env) h2
    refine PG.imp (pg_tup (n := es.length) C.calm h1 a1 a2) fun v' σ H Q ⟨ι, S, env, v, env', s, er, rv, e, q⟩ => ?_
    cases v with
    | tup vs =>
      obtain ⟨a, us, rfl, hs, hr⟩ := rv.tupE
      refine ⟨a, us, rfl, hs, ?_, gIs_read e er hr q⟩
      rw [hr.length, h3]
      exact (set_len e).symm
    | _ => cases e

/-! ### comprehensions -/
theorem lookup_map (g : Str → NameKind → NameKind) (x : Str) : ∀ l : List (Str × NameKind), (l.map fun p => (p.1, g p.1 p.2)).lookup x = (l.lookup x).map (g x)
  | [] => rfl
  | (n, k) :: l => by
    rw [List.map_cons, List.lookup_cons, List.lookup_cons]
    cases h : x == n with
    | true =>
      have : x = n := beq_iff_eq.mp h
      subst this; rfl
    | false => exact lookup_map g x l
def relG (env : PySem.Env) (n : Str) (k : NameKind) : NameKind := if (k == .free && env.scope.kind == .function && env.kindOf n == some .cell) then .cell else k
theorem relabel_lookup (scope : Scope) (env : PySem.Env) (x : Str) : (relabel scope env).names.lookup x = (scope.names.lookup x).map (relG env x) := by
  rw [← lookup_map]
  unfold relabel relG
  congr 1
  apply List.map_congr_left
  rintro ⟨n, k⟩ _
  simp only
  split <;> rfl
theorem relG_other {env : PySem.Env} {n : Str} {k : NameKind} (h : k ≠ .free) : relG env n k = k := by
  unfold relG
  have : (k == NameKind.free) = false := beq_eq_false_iff_ne.mpr h
  rw [this]; rfl
theorem relG_free {env : PySem.Env} {n : Str} : relG env n .free = .cell ∨ relG env n .free = .free := by
  unfold relG
  split
  · exact .inl rfl
  · exact .inr rfl
def ownP (N : List Str) (own : List Nat) : List (Str × Nat) := own.map fun i => (N.getD i "", i)
theorem ownP_ix {N : List Str} {own : List Nat} : (ownP N own).map (·.2) = own := by
  unfold ownP
  rw [List.map_map]
  exact List.map_id _
theorem blk_ctx (C : Ctx T c X W r) {scope : Scope} {cl : List (Str × Addr)} {L : Addr} {s : Shared} {H : Hp} {fp : List Addr} : Ctx T { c with names := scope.names } (X.blk s H scope (compEnvC scope cl L X.env) fp) (fun _ _ _ _ => False) r where
  hN := C.hN
  nd := C.nd
  vis := fun x h => by
    show Vis (relabel scope X.env) x
    unfold Vis
    rw [relabel_lookup]
    unfold isVis at h
    split at h
    · rename_i e
      have e : scope.names.lookup x = some .local := e
      rw [e]; exact .inl rfl
    · rename_i e
      have e : scope.names.lookup x = some .cell := e
      rw [e]; exact .inr (.inl rfl)
    · rename_i e
      have e : scope.names.lookup x = some .free := e
      rw [e, Option.map_some]
      rcases relG_free (env := X.env) (n := x) with q | q
      · exact .inr (.inl (congrArg some q))
      · exact .inr (.inr (congrArg some q))
    · cases h
  loc := fun x h => by
    show (relabel scope X.env).names.lookup x = _
    rw [relabel_lookup]
    unfold isLoc at h
    split at h
    · rename_i e
      have e : scope.names.lookup x = some .local := e
      rw [e]; rfl
    · cases h
  tg := fun x h => by
    unfold isTg at h
    split at h
    · rename_i e
      have e : scope.names.lookup x = some .local := e
      have q : (relabel scope X.env).names.lookup x = some .local := by rw [relabel_lookup, e]; rfl
      exact ⟨.inl q, .inr q⟩
    · rename_i e
      have e : scope.names.lookup x = some .cell := e
      have q : (relabel scope X.env).names.lookup x = some .cell := by rw [relabel_lookup, e]; rfl
      refine ⟨.inr q, .inl ?_⟩
      show (scope.names.lookup x == some .cell) = true
      rw [e]; rfl
    · cases h
  gl := fun x h => by
    show (relabel scope X.env).names.lookup x = _
    rw [relabel_lookup]
    unfold isGl at h
    split at h
    · rename_i e
      have e : scope.names.lookup x = some .globalImplicit := e
      rw [e]; rfl
    · cases h
  fre := fun x h => by
    show (relabel scope X.env).names.lookup x = _ ∨ (relabel scope X.env).names.lookup x = _
    rw [relabel_lookup]
    have h : scope.names.lookup x = some .cell ∨ scope.names.lookup x = some .free := h
    rcases h with e | e
    · rw [e]; exact .inl rfl
    · rw [e, Option.map_some]
      rcases relG_free (env := X.env) (n := x) with q | q
      · exact .inl (congrArg some q)
      · exact .inr (congrArg some q)
  cel := fun x h => by
    show (relabel scope X.env).names.lookup x = _
    rw [relabel_lookup]
    have h : scope.names.lookup x = some .cell := h
    rw [h]; rfl
  calm := C.calm
  room := C.room
  tk := takes0
  fns := C.fns
  free := C.free
  exc := C.exc
  glob := C.glob
theorem wipe_none {σ : L2.St} {a : Nat} : ∀ {ws : List Nat}, a ∈ ws → (L2.wipe σ ws).set a none = L2.wipe σ ws
  | [], h => nomatch h
  | b :: ws, h => by
    show ((L2.wipe σ ws).set b none).set a none = (L2.wipe σ ws).set b none
    by_cases e : b = a
    · subst e; rw [List.set_set]
    · rw [List.set_comm _ _ e, wipe_none ((List.mem_cons.mp h).resolve_left fun q => e q.symm)]
/-- what is forgotten twice is forgotten -/
theorem wipe_idem {σ : L2.St} : ∀ (vs ws : List Nat), (∀ a ∈ vs, a ∈ ws) → L2.wipe (L2.wipe σ ws) vs = L2.wipe σ ws
  | [], _, _ => rfl
  | a :: vs, ws, h => by
    show (L2.wipe (L2.wipe σ ws) vs).set a none = L2.wipe σ ws
    rw [wipe_idem vs ws fun b hb => h b (List.mem_cons_of_mem _ hb), wipe_none (h a List.mem_cons_self)]
/-- the turns' reading, over the store -/
theorem comp_read {own : List Nat} {tg : Tgt} {k : IK} {src cond : Exs} {elt : Ex} {σ : L2.St} {H : Hp} {Q : VK} (hown : inOwn own tg = true) (hc : lenXs cond ≤ 1)
    (h : SE T X W r (.comp own tg k src cond elt) σ H Q) :
    tLc (SI T X W r k src) (tT X.K X.w tg) (tMt X.K X.w X.mg (fun _ _ _ _ => False) (evalC (conf T r) cond)) (SE T X (fun _ _ _ _ => False) r elt) own σ H Q := by
  obtain ⟨ι, S, env, s, er, f⟩ := h
  simp only [evalE] at f
  refine ⟨ι, S, env, s, er, f.bind.imp fun vs S1 ι1 H1 g1 s1 f1 => ?_⟩
  cases e0 : lenM k vs S1 with
  | none => simp only [e0] at f1; exact f1.elim
  | some n0 =>
    simp only [e0] at f1
    refine ⟨n0, rfl, fun J bear D hD => ?_⟩
    have hp : Grow ι1 H1 (ι1 ++ [D]) (upd H1 D (.lst [])) := .cell hD
    let turn : PV → Store → Res (Option PV) := fun v S2 => match asgM tg v (wipeE env own) with
      | none => .bad
      | some e1 => (evalC (conf T r) cond e1 S2).bind fun b S3 => if b then (evalE (conf T r) elt e1 S3).bind fun y S4 => .ok (some y) S4 else .ok none S3
    let Wn : Nat → Nat → Hp → Prop := fun i m H => ∃ ι S, Grow ι1 H1 ι H ∧ Sim X.K X.w ι S H ∧ ι[S1.length]? = some D ∧
      FinG X.K X.w X.mg (WE W σ) ι H (compLoop (stepM k vs n0) turn S1.length m i S) (wantV X.K X.w Q)
    refine ⟨Wn, ⟨n0 + 1, ι1 ++ [D], S1 ++ [.lst []], hp, s1.new hD Reps.nil, newIx s1.len, FinG.grow hp f1⟩, fun i m H2 hW => ?_⟩
    obtain ⟨ι2, S2, g2, s2, hd2, f2⟩ := hW
    cases m with
    | zero => exact f2.elim
    | succ m =>
      simp only [compLoop] at f2
      obtain ⟨b1, b2⟩ := bear ι2 S2 H2 g2 s2 i
      cases es : stepM k vs n0 i S2 with
      | bad => simp only [es] at f2; exact f2.elim
      | stop =>
        simp only [es] at f2
        exact .inl ⟨b1 es, f2.ok s2 _ (.ofRef hd2)⟩
      | item v =>
        simp only [es] at f2
        obtain ⟨hgo, hy⟩ := b2 v es
        refine .inr ⟨hgo, fun H' => Wn (i + 1) m H', fun H' hN => ⟨m, Nat.lt_succ_self m, hN⟩, fun x H3 hx => ?_⟩
        obtain ⟨g3, s3, rx⟩ := hy x H3 hx
        have er3 : EnvR X.K X.w ι2 H3 (wipeE env own) (L2.wipe σ own) := (((er.grow g1).grow g2).grow g3).wipe own
        cases ea : asgM tg v (wipeE env own) with
        | none => simp only [turn, ea] at f2; exact f2.elim
        | some e1 =>
          refine ⟨ι2, S2, wipeE env own, v, e1, s3, er3, rx, ea, fun σ2 er4 hw => ⟨?_, ?_⟩⟩
          · rw [hw own hown]
            exact wipe_idem own own fun _ h => h
          · refine ⟨ι2, S2, e1, s3, er4, ?_⟩
            simp only [turn, ea] at f2
            cases ec : evalC (conf T r) cond e1 S2 with
            | bad => simp only [ec, Res.bind] at f2; exact f2.elim
            | exc cc fs S3 => simp only [ec, Res.bind] at f2; exact f2.elim
            | ok b S3 =>
              simp only [ec, Res.bind] at f2
              intro ι4 H4 g4 s4
              cases b with
              | false =>
                rw [if_neg Bool.false_ne_true]
                simp only [if_neg Bool.false_ne_true] at f2
                exact ⟨ι4, S3, (g2.trans g3).trans g4, s4, g4.get hd2, FinG.grow (g3.trans g4) f2⟩
              | true =>
                rw [if_pos rfl]
                simp only [if_pos] at f2
                refine ⟨ι4, S3, e1, s4, er4.grow g4, ?_⟩
                cases ee : evalE (conf T r) elt e1 S3 with
                | bad => simp only [ee] at f2; exact f2.elim
                | exc cc fs S5 => simp only [ee] at f2; exact f2.elim
                | ok y S5 =>
                  simp only [ee] at f2
                  intro ι5 H5 g5 s5 y' ry
                  have hd5 : ι5[S1.length]? = some D := g5.get (g4.get hd2)
                  split at f2
                  · rename_i acc q
                    obtain ⟨D', acc', eD, hacc, racc⟩ := s5.lst q
                    rw [hd5] at eD; cases eD
                    split at f2
                    · rename_i hl
                      refine ⟨acc', hacc, by rw [racc.length]; exact hl, ι5, _, ?_, s5.write hd5 hacc (racc.append (Reps.cons ry Reps.nil)) (List.getElem?_eq_some_iff.mp q).1, hd5, FinG.grow ?_ f2⟩
                      · exact (((g2.trans g3).trans g4).trans g5).trans (.write hd5 hacc)
                      · exact ((g3.trans g4).trans g5).trans (.write hd5 hacc)
                    · exact f2.elim
                  · exact f2.elim
end
end EK

namespace EK
open PySem PySem.Spec PyProof.Rows L2
section
variable {T : Text} {c : Chk} {X : Cx} {W : WX} {r : Nat}

/-! ### tests -/
theorem snd_plain2 (C : Ctx T c X W r) {f : Expr → Ex → Bool} (hf : ∀ e x, f e x = true → PE X e (SE T X W r x)) {x : Ex} {e : Expr} (h : (plainTest e && f e x) = true) : PT X e (ST T X W r x) ∧ ∀ o es p, e = .BoolOp o es p → PW X e (ST T X W r x) := by
  simp only [Bool.and_eq_true] at h
  exact ⟨snd_plainT C h.1 (hf _ _ h.2), fun o es p q => by subst q; simp [plainTest] at h⟩
theorem snd_test (C : Ctx T c X W r) {f : Expr → Ex → Bool} (hf : ∀ e x, f e x = true → PE X e (SE T X W r x)) : ∀ (x : Ex) (e : Expr), chkT f x e = true → PT X e (ST T X W r x) ∧ ∀ o es p, e = .BoolOp o es p → PW X e (ST T X W r x)
  | .and x y, e, h => by
    unfold chkT at h
    split at h
    · rename_i a b p
      simp only [Bool.and_eq_true] at h
      have h1 := (snd_test C hf x a h.1).1
      have h2 := (snd_test C hf y b h.2).1
      have w : PW X (.BoolOp .And [a, b] p) (ST T X W r (.and x y)) := snd_andT C h1 (pw_and1 h2)
      exact ⟨w.pt, fun _ _ _ _ => w⟩
    · rename_i a b d rest p
      simp only [Bool.and_eq_true] at h
      have h1 := (snd_test C hf x a h.1).1
      have h2 := (snd_test C hf y _ h.2).2 _ _ _ rfl
      have w : PW X (.BoolOp .And (a :: b :: d :: rest) p) (ST T X W r (.and x y)) := snd_andT C h1 h2
      exact ⟨w.pt, fun _ _ _ _ => w⟩
    · cases h
  | .or x y, e, h => by
    unfold chkT at h
    split at h
    · rename_i a b p
      simp only [Bool.and_eq_true] at h
      have h1 := (snd_test C hf x a h.1).1
      have h2 := (snd_test C hf y b h.2).1
      have w : PW X (.BoolOp .Or [a, b] p) (ST T X W r (.or x y)) := snd_orT C h1 (pw_or1 h2)
      exact ⟨w.pt, fun _ _ _ _ => w⟩
    · rename_i a b d rest p
      simp only [Bool.and_eq_true] at h
      have h1 := (snd_test C hf x a h.1).1
      have h2 := (snd_test C hf y _ h.2).2 _ _ _ rfl
      have w : PW X (.BoolOp .Or (a :: b :: d :: rest) p) (ST T X W r (.or x y)) := snd_orT C h1 h2
      exact ⟨w.pt, fun _ _ _ _ => w⟩
    · cases h
  | .not x, e, h => by
    unfold chkT at h
    split at h
    · exact ⟨snd_notT C (snd_test C hf x _ h).1, fun _ _ _ e => by cases e⟩
    · cases h
  | .cmp op x y, e, h => by
    unfold chkT at h
    split at h
    · simp only [Bool.and_eq_true, decide_eq_true_eq, Bool.not_eq_true'] at h
      obtain ⟨⟨⟨rfl, h1⟩, h2⟩, h3⟩ := h
      exact ⟨snd_cmpT C (hf _ _ h1) (hf _ _ h2) h3, fun _ _ _ e => by cases e⟩
    · cases h
  | .chn x y z, e, h => by
    unfold chkT at h
    split at h
    · simp only [Bool.and_eq_true] at h
      exact ⟨snd_chnT C (hf _ _ h.1.1) (hf _ _ h.1.2) (hf _ _ h.2), fun _ _ _ e => by cases e⟩
    · cases h
  | .isN x, e, h => by
    unfold chkT at h
    split at h
    · exact ⟨snd_isNT C (hf _ _ h), fun _ _ _ e => by cases e⟩
    · cases h
  | .notN x, e, h => by
    unfold chkT at h
    split at h
    · exact ⟨snd_notNT C (hf _ _ h), fun _ _ _ e => by cases e⟩
    · cases h
  | .slot i, e, h => snd_plain2 C hf h
  | .cst i, e, h => snd_plain2 C hf h
  | .glo i, e, h => snd_plain2 C hf h
  | .tup i, e, h => snd_plain2 C hf h
  | .lst i, e, h => snd_plain2 C hf h
  | .dsp .., e, h => snd_plain2 C hf h
  | .bin .., e, h => snd_plain2 C hf h
  | .neg .., e, h => snd_plain2 C hf h
  | .ite .., e, h => snd_plain2 C hf h
  | .ix .., e, h => snd_plain2 C hf h
  | .sl .., e, h => snd_plain2 C hf h
  | .call .., e, h => snd_plain2 C hf h
  | .lrg .., e, h => snd_plain2 C hf h
  | .prim .., e, h => snd_plain2 C hf h
  | .meth .., e, h => snd_plain2 C hf h
  | .isT .., e, h => snd_plain2 C hf h
  | .comp .., e, h => snd_plain2 C hf h
theorem snd_conds (C : Ctx T c X W r) {f : Expr → Ex → Bool} (hf : ∀ e x, f e x = true → PE X e (SE T X W r x)) : ∀ {es : List Expr} {xs : Exs}, chkCs f es xs = true → PTs X es (tMt X.K X.w X.mg W (evalC (conf T r) xs)) 
  | [], .nil, _ => by
    refine ⟨fun pins s σ H Q I h => pts_nil.run pins s σ H Q I ?_⟩
    obtain ⟨ι, S, env, s, er, f⟩ := h
    simp only [evalC] at f
    exact f.ok s
  | [e], .cons x .nil, h => by
    simp only [chkCs] at h
    refine ⟨fun pins s σ H Q I h' => (pts_one (snd_test C hf x e h).1).run pins s σ H Q I ?_⟩
    obtain ⟨ι, S, env, s, er, f⟩ := h'
    simp only [evalC] at f
    exact ⟨ι, S, env, s, er, f⟩
  | [], .cons _ _, h => by simp [chkCs] at h
  | [_], .nil, h => by simp [chkCs] at h
  | [_], .cons _ (.cons _ _), h => by simp [chkCs] at h
  | _ :: _ :: _, .nil, h => by simp [chkCs] at h
  | _ :: _ :: _, .cons _ _, h => by simp [chkCs] at h

theorem conds_len {f : Expr → Ex → Bool} : ∀ {es : List Expr} {xs : Exs}, chkCs f es xs = true → lenXs xs ≤ 1
  | [], .nil, _ => by decide
  | [e], .cons x .nil, h => Nat.le_refl _
  | [], .cons _ _, h => by simp [chkCs] at h
  | [_], .nil, h => by simp [chkCs] at h
  | [_], .cons _ (.cons _ _), h => by simp [chkCs] at h
  | _ :: _ :: _, .nil, h => by simp [chkCs] at h
  | _ :: _ :: _, .cons _ _, h => by simp [chkCs] at h
/-! ### comprehensions -/
def blkB (c : Chk) (scope : Scope) (own : List Nat) : Bool := (match scope.kind with
            | .function => true
            | _ => false) && (scope.names.all fun y => decide (scope.names.lookup y.1 = some y.2)) && (scope.names.all fun y => match y.2 with
              | .free => (match c.names.lookup y.1 with
                | some .cell => true
                | some .free => true
                | _ => false)
              | .local => (own.any fun i => decide (c.N[i]? = some y.1)) || decide (y.1 ∉ c.N)
              | .cell => (own.any fun i => decide (c.N[i]? = some y.1)) || decide (y.1 ∉ c.N)
              | _ => true) && own.all fun i => decide (i < c.N.length)
theorem blk_ok (C : Ctx T c X W r) {scope : Scope} {own : List Nat} (h : blkB c scope own = true) : BlkOk X.N X.env.scope scope (ownP X.N own) := by
  unfold blkB at h
  simp only [Bool.and_eq_true, List.all_eq_true, decide_eq_true_eq] at h
  obtain ⟨⟨⟨h1, h2⟩, h3⟩, h4⟩ := h
  have own_ok : ∀ y : Str × NameKind, ((own.any fun i => decide (c.N[i]? = some y.1)) || decide (y.1 ∉ c.N)) = true → y.1 ∈ (ownP X.N own).map (·.1) ∨ y.1 ∉ X.N := fun y h => by
    simp only [Bool.or_eq_true, List.any_eq_true, decide_eq_true_eq] at h
    rcases h with ⟨i, hi, e⟩ | h
    · refine .inl ?_
      unfold ownP
      rw [List.map_map]
      refine List.mem_map.mpr ⟨i, hi, ?_⟩
      show X.N.getD i "" = y.1
      rw [List.getD_eq_getElem?_getD, C.name e]; rfl
    · exact .inr (by rw [C.hN]; exact h)
  refine ⟨?_, h2, ?_, ?_, ?_⟩
  · cases hk : scope.kind <;> rw [hk] at h1 <;> first | rfl | cases h1
  · intro p hp
    unfold ownP at hp
    obtain ⟨i, hi, rfl⟩ := List.mem_map.mp hp
    have : i < X.N.length := by rw [C.hN]; exact h4 i hi
    show X.N[i]? = some (X.N.getD i "")
    rw [List.getD_eq_getElem?_getD, List.getElem?_eq_getElem this]; rfl
  · intro y hy e
    have := h3 y hy
    rw [e] at this
    simp only at this
    refine C.fre y.1 ?_
    split at this
    · rename_i q; exact .inl q
    · rename_i q; exact .inr q
    · cases this
  · intro y hy e
    have := h3 y hy
    rcases e with e | e <;> rw [e] at this <;> exact own_ok y this
theorem folded_no {iter : Expr} {env : PySem.Env} (h : notSet iter = true) : ∀ x, foldedSetIterable iter env x = pure x := fun x => by
  cases iter <;> first | rfl | (simp [notSet] at h)
def chkLc (T : Text) (n : Nat) (c : Chk) (e : Expr) (own : List Nat) (tg : Tgt) (k : IK) (src cond : Exs) (elt : Ex) : Bool := chkE T (n + 1) c e (.comp own tg k src cond elt)
structure LcOk (T : Text) (n : Nat) (c : Chk) (own : List Nat) (tg : Tgt) (k : IK) (src cond : Exs) (elt : Ex) (el tge iter : Expr) (ifs : List Expr) (scope : Scope) : Prop where
  it : chkIt c (chkE T n c) iter tge k src = true
  tgt : chkTg { c with names := scope.names } tge tg = true
  inown : inOwn own tg = true
  cond : chkCs (chkE T n { c with names := scope.names }) ifs cond = true
  elt : chkE T n { c with names := scope.names } el elt = true
  set : notSet iter = true
  blk : blkB c scope own = true
theorem lc_of {n : Nat} {e : Expr} {own : List Nat} {tg : Tgt} {k : IK} {src cond : Exs} {elt : Ex} (h : chkE T (n + 1) c e (.comp own tg k src cond elt) = true) : ∃ el tge iter ifs scope p, e = .ListComp el [⟨tge, iter, ifs, 0⟩] scope p ∧ LcOk T n c own tg k src cond elt el tge iter ifs scope := by
  simp only [chkE] at h
  split at h
  · rename_i el tge iter ifs scope p
    simp only [Bool.and_eq_true] at h
    obtain ⟨⟨⟨⟨⟨⟨⟨⟨⟨h1, h2⟩, h3⟩, h4⟩, h5⟩, h6⟩, h7⟩, h8⟩, h9⟩, h10⟩ := h
    refine ⟨_, _, _, _, _, _, rfl, ⟨h1, h2, h3, h4, h5, h6, ?_⟩⟩
    unfold blkB
    simp only [Bool.and_eq_true]
    exact ⟨⟨⟨h7, h8⟩, h9⟩, h10⟩
  · cases h
theorem snd_comp (C : Ctx T c X W r) {n : Nat} (ih : ∀ (c : Chk) (X : Cx) (W : WX) (r : Nat) (e : Expr) (x : Ex), Ctx T c X W r → chkE T n c e x = true → PE X e (SE T X W r x)) {own : List Nat} {tg : Tgt} {k : IK} {src cond : Exs} {elt : Ex} {el tge iter : Expr} {ifs : List Expr} {scope : Scope} {p : Pos}
    (L : LcOk T n c own tg k src cond elt el tge iter ifs scope) : PE X (.ListComp el [⟨tge, iter, ifs, 0⟩] scope p) (SE T X W r (.comp own tg k src cond elt)) := by
  refine PE.imp (pe_lc (own := ownP X.N own) (wi := SI T X W r k src) (g := tT X.K X.w tg) (tt := tMt X.K X.w X.mg (fun _ _ _ _ => False) (evalC (conf T r) cond)) (te := SE T X (fun _ _ _ _ => False) r elt) C.calm C.nd
    (snd_it C (fun e x h => ih c X W r e x C h) L.it) (blk_ok C L.blk) (fun s H L' cl fp => snd_tg (X := X.blk s H scope (compEnvC scope cl L' X.env) fp) (blk_ctx C) L.tgt) (fun s H L' cl fp => snd_conds (X := X.blk s H scope (compEnvC scope cl L' X.env) fp) (blk_ctx C) (fun e x h => ih _ _ _ _ e x (blk_ctx C) h) L.cond)
    (fun s H L' cl fp => ih _ (X.blk s H scope (compEnvC scope cl L' X.env) fp) _ _ _ _ (blk_ctx C) L.elt) (folded_no L.set)) fun σ H Q h => ?_
  rw [ownP_ix]
  exact comp_read L.inown (conds_len L.cond) h
end
end EK

namespace EK
open PySem PySem.Spec PyProof.Rows L2
theorem chkEs_len {f : Expr → Ex → Bool} : ∀ {es : List Expr} {xs : Exs}, chkEs f es xs = true → es.length = lenXs xs
  | [], .nil, _ => rfl
  | e :: es, .cons x xs, h => by
    simp only [chkEs, Bool.and_eq_true] at h
    rw [List.length_cons, chkEs_len h.2]; rfl
  | [], .cons _ _, h => by simp [chkEs] at h
  | _ :: _, .nil, h => by simp [chkEs] at h
theorem chkKs_len : ∀ {es : List (Option Expr)} {xs : List Str}, chkKs es xs = true → es.length = xs.length
  | [], [], _ => rfl
  | some (.Constant (.str k) _ _) :: es, q :: qs, h => by
    simp only [chkKs, Bool.and_eq_true] at h
    rw [List.length_cons, List.length_cons, chkKs_len h.2]
  | [], _ :: _, h => by simp [chkKs] at h
  | _ :: _, [], h => by simp [chkKs] at h
theorem primNm_pos (p : Prim) : 1 ≤ (primNm p).2 := by cases p <;> decide
/-- every expression that the look passes reckons what its term says -/
theorem snd_E {T : Text} : ∀ (n : Nat) (c : Chk) (X : Cx) (W : WX) (r : Nat) (e : Expr) (x : Ex), Ctx T c X W r → chkE T n c e x = true → PE X e (SE T X W r x)
  | 0, _, _, _, _, _, _, _, h => by simp [chkE] at h
  | n + 1, c, X, W, r, e, x, C, h => by
    have ih : ∀ e x, chkE T n c e x = true → PE X e (SE T X W r x) := fun e x h => snd_E n c X W r e x C h
    cases x with
    | slot i =>
      simp only [chkE] at h
      split at h
      · simp only [Bool.and_eq_true, decide_eq_true_eq, Bool.not_eq_true'] at h
        exact snd_slot C h.1.1.1 h.1.1.2 h.1.2 h.2
      · cases h
    | cst v =>
      simp only [chkE] at h
      split at h
      · exact snd_cst C h
      · cases h
    | glo z =>
      simp only [chkE] at h
      split at h
      · simp only [Bool.and_eq_true, decide_eq_true_eq, Bool.not_eq_true'] at h
        obtain ⟨⟨rfl, h1⟩, h2⟩ := h
        exact snd_glo C h1 h2
      · cases h
    | tup xs =>
      simp only [chkE] at h
      split at h
      · exact snd_tup C (snd_es C ih h).1
      · cases h
    | lst xs =>
      simp only [chkE] at h
      split at h
      · exact snd_lst C (snd_es C ih h).1
      · cases h
    | dsp ks xs =>
      simp only [chkE] at h
      split at h
      · simp only [Bool.and_eq_true, decide_eq_true_eq] at h
        obtain ⟨⟨⟨⟨⟨h1, h2⟩, h3⟩, h4⟩, h5⟩, h6⟩ := h
        obtain ⟨p1, p2, p3⟩ := snd_pps C ih h1 h2 h3
        exact snd_dsp C p1 p2 p3 (chkKs_len h1) h3 h4 h5 h6
      · cases h
    | bin op x y =>
      simp only [chkE] at h
      split at h
      · simp only [Bool.and_eq_true, decide_eq_true_eq] at h
        obtain ⟨⟨rfl, h1⟩, h2⟩ := h
        exact snd_bin C (ih _ _ h1) (ih _ _ h2)
      · cases h
    | neg x =>
      simp only [chkE] at h
      split at h
      · exact snd_neg C (ih _ _ h)
      · cases h
    | not x =>
      simp only [chkE] at h
      split at h
      · exact snd_not C (ih _ _ h)
      · cases h
    | cmp op x y =>
      simp only [chkE] at h
      split at h
      · simp only [Bool.and_eq_true, decide_eq_true_eq, Bool.not_eq_true'] at h
        obtain ⟨⟨⟨rfl, h1⟩, h2⟩, h3⟩ := h
        exact snd_cmp C (ih _ _ h1) (ih _ _ h2) h3
      · cases h
    | chn x y z =>
      simp only [chkE] at h
      split at h
      · simp only [Bool.and_eq_true] at h
        exact snd_chn C (ih _ _ h.1.1) (ih _ _ h.1.2) (ih _ _ h.2)
      · cases h
    | and x y =>
      simp only [chkE] at h
      split at h
      · simp only [Bool.and_eq_true] at h
        exact snd_and C (ih _ _ h.1) (pe_one (ih _ _ h.2))
      · simp only [Bool.and_eq_true] at h
        exact snd_and C (ih _ _ h.1) (ih _ _ h.2)
      · cases h
    | or x y =>
      simp only [chkE] at h
      split at h
      · simp only [Bool.and_eq_true] at h
        exact snd_or C (ih _ _ h.1) (pe_one (ih _ _ h.2))
      · simp only [Bool.and_eq_true] at h
        exact snd_or C (ih _ _ h.1) (ih _ _ h.2)
      · cases h
    | ite x y z =>
      simp only [chkE] at h
      split at h
      · simp only [Bool.and_eq_true] at h
        exact snd_ite C (snd_test C ih _ _ h.1.1).1 (ih _ _ h.1.2) (ih _ _ h.2)
      · cases h
    | isN x =>
      simp only [chkE] at h
      split at h
      · exact snd_isN C (ih _ _ h)
      · cases h
    | notN x =>
      simp only [chkE] at h
      split at h
      · exact snd_notN C (ih _ _ h)
      · cases h
    | ix x y =>
      simp only [chkE] at h
      split at h
      · simp only [Bool.and_eq_true] at h
        exact snd_ix C (ih _ _ h.1.2) (ih _ _ h.2) h.1.1
      · cases h
    | sl x lo hi =>
      simp only [chkE] at h
      split at h
      · rename_i a l hh p2 p
        simp only [Bool.and_eq_true] at h
        obtain ⟨⟨h1, h2⟩, h3⟩ := h
        have pl : PO X l (SP T X W r lo) := by
          split at h2
          · exact snd_po0
          · exact snd_po1 (ih _ _ h2)
          · cases h2
        have ph : PO X hh (SP T X W r hi) := by
          split at h3
          · exact snd_po0
          · exact snd_po1 (ih _ _ h3)
          · cases h3
        exact snd_sl C (ih _ _ h1) pl ph
      · cases h
    | call f xs =>
      simp only [chkE] at h
      split at h
      · simp only [Bool.and_eq_true, decide_eq_true_eq, Bool.not_eq_true'] at h
        obtain ⟨⟨⟨⟨rfl, h1⟩, h2⟩, h3⟩, h4⟩ := h
        split at h4
        · rename_i fi hf
          simp only [Bool.and_eq_true, decide_eq_true_eq] at h4
          obtain ⟨p1, p2⟩ := snd_es C ih h3
          exact snd_call C p1 p2 (chkEs_len h3) h1 h2 hf h4.1 h4.2
        · cases h4
      · cases h
    | lrg xs =>
      simp only [chkE] at h
      split at h
      · simp only [Bool.and_eq_true, decide_eq_true_eq] at h
        obtain ⟨⟨⟨⟨rfl, h1⟩, rfl⟩, h2⟩, h3⟩ := h
        exact snd_lrg C ih h3 h1 h2
      · cases h
    | prim p xs =>
      simp only [chkE] at h
      split at h
      · simp only [Bool.and_eq_true, decide_eq_true_eq] at h
        obtain ⟨⟨⟨⟨rfl, h1⟩, h2⟩, h3⟩, h4⟩ := h
        obtain ⟨p1, p2⟩ := snd_es C ih h3
        refine snd_prim C p1 p2 ?_ ?_ h1
        · intro e
          have q1 := chkEs_len h3
          have q2 := primNm_pos p
          rw [e, h4] at q1
          simp at q1; omega
        · intro e; subst e; cases h2
      · cases h
    | meth m x xs =>
      simp only [chkE] at h
      split at h
      · simp only [Bool.and_eq_true, decide_eq_true_eq] at h
        obtain ⟨⟨⟨⟨⟨rfl, h1⟩, h2⟩, h3⟩, h4⟩, h5⟩ := h
        obtain ⟨p1, p2⟩ := snd_es C ih h4
        exact snd_meth C (ih _ _ h3) p1 p2 (by rw [chkEs_len h4]; exact h5) (chkEs_len h4) h1 h2
      · cases h
    | isT t x =>
      simp only [chkE] at h
      split at h
      · simp only [Bool.and_eq_true, decide_eq_true_eq] at h
        obtain ⟨⟨⟨⟨⟨rfl, h1⟩, h2⟩, h3⟩, rfl⟩, h5⟩ := h
        exact snd_isT C (ih _ _ h3) h2 h1 h5
      · cases h
    | comp own tg k src cond elt =>
      obtain ⟨el, tge, iter, ifs, scope, p, rfl, L⟩ := lc_of h
      exact snd_comp C (snd_E n) L
end EK

namespace EK
open PySem PySem.Spec PyProof.Rows L2

/-! ### statements -/
def FinS (K : PySem.W.Frag) (w : World) (mg : Str → Option Value) (W : WX) (D : Ends) (ι : List Addr) (H : Hp) (m : SRes) : Prop := match m with
  | .nx env S => ∀ ι' H' σ', Grow ι H ι' H' → Sim K w ι' S H' → EnvR K w ι' H' env σ' → D.nx σ' H'
  | .brk env S => ∀ ι' H' σ', Grow ι H ι' H' → Sim K w ι' S H' → EnvR K w ι' H' env σ' → D.bk σ' H'
  | .ct env S => ∀ ι' H' σ', Grow ι H ι' H' → Sim K w ι' S H' → EnvR K w ι' H' env σ' → D.ct σ' H'
  | .ret v S => ∀ ι' H', Grow ι H ι' H' → Sim K w ι' S H' → ∀ v', Rep K w ι' H' v v' → D.rt v' H'
  | .exc c fs env S => fs = [] ∧ ∀ ι' H' σ' cls, Grow ι H ι' H' → Sim K w ι' S H' → EnvR K w ι' H' env σ' → mg c = some cls → W cls none σ' H'
  | .bad => False
def tSm (K : PySem.W.Frag) (w : World) (mg : Str → Option Value) (W : WX) (m : Env → Store → SRes) : TS := fun D σ H => ∃ ι S env, Sim K w ι S H ∧ EnvR K w ι H env σ ∧ FinS K w mg W D ι H (m env S)
section
variable {K : PySem.W.Frag} {w : World} {mg : Str → Option Value} {W : WX} {D D' : Ends} {ι ι' : List Addr} {H H' : Hp}
theorem FinS.grow {m : SRes} (g : Grow ι H ι' H') (h : FinS K w mg W D ι H m) : FinS K w mg W D ι' H' m := by
  cases m with
  | nx env S => exact fun i2 H2 σ' g2 => h i2 H2 σ' (g.trans g2)
  | brk env S => exact fun i2 H2 σ' g2 => h i2 H2 σ' (g.trans g2)
  | ct env S => exact fun i2 H2 σ' g2 => h i2 H2 σ' (g.trans g2)
  | ret v S => exact fun i2 H2 g2 => h i2 H2 (g.trans g2)
  | exc c fs env S => exact ⟨h.1, fun i2 H2 σ' cls g2 => h.2 i2 H2 σ' cls (g.trans g2)⟩
  | bad => exact h
theorem FinS.thn {m : SRes} {f : Env → Store → SRes} (h : FinS K w mg W D ι H (m.thn f)) : FinS K w mg W { D with nx := tSm K w mg W f D } ι H m := by
  cases m with
  | nx env S => exact fun i2 H2 σ' g2 s2 e2 => ⟨i2, S, env, s2, e2, h.grow g2⟩
  | brk env S => exact h
  | ct env S => exact h
  | ret v S => exact h
  | exc c fs env S => exact h
  | bad => exact h
/-- an expression within a statement -/
theorem FinS.ex {env : Env} {σ : L2.St} {m : Res PV} {f : PV → Store → SRes} (h : FinS K w mg W D ι H (m.sbind env f)) (er : EnvR K w ι H env σ) :
    FinG K w mg (WE W σ) ι H m fun v S i2 H2 => FinS K w mg W D i2 H2 (f v S) := by
  cases m with
  | ok v S => exact fun i2 H2 g2 s2 => FinS.grow g2 h
  | exc c fs S => exact ⟨h.1, fun i2 H2 cls g2 s2 hc => h.2 i2 H2 σ cls g2 s2 (er.grow g2) hc⟩
  | bad => exact h
end
structure SCtx (T : Text) (c : Chk) (X : Cx) (W : WX) (r : Nat) : Prop extends Ctx T c X W r where
  pass : PassesOwn (model X.prog X.w) X.A X.env X.xe
section
variable {T : Text} {c : Chk} {X : Cx} {W : WX} {r : Nat}
abbrev SS (T : Text) (X : Cx) (W : WX) (r : Nat) (x : Sm) : TS := tSm X.K X.w X.mg W (execS (conf T r) x)
abbrev SSs (T : Text) (X : Cx) (W : WX) (r : Nat) (x : Sms) : TS := tSm X.K X.w X.mg W (execSs (conf T r) x)
theorem snd_nil : PSs X [] (SSs T X W r .nil) := PSs.imp pss_nil fun D σ H ⟨ι, S, env, s, er, f⟩ => by
  simp only [execSs] at f
  exact f ι H σ .refl s er
theorem snd_cons {st : Stmt} {rest : List Stmt} {x : Sm} {xs : Sms} (h1 : PS X st (SS T X W r x)) (h2 : PSs X rest (SSs T X W r xs)) : PSs X (st :: rest) (SSs T X W r (.cons x xs)) :=
  PSs.imp (pss_cons h1 h2) fun D σ H ⟨ι, S, env, s, er, f⟩ => by
    simp only [execSs] at f
    exact ⟨ι, S, env, s, er, f.thn⟩
theorem snd_pass {p : Pos} : PS X (.Pass p) (SS T X W r .pass) := PS.imp ps_pass fun D σ H ⟨ι, S, env, s, er, f⟩ => by
  simp only [execS] at f
  exact f ι H σ .refl s er
theorem snd_doc {x : Str} {j : Nat} {p p' : Pos} : PS X (.Expr (.Constant (.str x) j p) p') (SS T X W r .pass) := PS.imp ps_doc fun D σ H ⟨ι, S, env, s, er, f⟩ => by
  simp only [execS] at f
  exact f ι H σ .refl s er
theorem snd_exp {e : Expr} {x : Ex} {p : Pos} (h : PE X e (SE T X W r x)) (hc : notComp e = true) : PS X (.Expr e p) (SS T X W r (.exp x)) := PS.imp (ps_expr h (swaps_no hc)) fun D σ H ⟨ι, S, env, s, er, f⟩ => by
  simp only [execS] at f
  exact ⟨ι, S, env, s, er, (f.ex er).imp fun v S1 ι1 H1 g1 s1 k v' rv => k ι1 H1 σ .refl s1 (er.grow g1)⟩
theorem snd_ret {e : Expr} {x : Ex} {p : Pos} (h : PE X e (SE T X W r x)) : PS X (.Return (some e) p) (SS T X W r (.ret x)) := PS.imp (ps_ret h) fun D σ H ⟨ι, S, env, s, er, f⟩ => by
  simp only [execS] at f
  exact ⟨ι, S, env, s, er, (f.ex er).imp fun v S1 ι1 H1 g1 s1 k v' rv => k ι1 H1 .refl s1 v' rv⟩
/-- the target's store, read -/
theorem asg_read {t : Tgt} {v : PV} {env : Env} {S : Store} {σ : L2.St} {ι : List Addr} {H : Hp} {D : Ends} {v' : V} (s : Sim X.K X.w ι S H) (er : EnvR X.K X.w ι H env σ) (rv : Rep X.K X.w ι H v v')
    (k : FinS X.K X.w X.mg W D ι H (match asgM t v env with
      | some e1 => .nx e1 S
      | none => .bad)) : tT X.K X.w t v' σ H D.nx := by
  cases e : asgM t v env with
  | none => rw [e] at k; exact k.elim
  | some e1 =>
    rw [e] at k
    exact ⟨ι, S, env, v, e1, s, er, rv, e, fun σ' e2 _ => k ι H σ' .refl s e2⟩
theorem asgS_read {t : Tgt} {x : Ex} {D : Ends} {σ : L2.St} {H : Hp} (h : SS T X W r (.asg t x) D σ H) : tAsg (SE T X W r x) (tT X.K X.w t) D σ H := by
  obtain ⟨ι, S, env, s, er, f⟩ := h
  simp only [execS] at f
  exact ⟨ι, S, env, s, er, (f.ex er).imp fun v S1 ι1 H1 g1 s1 k v' rv => asg_read s1 (er.grow g1) rv k⟩
theorem snd_asg (C : Ctx T c X W r) {tg e : Expr} {t : Tgt} {x : Ex} {p : Pos} (h : PE X e (SE T X W r x)) (ht : chkTg c tg t = true) (hc : notComp e = true) (hw : isTup tg = false ∨ isTup e = false) : PS X (.Assign [tg] e p) (SS T X W r (.asg t x)) := by
  refine PS.imp (ps_asg h (snd_tg C ht) (swaps_no hc) ?_ ?_) fun D σ H h => asgS_read h
  · rcases hw with hw | hw
    · cases tg <;> first | rfl | (simp [chkTg] at ht; done) | (simp [isTup] at hw)
    · cases tg <;> first | (simp [chkTg] at ht; done) | (cases e <;> first | rfl | (simp [isTup] at hw))
  · cases tg <;> first | rfl | (simp [chkTg] at ht; done)
theorem snd_asgT (C : Ctx T c X W r) {es : List Expr} {kk : Nat} {tp : Pos} {e : Expr} {t : Tgt} {x : Ex} {p : Pos} (h : PE X e (SE T X W r x)) (ht : chkTg c (.Tuple es kk tp) t = true) (hw : isTup e = false) : PS X (.Assign [.Tuple es kk tp] e p) (SS T X W r (.asg t x)) := by
  refine PS.imp (ps_asg h (snd_tg C ht) ?_ ?_ ?_) fun D σ H h => asgS_read h
  · cases e <;> rfl
  · cases e <;> first | rfl | (simp [isTup] at hw)
  · rfl
theorem sw_false {elt : Expr} {gs : List Comprehension} {scope : Scope} {pos py : Pos} {y : Str} {l : Nat} {env : PySem.Env} (hy : env.scope.names.lookup y = some .cell) :
    swapsWith (.ListComp elt gs scope pos) (some (.Name y py)) l env = pure false := by
  have ky : env.kindOf y = some .cell := hy
  unfold swapsWith
  simp only [ky]
  have e : (some NameKind.cell == some NameKind.local) = false := rfl
  simp only [e, Bool.and_false, Bool.false_and]
/-- name = [..], the name captured -/
theorem snd_asgCell (C : Ctx T c X W r) {y : Str} {py : Pos} {t : Tgt} {x : Ex} {elt : Expr} {gs : List Comprehension} {scope : Scope} {p p2 : Pos} (h : PE X (.ListComp elt gs scope p) (SE T X W r x)) (ht : chkTg c (.Name y py) t = true) (hy : X.env.scope.names.lookup y = some .cell) :
    PS X (.Assign [.Name y py] (.ListComp elt gs scope p) p2) (SS T X W r (.asg t x)) :=
  PS.imp (ps_asg h (snd_tg C ht) (show swapsWithSole [.Name y py] (.ListComp elt gs scope p) p2.line X.env = pure false from sw_false (l := p2.line) (env := X.env) hy) rfl rfl) fun D σ H h => asgS_read h
/-- name = [..] on one line -/
theorem snd_asgLc (C : Ctx T c X W r) {n : Nat} {y : Str} {py : Pos} {i : Nat} {own : List Nat} {tg : Tgt} {k : IK} {src cond : Exs} {elt : Ex} {el tge iter : Expr} {ifs : List Expr} {scope : Scope} {p p2 : Pos}
    (L : LcOk T n c own tg k src cond elt el tge iter ifs scope) (ht : chkTg c (.Name y py) (.nm i) = true) (hloc : isLoc c y = true) (hk : X.env.scope.kind = .function) (hl : (py.line == p.line) = true) (ha : (scope.names.any fun q => q.1 == y && (q.2 == .local || q.2 == .cell)) = false) :
    PS X (.Assign [.Name y py] (.ListComp el [⟨tge, iter, ifs, 0⟩] scope p) p2) (SS T X W r (.asg (.nm i) (.comp own tg k src cond elt))) := by
  simp only [chkTg, Bool.and_eq_true, decide_eq_true_eq] at ht
  have l2 := C.loc y hloc
  have ih := snd_E (T := T) n
  refine PS.imp (ps_setLc (own := ownP X.N own) (wi := SI T X W r k src) (g := tT X.K X.w tg) (tt := tMt X.K X.w X.mg (fun _ _ _ _ => False) (evalC (conf T r) cond)) (te := SE T X (fun _ _ _ _ => False) r elt) C.calm C.nd (C.name ht.1) l2 (sw_true hk l2 hl ha)
    (snd_it C (fun e x h => ih c X W r e x C h) L.it) (blk_ok C L.blk) (fun s H L' cl fp => snd_tg (X := X.blk s H scope (compEnvC scope cl L' X.env) fp) (blk_ctx C) L.tgt) (fun s H L' cl fp => snd_conds (X := X.blk s H scope (compEnvC scope cl L' X.env) fp) (blk_ctx C) (fun e x h => ih _ _ _ _ e x (blk_ctx C) h) L.cond)
    (fun s H L' cl fp => ih _ (X.blk s H scope (compEnvC scope cl L' X.env) fp) _ _ _ _ (blk_ctx C) L.elt) (folded_no L.set)) fun D σ H h => ?_
  obtain ⟨ι, S, env, s, er, f⟩ := asgS_read h
  show tLc _ _ _ _ _ σ H _
  rw [ownP_ix]
  refine comp_read L.inown (conds_len L.cond) ⟨ι, S, env, s, er, f.imp fun v S1 ι1 H1 g1 s1 kk v' rv => ?_⟩
  obtain ⟨ι2, S2, env2, v2, e2, s2, er2, rv2, ea, q⟩ := kk v' rv
  simp only [asgM, Option.some.injEq] at ea
  subst ea
  exact q _ (er2.set i rv2) fun vs hvs => wipe_own (List.contains_iff_mem.mp hvs)
theorem truB_s {K : PySem.W.Frag} {w : World} {mg : Str → Option Value} {D : Ends} {ι : List Addr} {H : Hp} {env : Env} {σ : L2.St} {m : Res Bool} {f : Bool → Store → SRes} (h : FinS K w mg W D ι H (match m with
      | .ok b S1 => f b S1
      | .exc c fs S1 => .exc c fs env S1
      | .bad => .bad)) (er : EnvR K w ι H env σ) : FinG K w mg (WE W σ) ι H m fun v S i2 H2 => FinS K w mg W D i2 H2 (f v S) := by
  cases m with
  | ok v S => exact fun i2 H2 g2 s2 => FinS.grow g2 h
  | exc c fs S => exact ⟨h.1, fun i2 H2 cls g2 s2 hc => h.2 i2 H2 σ cls g2 s2 (er.grow g2) hc⟩
  | bad => exact h
theorem snd_ifs {t : Expr} {a b : List Stmt} {x : Ex} {xs ys : Sms} {p : Pos} (h : PT X t (ST T X W r x)) (h1 : PSs X a (SSs T X W r xs)) (h2 : PSs X b (SSs T X W r ys)) : PS X (.If t a b p) (SS T X W r (.ifs x xs ys)) :=
  PS.imp (ps_if h h1 h2) fun D σ H ⟨ι, S, env, s, er, f⟩ => by
    simp only [execS] at f
    have f' : FinS X.K X.w X.mg W D ι H (match truB (evalE (conf T r) x env S) with
      | .ok b S1 => (fun b S1 => if b then execSs (conf T r) xs env S1 else execSs (conf T r) ys env S1) b S1
      | .exc c fs S1 => .exc c fs env S1
      | .bad => .bad) := by
      cases e : truB (evalE (conf T r) x env S) with
      | ok b S1 => rw [e] at f; cases b <;> exact f
      | exc c fs S1 => rw [e] at f; exact f
      | bad => rw [e] at f; exact f
    refine ⟨ι, S, env, s, er, (truB_s f' er).imp fun b S1 ι1 H1 g1 s1 k => ?_⟩
    cases b with
    | true => rw [if_pos rfl] at k ⊢; exact ⟨ι1, S1, env, s1, er.grow g1, k⟩
    | false => rw [if_neg Bool.false_ne_true] at k ⊢; exact ⟨ι1, S1, env, s1, er.grow g1, k⟩
theorem snd_for (C : SCtx T c X W r) {f : Expr → Ex → Bool} (hf : ∀ e x, f e x = true → PE X e (SE T X W r x)) {tge iter : Expr} {body : List Stmt} {t : Tgt} {k : IK} {src : Exs} {xs : Sms} {p : Pos} (hi : chkIt c f iter tge k src = true) (ht : chkTg c tge t = true) (hs : notSet iter = true)
    (hb : PSs X body (SSs T X W r xs)) : PS X (.For tge iter body [] p) (SS T X W r (.for t k src xs)) := by
  refine PS.imp (ps_for C.pass C.calm (snd_it C.toCtx hf hi) (snd_tg C.toCtx ht) hb (folded_no hs)) fun D σ H ⟨ι, S, env, s, er, f⟩ => ?_
  simp only [execS] at f
  have f' : FinG X.K X.w X.mg (WE W σ) ι H (evalEs (conf T r) src env S) fun vs S1 i2 H2 => FinS X.K X.w X.mg W D i2 H2 (match lenM k vs S1 with
      | none => .bad
      | some n0 => forLoop (stepM k vs n0) (asgM t) (execSs (conf T r) xs) (n0 + 1) 0 env S1) := by
    cases e : evalEs (conf T r) src env S with
    | ok v S => rw [e] at f; exact fun i2 H2 g2 s2 => FinS.grow g2 f
    | exc c fs S => rw [e] at f; exact ⟨f.1, fun i2 H2 cls g2 s2 hc => f.2 i2 H2 σ cls g2 s2 (er.grow g2) hc⟩
    | bad => rw [e] at f; exact f
  refine ⟨ι, S, env, s, er, f'.imp fun vs S1 ι1 H1 g1 s1 f1 => ?_⟩
  cases e0 : lenM k vs S1 with
  | none => simp only [e0] at f1; exact f1.elim
  | some n0 =>
    simp only [e0] at f1
    refine ⟨n0, rfl, fun J bear => ?_⟩
    let Wn : Nat → Nat → L2.St → Hp → Prop := fun i m σ H => ∃ ι S env, Grow ι1 H1 ι H ∧ Sim X.K X.w ι S H ∧ EnvR X.K X.w ι H env σ ∧
      FinS X.K X.w X.mg W D ι H (forLoop (stepM k vs n0) (asgM t) (execSs (conf T r) xs) m i env S)
    refine ⟨Wn, ⟨n0 + 1, ι1, S1, env, .refl, s1, er.grow g1, f1⟩, fun i m σ H2 hW => ?_⟩
    obtain ⟨ι2, S2, env2, g2, s2, er2, f2⟩ := hW
    cases m with
    | zero => exact f2.elim
    | succ m =>
      simp only [forLoop] at f2
      obtain ⟨b1, b2⟩ := bear ι2 S2 H2 g2 s2 i
      cases es : stepM k vs n0 i S2 with
      | bad => simp only [es] at f2; exact f2.elim
      | stop =>
        simp only [es] at f2
        exact .inl ⟨b1 es, f2 ι2 H2 σ .refl s2 er2⟩
      | item v =>
        simp only [es] at f2
        obtain ⟨hgo, hy⟩ := b2 v es
        refine .inr ⟨hgo, Wn (i + 1) m, fun σ' H' hN => ⟨m, Nat.lt_succ_self m, hN⟩, fun x H3 hx => ?_⟩
        obtain ⟨g3, s3, rx⟩ := hy x H3 hx
        cases ea : asgM t v env2 with
        | none => simp only [ea] at f2; exact f2.elim
        | some e1 =>
          simp only [ea] at f2
          refine ⟨ι2, S2, env2, v, e1, s3, er2.grow g3, rx, ea, fun σ2 er4 _ => ⟨ι2, S2, e1, s3, er4, ?_⟩⟩
          cases eb : execSs (conf T r) xs e1 S2 with
          | nx e5 S5 =>
            simp only [eb] at f2
            exact fun ι5 H5 σ5 g5 s5 er5 => ⟨ι5, S5, e5, (g2.trans g3).trans g5, s5, er5, f2.grow (g3.trans g5)⟩
          | ct e5 S5 =>
            simp only [eb] at f2
            exact fun ι5 H5 σ5 g5 s5 er5 => ⟨ι5, S5, e5, (g2.trans g3).trans g5, s5, er5, f2.grow (g3.trans g5)⟩
          | brk e5 S5 =>
            simp only [eb] at f2
            exact fun ι5 H5 σ5 g5 s5 er5 => f2 ι5 H5 σ5 (g3.trans g5) s5 er5
          | ret v5 S5 =>
            simp only [eb] at f2
            exact f2.grow (D := D) g3
          | exc cc fs e5 S5 =>
            simp only [eb] at f2
            exact f2.grow (D := D) g3
          | bad => simp only [eb] at f2; exact f2.elim
theorem snd_while (C : SCtx T c X W r) {t : Expr} {body : List Stmt} {x : Ex} {xs : Sms} {p : Pos} (ht : PT X t (ST T X W r x)) (hb : PSs X body (SSs T X W r xs)) : PS X (.While t body [] p) (SS T X W r (.while x xs)) := by
  refine PS.imp (ps_while C.pass ht hb) fun D σ H ⟨ι, S, env, s, er, f⟩ => ?_
  simp only [execS] at f
  let Wn : Nat → L2.St → Hp → Prop := fun m σ H' => ∃ ι' S env, Grow ι H ι' H' ∧ Sim X.K X.w ι' S H' ∧ EnvR X.K X.w ι' H' env σ ∧
    FinS X.K X.w X.mg W D ι' H' (whileLoop (fun env S => truB (evalE (conf T r) x env S)) (execSs (conf T r) xs) m env S)
  refine ⟨Wn, ⟨whileMost, ι, S, env, .refl, s, er, f⟩, fun m σ H2 hW => ?_⟩
  obtain ⟨ι2, S2, env2, g2, s2, er2, f2⟩ := hW
  cases m with
  | zero => exact f2.elim
  | succ m =>
    simp only [whileLoop] at f2
    have f' : FinS X.K X.w X.mg W D ι2 H2 (match truB (evalE (conf T r) x env2 S2) with
      | .ok b S1 => (fun b S1 => if b then (match execSs (conf T r) xs env2 S1 with
        | .nx e2 S2 => whileLoop (fun env S => truB (evalE (conf T r) x env S)) (execSs (conf T r) xs) m e2 S2
        | .ct e2 S2 => whileLoop (fun env S => truB (evalE (conf T r) x env S)) (execSs (conf T r) xs) m e2 S2
        | .brk e2 S2 => .nx e2 S2
        | r => r) else .nx env2 S1) b S1
      | .exc c fs S1 => .exc c fs env2 S1
      | .bad => .bad) := by
      cases e : truB (evalE (conf T r) x env2 S2) with
      | ok b S1 => rw [e] at f2; cases b <;> exact f2
      | exc c fs S1 => rw [e] at f2; exact f2
      | bad => rw [e] at f2; exact f2
    refine ⟨ι2, S2, env2, s2, er2, (truB_s f' er2).imp fun b S3 ι3 H3 g3 s3 k => ?_⟩
    cases b with
    | false =>
      rw [if_neg Bool.false_ne_true] at k ⊢
      exact k ι3 H3 σ .refl s3 (er2.grow g3)
    | true =>
      rw [if_pos rfl]
      simp only [if_true] at k
      refine ⟨Wn m, fun σ' H' hN => ⟨m, Nat.lt_succ_self m, hN⟩, ι3, S3, env2, s3, er2.grow g3, ?_⟩
      cases eb : execSs (conf T r) xs env2 S3 with
      | nx e5 S5 =>
        simp only [eb] at k
        exact fun ι5 H5 σ5 g5 s5 er5 => ⟨ι5, S5, e5, (g2.trans g3).trans g5, s5, er5, k.grow g5⟩
      | ct e5 S5 =>
        simp only [eb] at k
        exact fun ι5 H5 σ5 g5 s5 er5 => ⟨ι5, S5, e5, (g2.trans g3).trans g5, s5, er5, k.grow g5⟩
      | brk e5 S5 =>
        simp only [eb] at k
        exact fun ι5 H5 σ5 g5 s5 er5 => k ι5 H5 σ5 g5 s5 er5
      | ret v5 S5 =>
        simp only [eb] at k
        exact k
      | exc cc fs e5 S5 =>
        simp only [eb] at k
        exact k
      | bad => simp only [eb] at k; exact k.elim
end
end EK

namespace EK
open PySem PySem.Spec PyProof.Rows L2
section
variable {T : Text} {c : Chk} {X : Cx} {W : WX} {r : Nat}
theorem snd_asgIx (C : Ctx T c X W r) {o i e : Expr} {x y z : Ex} {p p2 : Pos} (ho : PE X o (SE T X W r x)) (hi : PE X i (SE T X W r y)) (he : PE X e (SE T X W r z)) (hc : notComp e = true) (hs : notSlice i = true) : PS X (.Assign [.Subscript o i p] e p2) (SS T X W r (.asgIx x y z)) := by
  have hsub : ∀ v, assign (.Subscript o i p) X.env v = (do
      let ov ← holding [v] (eval o X.env)
      let iv ← holding [v, ov] (eval i X.env)
      standAt p
      holding [v, ov, iv] (setItem ov iv v)
      release [v, ov, iv] []) := fun v => by cases i <;> first | rfl | (simp [notSlice] at hs)
  refine PS.imp (ps_asg he (pg_sub ho hi set_list hsub) (show swapsWithSole [.Subscript o i p] e p2.line X.env = pure false from swaps_no (t := some (.Subscript o i p)) (l := p2.line) (env := X.env) hc) (by cases e <;> rfl) rfl) fun D σ H ⟨ι, S, env, s, er, f⟩ => ?_
  simp only [execS] at f
  refine ⟨ι, S, env, s, er, (f.ex er).imp fun v S1 ι1 H1 g1 s1 k1 v' rv => ?_⟩
  refine ⟨ι1, S1, env, s1, er.grow g1, (k1.ex (er.grow g1)).imp fun a S2 ι2 H2 g2 s2 k2 a' ra => ?_⟩
  refine ⟨ι2, S2, env, s2, (er.grow g1).grow g2, (k2.ex ((er.grow g1).grow g2)).imp fun b S3 ι3 H3 g3 s3 k3 b' rb => ?_⟩
  cases e0 : setIxM a b v S3 with
  | none => rw [e0] at k3; exact k3.elim
  | some S4 =>
    rw [e0] at k3
    unfold setIxM at e0
    split at e0
    · rename_i n k
      obtain ⟨ad, rfl, hn⟩ := (ra.grow g3).refE
      cases rb.intE
      split at e0
      · rename_i xs q
        obtain ⟨ad', vs, ea, hh, rs⟩ := s3.lst q
        rw [hn] at ea; cases ea
        split at e0
        · rename_i j hj
          cases e0
          have rset : Reps X.K X.w ι3 H3 (xs.set j v) (vs.set j v') := Reps.set j ((rv.grow g2).grow g3) rs
          refine ⟨ad, vs, k, j, rfl, rfl, hh, by rw [rs.length]; exact hj, ?_⟩
          exact k3 ι3 _ σ (.write hn hh) (s3.write hn hh rset (List.getElem?_eq_some_iff.mp q).1) ((((er.grow g1).grow g2).grow g3).grow (.write hn hh))
        · cases e0
      · cases e0
    · cases e0
/-- X(), X an own exception class without own __init__ -/
theorem pmk_own0 {C : Addr} {bmB : List Value} {B newId initId : String} {x : Str} {p pos : Pos} (F : ExcBaseFacts B newId initId bmB) (q : PySem.W.excIn X.K C bmB newId = true) (gC : X.mg x = some (.ref C))
    (kC : PySem.W.keepIn X.K (.ref C) = true) (r : Raises X (.ref C)) (hg : Gl X x) (hdb : (x == ("__debug__" : Str)) = false) :
    PMk X (.Call (.Name x p) [] [] pos) (fun _ H Q => Q (.ref C) none H) := by
  intro pins s σ H Q I h
  refine wpAny_Call_Name_kw (ld_glob I hg gC ?_ hdb)
  refine PySem.W.callWith_K0 I.kIn kC ?_
  show wpAny _ _ (call (.ref C) []) _ _ _
  obtain ⟨bm, N, nm, qn, bs, hdct, sn, sub, ab, col, dd, k0, k1, k2, k3, k5, mN, hC, hN, hni, T⟩ := exc_obj I.kIn q
  refine wpAny_call_exc_subT F T hC hN hni (fun h' e hm => ?_) (by show 0 ≤ sizeLine; omega)
  exact mk_of I hm r h (I.hok.gone hm.new)
theorem snd_raise (C : Ctx T c X W r) {x : Str} {p p2 p3 : Pos} (hx : x ∈ T.excs) (hg : isGl c x = true) (hd : dbg x = false) : PS X (.Raise (some (.Call (.Name x p) [] [] p2)) none p3) (SS T X W r (.raise x)) := by
  obtain ⟨cl, gC, q, kC, r1, r2⟩ := C.exc x hx
  refine PS.imp (ps_raise C.calm C.tk (pmk_own0 PySem.F.excBase_ValueError q gC kC (raises_own r1 r2) (C.gl x hg) hd)) fun D σ H ⟨ι, S, env, s, er, f⟩ => ?_
  simp only [execS] at f
  exact f.2 ι H σ _ .refl s er gC
end
/-! ### the look at statements -/
def isCell (c : Chk) (x : Str) : Bool := match c.names.lookup x with
  | some .cell => true
  | _ => false
def lcAsg (c : Chk) (tg e : Expr) : Bool := match tg, e with
  | .Name y py, .ListComp _ _ scope p => isCell c y || isLoc c y && (py.line == p.line) && !(scope.names.any fun q => q.1 == y && (q.2 == .local || q.2 == .cell))
  | _, _ => false
mutual
def chkS (T : Text) (n : Nat) (c : Chk) : Sm → Stmt → Bool
  | .asg t x, st => match st with
    | .Assign [tg] e _ => chkE T n c e x && chkTg c tg t && (if isTup tg then !isTup e else notComp e || lcAsg c tg e)
    | _ => false
  | .asgIx x y z, st => match st with
    | .Assign [.Subscript o i _] e _ => chkE T n c o x && chkE T n c i y && chkE T n c e z && notComp e && notSlice i
    | _ => false
  | .exp x, st => match st with
    | .Expr e _ => chkE T n c e x && notComp e
    | _ => false
  | .ret x, st => match st with
    | .Return (some e) _ => chkE T n c e x
    | _ => false
  | .ifs x xs ys, st => match st with
    | .If t a b _ => chkT (chkE T n c) x t && chkSs T n c xs a && chkSs T n c ys b
    | _ => false
  | .for t k src xs, st => match st with
    | .For tge iter body [] _ => chkIt c (chkE T n c) iter tge k src && chkTg c tge t && notSet iter && chkSs T n c xs body
    | _ => false
  | .while x xs, st => match st with
    | .While t body [] _ => chkT (chkE T n c) x t && chkSs T n c xs body
    | _ => false
  | .raise x, st => match st with
    | .Raise (some (.Call (.Name y _) [] [] _)) none _ => decide (y = x) && T.excs.contains x && isGl c x && !dbg x
    | _ => false
  | .pass, st => match st with
    | .Pass _ => true
    | .Expr (.Constant (.str _) _ _) _ => true
    | _ => false
def chkSs (T : Text) (n : Nat) (c : Chk) : Sms → List Stmt → Bool
  | .nil, l => match l with
    | [] => true
    | _ => false
  | .cons x xs, l => match l with
    | st :: sts => chkS T n c x st && chkSs T n c xs sts
    | [] => false
end
section
variable {T : Text} {n : Nat} {c : Chk} {X : Cx} {W : WX} {r : Nat}
mutual
theorem snd_S (C : SCtx T c X W r) (hk : X.env.scope.kind = .function) : ∀ (x : Sm) (st : Stmt), chkS T n c x st = true → PS X st (SS T X W r x)
  | .asg t x, st, h => by
    simp only [chkS] at h
    split at h
    · rename_i tg e p
      simp only [Bool.and_eq_true] at h
      obtain ⟨⟨h1, h2⟩, h3⟩ := h
      split at h3
      · rename_i ht
        obtain ⟨es, k, tp, rfl⟩ := isTup_of ht
        exact snd_asgT C.toCtx (snd_E n c X W r _ _ C.toCtx h1) h2 (by simpa using h3)
      · rename_i ht
        have ht : isTup tg = false := by simpa using ht
        cases hc : notComp e with
        | true => exact snd_asg C.toCtx (snd_E n c X W r _ _ C.toCtx h1) h2 hc (.inl ht)
        | false =>
          rw [hc, Bool.false_or] at h3
          unfold lcAsg at h3
          split at h3
          · rename_i y py el gs scope p2
            simp only [Bool.or_eq_true, Bool.and_eq_true, Bool.not_eq_true'] at h3
            rcases h3 with h3 | ⟨⟨h3, h4⟩, h5⟩
            · refine snd_asgCell C.toCtx (snd_E n c X W r _ _ C.toCtx h1) h2 (C.cel _ ?_)
              unfold isCell at h3
              split at h3
              · assumption
              · cases h3
            cases n with
            | zero => simp [chkE] at h1
            | succ n =>
              cases x <;> try (simp [chkE] at h1; done)
              rename_i own tg k src cond elt
              obtain ⟨el', tge, iter, ifs, scope', p', e, L⟩ := lc_of h1
              cases e
              cases t with
              | tp is => simp [chkTg] at h2
              | nm i => exact snd_asgLc C.toCtx L h2 h3 hk h4 h5
          · cases h3
    · cases h
  | .asgIx x y z, st, h => by
    simp only [chkS] at h
    split at h
    · simp only [Bool.and_eq_true] at h
      obtain ⟨⟨⟨⟨h1, h2⟩, h3⟩, h4⟩, h5⟩ := h
      exact snd_asgIx C.toCtx (snd_E n c X W r _ _ C.toCtx h1) (snd_E n c X W r _ _ C.toCtx h2) (snd_E n c X W r _ _ C.toCtx h3) h4 h5
    · cases h
  | .exp x, st, h => by
    simp only [chkS] at h
    split at h
    · simp only [Bool.and_eq_true] at h
      exact snd_exp (snd_E n c X W r _ _ C.toCtx h.1) h.2
    · cases h
  | .ret x, st, h => by
    simp only [chkS] at h
    split at h
    · exact snd_ret (snd_E n c X W r _ _ C.toCtx h)
    · cases h
  | .ifs x xs ys, st, h => by
    simp only [chkS] at h
    split at h
    · simp only [Bool.and_eq_true] at h
      exact snd_ifs (snd_test C.toCtx (fun e x h => snd_E n c X W r e x C.toCtx h) _ _ h.1.1).1 (snd_Ss C hk xs _ h.1.2) (snd_Ss C hk ys _ h.2)
    · cases h
  | .for t k src xs, st, h => by
    simp only [chkS] at h
    split at h
    · simp only [Bool.and_eq_true] at h
      exact snd_for C (fun e x h => snd_E n c X W r e x C.toCtx h) h.1.1.1 h.1.1.2 h.1.2 (snd_Ss C hk xs _ h.2)
    · cases h
  | .while x xs, st, h => by
    simp only [chkS] at h
    split at h
    · simp only [Bool.and_eq_true] at h
      exact snd_while C (snd_test C.toCtx (fun e x h => snd_E n c X W r e x C.toCtx h) _ _ h.1).1 (snd_Ss C hk xs _ h.2)
    · cases h
  | .raise x, st, h => by
    simp only [chkS] at h
    split at h
    · simp only [Bool.and_eq_true, decide_eq_true_eq, Bool.not_eq_true'] at h
      obtain ⟨⟨⟨rfl, h1⟩, h2⟩, h3⟩ := h
      exact snd_raise C.toCtx (List.contains_iff_mem.mp h1) h2 h3
    · cases h
  | .pass, st, h => by
    simp only [chkS] at h
    split at h
    · exact snd_pass
    · exact snd_doc
    · cases h
theorem snd_Ss (C : SCtx T c X W r) (hk : X.env.scope.kind = .function) : ∀ (x : Sms) (st : List Stmt), chkSs T n c x st = true → PSs X st (SSs T X W r x)
  | .nil, st, h => by
    simp only [chkSs] at h
    split at h
    · exact snd_nil
    · cases h
  | .cons x xs, st, h => by
    simp only [chkSs] at h
    split at h
    · simp only [Bool.and_eq_true] at h
      exact snd_cons (snd_S C hk x _ h.1) (snd_Ss C hk xs _ h.2)
    · cases h
end
end
end EK

namespace EK
open PySem PySem.Spec PyProof.Rows L2
/-- how deep an expression is looked at -/
def look : Nat := 60
/-- what is known of one def -/
structure DefOk (T : Text) (K : PySem.W.Frag) (mg : Str → Option Value) (x : Str) (f : FnI) : Prop where
  ex : ∃ (a : Addr) (fd : FuncData) (nm qual : Str) (params : Arguments) (body : List Stmt) (scope : Scope) (dvs : List V) (kws : List (Str × V)),
    mg x = some (.ref a) ∧ FunD K nm qual params body scope dvs kws a fd ∧ FnScope f.slots f.params scope ∧ chkSs T look { N := f.slots, names := scope.names } f.body body = true ∧
      (∀ j, j ≤ f.dfl.length → ∃ ds, Binds K fd f.params ds ∧ Vals ((f.dfl.drop (f.dfl.length - j)).map scV) ds) ∧
      (f.dfl = [] → ∀ (s : Shared) (us : List Value), us.length = f.params.length → BindsTo s fd ⟨us, []⟩ (f.params.zip us))
  scal : f.dfl.all scal = true
structure Facts (T : Text) (K : PySem.W.Frag) (mg : Str → Option Value) (w : World) : Prop where
  defs : ∀ p ∈ T.fns, DefOk T K mg p.1 p.2
  free : ∀ x ∈ bltNames, mg x = none
  exc : ∀ x ∈ T.excs, ExcAt K mg x
  glob : ∀ x v, T.glob x = some v → ∃ v' u, mg x = some u ∧ RelV v' u ∧ ∀ ι H, Rep K w ι H v v'
theorem look_mem {α : Type} {x : Str} {v : α} : ∀ {l : List (Str × α)}, l.lookup x = some v → (x, v) ∈ l
  | (k, u) :: r, h => by
    rw [List.lookup_cons] at h
    split at h
    · rename_i e
      cases h
      rw [beq_iff_eq.mp e]
      exact List.mem_cons_self
    · exact List.mem_cons_of_mem _ (look_mem h)
theorem body_ctx {T : Text} {P : Program} {w : World} {K : PySem.W.Frag} {mg : Str → Option Value} {base : Heap} {N ps : List Str} {qual : Str} {scope : Scope} {a : Addr} {cdv : Value} {A : Around} {outer : List PySem.Env} {s : Shared} {H : Hp} {E : XK} {r : Nat}
    (F : Facts T K mg w) (S : FnScope N ps scope) (ih : FnsOk T P w K mg base r) (hr : Room r (A.deeper (envOfC qual scope s.heap.objs.size a cdv))) :
    SCtx T { N := N, names := scope.names } (cxOf (L2.CX P w) P w K mg base N qual scope a cdv A outer s H E) (fun cls d _ H => E cls d H) r where
  hN := rfl
  nd := S.nd
  vis := fun x h => by
    show Vis scope x
    unfold isVis at h
    split at h
    · rename_i e; exact .inl e
    · rename_i e; exact .inr (.inl e)
    · rename_i e; exact .inr (.inr e)
    · cases h
  loc := fun x h => by
    unfold isLoc at h
    split at h
    · rename_i e; exact e
    · cases h
  tg := fun x h => by
    unfold isTg at h
    split at h
    · rename_i e; exact ⟨.inl e, .inl rfl⟩
    · rename_i e; exact ⟨.inr e, .inl rfl⟩
    · cases h
  gl := fun x h => by
    unfold isGl at h
    split at h
    · rename_i e; exact e
    · cases h
  fre := fun x h => h
  cel := fun x h => h
  calm := rfl
  room := hr
  tk := takes_of rfl rfl rfl rfl
  fns := ih
  free := F.free
  exc := F.exc
  glob := F.glob
  pass := passes_of rfl
theorem env_start {K : PySem.W.Frag} {w : World} {ι : List Addr} {H : Hp} {args : List PV} {vs : List V} (N : List Str) (r : Reps K w ι H args vs) : EnvR K w ι H (args.map some ++ List.replicate (N.length - args.length) none) (L2.start N vs) := by
  unfold L2.start
  have hl := r.length
  refine ⟨by simp [hl], fun i v h => ?_⟩
  by_cases hi : i < args.length
  · rw [List.getElem?_append_left (by simpa using hi)] at h
    rw [List.getElem?_append_left (by simpa [hl] using hi)]
    rw [List.getElem?_map] at h ⊢
    cases q : args[i]? with
    | none => rw [q] at h; cases h
    | some u =>
      rw [q] at h
      cases h
      obtain ⟨v', e, rv⟩ := r.get q
      exact ⟨v', by rw [e]; rfl, rv⟩
  · rw [List.getElem?_append_right (by simpa using hi)] at h
    have := List.mem_of_getElem? h
    simp at this
theorem def_fn {T : Text} {P : Program} {w : World} {K : PySem.W.Frag} {mg : Str → Option Value} {base : Heap} {r : Nat} {f : FnI} {a : Addr} {fd : FuncData} {nm qual : Str} {params : Arguments} {body : List Stmt} {scope : Scope} {dvs : List V} {kws : List (Str × V)}
    (F : Facts T K mg w) (ih : FnsOk T P w K mg base r) (FD : FunD K nm qual params body scope dvs kws a fd) (S : FnScope f.slots f.params scope) (hc : chkSs T look { N := f.slots, names := scope.names } f.body body = true) :
    FnOk P w K mg base (L2.CX P w) (r + 1) a fd f.params (spF T K w mg r f) := by
  refine FD.ok S (fun vs H Q E h => ?_) fun cdv A outer s H vs Q E hr h => ?_
  · obtain ⟨_, _, _, _, _, hl, _⟩ := h
    exact hl
  · obtain ⟨ι, S0, args, sm, rs, hl, g⟩ := h
    have C : SCtx T { N := f.slots, names := scope.names } (cxOf (L2.CX P w) P w K mg base f.slots qual scope a cdv A outer s H E) (fun cls d _ H => E cls d H) r := body_ctx F S ih hr
    refine ⟨_, snd_Ss C S.kind f.body body hc, ι, S0, _, sm, env_start f.slots rs, ?_⟩
    unfold callBody at g
    rw [if_pos (by rw [← rs.length]; exact hl)] at g
    show FinS K w mg _ _ ι H _
    cases e : execSs (conf T r) f.body (args.map some ++ List.replicate (f.slots.length - args.length) none) S0 with
    | nx e5 S5 =>
      rw [e] at g
      exact fun ι' H' σ' g' s' _ => g ι' H' g' s' _ .ofNon
    | ret v5 S5 =>
      rw [e] at g
      exact fun ι' H' g' s' v' rv => g ι' H' g' s' v' rv
    | exc c fs e5 S5 =>
      rw [e] at g
      exact ⟨g.1, fun ι' H' σ' cls g' s' _ hc => g.2 ι' H' cls g' s' hc⟩
    | brk _ _ => rw [e] at g; exact g.elim
    | ct _ _ => rw [e] at g; exact g.elim
    | bad => rw [e] at g; exact g.elim
theorem fns_ok {T : Text} {P : Program} {w : World} {K : PySem.W.Frag} {mg : Str → Option Value} {base : Heap} (F : Facts T K mg w) : ∀ r, FnsOk T P w K mg base r
  | 0 => ⟨fun r' e => by cases e⟩
  | r + 1 => by
    refine ⟨fun r' e x f hf => ?_⟩
    cases e
    obtain ⟨⟨a, fd, nm, qual, params, body, scope, dvs, kws, hm, FD, S, hc, hb, _⟩, hs⟩ := F.defs _ (look_mem hf)
    exact ⟨⟨a, fd, hm, FD.kp, hb, def_fn F (fns_ok F r) FD S hc⟩, hs⟩
end EK

namespace EK
open PySem PySem.Spec PyProof.Rows L2
/-- what a law's run tells: the script walked by its def, calls at most r deep -/
def lawRun (T : Text) (r : Nat) (x : Str) (ns : List Int) : Res PV := callF T r x [.con (ns.map .int)] []
def lawYes (T : Text) (r : Nat) (x : Str) (ns : List Int) : Prop := ∃ S, lawRun T r x ns = .ok (.bl true) S
theorem reps_ints {K : PySem.W.Frag} {w : World} {ι : List Addr} {H : Hp} : ∀ ns : List Int, Reps K w ι H (ns.map .int) (ns.map V.int)
  | [] => Reps.nil
  | n :: ns => Reps.cons .ofInt (reps_ints ns)
/-- the law's def keeps the law's promise -/
theorem law_sp {T : Text} {K : PySem.W.Frag} {w : World} {mg : Str → Option Value} {f : FnI} {x : Str} {r : Nat} {H : Hp} {a : Addr} {ns : List Int} (hf : T.fns.lookup x = some f) (h1 : f.params.length = 1) (hO : Only H) (hS : SqL K H a (ns.map V.int))
    (h : lawYes T (r + 1) x ns) : spF T K w mg r f [.ref a] H (fun v _ => v = .bl true) fun _ _ _ => False := by
  refine ⟨[], [], [.con (ns.map .int)], ⟨rfl, .nil, fun i c e => by simp at e⟩, Reps.cons ?_ Reps.nil, h1.symm, ?_⟩
  · unfold Rep
    refine ⟨a, ns.map V.int, rfl, ?_, reps_ints ns⟩
    rcases hS with (h | ⟨o, h⟩) | h
    · rcases hO a with e | ⟨o, xs, e⟩
      · rw [e] at h; cases h
      · rw [e] at h; cases h
    · exact .inl ⟨o, h⟩
    · exact .inr h
  · obtain ⟨S, h⟩ := h
    unfold lawRun at h
    simp only [callF, hf] at h
    have e : [PV.con (ns.map .int)] ++ f.dfl.drop (f.dfl.length - (f.params.length - 1)) = [.con (ns.map .int)] := by
      rw [h1]
      simp
    have e2 : callBody (conf T r) f [.con (ns.map .int)] [] = .ok (.bl true) S := by
      rw [← h]
      rw [show [PV.con (ns.map .int)].length = 1 from rfl, e]
    rw [e2]
    exact fun ι' H' g s v' rv => rv.blE
/-- a law, from its text -/
theorem law_walk {l : PySem.W.OpenLaw} {T : Text} {n r : Nat} {q : Program} {loose : List Str} {XP : (Str → Option Value) → Heap → Prop} {YP : World → Heap → Prop} {d : DefRec} {p : Str} {f : FnI}
    (hn : l.most = some n) (hn2 : n ≤ sizeLine) (hdf : d.params.defaults = []) (hr : r ≤ 220) (hf : T.fns.lookup d.name = some f) (hp : f.params = [p]) (hd0 : f.dfl = [])
    (F : ∀ (w : World) (mg : Str → Option Value) (h : Heap), YP w h → h.Ns mainGlobals mg → ∃ K : PySem.W.Frag, K.In h ∧ Facts T K mg w)
    (hY : ∀ ns : List Int, ns.length ≤ n → lawYes T (r + 1) d.name ns) : PySem.W.WalkO q loose XP YP l.row.toRowW d [] (fun f vs => PySem.call f vs) := by
  refine Att.attach_call hn hdf fun w s₀ s₁ mg mb fa o pm cd doc a vs ns G Y ho hd hcd hmg hobj hints hlen hg => ?_
  obtain ⟨K, KX, FF⟩ := F w mg _ Y G.T.g
  obtain ⟨⟨a', fd, nm, qual, params, body, scope, dvs, kws, hm, FD, S, hc, hb, hb2⟩, hs⟩ := FF.defs _ (look_mem hf)
  rw [hmg] at hm
  cases hm
  have rm : Room (r + 1) callerA := ⟨rfl, by show 1 + 300 + 3 * (r + 1) + 5 < 1000; omega, by show 4 + 16 * (r + 1) + 200 < cLine; unfold cLine; omega⟩
  refine law_call (CX := L2.CX l.prog w) (fd := fd) (x := p) (sp := spF T K w mg r f) KX G.T.g G.T.b G.T.builtins G.T.nolimit hg hobj hints (Nat.le_trans hlen hn2) rm (fun base _ _ => ?_) (fun s u => ?_) (fun H hO hS => law_sp hf (by rw [hp]; rfl) hO hS (hY ns hlen)) fun H e s' ⟨_, _, _, _, _, _, _, _, _, _, _, _, z⟩ => z
  · have h := def_fn (P := l.prog) (base := base) FF (fns_ok FF r) FD S hc
    rw [hp] at h
    exact h
  · have h := hb2 hd0 s [u] (by rw [hp]; rfl)
    rw [hp] at h
    exact h
end EK

namespace EK
open PySem PySem.Spec PyProof.Rows L2
/-! ### the head's facts -/
def scopeB (N P : List Str) (sc : Scope) : Bool := (match sc.kind with
  | .function => true
  | _ => false) && !sc.isCoroutine && !sc.isGenerator && decide N.Nodup && decide (N.take P.length = P) && (P.all fun x => match sc.names.lookup x with
    | some .local => true
    | some .cell => true
    | _ => false) && sc.names.all fun y => match y.2 with
      | .free => false
      | _ => true
theorem scope_of {N P : List Str} {sc : Scope} (h : scopeB N P sc = true) : FnScope N P sc := by
  unfold scopeB at h
  simp only [Bool.and_eq_true, List.all_eq_true, decide_eq_true_eq, Bool.not_eq_true'] at h
  obtain ⟨⟨⟨⟨⟨⟨h1, h2⟩, h3⟩, h4⟩, h5⟩, h6⟩, h7⟩ := h
  refine ⟨?_, h2, h3, h4, h5, fun x hx => ?_, fun y hy => ?_⟩
  · cases hk : sc.kind <;> rw [hk] at h1 <;> first | rfl | cases h1
  · have := h6 x hx
    split at this
    · rename_i e; exact .inl e
    · rename_i e; exact .inr e
    · cases this
  · have := h7 y hy
    intro e
    rw [e] at this
    cases this
def chkDef (T : Text) (d : He.DefD) (x : Str) (f : FnI) : Bool := decide (d.at_ = (x, none)) && scopeB f.slots f.params d.scope && chkSs T look { N := f.slots, names := d.scope.names } f.body d.body && f.dfl.all scal
def chkText (T : Text) : List (Str × FnI) → List He.DefD → Bool
  | [], [] => true
  | p :: ps, d :: ds => chkDef T d p.1 p.2 && chkText T ps ds
  | _, _ => false
/-- its parameters are bound -/
def BindOk (d : He.DefD) (f : FnI) : Prop := ∀ (K : PySem.W.Frag) (a : Addr) (fd : FuncData), FunD K d.name d.qual d.params d.body d.scope (d.dvs K) (d.kws K) a fd →
  (∀ j, j ≤ f.dfl.length → ∃ ds, Binds K fd f.params ds ∧ Vals ((f.dfl.drop (f.dfl.length - j)).map scV) ds) ∧
  (f.dfl = [] → ∀ (s : Shared) (us : List Value), us.length = f.params.length → BindsTo s fd ⟨us, []⟩ (f.params.zip us))
def BindAll : List (Str × FnI) → List He.DefD → Prop
  | p :: ps, d :: ds => BindOk d p.2 ∧ BindAll ps ds
  | _, _ => True
theorem bind_all {d : He.DefD} {f : FnI} (h1 : d.dfl = []) (h2 : f.dfl = [])
    (h : ∀ (kV doc pm : Value) (an : Option Addr) (cdv ct : Value) (us : List Value), us.length = f.params.length → bindArgs (PySem.W.fnOf d.name d.qual d.params d.body d.scope .none kV doc pm an cdv ct) ⟨us, []⟩ = pure (f.params.zip us)) : BindOk d f := by
  intro K a fd FD
  have FD' : FunD K d.name d.qual d.params d.body d.scope [] (d.kws K) a fd := by
    have e : d.dvs K = [] := by unfold He.DefD.dvs; rw [h1]; rfl
    rw [e] at FD
    exact FD
  refine ⟨fun j hj => ⟨[], FD'.bindsN h, ?_⟩, fun _ => FD'.bindsA h⟩
  rw [h2, List.drop_nil]
  exact .nil
/-- what the head is asked for -/
def faOf (T : Text) (more : List He.Fa) : List He.Fa := T.fns.map (fun p => He.Fa.glo p.1) ++ (bltNames.map He.Fa.free ++ (T.excs.map He.Fa.glo ++ (T.excs.map He.Fa.exc ++ more)))
theorem fact_mem {fa : List He.Fa} {fn : List He.DefD} {K : PySem.W.Frag} (c : He.SaysD fa fn K) {f : He.Fa} (h : f ∈ fa) : f.ok K = true := by
  obtain ⟨i, hi⟩ := List.getElem?_of_mem h
  exact c.fact i hi
theorem defs_of {T : Text} {K : PySem.W.Frag} {mg : Str → Option Value} : ∀ {l : List (Str × FnI)} {fn : List He.DefD}, (∀ d ∈ fn, ∃ fd, FunD K d.name d.qual d.params d.body d.scope (d.dvs K) (d.kws K) (He.fAd K d.at_) fd) → (∀ p ∈ l, mg p.1 = some (.ref (He.ga K p.1))) →
    chkText T l fn = true → BindAll l fn → ∀ p ∈ l, DefOk T K mg p.1 p.2
  | [], _, _, _, _, _, p, hp => by cases hp
  | q :: l, [], _, _, h, _, _, _ => by simp [chkText] at h
  | q :: l, d :: fn, hfd, hg, h, hb, p, hp => by
    simp only [chkText, Bool.and_eq_true] at h
    rcases List.mem_cons.mp hp with rfl | hp
    · obtain ⟨fd, FD⟩ := hfd d List.mem_cons_self
      have hc := h.1
      unfold chkDef at hc
      simp only [Bool.and_eq_true, decide_eq_true_eq] at hc
      obtain ⟨⟨⟨h1, h2⟩, h3⟩, h4⟩ := hc
      have FD2 : FunD K d.name d.qual d.params d.body d.scope (d.dvs K) (d.kws K) (He.ga K p.1) fd := by
        rw [h1] at FD
        exact FD
      obtain ⟨b1, b2⟩ := hb.1 K _ fd FD2
      exact ⟨⟨_, fd, _, _, _, _, _, _, _, hg p List.mem_cons_self, FD2, scope_of h2, h3, b1, b2⟩, h4⟩
    · exact defs_of (fun d hd => hfd d (List.mem_cons_of_mem _ hd)) (fun p hp => hg p (List.mem_cons_of_mem _ hp)) h.2 hb.2 p hp
theorem facts_of {T : Text} {more : List He.Fa} {fn : List He.DefD} {K : PySem.W.Frag} {h : Heap} {mg : Str → Option Value} {w : World} (X : K.In h) (G : h.Ns mainGlobals mg) (c : He.SaysD (faOf T more) fn K)
    (hc : chkText T T.fns fn = true) (hb : BindAll T.fns fn) (hg : ∀ x v, T.glob x = some v → ∃ v' u, mg x = some u ∧ RelV v' u ∧ ∀ ι H, Rep K w ι H v v') : Facts T K mg w where
  defs := defs_of (fun d hd => by
      obtain ⟨i, hi⟩ := List.getElem?_of_mem hd
      exact c.def_ i hi) (fun p hp => He.glo_ok X G (fact_mem c (by
      unfold faOf
      exact List.mem_append_left _ (List.mem_map.mpr ⟨p, hp, rfl⟩)))) hc hb
  free := fun x hx => He.free_ok X G (fact_mem c (by
    unfold faOf
    exact List.mem_append_right _ (List.mem_append_left _ (List.mem_map.mpr ⟨x, hx, rfl⟩))))
  exc := fun x hx => by
    have h1 := He.glo_ok X G (x := x) (fact_mem c (by
      unfold faOf
      exact List.mem_append_right _ (List.mem_append_right _ (List.mem_append_left _ (List.mem_map.mpr ⟨x, hx, rfl⟩)))))
    obtain ⟨h2, h3, h4, h5⟩ := He.exc_ok (x := x) (fact_mem c (by
      unfold faOf
      exact List.mem_append_right _ (List.mem_append_right _ (List.mem_append_right _ (List.mem_append_left _ (List.mem_map.mpr ⟨x, hx, rfl⟩))))))
    exact ⟨_, h1, h2, h3, h4, h5⟩
  glob := hg
end EK

namespace EK
open PySem PySem.Spec
/-! ### what a run comes to -/
abbrev XP := Str → List PV → Store → Prop
abbrev XS := Str → List PV → Env → Store → Prop
def Wr {α : Type} (m : Res α) (Q : α → Store → Prop) (E : XP) : Prop := match m with
  | .ok a S => Q a S
  | .exc c fs S => E c fs S
  | .bad => False
def Ws (m : SRes) (N : Env → Store → Prop) (R : PV → Store → Prop) (E : XS) : Prop := match m with
  | .nx env S => N env S
  | .ret v S => R v S
  | .exc c fs env S => E c fs env S
  | _ => False
/-- no exception -/
def nE : XP := fun _ _ _ => False
def nS : XS := fun _ _ _ _ => False
section
variable {α β : Type} {Q Q' : α → Store → Prop} {E E' : XP} {N N' : Env → Store → Prop} {R R' : PV → Store → Prop} {X X' : XS} {G : Conf} {env : Env} {S : Store}
theorem wr_ok {a : α} : Wr (.ok a S) Q E = Q a S := rfl
theorem wr_bad : Wr (.bad : Res α) Q E = False := rfl
theorem wr_exc {c : Str} {fs : List PV} : Wr (.exc c fs S : Res α) Q E = E c fs S := rfl
theorem wr_bind {m : Res α} {f : α → Store → Res β} {Q : β → Store → Prop} : Wr (m.bind f) Q E = Wr m (fun a S => Wr (f a S) Q E) E := by
  cases m <;> rfl
theorem Wr.imp {m : Res α} (h : Wr m Q E) (hq : ∀ a S, Q a S → Q' a S) (he : ∀ c fs S, E c fs S → E' c fs S) : Wr m Q' E' := by
  cases m with
  | ok a S => exact hq _ _ h
  | exc c fs S => exact he _ _ _ h
  | bad => exact h
theorem Wr.of {m : Res α} (h : Wr m Q nE) (hq : ∀ a S, Q a S → Q' a S) : Wr m Q' E := h.imp hq fun _ _ _ z => z.elim
theorem Wr.get {m : Res α} (h : Wr m Q nE) : ∃ a S, m = .ok a S ∧ Q a S := by
  cases m with
  | ok a S => exact ⟨a, S, rfl, h⟩
  | exc c fs S => exact h.elim
  | bad => exact h.elim
theorem Wr.mk {m : Res α} {a : α} (e : m = .ok a S) (h : Q a S) : Wr m Q E := by rw [e]; exact h
theorem Ws.imp {m : SRes} (h : Ws m N R X) (hn : ∀ e S, N e S → N' e S) (hr : ∀ v S, R v S → R' v S) (hx : ∀ c fs e S, X c fs e S → X' c fs e S) : Ws m N' R' X' := by
  cases m with
  | nx e S => exact hn _ _ h
  | ret v S => exact hr _ _ h
  | exc c fs e S => exact hx _ _ _ _ h
  | brk _ _ => exact h
  | ct _ _ => exact h
  | bad => exact h
theorem ws_nx : Ws (.nx env S) N R X = N env S := rfl
theorem ws_ret {v : PV} : Ws (.ret v S) N R X = R v S := rfl
theorem ws_exc {c : Str} {fs : List PV} : Ws (.exc c fs env S) N R X = X c fs env S := rfl
theorem ws_thn {m : SRes} {f : Env → Store → SRes} : Ws (m.thn f) N R X = Ws m (fun e S => Ws (f e S) N R X) R X := by cases m <;> rfl
theorem ws_sbind {m : Res PV} {f : PV → Store → SRes} : Ws (m.sbind env f) N R X = Wr m (fun v S => Ws (f v S) N R X) (fun c fs S => X c fs env S) := by cases m <;> rfl
theorem ws_nil : Ws (execSs G .nil env S) N R X = N env S := by simp only [execSs, ws_nx]
theorem ws_cons {s : Sm} {ss : Sms} : Ws (execSs G (.cons s ss) env S) N R X = Ws (execS G s env S) (fun e S => Ws (execSs G ss e S) N R X) R X := by simp only [execSs, ws_thn]
theorem ws_asg {t : Tgt} {e : Ex} : Ws (execS G (.asg t e) env S) N R X = Wr (evalE G e env S) (fun v S1 => ∃ e1, asgM t v env = some e1 ∧ N e1 S1) (fun c fs S => X c fs env S) := by
  simp only [execS, ws_sbind]
  congr 1
  funext v S1
  cases asgM t v env with
  | none => simp [Ws]
  | some e1 => simp [Ws]
theorem ws_exp {e : Ex} : Ws (execS G (.exp e) env S) N R X = Wr (evalE G e env S) (fun _ S1 => N env S1) (fun c fs S => X c fs env S) := by simp only [execS, ws_sbind, ws_nx]
theorem ws_retS {e : Ex} : Ws (execS G (.ret e) env S) N R X = Wr (evalE G e env S) R (fun c fs S => X c fs env S) := by simp only [execS, ws_sbind, ws_ret]
theorem wr_truB {m : Res PV} {Q : Bool → Store → Prop} : Wr (truB m) Q E = Wr m (fun v S => ∃ t, truthM S v = some t ∧ Q t S) E := by
  unfold truB
  rw [wr_bind]
  congr 1
  funext v S
  cases truthM S v with
  | none => simp [Wr]
  | some b => simp [Wr]
theorem ws_ifs {c : Ex} {a b : Sms} : Ws (execS G (.ifs c a b) env S) N R X = Wr (evalE G c env S) (fun v S1 => ∃ t, truthM S1 v = some t ∧ Ws (execSs G (if t = true then a else b) env S1) N R X) (fun c fs S => X c fs env S) := by
  have e : Wr (evalE G c env S) (fun v S1 => ∃ t, truthM S1 v = some t ∧ Ws (execSs G (if t = true then a else b) env S1) N R X) (fun c fs S => X c fs env S) =
      Wr (truB (evalE G c env S)) (fun t S1 => Ws (execSs G (if t = true then a else b) env S1) N R X) (fun c fs S => X c fs env S) := wr_truB.symm
  rw [e]
  simp only [execS]
  cases truB (evalE G c env S) with
  | ok t S1 => cases t <;> rfl
  | exc _ _ _ => rfl
  | bad => rfl
theorem ws_pass : Ws (execS G .pass env S) N R X = N env S := by simp only [execS, ws_nx]
theorem ws_raise {c : Str} : Ws (execS G (.raise c) env S) N R X = X c [] env S := by simp only [execS, ws_exc]
/-- a for: I by the turn -/
theorem ws_for {t : Tgt} {k : IK} {src : Exs} {body : Sms} (h : Wr (evalEs G src env S) (fun vs S1 => ∃ n0, lenM k vs S1 = some n0 ∧ ∃ (n : Nat) (I : Nat → Env → Store → Prop), n ≤ n0 ∧ I 0 env S1 ∧
      (∀ e S2, I n e S2 → stepM k vs n0 n S2 = .stop ∧ N e S2) ∧
      ∀ i e S2, i < n → I i e S2 → ∃ v, stepM k vs n0 i S2 = .item v ∧ ∃ e1, asgM t v e = some e1 ∧ Ws (execSs G body e1 S2) (I (i + 1)) R X) (fun c fs S => X c fs env S)) :
    Ws (execS G (.for t k src body) env S) N R X := by
  simp only [execS]
  cases e0 : evalEs G src env S with
  | exc c fs S1 => rw [e0] at h; exact h
  | bad => rw [e0] at h; exact h
  | ok vs S1 =>
    rw [e0] at h
    obtain ⟨n0, hn, n, I, hle, h0, hs, hi⟩ := h
    simp only [hn]
    have go : ∀ (f i : Nat) (e : Env) (S2 : Store), i + f = n0 + 1 → i ≤ n → I i e S2 → Ws (forLoop (stepM k vs n0) (asgM t) (execSs G body) f i e S2) N R X := by
      intro f
      induction f with
      | zero => intro i e S2 h1 h2 _; omega
      | succ f ih =>
        intro i e S2 h1 h2 hI
        simp only [forLoop]
        by_cases hin : i = n
        · subst hin
          obtain ⟨q1, q2⟩ := hs e S2 hI
          rw [q1]
          exact q2
        · obtain ⟨v, q1, e1, q2, q3⟩ := hi i e S2 (by omega) hI
          rw [q1]
          simp only [q2]
          cases eb : execSs G body e1 S2 with
          | nx e5 S5 => rw [eb] at q3; exact ih (i + 1) e5 S5 (by omega) (by omega) q3
          | ret v5 S5 => rw [eb] at q3; exact q3
          | exc c fs e5 S5 => rw [eb] at q3; exact q3
          | brk e5 S5 => rw [eb] at q3; exact q3.elim
          | ct e5 S5 => rw [eb] at q3; exact q3.elim
          | bad => rw [eb] at q3; exact q3.elim
    exact go (n0 + 1) 0 env S1 (by omega) (Nat.zero_le _) h0
/-- a while: I by a measure -/
theorem ws_while {c : Ex} {body : Sms} (n : Nat) (hn : n < whileMost) (I : Nat → Env → Store → Prop) (h0 : I n env S)
    (h : ∀ m e S, I m e S → Wr (evalE G c e S) (fun v S1 => ∃ t, truthM S1 v = some t ∧ if t = true then 0 < m ∧ Ws (execSs G body e S1) (I (m - 1)) R X else N e S1) (fun c fs S => X c fs e S)) :
    Ws (execS G (.while c body) env S) N R X := by
  simp only [execS]
  have go : ∀ (f m : Nat) (e : Env) (S : Store), m < f → I m e S → Ws (whileLoop (fun env S => truB (evalE G c env S)) (execSs G body) f e S) N R X := by
    intro f
    induction f with
    | zero => intro m e S h1; omega
    | succ f ih =>
      intro m e S h1 hI
      have q := h m e S hI
      simp only [whileLoop]
      cases ev : evalE G c e S with
      | bad => rw [ev] at q; exact q.elim
      | exc c fs S1 => rw [ev] at q; exact q
      | ok v S1 =>
        rw [ev] at q
        obtain ⟨t, q1, q2⟩ := q
        have et : truB (.ok v S1) = .ok t S1 := by unfold truB; simp only [Res.bind, q1]
        rw [et]
        cases t with
        | false => exact q2
        | true =>
          rw [if_pos rfl] at q2
          obtain ⟨hm, q2⟩ := q2
          cases eb : execSs G body e S1 with
          | nx e5 S5 => rw [eb] at q2; simp only [eb]; exact ih (m - 1) e5 S5 (by omega) q2
          | ret v5 S5 => rw [eb] at q2; simp only [eb]; exact q2
          | exc c fs e5 S5 => rw [eb] at q2; simp only [eb]; exact q2
          | brk e5 S5 => rw [eb] at q2; exact q2.elim
          | ct e5 S5 => rw [eb] at q2; exact q2.elim
          | bad => rw [eb] at q2; exact q2.elim
  exact go whileMost n env S hn h0
/-- a comprehension: I by the turn, with the list so far -/
theorem wr_comp {own : List Nat} {tg : Tgt} {k : IK} {src cond : Exs} {elt : Ex} {Q : PV → Store → Prop} (h : Wr (evalEs G src env S) (fun vs S1 => ∃ n0, lenM k vs S1 = some n0 ∧ ∃ (n : Nat) (I : Nat → List PV → Store → Prop), n ≤ n0 ∧ n0 ≤ sizeLine ∧ I 0 [] (S1 ++ [.lst []]) ∧
      (∀ l S2, I n l S2 → stepM k vs n0 n S2 = .stop ∧ Q (.ref S1.length) S2) ∧
      ∀ i l S2, i < n → l.length ≤ i → I i l S2 → S2[S1.length]? = some (.lst l) ∧ ∃ v, stepM k vs n0 i S2 = .item v ∧ ∃ e1, asgM tg v (wipeE env own) = some e1 ∧
        Wr (evalC G cond e1 S2) (fun b S3 => if b = true then Wr (evalE G elt e1 S3) (fun y S4 => S4[S1.length]? = some (.lst l) ∧ I (i + 1) (l ++ [y]) (S4.set S1.length (.lst (l ++ [y])))) (fun _ _ _ => False) else I (i + 1) l S3) (fun _ _ _ => False)) E) :
    Wr (evalE G (.comp own tg k src cond elt) env S) Q E := by
  simp only [evalE, wr_bind]
  cases e0 : evalEs G src env S with
  | exc c fs S1 => rw [e0] at h; exact h
  | bad => rw [e0] at h; exact h
  | ok vs S1 =>
    rw [e0] at h
    obtain ⟨n0, hn, n, I, hle, hz, h0, hs, hi⟩ := h
    show Wr (match lenM k vs S1 with
      | none => .bad
      | some n0 => _) Q E
    simp only [hn]
    have go : ∀ (f i : Nat) (l : List PV) (S2 : Store), i + f = n0 + 1 → i ≤ n → l.length ≤ i → I i l S2 → Wr (compLoop (stepM k vs n0) (fun v S2 => match asgM tg v (wipeE env own) with
      | none => .bad
      | some e1 => (evalC G cond e1 S2).bind fun b S3 => if b then (evalE G elt e1 S3).bind fun y S4 => .ok (some y) S4 else .ok none S3) S1.length f i S2) Q E := by
      intro f
      induction f with
      | zero => intro i l S2 h1 h2 _ _; omega
      | succ f ih =>
        intro i l S2 h1 h2 hl hI
        simp only [compLoop]
        by_cases hin : i = n
        · subst hin
          obtain ⟨q1, q2⟩ := hs l S2 hI
          rw [q1]
          exact q2
        · obtain ⟨hd, v, q1, e1, q2, q3⟩ := hi i l S2 (by omega) hl hI
          rw [q1]
          simp only [q2]
          cases ec : evalC G cond e1 S2 with
          | bad => rw [ec] at q3; exact q3.elim
          | exc c fs S5 => rw [ec] at q3; exact q3.elim
          | ok b S3 =>
            rw [ec] at q3
            simp only [Res.bind]
            cases b with
            | false => exact ih (i + 1) l S3 (by omega) (by omega) (by omega) q3
            | true =>
              have q3 : Wr (evalE G elt e1 S3) _ _ := q3
              cases ee : evalE G elt e1 S3 with
              | bad => rw [ee] at q3; exact q3.elim
              | exc c fs S5 => rw [ee] at q3; exact q3.elim
              | ok y S4 =>
                rw [ee] at q3
                obtain ⟨q4, q5⟩ := q3
                simp only [if_true, q4]
                rw [if_pos (by omega)]
                exact ih (i + 1) (l ++ [y]) _ (by omega) (by omega) (by rw [List.length_append]; simp; omega) q5
    exact go (n0 + 1) 0 [] _ (by omega) (Nat.zero_le _) (Nat.le_refl _) h0
/-- a call -/
theorem wr_call {T : Text} {r : Nat} {x : Str} {f : FnI} {vs ws : List PV} {Q : PV → Store → Prop} (hf : T.fns.lookup x = some f) (hw : vs ++ f.dfl.drop (f.dfl.length - (f.params.length - vs.length)) = ws) (hl : ws.length = f.params.length)
    (h : Ws (execSs (conf T r) f.body (ws.map some ++ List.replicate (f.slots.length - ws.length) none) S) (fun _ S => Q .non S) Q (fun c fs _ S => E c fs S)) : Wr (callF T (r + 1) x vs S) Q E := by
  simp only [callF, hf]
  rw [hw]
  unfold callBody
  rw [if_pos hl]
  cases e : execSs (conf T r) f.body (ws.map some ++ List.replicate (f.slots.length - ws.length) none) S with
  | nx e5 S5 => rw [e] at h; exact h
  | ret v5 S5 => rw [e] at h; exact h
  | exc c fs e5 S5 => rw [e] at h; exact h
  | brk _ _ => rw [e] at h; exact h.elim
  | ct _ _ => rw [e] at h; exact h.elim
  | bad => rw [e] at h; exact h.elim
theorem wr_callE {T : Text} {r : Nat} {x : Str} {es : Exs} {Q : PV → Store → Prop} : Wr (evalE (conf T (r + 1)) (.call x es) env S) Q E = Wr (evalEs (conf T (r + 1)) es env S) (fun vs S1 => Wr (callF T (r + 1) x vs S1) Q E) E := by
  simp only [evalE]
  rw [if_pos (show (r + 1 != 0) = true from rfl), wr_bind]
end
end EK

namespace EK
open PySem PySem.Spec L2
section
variable {α β : Type} {Q : PV → Store → Prop} {E : XP} {G : Conf} {env : Env} {S : Store} {T : Text} {r : Nat}
/-! ### expressions -/
theorem wr_slot {i : Nat} : Wr (evalE G (.slot i) env S) Q E = ∃ v, env[i]? = some (some v) ∧ Q v S := by
  simp only [evalE]
  cases env[i]? with
  | none => simp [Wr]
  | some o => cases o <;> simp [Wr]
theorem wr_cst {v : PV} : Wr (evalE G (.cst v) env S) Q E = Q v S := by simp only [evalE, wr_ok]
theorem wr_glo {x : Str} : Wr (evalE G (.glo x) env S) Q E = ∃ v, G.glob x = some v ∧ Q v S := by
  simp only [evalE]
  cases G.glob x <;> simp [Wr]
theorem wr_nil {Q : List PV → Store → Prop} : Wr (evalEs G .nil env S) Q E = Q [] S := by simp only [evalEs, wr_ok]
theorem wr_cons {Q : List PV → Store → Prop} {e : Ex} {es : Exs} : Wr (evalEs G (.cons e es) env S) Q E = Wr (evalE G e env S) (fun v S1 => Wr (evalEs G es env S1) (fun vs S2 => Q (v :: vs) S2) E) E := by simp only [evalEs, wr_bind, wr_ok]
theorem wr_if {γ : Type} {p : Prop} [Decidable p] {m : Res γ} {Q : γ → Store → Prop} : Wr (if p then m else .bad) Q E = (p ∧ Wr m Q E) := by
  by_cases h : p
  · rw [if_pos h]; simp [h]
  · rw [if_neg h]; simp [h, Wr]
theorem wr_tup {es : Exs} : Wr (evalE G (.tup es) env S) Q E = Wr (evalEs G es env S) (fun vs S1 => vs.length ≤ sizeLine ∧ Q (.tup vs) S1) E := by simp only [evalE, wr_bind, wr_if, wr_ok]
theorem wr_lst {es : Exs} : Wr (evalE G (.lst es) env S) Q E = Wr (evalEs G es env S) (fun vs S1 => vs.length ≤ sizeLine ∧ Q (.ref S1.length) (S1 ++ [.lst vs])) E := by simp only [evalE, wr_bind, wr_if, wr_ok]
theorem wr_dsp {ks : List Str} {es : Exs} : Wr (evalE G (.dsp ks es) env S) Q E = Wr (evalEs G es env S) (fun vs S1 => vs.length = ks.length ∧ Q (.dct ks vs) S1) E := by simp only [evalE, wr_bind, wr_if, wr_ok]
theorem wr_bin {op : BOp} {a b : Ex} : Wr (evalE G (.bin op a b) env S) Q E = Wr (evalE G a env S) (fun x S1 => Wr (evalE G b env S1) (fun y S2 => Wr (binM op x y S2) Q E) E) E := by simp only [evalE, wr_bind]
theorem wr_neg {a : Ex} : Wr (evalE G (.neg a) env S) Q E = Wr (evalE G a env S) (fun x S1 => ∃ i, x = .int i ∧ Q (.int (-i)) S1) E := by
  simp only [evalE, wr_bind]
  congr 1; funext x S1
  cases x <;> simp [Wr]
theorem wr_not {a : Ex} : Wr (evalE G (.not a) env S) Q E = Wr (evalE G a env S) (fun x S1 => ∃ t, truthM S1 x = some t ∧ Q (.bl (!t)) S1) E := by simp only [evalE, wr_bind, wr_truB, wr_ok]
theorem wr_cmp {op : COp} {a b : Ex} : Wr (evalE G (.cmp op a b) env S) Q E = Wr (evalE G a env S) (fun x S1 => Wr (evalE G b env S1) (fun y S2 => Wr (cmpM op x y S2) Q E) E) E := by simp only [evalE, wr_bind]
theorem wr_and {a b : Ex} : Wr (evalE G (.and a b) env S) Q E = Wr (evalE G a env S) (fun x S1 => ∃ t, truthM S1 x = some t ∧ if t = true then Wr (evalE G b env S1) Q E else Q x S1) E := by
  simp only [evalE, wr_bind]
  congr 1; funext x S1
  cases truthM S1 x with
  | none => simp [Wr]
  | some t => cases t <;> simp [Wr]
theorem wr_or {a b : Ex} : Wr (evalE G (.or a b) env S) Q E = Wr (evalE G a env S) (fun x S1 => ∃ t, truthM S1 x = some t ∧ if t = true then Q x S1 else Wr (evalE G b env S1) Q E) E := by
  simp only [evalE, wr_bind]
  congr 1; funext x S1
  cases truthM S1 x with
  | none => simp [Wr]
  | some t => cases t <;> simp [Wr]
theorem wr_ite {c a b : Ex} : Wr (evalE G (.ite c a b) env S) Q E = Wr (evalE G c env S) (fun x S1 => ∃ t, truthM S1 x = some t ∧ if t = true then Wr (evalE G a env S1) Q E else Wr (evalE G b env S1) Q E) E := by
  simp only [evalE, wr_bind, wr_truB]
  congr 1; funext x S1
  congr 1; funext t
  cases t <;> rfl
theorem wr_isN {a : Ex} : Wr (evalE G (.isN a) env S) Q E = Wr (evalE G a env S) (fun x S1 => Q (.bl (isNonP x)) S1) E := by simp only [evalE, wr_bind, wr_ok]
theorem wr_notN {a : Ex} : Wr (evalE G (.notN a) env S) Q E = Wr (evalE G a env S) (fun x S1 => Q (.bl (!isNonP x)) S1) E := by simp only [evalE, wr_bind, wr_ok]
theorem wr_ix {a b : Ex} : Wr (evalE G (.ix a b) env S) Q E = Wr (evalE G a env S) (fun x S1 => Wr (evalE G b env S1) (fun y S2 => Wr (ixM x y S2) Q E) E) E := by simp only [evalE, wr_bind]
theorem wr_sl {a : Ex} {lo hi : Exs} : Wr (evalE G (.sl a lo hi) env S) Q E = Wr (evalE G a env S) (fun x S1 => Wr (evalEs G lo env S1) (fun l S2 => ∃ l', partM l = some l' ∧ Wr (evalEs G hi env S2) (fun h S3 => ∃ h', partM h = some h' ∧ Wr (slM x l' h' S3) Q E) E) E) E := by
  simp only [evalE, wr_bind, partR]
  congr 1; funext x S1
  congr 1; funext l S2
  cases partM l with
  | none => simp [Wr]
  | some l' =>
    simp only [wr_ok, Option.some.injEq, exists_eq_left', ]
    congr 1; funext h S3
    cases partM h with
    | none => simp [Wr]
    | some h' => simp [Wr]
theorem wr_prim {p : Prim} {es : Exs} : Wr (evalE G (.prim p es) env S) Q E = Wr (evalEs G es env S) (fun vs S1 => Wr (primM p vs S1) Q E) E := by simp only [evalE, wr_bind]
theorem wr_lrg {es : Exs} : Wr (evalE G (.lrg es) env S) Q E = Wr (evalEs G es env S) (fun vs S1 => Wr (listRg vs S1) Q E) E := by simp only [evalE, wr_bind]
theorem wr_meth {m : Mth} {o : Ex} {es : Exs} : Wr (evalE G (.meth m o es) env S) Q E = Wr (evalE G o env S) (fun x S1 => methFor m x = true ∧ Wr (evalEs G es env S1) (fun vs S2 => Wr (methM m x vs S2) Q E) E) E := by simp only [evalE, wr_bind, wr_if]
theorem wr_isT {t : TN} {a : Ex} : Wr (evalE G (.isT t a) env S) Q E = Wr (evalE G a env S) (fun x S1 => ∃ s, tyS x S1 = some s ∧ Q (.bl (kitS t s)) S1) E := by
  simp only [evalE, wr_bind, isTM]
  congr 1; funext x S1
  cases tyS x S1 <;> simp [Wr]
theorem wr_c0 {Q : Bool → Store → Prop} : Wr (evalC G .nil env S) Q E = Q true S := by simp only [evalC, wr_ok]
theorem wr_c1 {e : Ex} {Q : Bool → Store → Prop} : Wr (evalC G (.cons e .nil) env S) Q E = Wr (evalE G e env S) (fun v S1 => ∃ t, truthM S1 v = some t ∧ Q t S1) E := by simp only [evalC, wr_truB]
/-! ### deeds -/
theorem m_addI {i j : Int} : Wr (binM .add (.int i) (.int j) S) Q E = Q (.int (i + j)) S := rfl
theorem m_subI {i j : Int} : Wr (binM .sub (.int i) (.int j) S) Q E = Q (.int (i - j)) S := rfl
theorem m_mulI {i j : Int} : Wr (binM .mul (.int i) (.int j) S) Q E = (mulOk i j = true ∧ Q (.int (i * j)) S) := by simp only [binM, mulM, wr_if, wr_ok]
theorem m_divI {i j : Int} : Wr (binM .fdiv (.int i) (.int j) S) Q E = ((0 < j ∧ j.natAbs < 2 ^ 200) ∧ Q (.int (i / j)) S) := by
  simp only [binM, intM]
  by_cases h : (decide (0 < j) && decide (j.natAbs < 2 ^ 200)) = true
  · rw [if_pos h]
    simp only [Bool.and_eq_true, decide_eq_true_eq] at h
    simp only [wr_ok]
    exact propext ⟨fun q => ⟨h, q⟩, fun q => q.2⟩
  · rw [if_neg h]
    simp only [Bool.and_eq_true, decide_eq_true_eq] at h
    exact propext ⟨fun q => q.elim, fun q => (h q.1).elim⟩
theorem m_modI {i j : Int} : Wr (binM .mod (.int i) (.int j) S) Q E = (0 < j ∧ Q (.int (i % j)) S) := by
  simp only [binM, intM]
  by_cases h : 0 < j
  · rw [if_pos h]; simp [h, Wr]
  · rw [if_neg h]; simp [h, Wr]
theorem m_powI {i j : Int} : Wr (binM .pow (.int i) (.int j) S) Q E = ((0 ≤ j ∧ j ≤ 1000000 ∧ i.natAbs < 2 ^ 64) ∧ Q (.int (i ^ j.toNat)) S) := by
  simp only [binM, intM]
  by_cases h : (decide (0 ≤ j) && decide (j ≤ 1000000) && decide (i.natAbs < 2 ^ 64)) = true
  · rw [if_pos h]
    simp only [Bool.and_eq_true, decide_eq_true_eq] at h
    simp only [wr_ok]
    exact propext ⟨fun q => ⟨⟨h.1.1, h.1.2, h.2⟩, q⟩, fun q => q.2⟩
  · rw [if_neg h]
    simp only [Bool.and_eq_true, decide_eq_true_eq] at h
    exact propext ⟨fun q => q.elim, fun q => (h ⟨⟨q.1.1, q.1.2.1⟩, q.1.2.2⟩).elim⟩
theorem m_addT {xs ys : List PV} : Wr (binM .add (.tup xs) (.tup ys) S) Q E = (xs.length + ys.length ≤ sizeLine ∧ Q (.tup (xs ++ ys)) S) := by simp only [binM, addM, wr_if, wr_ok]
theorem m_addS {xs ys : Str} : Wr (binM .add (.str xs) (.str ys) S) Q E = (xs.length + ys.length ≤ sizeLine ∧ Q (.str (xs ++ ys)) S) := by simp only [binM, addM, wr_if, wr_ok]
theorem m_addL {m n : Nat} {xs ys : List PV} (h1 : S[m]? = some (.lst xs)) (h2 : S[n]? = some (.lst ys)) : Wr (binM .add (.ref m) (.ref n) S) Q E = (xs.length + ys.length ≤ sizeLine ∧ Q (.ref S.length) (S ++ [.lst (xs ++ ys)])) := by simp only [binM, addM, h1, h2, wr_if, wr_ok]
theorem m_ltI {i j : Int} : Wr (cmpM .lt (.int i) (.int j) S) Q E = Q (.bl (decide (i < j))) S := rfl
theorem m_leI {i j : Int} : Wr (cmpM .le (.int i) (.int j) S) Q E = Q (.bl (decide (i ≤ j))) S := rfl
theorem m_gtI {i j : Int} : Wr (cmpM .gt (.int i) (.int j) S) Q E = Q (.bl (decide (j < i))) S := rfl
theorem m_geI {i j : Int} : Wr (cmpM .ge (.int i) (.int j) S) Q E = Q (.bl (decide (j ≤ i))) S := rfl
theorem m_eq {x y : PV} : Wr (cmpM .eq x y S) Q E = ∃ b, eqM S x y = some b ∧ Q (.bl b) S := by
  simp only [cmpM]
  cases eqM S x y <;> simp [Wr, okB]
theorem m_ne {x y : PV} : Wr (cmpM .ne x y S) Q E = ∃ b, eqM S x y = some b ∧ Q (.bl (!b)) S := by
  simp only [cmpM]
  cases eqM S x y <;> simp [Wr, okB]
theorem m_in {x y : PV} : Wr (cmpM .isIn x y S) Q E = ∃ b, inM S x y = some b ∧ Q (.bl b) S := by
  simp only [cmpM]
  cases inM S x y <;> simp [Wr, okB]
theorem m_nin {x y : PV} : Wr (cmpM .notIn x y S) Q E = ∃ b, inM S x y = some b ∧ Q (.bl (!b)) S := by
  simp only [cmpM]
  cases inM S x y <;> simp [Wr, okB]
theorem eq_clean {x y : PV} (h1 : clean x = true) (h2 : clean y = true) (h3 : depth x ≤ 150) : eqM S x y = some (beqPV x y) := by
  unfold eqM
  rw [if_pos (by simp [h1, h2, h3])]
theorem eq_int {i j : Int} : eqM S (.int i) (.int j) = some (decide (i = j)) := eq_clean rfl rfl (by simp [depth])
theorem eq_str {a b : Str} (h1 : strOkB a = true) (h2 : strOkB b = true) : eqM S (.str a) (.str b) = some (decide (a = b)) := eq_clean h1 h2 (by simp [depth])
theorem m_ixT {xs : List PV} {i : Int} : Wr (ixM (.tup xs) (.int i) S) Q E = ∃ v, atI xs i = some v ∧ Q v S := by
  simp only [ixM]
  cases atI xs i <;> simp [Wr]
theorem m_ixC {xs : List PV} {i : Int} : Wr (ixM (.con xs) (.int i) S) Q E = ∃ v, atI xs i = some v ∧ Q v S := by
  simp only [ixM]
  cases atI xs i <;> simp [Wr]
theorem m_ixL {n : Nat} {xs : List PV} {i : Int} (h : S[n]? = some (.lst xs)) : Wr (ixM (.ref n) (.int i) S) Q E = ∃ v, atI xs i = some v ∧ Q v S := by
  simp only [ixM, h]
  cases atI xs i <;> simp [Wr]
theorem m_ixD {ks : List Str} {vs : List PV} {k : Str} : Wr (ixM (.dct ks vs) (.str k) S) Q E = ∃ v, lookD k ks vs = some v ∧ Q v S := by
  simp only [ixM]
  cases lookD k ks vs <;> simp [Wr]
theorem at_0 {α : Type} {a : α} {l : List α} : atI (a :: l) 0 = some a := by simp [atI, ixN]
theorem at_1 {α : Type} {a b : α} {l : List α} : atI (a :: b :: l) 1 = some b := by
  have : (1 : Int) < (l.length : Int) + 1 + 1 := by omega
  simp [atI, ixN, this]
theorem at_2 {α : Type} {a b c : α} {l : List α} : atI (a :: b :: c :: l) 2 = some c := by
  have : (2 : Int) < (l.length : Int) + 1 + 1 + 1 := by omega
  simp [atI, ixN, this]
theorem at_3 {α : Type} {a b c d : α} {l : List α} : atI (a :: b :: c :: d :: l) 3 = some d := by
  have : (3 : Int) < (l.length : Int) + 1 + 1 + 1 + 1 := by omega
  simp [atI, ixN, this]
theorem at_nat {α : Type} {l : List α} {i : Nat} {a : α} (h : l[i]? = some a) : atI l (i : Int) = some a := by
  have hi := (List.getElem?_eq_some_iff.mp h).1
  unfold atI ixN
  rw [if_pos (by omega), if_pos (by omega)]
  simpa using h
theorem m_lenT {xs : List PV} : Wr (primM .len [.tup xs] S) Q E = Q (.int xs.length) S := rfl
theorem m_lenC {xs : List PV} : Wr (primM .len [.con xs] S) Q E = Q (.int xs.length) S := rfl
theorem m_lenL {n : Nat} {xs : List PV} (h : S[n]? = some (.lst xs)) : Wr (primM .len [.ref n] S) Q E = Q (.int xs.length) S := by
  simp only [primM, seqL, cellL, h, wr_ok]
theorem m_intI {i : Int} : Wr (primM .int [.int i] S) Q E = Q (.int i) S := rfl
theorem m_intB {b : Bool} : Wr (primM .int [.bl b] S) Q E = Q (.int (if b then 1 else 0)) S := rfl
theorem m_abs {i : Int} : Wr (primM .abs [.int i] S) Q E = Q (.int (if i < 0 then -i else i)) S := rfl
theorem m_max {i j : Int} : Wr (primM .max2 [.int i, .int j] S) Q E = Q (.int (if j > i then j else i)) S := rfl
theorem m_min {i j : Int} : Wr (primM .min2 [.int i, .int j] S) Q E = Q (.int (if j < i then j else i)) S := rfl
theorem m_tupL {n : Nat} {xs : List PV} (h : S[n]? = some (.lst xs)) : Wr (primM .tuple [.ref n] S) Q E = Q (.tup xs) S := by
  simp only [primM, cellL, h, wr_ok]
theorem m_tupT {xs : List PV} : Wr (primM .tuple [.tup xs] S) Q E = Q (.tup xs) S := rfl
theorem m_listL {n : Nat} {xs : List PV} (h : S[n]? = some (.lst xs)) : Wr (primM .list [.ref n] S) Q E = Q (.ref S.length) (S ++ [.lst xs]) := by
  simp only [primM, seqL, cellL, h, wr_ok]
theorem m_listT {xs : List PV} : Wr (primM .list [.tup xs] S) Q E = Q (.ref S.length) (S ++ [.lst xs]) := rfl
theorem ints_map : ∀ ns : List Int, intsP (ns.map .int) = some ns
  | [] => rfl
  | n :: ns => by simp only [List.map_cons, intsP, ints_map ns, Option.map_some]
theorem m_sum {n : Nat} {ns : List Int} (h : S[n]? = some (.lst (ns.map .int))) : Wr (primM .sum [.ref n] S) Q E = Q (.int ns.sum) S := by
  simp only [primM, cellL, h, Option.bind_some, ints_map, wr_ok]
theorem m_app {n : Nat} {xs : List PV} {v : PV} (h : S[n]? = some (.lst xs)) : Wr (methM .append (.ref n) [v] S) Q E = (xs.length < sizeLine ∧ Q .non (S.set n (.lst (xs ++ [v])))) := by
  simp only [methM, appM, h, wr_if, wr_ok]
theorem m_ext {n k : Nat} {xs ys : List PV} (h : S[n]? = some (.lst xs)) (h2 : S[k]? = some (.lst ys)) : Wr (methM .extend (.ref n) [.ref k] S) Q E = (xs.length + ys.length ≤ sizeLine ∧ Q .non (S.set n (.lst (xs ++ ys)))) := by
  simp only [methM, extM, h, h2, wr_if, wr_ok]
theorem m_pop0 {n : Nat} {x : PV} {xs : List PV} (h : S[n]? = some (.lst (x :: xs))) : Wr (methM .pop (.ref n) [.int 0] S) Q E = Q x (S.set n (.lst xs)) := by
  simp only [methM, popM, h, wr_ok]
theorem m_pop {n : Nat} {x : PV} {xs : List PV} (h : S[n]? = some (.lst (xs ++ [x]))) : Wr (methM .pop (.ref n) [] S) Q E = Q x (S.set n (.lst xs)) := by
  have e : (xs ++ [x])[(xs ++ [x]).length - 1]? = some x := by simp
  simp only [methM, popM, h, e, wr_ok, List.dropLast_concat]
theorem m_clr {n : Nat} {xs : List PV} (h : S[n]? = some (.lst xs)) : Wr (methM .clear (.ref n) [] S) Q E = Q .non (S.set n (.lst [])) := by
  simp only [methM, clrM, h, wr_ok]
theorem m_ixOfL {n : Nat} {xs : List PV} {v : PV} (h : S[n]? = some (.lst xs)) : Wr (methM .index (.ref n) [v] S) Q E = ∃ k, idxEq S v xs = some k ∧ Q (.int (k : Nat)) S := by
  simp only [methM, idxM, seqL, cellL, h]
  cases idxEq S v xs <;> simp [Wr]
theorem m_slT {xs : List PV} {l h : Option Int} : Wr (slM (.tup xs) l h S) Q E = Q (.tup (cutP xs l h)) S := rfl
theorem m_slC {xs : List PV} {l h : Option Int} : Wr (slM (.con xs) l h S) Q E = Q (.ref S.length) (S ++ [.lst (cutP xs l h)]) := rfl
theorem m_slL {n : Nat} {xs : List PV} {l h : Option Int} (e : S[n]? = some (.lst xs)) : Wr (slM (.ref n) l h S) Q E = Q (.ref S.length) (S ++ [.lst (cutP xs l h)]) := by
  simp only [slM, e, wr_ok]
theorem t_bl {b : Bool} : truthM S (.bl b) = some b := rfl
theorem t_int {i : Int} : truthM S (.int i) = some (i != 0) := rfl
theorem t_non : truthM S .non = some false := rfl
theorem t_tup {xs : List PV} : truthM S (.tup xs) = some (!xs.isEmpty) := rfl
theorem a_nm {i : Nat} {v : PV} : asgM (.nm i) v env = some (env.set i (some v)) := rfl
theorem a_tp {is : List Nat} {vs : List PV} : asgM (.tp is) (.tup vs) env = setSlots env is vs := rfl
end
theorem m_lrg {j : Int} {Q : PV → Store → Prop} {E : XP} {S : Store} : Wr (listRg [.int j] S) Q E = ((0 ≤ j ∧ j ≤ 16777216) ∧ Q (.ref S.length) (S ++ [.lst (rangeP 0 j.toNat)])) := by
  simp only [listRg]
  by_cases h : fitsL j = true
  · rw [if_pos h]
    simp only [wr_ok]
    exact propext ⟨fun q => ⟨fitsL_iff.mp h, q⟩, fun q => q.2⟩
  · rw [if_neg h]
    exact propext ⟨fun q => q.elim, fun q => (h (fitsL_iff.mpr q.1)).elim⟩
theorem ex_int {j : Int} {P : Int → Prop} : (∃ i, PV.int j = PV.int i ∧ P i) = P j := by simp
/-! ### what is kept -/
def Kp (M : List Nat) (S S' : Store) : Prop := S.length ≤ S'.length ∧ ∀ i, i < S.length → i ∉ M → S'[i]? = S[i]?
section
variable {M M' : List Nat} {S S1 S2 : Store}
theorem Kp.refl : Kp M S S := ⟨Nat.le_refl _, fun _ _ _ => rfl⟩
theorem Kp.trans (a : Kp M S S1) (b : Kp M S1 S2) : Kp M S S2 := ⟨Nat.le_trans a.1 b.1, fun i hi hm => (b.2 i (by have := a.1; omega) hm).trans (a.2 i hi hm)⟩
theorem Kp.get (a : Kp M S S1) {i : Nat} {c : Cell} (h : S[i]? = some c) (hm : i ∉ M) : S1[i]? = some c := (a.2 i (List.getElem?_eq_some_iff.mp h).1 hm).trans h
theorem Kp.app {g : List Cell} (a : Kp M S S1) : Kp M S (S1 ++ g) := ⟨by rw [List.length_append]; have := a.1; omega, fun i hi hm => by rw [List.getElem?_append_left (by have := a.1; omega)]; exact a.2 i hi hm⟩
theorem Kp.set {n : Nat} {c : Cell} (a : Kp M S S1) (h : n ∈ M ∨ S.length ≤ n) : Kp M S (S1.set n c) := ⟨by rw [List.length_set]; exact a.1, fun i hi hm => by
  rw [List.getElem?_set_ne (by rcases h with h | h; · exact fun z => hm (z ▸ h)
                               · omega)]
  exact a.2 i hi hm⟩
theorem Kp.mono (a : Kp M S S1) (h : ∀ i ∈ M, i ∈ M' ∨ S.length ≤ i) : Kp M' S S1 := ⟨a.1, fun i hi hm => a.2 i hi fun z => (h i z).elim hm (by omega)⟩
theorem Kp.of (a : Kp [] S S1) : Kp M S S1 := a.mono fun i h => by simp at h
/-- what was kept since later -/
theorem Kp.to (a : Kp M S S1) (b : Kp M' S1 S2) (h : ∀ i ∈ M', i ∈ M ∨ S.length ≤ i) : Kp M S S2 := ⟨Nat.le_trans a.1 b.1, fun i hi hm => (b.2 i (by have := a.1; omega) fun z => (h i z).elim hm (by omega)).trans (a.2 i hi hm)⟩
theorem get_lt {i : Nat} {c : Cell} (h : S[i]? = some c) : i < S.length := (List.getElem?_eq_some_iff.mp h).1
theorem get_new {c : Cell} {g : List Cell} : (S ++ c :: g)[S.length]? = some c := by simp
theorem get_set {i : Nat} {c c' : Cell} (h : S[i]? = some c') : (S.set i c)[i]? = some c := List.getElem?_set_self (get_lt h)
theorem get_app {i : Nat} {c : Cell} {g : List Cell} (h : S[i]? = some c) : (S ++ g)[i]? = some c := by rw [List.getElem?_append_left (get_lt h)]; exact h
theorem get_set_ne {i j : Nat} {c c' : Cell} (h : S[i]? = some c) (hn : j ≠ i) : (S.set j c')[i]? = some c := by rw [List.getElem?_set_ne hn]; exact h
end
end EK

namespace EK
open PySem PySem.Spec L2
/-! ### words -/
theorem ok_both : strOkB "both" = true := by decide +kernel
theorem ok_case : strOkB "case" = true := by decide +kernel
theorem ok_either : strOkB "either" = true := by decide +kernel
theorem ok_first : strOkB "first" = true := by decide +kernel
theorem ok_give : strOkB "give" = true := by decide +kernel
theorem ok_k : strOkB "k" = true := by decide +kernel
theorem ok_kp : strOkB "kp" = true := by decide +kernel
theorem ok_l : strOkB "l" = true := by decide +kernel
theorem ok_left : strOkB "left" = true := by decide +kernel
theorem ok_let : strOkB "let" = true := by decide +kernel
theorem ok_name : strOkB "name" = true := by decide +kernel
theorem ok_never : strOkB "never" = true := by decide +kernel
theorem ok_none : strOkB "none" = true := by decide +kernel
theorem ok_odd : strOkB "odd" = true := by decide +kernel
theorem ok_one : strOkB "one" = true := by decide +kernel
theorem ok_other : strOkB "other" = true := by decide +kernel
theorem ok_p : strOkB "p" = true := by decide +kernel
theorem ok_pair : strOkB "pair" = true := by decide +kernel
theorem ok_r : strOkB "r" = true := by decide +kernel
theorem ok_right : strOkB "right" = true := by decide +kernel
theorem ok_second : strOkB "second" = true := by decide +kernel
theorem ok_split : strOkB "split" = true := by decide +kernel
theorem ok_star : strOkB "star" = true := by decide +kernel
theorem ok_w : strOkB "w" = true := by decide +kernel
theorem ok_way : strOkB "way" = true := by decide +kernel
theorem ok_within : strOkB "within" = true := by decide +kernel
theorem ok_without : strOkB "without" = true := by decide +kernel
theorem ok_wrong : strOkB "wrong" = true := by decide +kernel
theorem ok_yes : strOkB "yes" = true := by decide +kernel
theorem ok_no : strOkB "no" = true := by decide +kernel
theorem ok_n : strOkB "n" = true := by decide +kernel
theorem ok_led : strOkB "led" = true := by decide +kernel
theorem ok_lr : strOkB "lr" = true := by decide +kernel
theorem ok_pp : strOkB "pp" = true := by decide +kernel
theorem ok_ppp : strOkB "ppp" = true := by decide +kernel
theorem ty_non {S : Store} : tyS .non S = some "NoneType" := rfl
theorem ty_bl {S : Store} {b : Bool} : tyS (.bl b) S = some "bool" := rfl
theorem ty_int {S : Store} {b : Int} : tyS (.int b) S = some "int" := rfl
theorem ty_str {S : Store} {b : Str} : tyS (.str b) S = some "str" := rfl
theorem ty_tup {S : Store} {b : List PV} : tyS (.tup b) S = some "tuple" := rfl
theorem ty_lst {S : Store} {n : Nat} {xs : List PV} (h : S[n]? = some (.lst xs)) : tyS (.ref n) S = some "list" := by simp only [tyS, h]
theorem kit_tuple_NoneType : kitS .tuple "NoneType" = false := by decide
theorem kit_tuple_bool : kitS .tuple "bool" = false := by decide
theorem kit_tuple_int : kitS .tuple "int" = false := by decide
theorem kit_tuple_str : kitS .tuple "str" = false := by decide
theorem kit_tuple_tuple : kitS .tuple "tuple" = true := by decide
theorem kit_tuple_list : kitS .tuple "list" = false := by decide
theorem kit_list_NoneType : kitS .list "NoneType" = false := by decide
theorem kit_list_bool : kitS .list "bool" = false := by decide
theorem kit_list_int : kitS .list "int" = false := by decide
theorem kit_list_str : kitS .list "str" = false := by decide
theorem kit_list_tuple : kitS .list "tuple" = false := by decide
theorem kit_list_list : kitS .list "list" = true := by decide
theorem kit_int_NoneType : kitS .int "NoneType" = false := by decide
theorem kit_int_bool : kitS .int "bool" = true := by decide
theorem kit_int_int : kitS .int "int" = true := by decide
theorem kit_int_str : kitS .int "str" = false := by decide
theorem kit_int_tuple : kitS .int "tuple" = false := by decide
theorem kit_int_list : kitS .int "list" = false := by decide
theorem kit_bool_NoneType : kitS .bool "NoneType" = false := by decide
theorem kit_bool_bool : kitS .bool "bool" = true := by decide
theorem kit_bool_int : kitS .bool "int" = false := by decide
theorem kit_bool_str : kitS .bool "str" = false := by decide
theorem kit_bool_tuple : kitS .bool "tuple" = false := by decide
theorem kit_bool_list : kitS .bool "list" = false := by decide
theorem kit_str_NoneType : kitS .str "NoneType" = false := by decide
theorem kit_str_bool : kitS .str "bool" = false := by decide
theorem kit_str_int : kitS .str "int" = false := by decide
theorem kit_str_str : kitS .str "str" = true := by decide
theorem kit_str_tuple : kitS .str "tuple" = false := by decide
theorem kit_str_list : kitS .str "list" = false := by decide
theorem in_tup {S : Store} {x : PV} {xs : List PV} (h1 : clean x = true) (h2 : cleans xs = true) (h3 : depth x ≤ 150) : inM S x (.tup xs) = some (xs.any fun y => beqPV y x) := by
  simp only [inM, anyEq, h1, h2, h3, decide_true, Bool.and_self, if_true]
theorem in_strs {S : Store} {a : Str} {bs : List Str} (h1 : strOkB a = true) (h2 : ∀ b ∈ bs, strOkB b = true) : inM S (.str a) (.tup (bs.map .str)) = some (bs.any fun b => decide (b = a)) := by
  rw [in_tup (x := .str a) (by simpa [clean] using h1) ?_ (by simp [depth])]
  · rw [List.any_map]
    rfl
  · clear h1
    induction bs with
    | nil => rfl
    | cons b bs ih => simp only [List.map_cons, cleans, clean, h2 b List.mem_cons_self, ih fun b hb => h2 b (List.mem_cons_of_mem _ hb), Bool.and_self]
theorem in_s2 {S : Store} {a b c : Str} (h1 : strOkB a = true) (h2 : strOkB b = true) (h3 : strOkB c = true) : inM S (.str a) (.tup [.str b, .str c]) = some (decide (b = a) || decide (c = a)) := by
  have := in_strs (S := S) (bs := [b, c]) h1 (by simp [h2, h3])
  simpa using this
theorem in_s3 {S : Store} {a b c d : Str} (h1 : strOkB a = true) (h2 : strOkB b = true) (h3 : strOkB c = true) (h4 : strOkB d = true) : inM S (.str a) (.tup [.str b, .str c, .str d]) = some (decide (b = a) || (decide (c = a) || decide (d = a))) := by
  have := in_strs (S := S) (bs := [b, c, d]) h1 (by simp [h2, h3, h4])
  simpa using this
theorem non_int {i : Int} : isNonP (.int i) = false := rfl
theorem non_non : isNonP .non = true := rfl
theorem non_tup {i : List PV} : isNonP (.tup i) = false := rfl
theorem non_str {i : Str} : isNonP (.str i) = false := rfl
theorem non_ref {i : Nat} : isNonP (.ref i) = false := rfl
theorem non_bl {i : Bool} : isNonP (.bl i) = false := rfl
/-! ### walks over what stands -/
def stp (xs : List PV) (i : Nat) : Stp := match xs[i]? with
  | some x => .item x
  | none => .stop
section
variable {G : Conf} {env : Env} {S : Store} {N : Env → Store → Prop} {R : PV → Store → Prop} {X : XS} {E : XP} {Q : PV → Store → Prop}
theorem itemAt_id {xs : List PV} {i : Nat} : itemAt id (some xs) i = stp xs i := by
  simp only [itemAt, stp]
  rfl
theorem it_over {a n0 i : Nat} {xs : List PV} (h : S[a]? = some (.lst xs)) : stepM .over [.ref a] n0 i S = stp xs i := by
  simp only [stepM, seqL, cellL, h, itemAt_id]
theorem it_overT {n0 i : Nat} {xs : List PV} : stepM .over [.tup xs] n0 i S = stp xs i := by
  simp only [stepM, seqL, itemAt_id]
theorem it_range {n0 i : Nat} {vs xs : List PV} (h : rangeM vs = some xs) : stepM .range vs n0 i S = stp xs i := by
  simp only [stepM, h, itemAt_id]
def enumF (xs : List PV) : List PV := xs.mapIdx fun i x => .tup [.int (i : Nat), x]
theorem it_enum {a n0 i : Nat} {xs : List PV} (h : S[a]? = some (.lst xs)) : stepM .enum [.ref a] n0 i S = stp (enumF xs) i := by
  simp only [stepM, cellL, h, itemAt, stp, enumF, List.getElem?_mapIdx]
  cases xs[i]? <;> rfl
theorem it_zipL {a b n0 i : Nat} {xs ys : List PV} (h : S[a]? = some (.lst xs)) (h2 : S[b]? = some (.lst ys)) : stepM .zip [.ref a, .ref b] n0 i S = stp (zipP xs ys) i := by
  simp only [stepM, cellL, h, h2]
  clear h h2
  unfold zipAt stp
  induction xs generalizing ys i with
  | nil => simp [zipP]
  | cons x xs ih =>
    cases ys with
    | nil => cases i <;> simp [zipP]
    | cons y ys =>
      cases i with
      | zero => rfl
      | succ i => simpa [zipP] using ih
theorem it_zipT {n0 i : Nat} {xs ys : List PV} : stepM .zip [.tup xs, .tup ys] n0 i S = stp (zipP xs ys) i := by
  simp only [stepM]
  unfold zipAt stp
  induction xs generalizing ys i with
  | nil => simp [zipP]
  | cons x xs ih =>
    cases ys with
    | nil => cases i <;> simp [zipP]
    | cons y ys =>
      cases i with
      | zero => rfl
      | succ i => simpa [zipP] using ih
theorem it_rev {a i : Nat} {xs : List PV} (h : S[a]? = some (.lst xs)) : stepM .rev [.ref a] xs.length i S = stp xs.reverse i := by
  simp only [stepM, cellL, h]
  unfold stp
  by_cases hi : xs.length ≤ i
  · rw [if_pos hi, List.getElem?_eq_none (by simpa using hi)]
  · rw [if_neg hi, List.getElem?_reverse (by omega)]
    have : xs.length - 1 - i < xs.length := by omega
    rw [List.getElem?_eq_getElem this]
theorem len_overL {a : Nat} {xs : List PV} (h : S[a]? = some (.lst xs)) : lenM .over [.ref a] S = some xs.length := by simp only [lenM, seqL, cellL, h, Option.map_some]
theorem len_overT {xs : List PV} : lenM .over [.tup xs] S = some xs.length := rfl
theorem len_range {vs xs : List PV} (h : rangeM vs = some xs) : lenM .range vs S = some xs.length := by simp only [lenM, h, Option.map_some]
theorem len_enum {a : Nat} {xs : List PV} (h : S[a]? = some (.lst xs)) : lenM .enum [.ref a] S = some (enumF xs).length := by simp only [lenM, cellL, h, Option.map_some, enumF, List.length_mapIdx]
theorem zip_len : ∀ xs ys : List PV, (zipP xs ys).length = min xs.length ys.length
  | [], _ => by simp [zipP]
  | _ :: _, [] => by simp [zipP]
  | x :: xs, y :: ys => by simp only [zipP, List.length_cons, zip_len xs ys]; omega
theorem len_zipL {a b : Nat} {xs ys : List PV} (h : S[a]? = some (.lst xs)) (h2 : S[b]? = some (.lst ys)) : lenM .zip [.ref a, .ref b] S = some (zipP xs ys).length := by simp only [lenM, cellL, h, h2, zip_len]
theorem len_zipT {xs ys : List PV} : lenM .zip [.tup xs, .tup ys] S = some (zipP xs ys).length := by simp only [lenM, zip_len]
theorem len_rev {a : Nat} {xs : List PV} (h : S[a]? = some (.lst xs)) : lenM .rev [.ref a] S = some xs.length := by simp only [lenM, cellL, h, Option.map_some]
/-- a for over xs, I by what was walked -/
theorem ws_forI {t : Tgt} {k : IK} {src : Exs} {body : Sms} (h : Wr (evalEs G src env S) (fun vs S1 => ∃ xs, lenM k vs S1 = some xs.length ∧ ∃ I : List PV → Env → Store → Prop, I [] env S1 ∧ (∀ e S2, I xs e S2 → N e S2) ∧
      (∀ pre e S2, I pre e S2 → stepM k vs xs.length pre.length S2 = stp xs pre.length) ∧
      ∀ pre x suf e S2, xs = pre ++ x :: suf → I pre e S2 → ∃ e1, asgM t x e = some e1 ∧ Ws (execSs G body e1 S2) (I (pre ++ [x])) R X) (fun c fs S => X c fs env S)) :
    Ws (execS G (.for t k src body) env S) N R X := by
  refine ws_for (h.imp (fun vs S1 h => ?_) fun _ _ _ z => z)
  obtain ⟨xs, hl, I, h0, he, hs, hi⟩ := h
  refine ⟨xs.length, hl, xs.length, fun i e S2 => I (xs.take i) e S2, Nat.le_refl _, by simpa using h0, fun e S2 q => ?_, fun i e S2 hlt q => ?_⟩
  · have q : I (xs.take xs.length) e S2 := q
    rw [List.take_length] at q
    refine ⟨?_, he e S2 q⟩
    rw [hs xs e S2 q]
    unfold stp
    rw [List.getElem?_eq_none (Nat.le_refl _)]
  · have hlen : (xs.take i).length = i := by rw [List.length_take]; omega
    have e1 := hs _ e S2 q
    rw [hlen] at e1
    have e2 : xs[i]? = some xs[i] := List.getElem?_eq_getElem hlt
    have dec : xs = xs.take i ++ xs[i] :: xs.drop (i + 1) := by
      conv => lhs; rw [← List.take_append_drop i xs, List.drop_eq_getElem_cons hlt]
    obtain ⟨ee, q1, q2⟩ := hi _ _ _ e S2 dec q
    refine ⟨xs[i], ?_, ee, q1, ?_⟩
    · rw [e1]; unfold stp; rw [e2]
    · have : xs.take (i + 1) = xs.take i ++ [xs[i]] := by rw [List.take_succ, e2]; rfl
      show Ws (execSs G body ee S2) (fun e S2 => I (xs.take (i + 1)) e S2) R X
      rw [this]; exact q2
/-- a comprehension over xs -/
theorem wr_compI {own : List Nat} {tg : Tgt} {k : IK} {src cond : Exs} {elt : Ex} (h : Wr (evalEs G src env S) (fun vs S1 => ∃ xs, lenM k vs S1 = some xs.length ∧ xs.length ≤ sizeLine ∧ ∃ I : List PV → List PV → Store → Prop, I [] [] (S1 ++ [.lst []]) ∧ (∀ l S2, I xs l S2 → Q (.ref S1.length) S2) ∧
      (∀ pre l S2, I pre l S2 → S2[S1.length]? = some (.lst l) ∧ stepM k vs xs.length pre.length S2 = stp xs pre.length) ∧
      ∀ pre x suf l S2, xs = pre ++ x :: suf → I pre l S2 → ∃ e1, asgM tg x (wipeE env own) = some e1 ∧
        Wr (evalC G cond e1 S2) (fun b S3 => if b = true then Wr (evalE G elt e1 S3) (fun y S4 => S4[S1.length]? = some (.lst l) ∧ I (pre ++ [x]) (l ++ [y]) (S4.set S1.length (.lst (l ++ [y])))) nE else I (pre ++ [x]) l S3) nE) E) :
    Wr (evalE G (.comp own tg k src cond elt) env S) Q E := by
  refine wr_comp (h.imp (fun vs S1 h => ?_) fun _ _ _ z => z)
  obtain ⟨xs, hl, hz, I, h0, he, hs, hi⟩ := h
  refine ⟨xs.length, hl, xs.length, fun i l S2 => I (xs.take i) l S2, Nat.le_refl _, hz, by simpa using h0, fun l S2 q => ?_, fun i l S2 hlt hll q => ?_⟩
  · have q : I (xs.take xs.length) l S2 := q
    rw [List.take_length] at q
    refine ⟨?_, he l S2 q⟩
    rw [(hs xs l S2 q).2]
    unfold stp
    rw [List.getElem?_eq_none (Nat.le_refl _)]
  · have hlen : (xs.take i).length = i := by rw [List.length_take]; omega
    obtain ⟨d1, e1⟩ := hs _ l S2 q
    rw [hlen] at e1
    have e2 : xs[i]? = some xs[i] := List.getElem?_eq_getElem hlt
    have dec : xs = xs.take i ++ xs[i] :: xs.drop (i + 1) := by
      conv => lhs; rw [← List.take_append_drop i xs, List.drop_eq_getElem_cons hlt]
    obtain ⟨ee, q1, q2⟩ := hi _ _ _ l S2 dec q
    refine ⟨d1, xs[i], ?_, ee, q1, ?_⟩
    · rw [e1]; unfold stp; rw [e2]
    · have : xs.take (i + 1) = xs.take i ++ [xs[i]] := by rw [List.take_succ, e2]; rfl
      show Wr (evalC G cond ee S2) (fun b S3 => if b = true then Wr (evalE G elt ee S3) (fun y S4 => S4[S1.length]? = some (.lst l) ∧ I (xs.take (i + 1)) (l ++ [y]) (S4.set S1.length (.lst (l ++ [y])))) (fun _ _ _ => False) else I (xs.take (i + 1)) l S3) (fun _ _ _ => False)
      rw [this]; exact q2
/-- a comprehension whose turns leave all as it is -/
theorem wr_compM {own : List Nat} {tg : Tgt} {k : IK} {src : Exs} {elt : Ex} (f : PV → PV) (h : Wr (evalEs G src env S) (fun vs S1 => ∃ xs, lenM k vs S1 = some xs.length ∧ xs.length ≤ sizeLine ∧ (∀ S2, Kp [] S1 S2 → ∀ i, stepM k vs xs.length i S2 = stp xs i) ∧
      (∀ S2, Kp [] S1 S2 → S2[S1.length]? = some (.lst (xs.map f)) → Q (.ref S1.length) S2) ∧
      ∀ x S2, x ∈ xs → Kp [] S1 S2 → S1.length < S2.length → ∃ e1, asgM tg x (wipeE env own) = some e1 ∧ Wr (evalE G elt e1 S2) (fun y S4 => y = f x ∧ Kp [] S2 S4) nE) E) :
    Wr (evalE G (.comp own tg k src .nil elt) env S) Q E := by
  refine wr_compI (h.imp (fun vs S1 h => ?_) fun _ _ _ z => z)
  obtain ⟨xs, hl, hz, hs, he, hi⟩ := h
  refine ⟨xs, hl, hz, fun pre l S2 => l = pre.map f ∧ Kp [] S1 S2 ∧ S2[S1.length]? = some (.lst l), ⟨rfl, Kp.refl.app, get_new⟩, fun l S2 ⟨q1, q2, q3⟩ => he S2 q2 (by rw [← q1]; exact q3), fun pre l S2 ⟨q1, q2, q3⟩ => ⟨q3, hs S2 q2 _⟩, fun pre x suf l S2 hx ⟨q1, q2, q3⟩ => ?_⟩
  obtain ⟨e1, q4, q5⟩ := hi x S2 (by rw [hx]; simp) q2 (get_lt q3)
  refine ⟨e1, q4, ?_⟩
  rw [wr_c0, if_pos rfl]
  refine q5.imp (fun y S4 ⟨q6, q7⟩ => ⟨q7.get q3 (by simp), ?_, ?_, get_set (q7.get q3 (by simp))⟩) fun _ _ _ z => z
  · rw [q1, List.map_append, q6]; rfl
  · exact (q2.trans q7).set (.inr (Nat.le_refl _))
end
end EK

namespace EK
open PySem PySem.Spec L2
namespace Lib
def f_ways : FnI := ⟨["many", "things_given"], ["many", "things_given", "found", "turn"], [],
  (.cons (.asg (.nm 2) (.lst (.cons (.tup .nil) .nil))) (.cons (.for (.nm 3) .range (.cons (.slot 0) .nil) (.cons (.asg (.nm 2) (.call "longer" (.cons (.slot 2) (.cons (.slot 1) .nil)))) .nil)) (.cons (.ret (.slot 2)) .nil)))⟩
def f_longer : FnI := ⟨["rows", "some"], ["rows", "some", "found", "row", "thing"], [],
  (.cons (.asg (.nm 2) (.lst .nil)) (.cons (.for (.nm 3) .over (.cons (.slot 0) .nil) (.cons (.exp (.meth .extend (.slot 2) (.cons (.comp [4] (.nm 4) .over (.cons (.slot 1) .nil) .nil (.bin .add (.slot 3) (.tup (.cons (.slot 4) .nil)))) .nil))) .nil)) (.cons (.ret (.slot 2)) .nil)))⟩
def f_pairs : FnI := ⟨["some", "others"], ["some", "others", "found", "one", "other"], [],
  (.cons (.asg (.nm 2) (.lst .nil)) (.cons (.for (.nm 3) .over (.cons (.slot 0) .nil) (.cons (.exp (.meth .extend (.slot 2) (.cons (.comp [4] (.nm 4) .over (.cons (.slot 1) .nil) .nil (.tup (.cons (.cst (.str "p")) (.cons (.slot 3) (.cons (.slot 4) .nil))))) .nil))) .nil)) (.cons (.ret (.slot 2)) .nil)))⟩
def f_things : FnI := ⟨["kind"], ["kind", "one", "other", "thing", "row"], [],
  (.cons (.ifs (.cmp .eq (.ix (.slot 0) (.cst (.int 0))) (.cst (.str "none"))) (.cons (.ret (.lst .nil)) .nil) .nil) (.cons (.ifs (.cmp .eq (.ix (.slot 0) (.cst (.int 0))) (.cst (.str "one"))) (.cons (.ret (.lst (.cons (.tup .nil) .nil))) .nil) .nil) (.cons (.asg (.nm 1) (.call "things" (.cons (.ix (.slot 0) (.cst (.int 1))) .nil))) (.cons (.asg (.nm 2) (.call "things" (.cons (.ix (.slot 0) (.cst (.int 2))) .nil))) (.cons (.ifs (.cmp .eq (.ix (.slot 0) (.cst (.int 0))) (.cst (.str "either"))) (.cons (.ret (.bin .add (.comp [3] (.nm 3) .over (.cons (.slot 1) .nil) .nil (.tup (.cons (.cst (.str "l")) (.cons (.slot 3) .nil)))) (.comp [3] (.nm 3) .over (.cons (.slot 2) .nil) .nil (.tup (.cons (.cst (.str "r")) (.cons (.slot 3) .nil)))))) .nil) .nil) (.cons (.ifs (.cmp .eq (.ix (.slot 0) (.cst (.int 0))) (.cst (.str "both"))) (.cons (.ret (.call "pairs" (.cons (.slot 1) (.cons (.slot 2) .nil)))) .nil) .nil) (.cons (.ret (.comp [4] (.nm 4) .over (.cons (.call "ways" (.cons (.prim .len (.cons (.slot 1) .nil)) (.cons (.slot 2) .nil))) .nil) .nil (.tup (.cons (.cst (.str "w")) (.cons (.slot 4) .nil))))) .nil)))))))⟩
end Lib
open Lib
/-! ### kinds and their things -/
inductive Kd where
  | none | one | either (a b : Kd) | both (a b : Kd) | way (a b : Kd)
  deriving DecidableEq, Inhabited
namespace Kd
def dep : Kd → Nat
  | none => 0
  | one => 0
  | either a b => max a.dep b.dep + 1
  | both a b => max a.dep b.dep + 1
  | way a b => max a.dep b.dep + 1
/-- how many things -/
def cnt : Kd → Nat
  | none => 0
  | one => 1
  | either a b => a.cnt + b.cnt
  | both a b => a.cnt * b.cnt
  | way a b => b.cnt ^ a.cnt
/-- it and its parts have at most m -/
def le (m : Nat) : Kd → Prop
  | none => True
  | one => 1 ≤ m
  | either a b => a.cnt + b.cnt ≤ m ∧ a.le m ∧ b.le m
  | both a b => a.cnt * b.cnt ≤ m ∧ a.le m ∧ b.le m
  | way a b => b.cnt ^ a.cnt ≤ m ∧ a.le m ∧ b.le m
theorem le.cnt {m : Nat} : ∀ {k : Kd}, k.le m → k.cnt ≤ m
  | none, _ => Nat.zero_le _
  | one, h => h
  | either _ _, h => h.1
  | both _ _, h => h.1
  | way _ _, h => h.1
theorem le.mono {m n : Nat} (hm : m ≤ n) : ∀ {k : Kd}, k.le m → k.le n
  | none, _ => trivial
  | one, h => Nat.le_trans h hm
  | either _ _, h => ⟨Nat.le_trans h.1 hm, h.2.1.mono hm, h.2.2.mono hm⟩
  | both _ _, h => ⟨Nat.le_trans h.1 hm, h.2.1.mono hm, h.2.2.mono hm⟩
  | way _ _, h => ⟨Nat.le_trans h.1 hm, h.2.1.mono hm, h.2.2.mono hm⟩
end Kd
def K : Kd → PV
  | .none => .tup [.str "none"]
  | .one => .tup [.str "one"]
  | .either a b => .tup [.str "either", K a, K b]
  | .both a b => .tup [.str "both", K a, K b]
  | .way a b => .tup [.str "way", K a, K b]
def ap1 (x t : PV) : PV := match x with
  | .tup row => .tup (row ++ [t])
  | _ => .non
def wys (bs : List PV) : Nat → List PV
  | 0 => [.tup []]
  | n + 1 => (wys bs n).flatMap fun x => bs.map (ap1 x)
def ths : Kd → List PV
  | .none => []
  | .one => [.tup []]
  | .either a b => (ths a).map (fun x => .tup [.str "l", x]) ++ (ths b).map (fun x => .tup [.str "r", x])
  | .both a b => (ths a).flatMap fun x => (ths b).map fun y => .tup [.str "p", x, y]
  | .way a b => (wys (ths b) (ths a).length).map fun x => .tup [.str "w", x]
theorem flat_len {α β γ : Type} (f : α → β → γ) (bs : List β) : ∀ pre : List α, (pre.flatMap fun x => bs.map (f x)).length = pre.length * bs.length
  | [] => by simp
  | x :: pre => by rw [List.flatMap_cons, List.length_append, List.length_map, flat_len f bs pre, List.length_cons, Nat.add_mul]; omega
theorem wys_len (bs : List PV) : ∀ n, (wys bs n).length = bs.length ^ n
  | 0 => rfl
  | n + 1 => by rw [wys, flat_len, wys_len bs n, Nat.pow_succ]
theorem ths_len : ∀ k : Kd, (ths k).length = k.cnt
  | .none => rfl
  | .one => rfl
  | .either a b => by simp only [ths, List.length_append, List.length_map, ths_len a, ths_len b, Kd.cnt]
  | .both a b => by rw [ths, flat_len, ths_len a, ths_len b, Kd.cnt]
  | .way a b => by simp only [ths, List.length_map, wys_len, ths_len a, ths_len b, Kd.cnt]
theorem wys_tup (bs : List PV) : ∀ (n : Nat) {x : PV}, x ∈ wys bs n → ∃ l, x = .tup l ∧ l.length = n ∧ ∀ y ∈ l, y ∈ bs
  | 0, x, h => by
    simp only [wys, List.mem_singleton] at h
    exact ⟨[], h, rfl, by simp⟩
  | n + 1, x, h => by
    simp only [wys, List.mem_flatMap, List.mem_map] at h
    obtain ⟨y, hy, t, ht, rfl⟩ := h
    obtain ⟨l, rfl, hl, hm⟩ := wys_tup bs n hy
    exact ⟨l ++ [t], rfl, by simp [hl], fun z hz => by
      rcases List.mem_append.mp hz with hz | hz
      · exact hm z hz
      · simp at hz; subst hz; exact ht⟩
theorem big {n : Nat} (h : n ≤ 1000000) : n ≤ sizeLine := by rw [sizeLine_eq]; omega
/-- the text has the defs of things -/
structure HasThs (T : Text) : Prop where
  longer : T.fns.lookup ("longer" : Str) = some f_longer
  ways : T.fns.lookup ("ways" : Str) = some f_ways
  pairs : T.fns.lookup ("pairs" : Str) = some f_pairs
  things : T.fns.lookup ("things" : Str) = some f_things
section
variable {T : Text} {r : Nat} {S : Store}
/-- a new list with these -/
def NewL (S : Store) (xs : List PV) (v : PV) (S' : Store) : Prop := ∃ n, v = .ref n ∧ S.length ≤ n ∧ Kp [] S S' ∧ S'[n]? = some (.lst xs)
theorem sp_longer {a b : Nat} {rows bs : List PV} (hf : HasThs T) (h1 : S[a]? = some (.lst rows)) (h2 : S[b]? = some (.lst bs)) (hr : ∀ x ∈ rows, ∃ l, x = .tup l ∧ l.length ≤ 1000) (hz : rows.length * bs.length ≤ 1000000) (hb : bs.length ≤ 1000000) :
    Wr (callF T (r + 1) "longer" [.ref a, .ref b] S) (NewL S (rows.flatMap fun x => bs.map (ap1 x))) nE := by
  refine wr_call hf.longer rfl rfl (show Ws (execSs (conf T r) f_longer.body [some (.ref a), some (.ref b), none, none, none] S) _ _ _ from ?_)
  simp only [f_longer, ws_cons, ty_non, ty_bl, ty_int, ty_str, ty_tup, kit_tuple_NoneType, kit_tuple_bool, kit_tuple_int, kit_tuple_str, kit_tuple_tuple, kit_tuple_list, kit_list_NoneType, kit_list_bool, kit_list_int, kit_list_str, kit_list_tuple, kit_list_list, kit_int_NoneType, kit_int_bool, kit_int_int, kit_int_str, kit_int_tuple, kit_int_list, kit_bool_NoneType, kit_bool_bool, kit_bool_int, kit_bool_str, kit_bool_tuple, kit_bool_list, kit_str_NoneType, kit_str_bool, kit_str_int, kit_str_str, kit_str_tuple, kit_str_list, non_int, non_non, non_tup, non_str, non_ref, non_bl, ws_nil, ws_asg, ws_exp, ws_retS, ws_ifs, ws_pass, ws_raise, wr_slot, wr_cst, wr_nil, wr_cons, wr_tup, wr_lst, wr_dsp, wr_bin, wr_neg, ex_int, wr_not, wr_cmp, wr_and, wr_or, wr_ite, wr_isN, wr_notN, wr_ix, wr_sl, wr_prim, wr_lrg, wr_meth, wr_isT, wr_callE, wr_c0, wr_c1, wr_ok, m_lrg, m_addI, m_subI, m_mulI, m_divI, m_modI, m_powI, m_addT, m_addS, m_ltI, m_leI, m_gtI, m_geI, m_eq, m_ne, m_in, m_nin, eq_int, m_ixT, m_ixC, m_ixD, at_0, at_1, at_2, at_3, m_lenT, m_lenC, m_intI, m_intB, m_abs, m_max, m_min, m_tupT, m_listT, m_slT, m_slC, t_bl, t_int, t_non, t_tup, a_nm, a_tp, setSlots, partM, methFor, List.getElem?_cons_zero, List.getElem?_cons_succ, List.set_cons_zero, List.set_cons_succ, Option.some.injEq, exists_eq_left', true_and, and_true, eq_str, decide_eq_true_eq, ↓reduceIte, if_true, if_false, decide_true, decide_false, Bool.false_eq_true, ok_both, ok_case, ok_either, ok_first, ok_give, ok_k, ok_kp, ok_l, ok_left, ok_let, ok_name, ok_never, ok_none, ok_odd, ok_one, ok_other, ok_p, ok_pair, ok_r, ok_right, ok_second, ok_split, ok_star, ok_w, ok_way, ok_within, ok_without, ok_wrong, ok_yes, ok_no, ok_n, ok_led, ok_lr, ok_pp, ok_ppp, List.length_cons, List.length_nil, Nat.zero_add, Int.reduceSub, Int.reduceAdd, Int.reduceNeg, Int.reduceMul, Bool.not_true, Bool.not_false]
  refine ⟨Nat.zero_le _, ws_forI ?_⟩
  simp only [ws_cons, ty_non, ty_bl, ty_int, ty_str, ty_tup, kit_tuple_NoneType, kit_tuple_bool, kit_tuple_int, kit_tuple_str, kit_tuple_tuple, kit_tuple_list, kit_list_NoneType, kit_list_bool, kit_list_int, kit_list_str, kit_list_tuple, kit_list_list, kit_int_NoneType, kit_int_bool, kit_int_int, kit_int_str, kit_int_tuple, kit_int_list, kit_bool_NoneType, kit_bool_bool, kit_bool_int, kit_bool_str, kit_bool_tuple, kit_bool_list, kit_str_NoneType, kit_str_bool, kit_str_int, kit_str_str, kit_str_tuple, kit_str_list, non_int, non_non, non_tup, non_str, non_ref, non_bl, ws_nil, ws_asg, ws_exp, ws_retS, ws_ifs, ws_pass, ws_raise, wr_slot, wr_cst, wr_nil, wr_cons, wr_tup, wr_lst, wr_dsp, wr_bin, wr_neg, ex_int, wr_not, wr_cmp, wr_and, wr_or, wr_ite, wr_isN, wr_notN, wr_ix, wr_sl, wr_prim, wr_lrg, wr_meth, wr_isT, wr_callE, wr_c0, wr_c1, wr_ok, m_lrg, m_addI, m_subI, m_mulI, m_divI, m_modI, m_powI, m_addT, m_addS, m_ltI, m_leI, m_gtI, m_geI, m_eq, m_ne, m_in, m_nin, eq_int, m_ixT, m_ixC, m_ixD, at_0, at_1, at_2, at_3, m_lenT, m_lenC, m_intI, m_intB, m_abs, m_max, m_min, m_tupT, m_listT, m_slT, m_slC, t_bl, t_int, t_non, t_tup, a_nm, a_tp, setSlots, partM, methFor, List.getElem?_cons_zero, List.getElem?_cons_succ, List.set_cons_zero, List.set_cons_succ, Option.some.injEq, exists_eq_left', true_and, and_true, eq_str, decide_eq_true_eq, ↓reduceIte, if_true, if_false, decide_true, decide_false, Bool.false_eq_true, ok_both, ok_case, ok_either, ok_first, ok_give, ok_k, ok_kp, ok_l, ok_left, ok_let, ok_name, ok_never, ok_none, ok_odd, ok_one, ok_other, ok_p, ok_pair, ok_r, ok_right, ok_second, ok_split, ok_star, ok_w, ok_way, ok_within, ok_without, ok_wrong, ok_yes, ok_no, ok_n, ok_led, ok_lr, ok_pp, ok_ppp, List.length_cons, List.length_nil, Nat.zero_add, Int.reduceSub, Int.reduceAdd, Int.reduceNeg, Int.reduceMul, Bool.not_true, Bool.not_false]
  refine ⟨rows, len_overL (get_app h1), fun pre e S2 => (∃ o, e = [some (.ref a), some (.ref b), some (.ref S.length), o, none]) ∧ Kp [] S S2 ∧ S2[S.length]? = some (.lst (pre.flatMap fun x => bs.map (ap1 x))),
    ⟨⟨_, rfl⟩, Kp.refl.app, get_new⟩, ?_, ?_, ?_⟩
  · rintro e S2 ⟨⟨o, rfl⟩, k, d⟩
    simp only [ws_cons, ty_non, ty_bl, ty_int, ty_str, ty_tup, kit_tuple_NoneType, kit_tuple_bool, kit_tuple_int, kit_tuple_str, kit_tuple_tuple, kit_tuple_list, kit_list_NoneType, kit_list_bool, kit_list_int, kit_list_str, kit_list_tuple, kit_list_list, kit_int_NoneType, kit_int_bool, kit_int_int, kit_int_str, kit_int_tuple, kit_int_list, kit_bool_NoneType, kit_bool_bool, kit_bool_int, kit_bool_str, kit_bool_tuple, kit_bool_list, kit_str_NoneType, kit_str_bool, kit_str_int, kit_str_str, kit_str_tuple, kit_str_list, non_int, non_non, non_tup, non_str, non_ref, non_bl, ws_nil, ws_asg, ws_exp, ws_retS, ws_ifs, ws_pass, ws_raise, wr_slot, wr_cst, wr_nil, wr_cons, wr_tup, wr_lst, wr_dsp, wr_bin, wr_neg, ex_int, wr_not, wr_cmp, wr_and, wr_or, wr_ite, wr_isN, wr_notN, wr_ix, wr_sl, wr_prim, wr_lrg, wr_meth, wr_isT, wr_callE, wr_c0, wr_c1, wr_ok, m_lrg, m_addI, m_subI, m_mulI, m_divI, m_modI, m_powI, m_addT, m_addS, m_ltI, m_leI, m_gtI, m_geI, m_eq, m_ne, m_in, m_nin, eq_int, m_ixT, m_ixC, m_ixD, at_0, at_1, at_2, at_3, m_lenT, m_lenC, m_intI, m_intB, m_abs, m_max, m_min, m_tupT, m_listT, m_slT, m_slC, t_bl, t_int, t_non, t_tup, a_nm, a_tp, setSlots, partM, methFor, List.getElem?_cons_zero, List.getElem?_cons_succ, List.set_cons_zero, List.set_cons_succ, Option.some.injEq, exists_eq_left', true_and, and_true, eq_str, decide_eq_true_eq, ↓reduceIte, if_true, if_false, decide_true, decide_false, Bool.false_eq_true, ok_both, ok_case, ok_either, ok_first, ok_give, ok_k, ok_kp, ok_l, ok_left, ok_let, ok_name, ok_never, ok_none, ok_odd, ok_one, ok_other, ok_p, ok_pair, ok_r, ok_right, ok_second, ok_split, ok_star, ok_w, ok_way, ok_within, ok_without, ok_wrong, ok_yes, ok_no, ok_n, ok_led, ok_lr, ok_pp, ok_ppp, List.length_cons, List.length_nil, Nat.zero_add, Int.reduceSub, Int.reduceAdd, Int.reduceNeg, Int.reduceMul, Bool.not_true, Bool.not_false]
    exact ⟨_, rfl, Nat.le_refl _, k, d⟩
  · rintro pre e S2 ⟨_, k, d⟩
    exact it_over (k.get h1 (by simp))
  · rintro pre x suf e S2 hx ⟨⟨o, rfl⟩, k, d⟩
    obtain ⟨l, rfl, hl⟩ := hr x (by rw [hx]; simp)
    refine ⟨_, rfl, ?_⟩
    simp only [ws_cons, ty_non, ty_bl, ty_int, ty_str, ty_tup, kit_tuple_NoneType, kit_tuple_bool, kit_tuple_int, kit_tuple_str, kit_tuple_tuple, kit_tuple_list, kit_list_NoneType, kit_list_bool, kit_list_int, kit_list_str, kit_list_tuple, kit_list_list, kit_int_NoneType, kit_int_bool, kit_int_int, kit_int_str, kit_int_tuple, kit_int_list, kit_bool_NoneType, kit_bool_bool, kit_bool_int, kit_bool_str, kit_bool_tuple, kit_bool_list, kit_str_NoneType, kit_str_bool, kit_str_int, kit_str_str, kit_str_tuple, kit_str_list, non_int, non_non, non_tup, non_str, non_ref, non_bl, ws_nil, ws_asg, ws_exp, ws_retS, ws_ifs, ws_pass, ws_raise, wr_slot, wr_cst, wr_nil, wr_cons, wr_tup, wr_lst, wr_dsp, wr_bin, wr_neg, ex_int, wr_not, wr_cmp, wr_and, wr_or, wr_ite, wr_isN, wr_notN, wr_ix, wr_sl, wr_prim, wr_lrg, wr_meth, wr_isT, wr_callE, wr_c0, wr_c1, wr_ok, m_lrg, m_addI, m_subI, m_mulI, m_divI, m_modI, m_powI, m_addT, m_addS, m_ltI, m_leI, m_gtI, m_geI, m_eq, m_ne, m_in, m_nin, eq_int, m_ixT, m_ixC, m_ixD, at_0, at_1, at_2, at_3, m_lenT, m_lenC, m_intI, m_intB, m_abs, m_max, m_min, m_tupT, m_listT, m_slT, m_slC, t_bl, t_int, t_non, t_tup, a_nm, a_tp, setSlots, partM, methFor, List.getElem?_cons_zero, List.getElem?_cons_succ, List.set_cons_zero, List.set_cons_succ, Option.some.injEq, exists_eq_left', true_and, and_true, eq_str, decide_eq_true_eq, ↓reduceIte, if_true, if_false, decide_true, decide_false, Bool.false_eq_true, ok_both, ok_case, ok_either, ok_first, ok_give, ok_k, ok_kp, ok_l, ok_left, ok_let, ok_name, ok_never, ok_none, ok_odd, ok_one, ok_other, ok_p, ok_pair, ok_r, ok_right, ok_second, ok_split, ok_star, ok_w, ok_way, ok_within, ok_without, ok_wrong, ok_yes, ok_no, ok_n, ok_led, ok_lr, ok_pp, ok_ppp, List.length_cons, List.length_nil, Nat.zero_add, Int.reduceSub, Int.reduceAdd, Int.reduceNeg, Int.reduceMul, Bool.not_true, Bool.not_false]
    refine wr_compM (ap1 (.tup l)) ?_
    simp only [ws_cons, ty_non, ty_bl, ty_int, ty_str, ty_tup, kit_tuple_NoneType, kit_tuple_bool, kit_tuple_int, kit_tuple_str, kit_tuple_tuple, kit_tuple_list, kit_list_NoneType, kit_list_bool, kit_list_int, kit_list_str, kit_list_tuple, kit_list_list, kit_int_NoneType, kit_int_bool, kit_int_int, kit_int_str, kit_int_tuple, kit_int_list, kit_bool_NoneType, kit_bool_bool, kit_bool_int, kit_bool_str, kit_bool_tuple, kit_bool_list, kit_str_NoneType, kit_str_bool, kit_str_int, kit_str_str, kit_str_tuple, kit_str_list, non_int, non_non, non_tup, non_str, non_ref, non_bl, ws_nil, ws_asg, ws_exp, ws_retS, ws_ifs, ws_pass, ws_raise, wr_slot, wr_cst, wr_nil, wr_cons, wr_tup, wr_lst, wr_dsp, wr_bin, wr_neg, ex_int, wr_not, wr_cmp, wr_and, wr_or, wr_ite, wr_isN, wr_notN, wr_ix, wr_sl, wr_prim, wr_lrg, wr_meth, wr_isT, wr_callE, wr_c0, wr_c1, wr_ok, m_lrg, m_addI, m_subI, m_mulI, m_divI, m_modI, m_powI, m_addT, m_addS, m_ltI, m_leI, m_gtI, m_geI, m_eq, m_ne, m_in, m_nin, eq_int, m_ixT, m_ixC, m_ixD, at_0, at_1, at_2, at_3, m_lenT, m_lenC, m_intI, m_intB, m_abs, m_max, m_min, m_tupT, m_listT, m_slT, m_slC, t_bl, t_int, t_non, t_tup, a_nm, a_tp, setSlots, partM, methFor, List.getElem?_cons_zero, List.getElem?_cons_succ, List.set_cons_zero, List.set_cons_succ, Option.some.injEq, exists_eq_left', true_and, and_true, eq_str, decide_eq_true_eq, ↓reduceIte, if_true, if_false, decide_true, decide_false, Bool.false_eq_true, ok_both, ok_case, ok_either, ok_first, ok_give, ok_k, ok_kp, ok_l, ok_left, ok_let, ok_name, ok_never, ok_none, ok_odd, ok_one, ok_other, ok_p, ok_pair, ok_r, ok_right, ok_second, ok_split, ok_star, ok_w, ok_way, ok_within, ok_without, ok_wrong, ok_yes, ok_no, ok_n, ok_led, ok_lr, ok_pp, ok_ppp, List.length_cons, List.length_nil, Nat.zero_add, Int.reduceSub, Int.reduceAdd, Int.reduceNeg, Int.reduceMul, Bool.not_true, Bool.not_false]
    refine ⟨bs, len_overL (k.get h2 (by simp)), big hb, fun S3 k3 i => it_over (k3.get (k.get h2 (by simp)) (by simp)), ?_, ?_⟩
    · intro S3 k3 d3
      rw [m_ext (k3.get d (by simp)) d3]
      refine ⟨?_, ⟨_, rfl⟩, (k.trans k3).set (.inr (Nat.le_refl _)), ?_⟩
      · rw [flat_len, List.length_map]
        refine big (Nat.le_trans ?_ hz)
        rw [hx, List.length_append, List.length_cons, ← Nat.succ_mul]
        exact Nat.mul_le_mul_right _ (by omega)
      · rw [get_set (k3.get d (by simp)), List.flatMap_append]
        simp
    · intro t S3 ht k3 _
      simp only [ws_cons, ty_non, ty_bl, ty_int, ty_str, ty_tup, kit_tuple_NoneType, kit_tuple_bool, kit_tuple_int, kit_tuple_str, kit_tuple_tuple, kit_tuple_list, kit_list_NoneType, kit_list_bool, kit_list_int, kit_list_str, kit_list_tuple, kit_list_list, kit_int_NoneType, kit_int_bool, kit_int_int, kit_int_str, kit_int_tuple, kit_int_list, kit_bool_NoneType, kit_bool_bool, kit_bool_int, kit_bool_str, kit_bool_tuple, kit_bool_list, kit_str_NoneType, kit_str_bool, kit_str_int, kit_str_str, kit_str_tuple, kit_str_list, non_int, non_non, non_tup, non_str, non_ref, non_bl, ws_nil, ws_asg, ws_exp, ws_retS, ws_ifs, ws_pass, ws_raise, wr_slot, wr_cst, wr_nil, wr_cons, wr_tup, wr_lst, wr_dsp, wr_bin, wr_neg, ex_int, wr_not, wr_cmp, wr_and, wr_or, wr_ite, wr_isN, wr_notN, wr_ix, wr_sl, wr_prim, wr_lrg, wr_meth, wr_isT, wr_callE, wr_c0, wr_c1, wr_ok, m_lrg, m_addI, m_subI, m_mulI, m_divI, m_modI, m_powI, m_addT, m_addS, m_ltI, m_leI, m_gtI, m_geI, m_eq, m_ne, m_in, m_nin, eq_int, m_ixT, m_ixC, m_ixD, at_0, at_1, at_2, at_3, m_lenT, m_lenC, m_intI, m_intB, m_abs, m_max, m_min, m_tupT, m_listT, m_slT, m_slC, t_bl, t_int, t_non, t_tup, a_nm, a_tp, setSlots, partM, methFor, List.getElem?_cons_zero, List.getElem?_cons_succ, List.set_cons_zero, List.set_cons_succ, Option.some.injEq, exists_eq_left', true_and, and_true, eq_str, decide_eq_true_eq, ↓reduceIte, if_true, if_false, decide_true, decide_false, Bool.false_eq_true, ok_both, ok_case, ok_either, ok_first, ok_give, ok_k, ok_kp, ok_l, ok_left, ok_let, ok_name, ok_never, ok_none, ok_odd, ok_one, ok_other, ok_p, ok_pair, ok_r, ok_right, ok_second, ok_split, ok_star, ok_w, ok_way, ok_within, ok_without, ok_wrong, ok_yes, ok_no, ok_n, ok_led, ok_lr, ok_pp, ok_ppp, List.length_cons, List.length_nil, Nat.zero_add, Int.reduceSub, Int.reduceAdd, Int.reduceNeg, Int.reduceMul, Bool.not_true, Bool.not_false, wipeE]
      exact ⟨big (by omega), big (by omega), rfl, .refl⟩
theorem sp_pairs {a b : Nat} {as bs : List PV} (hf : HasThs T) (h1 : S[a]? = some (.lst as)) (h2 : S[b]? = some (.lst bs)) (hz : as.length * bs.length ≤ 1000000) (hb : bs.length ≤ 1000000) :
    Wr (callF T (r + 1) "pairs" [.ref a, .ref b] S) (NewL S (as.flatMap fun x => bs.map fun y => .tup [.str "p", x, y])) nE := by
  refine wr_call hf.pairs rfl rfl (show Ws (execSs (conf T r) f_pairs.body [some (.ref a), some (.ref b), none, none, none] S) _ _ _ from ?_)
  simp only [f_pairs, ws_cons, ty_non, ty_bl, ty_int, ty_str, ty_tup, kit_tuple_NoneType, kit_tuple_bool, kit_tuple_int, kit_tuple_str, kit_tuple_tuple, kit_tuple_list, kit_list_NoneType, kit_list_bool, kit_list_int, kit_list_str, kit_list_tuple, kit_list_list, kit_int_NoneType, kit_int_bool, kit_int_int, kit_int_str, kit_int_tuple, kit_int_list, kit_bool_NoneType, kit_bool_bool, kit_bool_int, kit_bool_str, kit_bool_tuple, kit_bool_list, kit_str_NoneType, kit_str_bool, kit_str_int, kit_str_str, kit_str_tuple, kit_str_list, non_int, non_non, non_tup, non_str, non_ref, non_bl, ws_nil, ws_asg, ws_exp, ws_retS, ws_ifs, ws_pass, ws_raise, wr_slot, wr_cst, wr_nil, wr_cons, wr_tup, wr_lst, wr_dsp, wr_bin, wr_neg, ex_int, wr_not, wr_cmp, wr_and, wr_or, wr_ite, wr_isN, wr_notN, wr_ix, wr_sl, wr_prim, wr_lrg, wr_meth, wr_isT, wr_callE, wr_c0, wr_c1, wr_ok, m_lrg, m_addI, m_subI, m_mulI, m_divI, m_modI, m_powI, m_addT, m_addS, m_ltI, m_leI, m_gtI, m_geI, m_eq, m_ne, m_in, m_nin, eq_int, m_ixT, m_ixC, m_ixD, at_0, at_1, at_2, at_3, m_lenT, m_lenC, m_intI, m_intB, m_abs, m_max, m_min, m_tupT, m_listT, m_slT, m_slC, t_bl, t_int, t_non, t_tup, a_nm, a_tp, setSlots, partM, methFor, List.getElem?_cons_zero, List.getElem?_cons_succ, List.set_cons_zero, List.set_cons_succ, Option.some.injEq, exists_eq_left', true_and, and_true, eq_str, decide_eq_true_eq, ↓reduceIte, if_true, if_false, decide_true, decide_false, Bool.false_eq_true, ok_both, ok_case, ok_either, ok_first, ok_give, ok_k, ok_kp, ok_l, ok_left, ok_let, ok_name, ok_never, ok_none, ok_odd, ok_one, ok_other, ok_p, ok_pair, ok_r, ok_right, ok_second, ok_split, ok_star, ok_w, ok_way, ok_within, ok_without, ok_wrong, ok_yes, ok_no, ok_n, ok_led, ok_lr, ok_pp, ok_ppp, List.length_cons, List.length_nil, Nat.zero_add, Int.reduceSub, Int.reduceAdd, Int.reduceNeg, Int.reduceMul, Bool.not_true, Bool.not_false]
  refine ⟨Nat.zero_le _, ws_forI ?_⟩
  simp only [ws_cons, ty_non, ty_bl, ty_int, ty_str, ty_tup, kit_tuple_NoneType, kit_tuple_bool, kit_tuple_int, kit_tuple_str, kit_tuple_tuple, kit_tuple_list, kit_list_NoneType, kit_list_bool, kit_list_int, kit_list_str, kit_list_tuple, kit_list_list, kit_int_NoneType, kit_int_bool, kit_int_int, kit_int_str, kit_int_tuple, kit_int_list, kit_bool_NoneType, kit_bool_bool, kit_bool_int, kit_bool_str, kit_bool_tuple, kit_bool_list, kit_str_NoneType, kit_str_bool, kit_str_int, kit_str_str, kit_str_tuple, kit_str_list, non_int, non_non, non_tup, non_str, non_ref, non_bl, ws_nil, ws_asg, ws_exp, ws_retS, ws_ifs, ws_pass, ws_raise, wr_slot, wr_cst, wr_nil, wr_cons, wr_tup, wr_lst, wr_dsp, wr_bin, wr_neg, ex_int, wr_not, wr_cmp, wr_and, wr_or, wr_ite, wr_isN, wr_notN, wr_ix, wr_sl, wr_prim, wr_lrg, wr_meth, wr_isT, wr_callE, wr_c0, wr_c1, wr_ok, m_lrg, m_addI, m_subI, m_mulI, m_divI, m_modI, m_powI, m_addT, m_addS, m_ltI, m_leI, m_gtI, m_geI, m_eq, m_ne, m_in, m_nin, eq_int, m_ixT, m_ixC, m_ixD, at_0, at_1, at_2, at_3, m_lenT, m_lenC, m_intI, m_intB, m_abs, m_max, m_min, m_tupT, m_listT, m_slT, m_slC, t_bl, t_int, t_non, t_tup, a_nm, a_tp, setSlots, partM, methFor, List.getElem?_cons_zero, List.getElem?_cons_succ, List.set_cons_zero, List.set_cons_succ, Option.some.injEq, exists_eq_left', true_and, and_true, eq_str, decide_eq_true_eq, ↓reduceIte, if_true, if_false, decide_true, decide_false, Bool.false_eq_true, ok_both, ok_case, ok_either, ok_first, ok_give, ok_k, ok_kp, ok_l, ok_left, ok_let, ok_name, ok_never, ok_none, ok_odd, ok_one, ok_other, ok_p, ok_pair, ok_r, ok_right, ok_second, ok_split, ok_star, ok_w, ok_way, ok_within, ok_without, ok_wrong, ok_yes, ok_no, ok_n, ok_led, ok_lr, ok_pp, ok_ppp, List.length_cons, List.length_nil, Nat.zero_add, Int.reduceSub, Int.reduceAdd, Int.reduceNeg, Int.reduceMul, Bool.not_true, Bool.not_false]
  refine ⟨as, len_overL (get_app h1), fun pre e S2 => (∃ o, e = [some (.ref a), some (.ref b), some (.ref S.length), o, none]) ∧ Kp [] S S2 ∧ S2[S.length]? = some (.lst (pre.flatMap fun x => bs.map fun y => .tup [.str "p", x, y])),
    ⟨⟨_, rfl⟩, Kp.refl.app, get_new⟩, ?_, ?_, ?_⟩
  · rintro e S2 ⟨⟨o, rfl⟩, k, d⟩
    simp only [ws_cons, ty_non, ty_bl, ty_int, ty_str, ty_tup, kit_tuple_NoneType, kit_tuple_bool, kit_tuple_int, kit_tuple_str, kit_tuple_tuple, kit_tuple_list, kit_list_NoneType, kit_list_bool, kit_list_int, kit_list_str, kit_list_tuple, kit_list_list, kit_int_NoneType, kit_int_bool, kit_int_int, kit_int_str, kit_int_tuple, kit_int_list, kit_bool_NoneType, kit_bool_bool, kit_bool_int, kit_bool_str, kit_bool_tuple, kit_bool_list, kit_str_NoneType, kit_str_bool, kit_str_int, kit_str_str, kit_str_tuple, kit_str_list, non_int, non_non, non_tup, non_str, non_ref, non_bl, ws_nil, ws_asg, ws_exp, ws_retS, ws_ifs, ws_pass, ws_raise, wr_slot, wr_cst, wr_nil, wr_cons, wr_tup, wr_lst, wr_dsp, wr_bin, wr_neg, ex_int, wr_not, wr_cmp, wr_and, wr_or, wr_ite, wr_isN, wr_notN, wr_ix, wr_sl, wr_prim, wr_lrg, wr_meth, wr_isT, wr_callE, wr_c0, wr_c1, wr_ok, m_lrg, m_addI, m_subI, m_mulI, m_divI, m_modI, m_powI, m_addT, m_addS, m_ltI, m_leI, m_gtI, m_geI, m_eq, m_ne, m_in, m_nin, eq_int, m_ixT, m_ixC, m_ixD, at_0, at_1, at_2, at_3, m_lenT, m_lenC, m_intI, m_intB, m_abs, m_max, m_min, m_tupT, m_listT, m_slT, m_slC, t_bl, t_int, t_non, t_tup, a_nm, a_tp, setSlots, partM, methFor, List.getElem?_cons_zero, List.getElem?_cons_succ, List.set_cons_zero, List.set_cons_succ, Option.some.injEq, exists_eq_left', true_and, and_true, eq_str, decide_eq_true_eq, ↓reduceIte, if_true, if_false, decide_true, decide_false, Bool.false_eq_true, ok_both, ok_case, ok_either, ok_first, ok_give, ok_k, ok_kp, ok_l, ok_left, ok_let, ok_name, ok_never, ok_none, ok_odd, ok_one, ok_other, ok_p, ok_pair, ok_r, ok_right, ok_second, ok_split, ok_star, ok_w, ok_way, ok_within, ok_without, ok_wrong, ok_yes, ok_no, ok_n, ok_led, ok_lr, ok_pp, ok_ppp, List.length_cons, List.length_nil, Nat.zero_add, Int.reduceSub, Int.reduceAdd, Int.reduceNeg, Int.reduceMul, Bool.not_true, Bool.not_false]
    exact ⟨_, rfl, Nat.le_refl _, k, d⟩
  · rintro pre e S2 ⟨_, k, d⟩
    exact it_over (k.get h1 (by simp))
  · rintro pre x suf e S2 hx ⟨⟨o, rfl⟩, k, d⟩
    refine ⟨_, rfl, ?_⟩
    simp only [ws_cons, ty_non, ty_bl, ty_int, ty_str, ty_tup, kit_tuple_NoneType, kit_tuple_bool, kit_tuple_int, kit_tuple_str, kit_tuple_tuple, kit_tuple_list, kit_list_NoneType, kit_list_bool, kit_list_int, kit_list_str, kit_list_tuple, kit_list_list, kit_int_NoneType, kit_int_bool, kit_int_int, kit_int_str, kit_int_tuple, kit_int_list, kit_bool_NoneType, kit_bool_bool, kit_bool_int, kit_bool_str, kit_bool_tuple, kit_bool_list, kit_str_NoneType, kit_str_bool, kit_str_int, kit_str_str, kit_str_tuple, kit_str_list, non_int, non_non, non_tup, non_str, non_ref, non_bl, ws_nil, ws_asg, ws_exp, ws_retS, ws_ifs, ws_pass, ws_raise, wr_slot, wr_cst, wr_nil, wr_cons, wr_tup, wr_lst, wr_dsp, wr_bin, wr_neg, ex_int, wr_not, wr_cmp, wr_and, wr_or, wr_ite, wr_isN, wr_notN, wr_ix, wr_sl, wr_prim, wr_lrg, wr_meth, wr_isT, wr_callE, wr_c0, wr_c1, wr_ok, m_lrg, m_addI, m_subI, m_mulI, m_divI, m_modI, m_powI, m_addT, m_addS, m_ltI, m_leI, m_gtI, m_geI, m_eq, m_ne, m_in, m_nin, eq_int, m_ixT, m_ixC, m_ixD, at_0, at_1, at_2, at_3, m_lenT, m_lenC, m_intI, m_intB, m_abs, m_max, m_min, m_tupT, m_listT, m_slT, m_slC, t_bl, t_int, t_non, t_tup, a_nm, a_tp, setSlots, partM, methFor, List.getElem?_cons_zero, List.getElem?_cons_succ, List.set_cons_zero, List.set_cons_succ, Option.some.injEq, exists_eq_left', true_and, and_true, eq_str, decide_eq_true_eq, ↓reduceIte, if_true, if_false, decide_true, decide_false, Bool.false_eq_true, ok_both, ok_case, ok_either, ok_first, ok_give, ok_k, ok_kp, ok_l, ok_left, ok_let, ok_name, ok_never, ok_none, ok_odd, ok_one, ok_other, ok_p, ok_pair, ok_r, ok_right, ok_second, ok_split, ok_star, ok_w, ok_way, ok_within, ok_without, ok_wrong, ok_yes, ok_no, ok_n, ok_led, ok_lr, ok_pp, ok_ppp, List.length_cons, List.length_nil, Nat.zero_add, Int.reduceSub, Int.reduceAdd, Int.reduceNeg, Int.reduceMul, Bool.not_true, Bool.not_false]
    refine wr_compM (fun y => .tup [.str "p", x, y]) ?_
    simp only [ws_cons, ty_non, ty_bl, ty_int, ty_str, ty_tup, kit_tuple_NoneType, kit_tuple_bool, kit_tuple_int, kit_tuple_str, kit_tuple_tuple, kit_tuple_list, kit_list_NoneType, kit_list_bool, kit_list_int, kit_list_str, kit_list_tuple, kit_list_list, kit_int_NoneType, kit_int_bool, kit_int_int, kit_int_str, kit_int_tuple, kit_int_list, kit_bool_NoneType, kit_bool_bool, kit_bool_int, kit_bool_str, kit_bool_tuple, kit_bool_list, kit_str_NoneType, kit_str_bool, kit_str_int, kit_str_str, kit_str_tuple, kit_str_list, non_int, non_non, non_tup, non_str, non_ref, non_bl, ws_nil, ws_asg, ws_exp, ws_retS, ws_ifs, ws_pass, ws_raise, wr_slot, wr_cst, wr_nil, wr_cons, wr_tup, wr_lst, wr_dsp, wr_bin, wr_neg, ex_int, wr_not, wr_cmp, wr_and, wr_or, wr_ite, wr_isN, wr_notN, wr_ix, wr_sl, wr_prim, wr_lrg, wr_meth, wr_isT, wr_callE, wr_c0, wr_c1, wr_ok, m_lrg, m_addI, m_subI, m_mulI, m_divI, m_modI, m_powI, m_addT, m_addS, m_ltI, m_leI, m_gtI, m_geI, m_eq, m_ne, m_in, m_nin, eq_int, m_ixT, m_ixC, m_ixD, at_0, at_1, at_2, at_3, m_lenT, m_lenC, m_intI, m_intB, m_abs, m_max, m_min, m_tupT, m_listT, m_slT, m_slC, t_bl, t_int, t_non, t_tup, a_nm, a_tp, setSlots, partM, methFor, List.getElem?_cons_zero, List.getElem?_cons_succ, List.set_cons_zero, List.set_cons_succ, Option.some.injEq, exists_eq_left', true_and, and_true, eq_str, decide_eq_true_eq, ↓reduceIte, if_true, if_false, decide_true, decide_false, Bool.false_eq_true, ok_both, ok_case, ok_either, ok_first, ok_give, ok_k, ok_kp, ok_l, ok_left, ok_let, ok_name, ok_never, ok_none, ok_odd, ok_one, ok_other, ok_p, ok_pair, ok_r, ok_right, ok_second, ok_split, ok_star, ok_w, ok_way, ok_within, ok_without, ok_wrong, ok_yes, ok_no, ok_n, ok_led, ok_lr, ok_pp, ok_ppp, List.length_cons, List.length_nil, Nat.zero_add, Int.reduceSub, Int.reduceAdd, Int.reduceNeg, Int.reduceMul, Bool.not_true, Bool.not_false]
    refine ⟨bs, len_overL (k.get h2 (by simp)), big hb, fun S3 k3 i => it_over (k3.get (k.get h2 (by simp)) (by simp)), ?_, ?_⟩
    · intro S3 k3 d3
      rw [m_ext (k3.get d (by simp)) d3]
      refine ⟨?_, ⟨_, rfl⟩, (k.trans k3).set (.inr (Nat.le_refl _)), ?_⟩
      · rw [flat_len, List.length_map]
        refine big (Nat.le_trans ?_ hz)
        rw [hx, List.length_append, List.length_cons, ← Nat.succ_mul]
        exact Nat.mul_le_mul_right _ (by omega)
      · rw [get_set (k3.get d (by simp)), List.flatMap_append]
        simp
    · intro t S3 ht k3 _
      simp only [ws_cons, ty_non, ty_bl, ty_int, ty_str, ty_tup, kit_tuple_NoneType, kit_tuple_bool, kit_tuple_int, kit_tuple_str, kit_tuple_tuple, kit_tuple_list, kit_list_NoneType, kit_list_bool, kit_list_int, kit_list_str, kit_list_tuple, kit_list_list, kit_int_NoneType, kit_int_bool, kit_int_int, kit_int_str, kit_int_tuple, kit_int_list, kit_bool_NoneType, kit_bool_bool, kit_bool_int, kit_bool_str, kit_bool_tuple, kit_bool_list, kit_str_NoneType, kit_str_bool, kit_str_int, kit_str_str, kit_str_tuple, kit_str_list, non_int, non_non, non_tup, non_str, non_ref, non_bl, ws_nil, ws_asg, ws_exp, ws_retS, ws_ifs, ws_pass, ws_raise, wr_slot, wr_cst, wr_nil, wr_cons, wr_tup, wr_lst, wr_dsp, wr_bin, wr_neg, ex_int, wr_not, wr_cmp, wr_and, wr_or, wr_ite, wr_isN, wr_notN, wr_ix, wr_sl, wr_prim, wr_lrg, wr_meth, wr_isT, wr_callE, wr_c0, wr_c1, wr_ok, m_lrg, m_addI, m_subI, m_mulI, m_divI, m_modI, m_powI, m_addT, m_addS, m_ltI, m_leI, m_gtI, m_geI, m_eq, m_ne, m_in, m_nin, eq_int, m_ixT, m_ixC, m_ixD, at_0, at_1, at_2, at_3, m_lenT, m_lenC, m_intI, m_intB, m_abs, m_max, m_min, m_tupT, m_listT, m_slT, m_slC, t_bl, t_int, t_non, t_tup, a_nm, a_tp, setSlots, partM, methFor, List.getElem?_cons_zero, List.getElem?_cons_succ, List.set_cons_zero, List.set_cons_succ, Option.some.injEq, exists_eq_left', true_and, and_true, eq_str, decide_eq_true_eq, ↓reduceIte, if_true, if_false, decide_true, decide_false, Bool.false_eq_true, ok_both, ok_case, ok_either, ok_first, ok_give, ok_k, ok_kp, ok_l, ok_left, ok_let, ok_name, ok_never, ok_none, ok_odd, ok_one, ok_other, ok_p, ok_pair, ok_r, ok_right, ok_second, ok_split, ok_star, ok_w, ok_way, ok_within, ok_without, ok_wrong, ok_yes, ok_no, ok_n, ok_led, ok_lr, ok_pp, ok_ppp, List.length_cons, List.length_nil, Nat.zero_add, Int.reduceSub, Int.reduceAdd, Int.reduceNeg, Int.reduceMul, Bool.not_true, Bool.not_false, wipeE]
      exact ⟨big (by omega), .refl⟩
theorem pow_mid {b i n : Nat} (hi : i ≤ n) : b ^ i ≤ max 1 (b ^ n) := by
  rcases Nat.eq_zero_or_pos b with rfl | hb
  · cases i with
    | zero => simp; omega
    | succ i => simp
  · exact Nat.le_trans (Nat.pow_le_pow_right hb hi) (Nat.le_max_right _ _)
theorem range_len (lo : Int) (n : Nat) : (rangeP lo n).length = n := by simp [rangeP]
theorem e62 : (2 : Int) ^ 62 = 4611686018427387904 := by decide +kernel
theorem fits_of {i : Int} (h1 : -1000000000 ≤ i) (h2 : i ≤ 1000000000) : fits i = true := fits_iff.mpr (by rw [e62]; omega)
theorem range_nat {n : Nat} (h : n ≤ 1000000000) : rangeM [.int (n : Nat)] = some (rangeP 0 n) := by
  unfold rangeM
  simp only [fits_of (i := (n : Nat)) (by omega) (by omega), if_true, Int.toNat_natCast]
theorem sp_ways {n b : Nat} {bs : List PV} (hf : HasThs T) (h2 : S[b]? = some (.lst bs)) (hn : n ≤ 1000) (hb : bs.length ≤ 1000) (hz : bs.length ^ n ≤ 1000) :
    Wr (callF T (r + 2) "ways" [.int (n : Nat), .ref b] S) (NewL S (wys bs n)) nE := by
  refine wr_call (r := r + 1) (ws := [.int (n : Nat), .ref b]) hf.ways rfl rfl ?_
  show Ws (execSs (conf T (r + 1)) f_ways.body [some (.int (n : Nat)), some (.ref b), none, none] S) _ _ _
  simp only [f_ways, ws_cons, ty_non, ty_bl, ty_int, ty_str, ty_tup, kit_tuple_NoneType, kit_tuple_bool, kit_tuple_int, kit_tuple_str, kit_tuple_tuple, kit_tuple_list, kit_list_NoneType, kit_list_bool, kit_list_int, kit_list_str, kit_list_tuple, kit_list_list, kit_int_NoneType, kit_int_bool, kit_int_int, kit_int_str, kit_int_tuple, kit_int_list, kit_bool_NoneType, kit_bool_bool, kit_bool_int, kit_bool_str, kit_bool_tuple, kit_bool_list, kit_str_NoneType, kit_str_bool, kit_str_int, kit_str_str, kit_str_tuple, kit_str_list, non_int, non_non, non_tup, non_str, non_ref, non_bl, ws_nil, ws_asg, ws_exp, ws_retS, ws_ifs, ws_pass, ws_raise, wr_slot, wr_cst, wr_nil, wr_cons, wr_tup, wr_lst, wr_dsp, wr_bin, wr_neg, ex_int, wr_not, wr_cmp, wr_and, wr_or, wr_ite, wr_isN, wr_notN, wr_ix, wr_sl, wr_prim, wr_lrg, wr_meth, wr_isT, wr_callE, wr_c0, wr_c1, wr_ok, m_lrg, m_addI, m_subI, m_mulI, m_divI, m_modI, m_powI, m_addT, m_addS, m_ltI, m_leI, m_gtI, m_geI, m_eq, m_ne, m_in, m_nin, eq_int, m_ixT, m_ixC, m_ixD, at_0, at_1, at_2, at_3, m_lenT, m_lenC, m_intI, m_intB, m_abs, m_max, m_min, m_tupT, m_listT, m_slT, m_slC, t_bl, t_int, t_non, t_tup, a_nm, a_tp, setSlots, partM, methFor, List.getElem?_cons_zero, List.getElem?_cons_succ, List.set_cons_zero, List.set_cons_succ, Option.some.injEq, exists_eq_left', true_and, and_true, eq_str, decide_eq_true_eq, ↓reduceIte, if_true, if_false, decide_true, decide_false, Bool.false_eq_true, ok_both, ok_case, ok_either, ok_first, ok_give, ok_k, ok_kp, ok_l, ok_left, ok_let, ok_name, ok_never, ok_none, ok_odd, ok_one, ok_other, ok_p, ok_pair, ok_r, ok_right, ok_second, ok_split, ok_star, ok_w, ok_way, ok_within, ok_without, ok_wrong, ok_yes, ok_no, ok_n, ok_led, ok_lr, ok_pp, ok_ppp, List.length_cons, List.length_nil, Nat.zero_add, Int.reduceSub, Int.reduceAdd, Int.reduceNeg, Int.reduceMul, Bool.not_true, Bool.not_false]
  refine ⟨Nat.zero_le _, big (by omega), ?_⟩
  with_unfolding_none refine ws_forI ?_
  simp only [ws_cons, ty_non, ty_bl, ty_int, ty_str, ty_tup, kit_tuple_NoneType, kit_tuple_bool, kit_tuple_int, kit_tuple_str, kit_tuple_tuple, kit_tuple_list, kit_list_NoneType, kit_list_bool, kit_list_int, kit_list_str, kit_list_tuple, kit_list_list, kit_int_NoneType, kit_int_bool, kit_int_int, kit_int_str, kit_int_tuple, kit_int_list, kit_bool_NoneType, kit_bool_bool, kit_bool_int, kit_bool_str, kit_bool_tuple, kit_bool_list, kit_str_NoneType, kit_str_bool, kit_str_int, kit_str_str, kit_str_tuple, kit_str_list, non_int, non_non, non_tup, non_str, non_ref, non_bl, ws_nil, ws_asg, ws_exp, ws_retS, ws_ifs, ws_pass, ws_raise, wr_slot, wr_cst, wr_nil, wr_cons, wr_tup, wr_lst, wr_dsp, wr_bin, wr_neg, ex_int, wr_not, wr_cmp, wr_and, wr_or, wr_ite, wr_isN, wr_notN, wr_ix, wr_sl, wr_prim, wr_lrg, wr_meth, wr_isT, wr_callE, wr_c0, wr_c1, wr_ok, m_lrg, m_addI, m_subI, m_mulI, m_divI, m_modI, m_powI, m_addT, m_addS, m_ltI, m_leI, m_gtI, m_geI, m_eq, m_ne, m_in, m_nin, eq_int, m_ixT, m_ixC, m_ixD, at_0, at_1, at_2, at_3, m_lenT, m_lenC, m_intI, m_intB, m_abs, m_max, m_min, m_tupT, m_listT, m_slT, m_slC, t_bl, t_int, t_non, t_tup, a_nm, a_tp, setSlots, partM, methFor, List.getElem?_cons_zero, List.getElem?_cons_succ, List.set_cons_zero, List.set_cons_succ, Option.some.injEq, exists_eq_left', true_and, and_true, eq_str, decide_eq_true_eq, ↓reduceIte, if_true, if_false, decide_true, decide_false, Bool.false_eq_true, ok_both, ok_case, ok_either, ok_first, ok_give, ok_k, ok_kp, ok_l, ok_left, ok_let, ok_name, ok_never, ok_none, ok_odd, ok_one, ok_other, ok_p, ok_pair, ok_r, ok_right, ok_second, ok_split, ok_star, ok_w, ok_way, ok_within, ok_without, ok_wrong, ok_yes, ok_no, ok_n, ok_led, ok_lr, ok_pp, ok_ppp, List.length_cons, List.length_nil, Nat.zero_add, Int.reduceSub, Int.reduceAdd, Int.reduceNeg, Int.reduceMul, Bool.not_true, Bool.not_false]
  have er := range_nat (n := n) (by omega)
  refine ⟨rangeP 0 n, len_range er, fun pre e S2 => (∃ m o, e = [some (.int (n : Nat)), some (.ref b), some (.ref m), o] ∧ S.length ≤ m ∧ S2[m]? = some (.lst (wys bs pre.length))) ∧ Kp [] S S2,
    ⟨⟨_, _, rfl, Nat.le_refl _, get_new⟩, Kp.refl.app⟩, ?_, ?_, ?_⟩
  · rintro e S2 ⟨⟨m, o, rfl, h3, h4⟩, k⟩
    simp only [ws_cons, ty_non, ty_bl, ty_int, ty_str, ty_tup, kit_tuple_NoneType, kit_tuple_bool, kit_tuple_int, kit_tuple_str, kit_tuple_tuple, kit_tuple_list, kit_list_NoneType, kit_list_bool, kit_list_int, kit_list_str, kit_list_tuple, kit_list_list, kit_int_NoneType, kit_int_bool, kit_int_int, kit_int_str, kit_int_tuple, kit_int_list, kit_bool_NoneType, kit_bool_bool, kit_bool_int, kit_bool_str, kit_bool_tuple, kit_bool_list, kit_str_NoneType, kit_str_bool, kit_str_int, kit_str_str, kit_str_tuple, kit_str_list, non_int, non_non, non_tup, non_str, non_ref, non_bl, ws_nil, ws_asg, ws_exp, ws_retS, ws_ifs, ws_pass, ws_raise, wr_slot, wr_cst, wr_nil, wr_cons, wr_tup, wr_lst, wr_dsp, wr_bin, wr_neg, ex_int, wr_not, wr_cmp, wr_and, wr_or, wr_ite, wr_isN, wr_notN, wr_ix, wr_sl, wr_prim, wr_lrg, wr_meth, wr_isT, wr_callE, wr_c0, wr_c1, wr_ok, m_lrg, m_addI, m_subI, m_mulI, m_divI, m_modI, m_powI, m_addT, m_addS, m_ltI, m_leI, m_gtI, m_geI, m_eq, m_ne, m_in, m_nin, eq_int, m_ixT, m_ixC, m_ixD, at_0, at_1, at_2, at_3, m_lenT, m_lenC, m_intI, m_intB, m_abs, m_max, m_min, m_tupT, m_listT, m_slT, m_slC, t_bl, t_int, t_non, t_tup, a_nm, a_tp, setSlots, partM, methFor, List.getElem?_cons_zero, List.getElem?_cons_succ, List.set_cons_zero, List.set_cons_succ, Option.some.injEq, exists_eq_left', true_and, and_true, eq_str, decide_eq_true_eq, ↓reduceIte, if_true, if_false, decide_true, decide_false, Bool.false_eq_true, ok_both, ok_case, ok_either, ok_first, ok_give, ok_k, ok_kp, ok_l, ok_left, ok_let, ok_name, ok_never, ok_none, ok_odd, ok_one, ok_other, ok_p, ok_pair, ok_r, ok_right, ok_second, ok_split, ok_star, ok_w, ok_way, ok_within, ok_without, ok_wrong, ok_yes, ok_no, ok_n, ok_led, ok_lr, ok_pp, ok_ppp, List.length_cons, List.length_nil, Nat.zero_add, Int.reduceSub, Int.reduceAdd, Int.reduceNeg, Int.reduceMul, Bool.not_true, Bool.not_false]
    rw [range_len] at h4
    exact ⟨_, rfl, h3, k, h4⟩
  · rintro pre e S2 _
    exact it_range er
  · rintro pre x suf e S2 hx ⟨⟨m, o, rfl, h3, h4⟩, k⟩
    have hp : pre.length < n := by
      have := congrArg List.length hx
      rw [range_len, List.length_append, List.length_cons] at this
      omega
    have hw := wys_len bs pre.length
    have hpow := pow_mid (b := bs.length) (Nat.le_of_lt hp)
    have hpow2 := pow_mid (b := bs.length) hp
    refine ⟨_, rfl, ?_⟩
    simp only [ws_cons, ty_non, ty_bl, ty_int, ty_str, ty_tup, kit_tuple_NoneType, kit_tuple_bool, kit_tuple_int, kit_tuple_str, kit_tuple_tuple, kit_tuple_list, kit_list_NoneType, kit_list_bool, kit_list_int, kit_list_str, kit_list_tuple, kit_list_list, kit_int_NoneType, kit_int_bool, kit_int_int, kit_int_str, kit_int_tuple, kit_int_list, kit_bool_NoneType, kit_bool_bool, kit_bool_int, kit_bool_str, kit_bool_tuple, kit_bool_list, kit_str_NoneType, kit_str_bool, kit_str_int, kit_str_str, kit_str_tuple, kit_str_list, non_int, non_non, non_tup, non_str, non_ref, non_bl, ws_nil, ws_asg, ws_exp, ws_retS, ws_ifs, ws_pass, ws_raise, wr_slot, wr_cst, wr_nil, wr_cons, wr_tup, wr_lst, wr_dsp, wr_bin, wr_neg, ex_int, wr_not, wr_cmp, wr_and, wr_or, wr_ite, wr_isN, wr_notN, wr_ix, wr_sl, wr_prim, wr_lrg, wr_meth, wr_isT, wr_callE, wr_c0, wr_c1, wr_ok, m_lrg, m_addI, m_subI, m_mulI, m_divI, m_modI, m_powI, m_addT, m_addS, m_ltI, m_leI, m_gtI, m_geI, m_eq, m_ne, m_in, m_nin, eq_int, m_ixT, m_ixC, m_ixD, at_0, at_1, at_2, at_3, m_lenT, m_lenC, m_intI, m_intB, m_abs, m_max, m_min, m_tupT, m_listT, m_slT, m_slC, t_bl, t_int, t_non, t_tup, a_nm, a_tp, setSlots, partM, methFor, List.getElem?_cons_zero, List.getElem?_cons_succ, List.set_cons_zero, List.set_cons_succ, Option.some.injEq, exists_eq_left', true_and, and_true, eq_str, decide_eq_true_eq, ↓reduceIte, if_true, if_false, decide_true, decide_false, Bool.false_eq_true, ok_both, ok_case, ok_either, ok_first, ok_give, ok_k, ok_kp, ok_l, ok_left, ok_let, ok_name, ok_never, ok_none, ok_odd, ok_one, ok_other, ok_p, ok_pair, ok_r, ok_right, ok_second, ok_split, ok_star, ok_w, ok_way, ok_within, ok_without, ok_wrong, ok_yes, ok_no, ok_n, ok_led, ok_lr, ok_pp, ok_ppp, List.length_cons, List.length_nil, Nat.zero_add, Int.reduceSub, Int.reduceAdd, Int.reduceNeg, Int.reduceMul, Bool.not_true, Bool.not_false]
    refine (sp_longer hf h4 (k.get h2 (by simp)) (fun x hx => ?_) ?_ (by omega)).imp ?_ fun _ _ _ z => z.elim
    · obtain ⟨l, e, hl, _⟩ := wys_tup bs _ hx
      exact ⟨l, e, by omega⟩
    · rw [hw, ← Nat.pow_succ]
      have : max 1 (bs.length ^ n) ≤ 1000 := by omega
      exact Nat.le_trans hpow2 (by omega)
    · rintro v S3 ⟨m2, rfl, h5, k5, h6⟩
      refine ⟨⟨m2, _, rfl, by have := get_lt h4; omega, ?_⟩, k.trans k5⟩
      rw [h6, List.length_append]
      rfl
theorem eqs (S : Store) {a b : Str} (h1 : strOkB a = true) (h2 : strOkB b = true) : eqM S (.str a) (.str b) = some (decide (a = b)) := eq_str h1 h2
theorem sp_things (hf : HasThs T) : ∀ (k : Kd) (r : Nat) (S : Store), k.le 1000 → k.dep + 2 ≤ r → Wr (callF T (r + 1) "things" [K k] S) (NewL S (ths k)) nE
  | .none, r, S, _, _ => by
    refine wr_call (ws := [K .none]) hf.things rfl rfl ?_
    show Ws (execSs (conf T r) f_things.body [some (K .none), none, none, none, none] S) _ _ _
    simp (config := {decide := true}) only [f_things, K, ws_cons, ty_non, ty_bl, ty_int, ty_str, ty_tup, kit_tuple_NoneType, kit_tuple_bool, kit_tuple_int, kit_tuple_str, kit_tuple_tuple, kit_tuple_list, kit_list_NoneType, kit_list_bool, kit_list_int, kit_list_str, kit_list_tuple, kit_list_list, kit_int_NoneType, kit_int_bool, kit_int_int, kit_int_str, kit_int_tuple, kit_int_list, kit_bool_NoneType, kit_bool_bool, kit_bool_int, kit_bool_str, kit_bool_tuple, kit_bool_list, kit_str_NoneType, kit_str_bool, kit_str_int, kit_str_str, kit_str_tuple, kit_str_list, non_int, non_non, non_tup, non_str, non_ref, non_bl, ws_nil, ws_asg, ws_exp, ws_retS, ws_ifs, ws_pass, ws_raise, wr_slot, wr_cst, wr_nil, wr_cons, wr_tup, wr_lst, wr_dsp, wr_bin, wr_neg, ex_int, wr_not, wr_cmp, wr_and, wr_or, wr_ite, wr_isN, wr_notN, wr_ix, wr_sl, wr_prim, wr_lrg, wr_meth, wr_isT, wr_callE, wr_c0, wr_c1, wr_ok, m_lrg, m_addI, m_subI, m_mulI, m_divI, m_modI, m_powI, m_addT, m_addS, m_ltI, m_leI, m_gtI, m_geI, m_eq, m_ne, m_in, m_nin, eq_int, m_ixT, m_ixC, m_ixD, at_0, at_1, at_2, at_3, m_lenT, m_lenC, m_intI, m_intB, m_abs, m_max, m_min, m_tupT, m_listT, m_slT, m_slC, t_bl, t_int, t_non, t_tup, a_nm, a_tp, setSlots, partM, methFor, List.getElem?_cons_zero, List.getElem?_cons_succ, List.set_cons_zero, List.set_cons_succ, Option.some.injEq, exists_eq_left', true_and, and_true, eq_str, decide_eq_true_eq, ↓reduceIte, if_true, if_false, decide_true, decide_false, Bool.false_eq_true, ok_both, ok_case, ok_either, ok_first, ok_give, ok_k, ok_kp, ok_l, ok_left, ok_let, ok_name, ok_never, ok_none, ok_odd, ok_one, ok_other, ok_p, ok_pair, ok_r, ok_right, ok_second, ok_split, ok_star, ok_w, ok_way, ok_within, ok_without, ok_wrong, ok_yes, ok_no, ok_n, ok_led, ok_lr, ok_pp, ok_ppp, List.length_cons, List.length_nil, Nat.zero_add, Int.reduceSub, Int.reduceAdd, Int.reduceNeg, Int.reduceMul, Bool.not_true, Bool.not_false]
    exact ⟨_, rfl, Nat.le_refl _, Kp.refl.app, get_new⟩
  | .one, r, S, _, _ => by
    refine wr_call (ws := [K .one]) hf.things rfl rfl ?_
    show Ws (execSs (conf T r) f_things.body [some (K .one), none, none, none, none] S) _ _ _
    simp (config := {decide := true}) only [f_things, K, ws_cons, ty_non, ty_bl, ty_int, ty_str, ty_tup, kit_tuple_NoneType, kit_tuple_bool, kit_tuple_int, kit_tuple_str, kit_tuple_tuple, kit_tuple_list, kit_list_NoneType, kit_list_bool, kit_list_int, kit_list_str, kit_list_tuple, kit_list_list, kit_int_NoneType, kit_int_bool, kit_int_int, kit_int_str, kit_int_tuple, kit_int_list, kit_bool_NoneType, kit_bool_bool, kit_bool_int, kit_bool_str, kit_bool_tuple, kit_bool_list, kit_str_NoneType, kit_str_bool, kit_str_int, kit_str_str, kit_str_tuple, kit_str_list, non_int, non_non, non_tup, non_str, non_ref, non_bl, ws_nil, ws_asg, ws_exp, ws_retS, ws_ifs, ws_pass, ws_raise, wr_slot, wr_cst, wr_nil, wr_cons, wr_tup, wr_lst, wr_dsp, wr_bin, wr_neg, ex_int, wr_not, wr_cmp, wr_and, wr_or, wr_ite, wr_isN, wr_notN, wr_ix, wr_sl, wr_prim, wr_lrg, wr_meth, wr_isT, wr_callE, wr_c0, wr_c1, wr_ok, m_lrg, m_addI, m_subI, m_mulI, m_divI, m_modI, m_powI, m_addT, m_addS, m_ltI, m_leI, m_gtI, m_geI, m_eq, m_ne, m_in, m_nin, eq_int, m_ixT, m_ixC, m_ixD, at_0, at_1, at_2, at_3, m_lenT, m_lenC, m_intI, m_intB, m_abs, m_max, m_min, m_tupT, m_listT, m_slT, m_slC, t_bl, t_int, t_non, t_tup, a_nm, a_tp, setSlots, partM, methFor, List.getElem?_cons_zero, List.getElem?_cons_succ, List.set_cons_zero, List.set_cons_succ, Option.some.injEq, exists_eq_left', true_and, and_true, eq_str, decide_eq_true_eq, ↓reduceIte, if_true, if_false, decide_true, decide_false, Bool.false_eq_true, ok_both, ok_case, ok_either, ok_first, ok_give, ok_k, ok_kp, ok_l, ok_left, ok_let, ok_name, ok_never, ok_none, ok_odd, ok_one, ok_other, ok_p, ok_pair, ok_r, ok_right, ok_second, ok_split, ok_star, ok_w, ok_way, ok_within, ok_without, ok_wrong, ok_yes, ok_no, ok_n, ok_led, ok_lr, ok_pp, ok_ppp, List.length_cons, List.length_nil, Nat.zero_add, Int.reduceSub, Int.reduceAdd, Int.reduceNeg, Int.reduceMul, Bool.not_true, Bool.not_false]
    exact ⟨_, rfl, Nat.le_refl _, Kp.refl.app, get_new⟩
  | .either a b, r + 1, S, hk, hr => by
    have hr : max a.dep b.dep + 1 + 2 ≤ r + 1 := hr
    have la := ths_len a
    have lb := ths_len b
    have ca := hk.2.1.cnt
    have cb := hk.2.2.cnt
    refine wr_call (ws := [K (.either a b)]) hf.things rfl rfl ?_
    show Ws (execSs (conf T (r + 1)) f_things.body [some (K (.either a b)), none, none, none, none] S) _ _ _
    simp (config := {decide := true}) only [f_things, K, ws_cons, ty_non, ty_bl, ty_int, ty_str, ty_tup, kit_tuple_NoneType, kit_tuple_bool, kit_tuple_int, kit_tuple_str, kit_tuple_tuple, kit_tuple_list, kit_list_NoneType, kit_list_bool, kit_list_int, kit_list_str, kit_list_tuple, kit_list_list, kit_int_NoneType, kit_int_bool, kit_int_int, kit_int_str, kit_int_tuple, kit_int_list, kit_bool_NoneType, kit_bool_bool, kit_bool_int, kit_bool_str, kit_bool_tuple, kit_bool_list, kit_str_NoneType, kit_str_bool, kit_str_int, kit_str_str, kit_str_tuple, kit_str_list, non_int, non_non, non_tup, non_str, non_ref, non_bl, ws_nil, ws_asg, ws_exp, ws_retS, ws_ifs, ws_pass, ws_raise, wr_slot, wr_cst, wr_nil, wr_cons, wr_tup, wr_lst, wr_dsp, wr_bin, wr_neg, ex_int, wr_not, wr_cmp, wr_and, wr_or, wr_ite, wr_isN, wr_notN, wr_ix, wr_sl, wr_prim, wr_lrg, wr_meth, wr_isT, wr_callE, wr_c0, wr_c1, wr_ok, m_lrg, m_addI, m_subI, m_mulI, m_divI, m_modI, m_powI, m_addT, m_addS, m_ltI, m_leI, m_gtI, m_geI, m_eq, m_ne, m_in, m_nin, eq_int, m_ixT, m_ixC, m_ixD, at_0, at_1, at_2, at_3, m_lenT, m_lenC, m_intI, m_intB, m_abs, m_max, m_min, m_tupT, m_listT, m_slT, m_slC, t_bl, t_int, t_non, t_tup, a_nm, a_tp, setSlots, partM, methFor, List.getElem?_cons_zero, List.getElem?_cons_succ, List.set_cons_zero, List.set_cons_succ, Option.some.injEq, exists_eq_left', true_and, and_true, eq_str, decide_eq_true_eq, ↓reduceIte, if_true, if_false, decide_true, decide_false, Bool.false_eq_true, ok_both, ok_case, ok_either, ok_first, ok_give, ok_k, ok_kp, ok_l, ok_left, ok_let, ok_name, ok_never, ok_none, ok_odd, ok_one, ok_other, ok_p, ok_pair, ok_r, ok_right, ok_second, ok_split, ok_star, ok_w, ok_way, ok_within, ok_without, ok_wrong, ok_yes, ok_no, ok_n, ok_led, ok_lr, ok_pp, ok_ppp, List.length_cons, List.length_nil, Nat.zero_add, Int.reduceSub, Int.reduceAdd, Int.reduceNeg, Int.reduceMul, Bool.not_true, Bool.not_false]
    refine (sp_things hf a r S hk.2.1 (by omega)).imp ?_ fun _ _ _ z => z.elim
    rintro v S1 ⟨n1, rfl, l1, k1, d1⟩
    refine (sp_things hf b r S1 hk.2.2 (by omega)).imp ?_ fun _ _ _ z => z.elim
    rintro v S2 ⟨n2, rfl, l2, k2, d2⟩
    have d1' := k2.get d1 (by simp)
    refine wr_compM (fun x => .tup [.str "l", x]) ?_
    simp (config := {decide := true}) only [ws_cons, ty_non, ty_bl, ty_int, ty_str, ty_tup, kit_tuple_NoneType, kit_tuple_bool, kit_tuple_int, kit_tuple_str, kit_tuple_tuple, kit_tuple_list, kit_list_NoneType, kit_list_bool, kit_list_int, kit_list_str, kit_list_tuple, kit_list_list, kit_int_NoneType, kit_int_bool, kit_int_int, kit_int_str, kit_int_tuple, kit_int_list, kit_bool_NoneType, kit_bool_bool, kit_bool_int, kit_bool_str, kit_bool_tuple, kit_bool_list, kit_str_NoneType, kit_str_bool, kit_str_int, kit_str_str, kit_str_tuple, kit_str_list, non_int, non_non, non_tup, non_str, non_ref, non_bl, ws_nil, ws_asg, ws_exp, ws_retS, ws_ifs, ws_pass, ws_raise, wr_slot, wr_cst, wr_nil, wr_cons, wr_tup, wr_lst, wr_dsp, wr_bin, wr_neg, ex_int, wr_not, wr_cmp, wr_and, wr_or, wr_ite, wr_isN, wr_notN, wr_ix, wr_sl, wr_prim, wr_lrg, wr_meth, wr_isT, wr_callE, wr_c0, wr_c1, wr_ok, m_lrg, m_addI, m_subI, m_mulI, m_divI, m_modI, m_powI, m_addT, m_addS, m_ltI, m_leI, m_gtI, m_geI, m_eq, m_ne, m_in, m_nin, eq_int, m_ixT, m_ixC, m_ixD, at_0, at_1, at_2, at_3, m_lenT, m_lenC, m_intI, m_intB, m_abs, m_max, m_min, m_tupT, m_listT, m_slT, m_slC, t_bl, t_int, t_non, t_tup, a_nm, a_tp, setSlots, partM, methFor, List.getElem?_cons_zero, List.getElem?_cons_succ, List.set_cons_zero, List.set_cons_succ, Option.some.injEq, exists_eq_left', true_and, and_true, eq_str, decide_eq_true_eq, ↓reduceIte, if_true, if_false, decide_true, decide_false, Bool.false_eq_true, ok_both, ok_case, ok_either, ok_first, ok_give, ok_k, ok_kp, ok_l, ok_left, ok_let, ok_name, ok_never, ok_none, ok_odd, ok_one, ok_other, ok_p, ok_pair, ok_r, ok_right, ok_second, ok_split, ok_star, ok_w, ok_way, ok_within, ok_without, ok_wrong, ok_yes, ok_no, ok_n, ok_led, ok_lr, ok_pp, ok_ppp, List.length_cons, List.length_nil, Nat.zero_add, Int.reduceSub, Int.reduceAdd, Int.reduceNeg, Int.reduceMul, Bool.not_true, Bool.not_false]
    refine ⟨ths a, len_overL d1', big (by omega), fun S3 k3 i => it_over (k3.get d1' (by simp)), ?_, ?_⟩
    · intro S3 k3 d3
      have d2' := k3.get d2 (by simp)
      refine wr_compM (fun x => .tup [.str "r", x]) ?_
      simp (config := {decide := true}) only [ws_cons, ty_non, ty_bl, ty_int, ty_str, ty_tup, kit_tuple_NoneType, kit_tuple_bool, kit_tuple_int, kit_tuple_str, kit_tuple_tuple, kit_tuple_list, kit_list_NoneType, kit_list_bool, kit_list_int, kit_list_str, kit_list_tuple, kit_list_list, kit_int_NoneType, kit_int_bool, kit_int_int, kit_int_str, kit_int_tuple, kit_int_list, kit_bool_NoneType, kit_bool_bool, kit_bool_int, kit_bool_str, kit_bool_tuple, kit_bool_list, kit_str_NoneType, kit_str_bool, kit_str_int, kit_str_str, kit_str_tuple, kit_str_list, non_int, non_non, non_tup, non_str, non_ref, non_bl, ws_nil, ws_asg, ws_exp, ws_retS, ws_ifs, ws_pass, ws_raise, wr_slot, wr_cst, wr_nil, wr_cons, wr_tup, wr_lst, wr_dsp, wr_bin, wr_neg, ex_int, wr_not, wr_cmp, wr_and, wr_or, wr_ite, wr_isN, wr_notN, wr_ix, wr_sl, wr_prim, wr_lrg, wr_meth, wr_isT, wr_callE, wr_c0, wr_c1, wr_ok, m_lrg, m_addI, m_subI, m_mulI, m_divI, m_modI, m_powI, m_addT, m_addS, m_ltI, m_leI, m_gtI, m_geI, m_eq, m_ne, m_in, m_nin, eq_int, m_ixT, m_ixC, m_ixD, at_0, at_1, at_2, at_3, m_lenT, m_lenC, m_intI, m_intB, m_abs, m_max, m_min, m_tupT, m_listT, m_slT, m_slC, t_bl, t_int, t_non, t_tup, a_nm, a_tp, setSlots, partM, methFor, List.getElem?_cons_zero, List.getElem?_cons_succ, List.set_cons_zero, List.set_cons_succ, Option.some.injEq, exists_eq_left', true_and, and_true, eq_str, decide_eq_true_eq, ↓reduceIte, if_true, if_false, decide_true, decide_false, Bool.false_eq_true, ok_both, ok_case, ok_either, ok_first, ok_give, ok_k, ok_kp, ok_l, ok_left, ok_let, ok_name, ok_never, ok_none, ok_odd, ok_one, ok_other, ok_p, ok_pair, ok_r, ok_right, ok_second, ok_split, ok_star, ok_w, ok_way, ok_within, ok_without, ok_wrong, ok_yes, ok_no, ok_n, ok_led, ok_lr, ok_pp, ok_ppp, List.length_cons, List.length_nil, Nat.zero_add, Int.reduceSub, Int.reduceAdd, Int.reduceNeg, Int.reduceMul, Bool.not_true, Bool.not_false]
      refine ⟨ths b, len_overL d2', big (by omega), fun S4 k4 i => it_over (k4.get d2' (by simp)), ?_, ?_⟩
      · intro S4 k4 d4
        rw [m_addL (k4.get d3 (by simp)) d4]
        refine ⟨big (by simp only [List.length_map]; omega), _, rfl, ?_, (((k1.trans k2).trans k3).trans k4).app, get_new⟩
        have := k1.1; have := k2.1; have := k3.1; have := k4.1; omega
      · intro x S4 hx k4 _
        simp (config := {decide := true}) only [ws_cons, ty_non, ty_bl, ty_int, ty_str, ty_tup, kit_tuple_NoneType, kit_tuple_bool, kit_tuple_int, kit_tuple_str, kit_tuple_tuple, kit_tuple_list, kit_list_NoneType, kit_list_bool, kit_list_int, kit_list_str, kit_list_tuple, kit_list_list, kit_int_NoneType, kit_int_bool, kit_int_int, kit_int_str, kit_int_tuple, kit_int_list, kit_bool_NoneType, kit_bool_bool, kit_bool_int, kit_bool_str, kit_bool_tuple, kit_bool_list, kit_str_NoneType, kit_str_bool, kit_str_int, kit_str_str, kit_str_tuple, kit_str_list, non_int, non_non, non_tup, non_str, non_ref, non_bl, ws_nil, ws_asg, ws_exp, ws_retS, ws_ifs, ws_pass, ws_raise, wr_slot, wr_cst, wr_nil, wr_cons, wr_tup, wr_lst, wr_dsp, wr_bin, wr_neg, ex_int, wr_not, wr_cmp, wr_and, wr_or, wr_ite, wr_isN, wr_notN, wr_ix, wr_sl, wr_prim, wr_lrg, wr_meth, wr_isT, wr_callE, wr_c0, wr_c1, wr_ok, m_lrg, m_addI, m_subI, m_mulI, m_divI, m_modI, m_powI, m_addT, m_addS, m_ltI, m_leI, m_gtI, m_geI, m_eq, m_ne, m_in, m_nin, eq_int, m_ixT, m_ixC, m_ixD, at_0, at_1, at_2, at_3, m_lenT, m_lenC, m_intI, m_intB, m_abs, m_max, m_min, m_tupT, m_listT, m_slT, m_slC, t_bl, t_int, t_non, t_tup, a_nm, a_tp, setSlots, partM, methFor, List.getElem?_cons_zero, List.getElem?_cons_succ, List.set_cons_zero, List.set_cons_succ, Option.some.injEq, exists_eq_left', true_and, and_true, eq_str, decide_eq_true_eq, ↓reduceIte, if_true, if_false, decide_true, decide_false, Bool.false_eq_true, ok_both, ok_case, ok_either, ok_first, ok_give, ok_k, ok_kp, ok_l, ok_left, ok_let, ok_name, ok_never, ok_none, ok_odd, ok_one, ok_other, ok_p, ok_pair, ok_r, ok_right, ok_second, ok_split, ok_star, ok_w, ok_way, ok_within, ok_without, ok_wrong, ok_yes, ok_no, ok_n, ok_led, ok_lr, ok_pp, ok_ppp, List.length_cons, List.length_nil, Nat.zero_add, Int.reduceSub, Int.reduceAdd, Int.reduceNeg, Int.reduceMul, Bool.not_true, Bool.not_false, wipeE]
        exact Kp.refl
    · intro x S3 hx k3 _
      simp (config := {decide := true}) only [ws_cons, ty_non, ty_bl, ty_int, ty_str, ty_tup, kit_tuple_NoneType, kit_tuple_bool, kit_tuple_int, kit_tuple_str, kit_tuple_tuple, kit_tuple_list, kit_list_NoneType, kit_list_bool, kit_list_int, kit_list_str, kit_list_tuple, kit_list_list, kit_int_NoneType, kit_int_bool, kit_int_int, kit_int_str, kit_int_tuple, kit_int_list, kit_bool_NoneType, kit_bool_bool, kit_bool_int, kit_bool_str, kit_bool_tuple, kit_bool_list, kit_str_NoneType, kit_str_bool, kit_str_int, kit_str_str, kit_str_tuple, kit_str_list, non_int, non_non, non_tup, non_str, non_ref, non_bl, ws_nil, ws_asg, ws_exp, ws_retS, ws_ifs, ws_pass, ws_raise, wr_slot, wr_cst, wr_nil, wr_cons, wr_tup, wr_lst, wr_dsp, wr_bin, wr_neg, ex_int, wr_not, wr_cmp, wr_and, wr_or, wr_ite, wr_isN, wr_notN, wr_ix, wr_sl, wr_prim, wr_lrg, wr_meth, wr_isT, wr_callE, wr_c0, wr_c1, wr_ok, m_lrg, m_addI, m_subI, m_mulI, m_divI, m_modI, m_powI, m_addT, m_addS, m_ltI, m_leI, m_gtI, m_geI, m_eq, m_ne, m_in, m_nin, eq_int, m_ixT, m_ixC, m_ixD, at_0, at_1, at_2, at_3, m_lenT, m_lenC, m_intI, m_intB, m_abs, m_max, m_min, m_tupT, m_listT, m_slT, m_slC, t_bl, t_int, t_non, t_tup, a_nm, a_tp, setSlots, partM, methFor, List.getElem?_cons_zero, List.getElem?_cons_succ, List.set_cons_zero, List.set_cons_succ, Option.some.injEq, exists_eq_left', true_and, and_true, eq_str, decide_eq_true_eq, ↓reduceIte, if_true, if_false, decide_true, decide_false, Bool.false_eq_true, ok_both, ok_case, ok_either, ok_first, ok_give, ok_k, ok_kp, ok_l, ok_left, ok_let, ok_name, ok_never, ok_none, ok_odd, ok_one, ok_other, ok_p, ok_pair, ok_r, ok_right, ok_second, ok_split, ok_star, ok_w, ok_way, ok_within, ok_without, ok_wrong, ok_yes, ok_no, ok_n, ok_led, ok_lr, ok_pp, ok_ppp, List.length_cons, List.length_nil, Nat.zero_add, Int.reduceSub, Int.reduceAdd, Int.reduceNeg, Int.reduceMul, Bool.not_true, Bool.not_false, wipeE]
      exact Kp.refl
  | .both a b, r + 1, S, hk, hr => by
    have hr : max a.dep b.dep + 1 + 2 ≤ r + 1 := hr
    have la := ths_len a
    have lb := ths_len b
    have ca := hk.2.1.cnt
    have cb := hk.2.2.cnt
    refine wr_call (ws := [K (.both a b)]) hf.things rfl rfl ?_
    show Ws (execSs (conf T (r + 1)) f_things.body [some (K (.both a b)), none, none, none, none] S) _ _ _
    simp (config := {decide := true}) only [f_things, K, ws_cons, ty_non, ty_bl, ty_int, ty_str, ty_tup, kit_tuple_NoneType, kit_tuple_bool, kit_tuple_int, kit_tuple_str, kit_tuple_tuple, kit_tuple_list, kit_list_NoneType, kit_list_bool, kit_list_int, kit_list_str, kit_list_tuple, kit_list_list, kit_int_NoneType, kit_int_bool, kit_int_int, kit_int_str, kit_int_tuple, kit_int_list, kit_bool_NoneType, kit_bool_bool, kit_bool_int, kit_bool_str, kit_bool_tuple, kit_bool_list, kit_str_NoneType, kit_str_bool, kit_str_int, kit_str_str, kit_str_tuple, kit_str_list, non_int, non_non, non_tup, non_str, non_ref, non_bl, ws_nil, ws_asg, ws_exp, ws_retS, ws_ifs, ws_pass, ws_raise, wr_slot, wr_cst, wr_nil, wr_cons, wr_tup, wr_lst, wr_dsp, wr_bin, wr_neg, ex_int, wr_not, wr_cmp, wr_and, wr_or, wr_ite, wr_isN, wr_notN, wr_ix, wr_sl, wr_prim, wr_lrg, wr_meth, wr_isT, wr_callE, wr_c0, wr_c1, wr_ok, m_lrg, m_addI, m_subI, m_mulI, m_divI, m_modI, m_powI, m_addT, m_addS, m_ltI, m_leI, m_gtI, m_geI, m_eq, m_ne, m_in, m_nin, eq_int, m_ixT, m_ixC, m_ixD, at_0, at_1, at_2, at_3, m_lenT, m_lenC, m_intI, m_intB, m_abs, m_max, m_min, m_tupT, m_listT, m_slT, m_slC, t_bl, t_int, t_non, t_tup, a_nm, a_tp, setSlots, partM, methFor, List.getElem?_cons_zero, List.getElem?_cons_succ, List.set_cons_zero, List.set_cons_succ, Option.some.injEq, exists_eq_left', true_and, and_true, eq_str, decide_eq_true_eq, ↓reduceIte, if_true, if_false, decide_true, decide_false, Bool.false_eq_true, ok_both, ok_case, ok_either, ok_first, ok_give, ok_k, ok_kp, ok_l, ok_left, ok_let, ok_name, ok_never, ok_none, ok_odd, ok_one, ok_other, ok_p, ok_pair, ok_r, ok_right, ok_second, ok_split, ok_star, ok_w, ok_way, ok_within, ok_without, ok_wrong, ok_yes, ok_no, ok_n, ok_led, ok_lr, ok_pp, ok_ppp, List.length_cons, List.length_nil, Nat.zero_add, Int.reduceSub, Int.reduceAdd, Int.reduceNeg, Int.reduceMul, Bool.not_true, Bool.not_false]
    refine (sp_things hf a r S hk.2.1 (by omega)).imp ?_ fun _ _ _ z => z.elim
    rintro v S1 ⟨n1, rfl, l1, k1, d1⟩
    refine (sp_things hf b r S1 hk.2.2 (by omega)).imp ?_ fun _ _ _ z => z.elim
    rintro v S2 ⟨n2, rfl, l2, k2, d2⟩
    have d1' := k2.get d1 (by simp)
    refine (sp_pairs hf d1' d2 (by rw [la, lb]; have : a.cnt * b.cnt ≤ 1000 := hk.1; omega) (by omega)).imp ?_ fun _ _ _ z => z.elim
    rintro v S3 ⟨n3, rfl, l3, k3, d3⟩
    exact ⟨_, rfl, by have := k1.1; have := k2.1; omega, (k1.trans k2).trans k3, d3⟩
  | .way a b, r + 1, S, hk, hr => by
    have hr : max a.dep b.dep + 1 + 2 ≤ r + 1 := hr
    have la := ths_len a
    have lb := ths_len b
    have ca := hk.2.1.cnt
    have cb := hk.2.2.cnt
    have cw : b.cnt ^ a.cnt ≤ 1000 := hk.1
    refine wr_call (ws := [K (.way a b)]) hf.things rfl rfl ?_
    show Ws (execSs (conf T (r + 1)) f_things.body [some (K (.way a b)), none, none, none, none] S) _ _ _
    simp (config := {decide := true}) only [f_things, K, ws_cons, ty_non, ty_bl, ty_int, ty_str, ty_tup, kit_tuple_NoneType, kit_tuple_bool, kit_tuple_int, kit_tuple_str, kit_tuple_tuple, kit_tuple_list, kit_list_NoneType, kit_list_bool, kit_list_int, kit_list_str, kit_list_tuple, kit_list_list, kit_int_NoneType, kit_int_bool, kit_int_int, kit_int_str, kit_int_tuple, kit_int_list, kit_bool_NoneType, kit_bool_bool, kit_bool_int, kit_bool_str, kit_bool_tuple, kit_bool_list, kit_str_NoneType, kit_str_bool, kit_str_int, kit_str_str, kit_str_tuple, kit_str_list, non_int, non_non, non_tup, non_str, non_ref, non_bl, ws_nil, ws_asg, ws_exp, ws_retS, ws_ifs, ws_pass, ws_raise, wr_slot, wr_cst, wr_nil, wr_cons, wr_tup, wr_lst, wr_dsp, wr_bin, wr_neg, ex_int, wr_not, wr_cmp, wr_and, wr_or, wr_ite, wr_isN, wr_notN, wr_ix, wr_sl, wr_prim, wr_lrg, wr_meth, wr_isT, wr_callE, wr_c0, wr_c1, wr_ok, m_lrg, m_addI, m_subI, m_mulI, m_divI, m_modI, m_powI, m_addT, m_addS, m_ltI, m_leI, m_gtI, m_geI, m_eq, m_ne, m_in, m_nin, eq_int, m_ixT, m_ixC, m_ixD, at_0, at_1, at_2, at_3, m_lenT, m_lenC, m_intI, m_intB, m_abs, m_max, m_min, m_tupT, m_listT, m_slT, m_slC, t_bl, t_int, t_non, t_tup, a_nm, a_tp, setSlots, partM, methFor, List.getElem?_cons_zero, List.getElem?_cons_succ, List.set_cons_zero, List.set_cons_succ, Option.some.injEq, exists_eq_left', true_and, and_true, eq_str, decide_eq_true_eq, ↓reduceIte, if_true, if_false, decide_true, decide_false, Bool.false_eq_true, ok_both, ok_case, ok_either, ok_first, ok_give, ok_k, ok_kp, ok_l, ok_left, ok_let, ok_name, ok_never, ok_none, ok_odd, ok_one, ok_other, ok_p, ok_pair, ok_r, ok_right, ok_second, ok_split, ok_star, ok_w, ok_way, ok_within, ok_without, ok_wrong, ok_yes, ok_no, ok_n, ok_led, ok_lr, ok_pp, ok_ppp, List.length_cons, List.length_nil, Nat.zero_add, Int.reduceSub, Int.reduceAdd, Int.reduceNeg, Int.reduceMul, Bool.not_true, Bool.not_false]
    refine (sp_things hf a r S hk.2.1 (by omega)).imp ?_ fun _ _ _ z => z.elim
    rintro v S1 ⟨n1, rfl, l1, k1, d1⟩
    refine (sp_things hf b r S1 hk.2.2 (by omega)).imp ?_ fun _ _ _ z => z.elim
    rintro v S2 ⟨n2, rfl, l2, k2, d2⟩
    have d1' := k2.get d1 (by simp)
    refine wr_compM (fun x => .tup [.str "w", x]) ?_
    simp (config := {decide := true}) only [ws_cons, ty_non, ty_bl, ty_int, ty_str, ty_tup, kit_tuple_NoneType, kit_tuple_bool, kit_tuple_int, kit_tuple_str, kit_tuple_tuple, kit_tuple_list, kit_list_NoneType, kit_list_bool, kit_list_int, kit_list_str, kit_list_tuple, kit_list_list, kit_int_NoneType, kit_int_bool, kit_int_int, kit_int_str, kit_int_tuple, kit_int_list, kit_bool_NoneType, kit_bool_bool, kit_bool_int, kit_bool_str, kit_bool_tuple, kit_bool_list, kit_str_NoneType, kit_str_bool, kit_str_int, kit_str_str, kit_str_tuple, kit_str_list, non_int, non_non, non_tup, non_str, non_ref, non_bl, ws_nil, ws_asg, ws_exp, ws_retS, ws_ifs, ws_pass, ws_raise, wr_slot, wr_cst, wr_nil, wr_cons, wr_tup, wr_lst, wr_dsp, wr_bin, wr_neg, ex_int, wr_not, wr_cmp, wr_and, wr_or, wr_ite, wr_isN, wr_notN, wr_ix, wr_sl, wr_prim, wr_lrg, wr_meth, wr_isT, wr_callE, wr_c0, wr_c1, wr_ok, m_lrg, m_addI, m_subI, m_mulI, m_divI, m_modI, m_powI, m_addT, m_addS, m_ltI, m_leI, m_gtI, m_geI, m_eq, m_ne, m_in, m_nin, eq_int, m_ixT, m_ixC, m_ixD, at_0, at_1, at_2, at_3, m_lenT, m_lenC, m_intI, m_intB, m_abs, m_max, m_min, m_tupT, m_listT, m_slT, m_slC, t_bl, t_int, t_non, t_tup, a_nm, a_tp, setSlots, partM, methFor, List.getElem?_cons_zero, List.getElem?_cons_succ, List.set_cons_zero, List.set_cons_succ, Option.some.injEq, exists_eq_left', true_and, and_true, eq_str, decide_eq_true_eq, ↓reduceIte, if_true, if_false, decide_true, decide_false, Bool.false_eq_true, ok_both, ok_case, ok_either, ok_first, ok_give, ok_k, ok_kp, ok_l, ok_left, ok_let, ok_name, ok_never, ok_none, ok_odd, ok_one, ok_other, ok_p, ok_pair, ok_r, ok_right, ok_second, ok_split, ok_star, ok_w, ok_way, ok_within, ok_without, ok_wrong, ok_yes, ok_no, ok_n, ok_led, ok_lr, ok_pp, ok_ppp, List.length_cons, List.length_nil, Nat.zero_add, Int.reduceSub, Int.reduceAdd, Int.reduceNeg, Int.reduceMul, Bool.not_true, Bool.not_false]
    rw [m_lenL d1']
    obtain ⟨r, rfl⟩ : ∃ r', r = r' + 1 := ⟨r - 1, by omega⟩
    refine (sp_ways hf d2 (by omega) (by omega) (by rw [la, lb]; exact cw)).imp ?_ fun _ _ _ z => z.elim
    rintro v S3 ⟨n3, rfl, l3, k3, d3⟩
    refine ⟨_, len_overL d3, big (by rw [wys_len, la, lb]; omega), fun S4 k4 i => it_over (k4.get d3 (by simp)), ?_, ?_⟩
    · intro S4 k4 d4
      exact ⟨_, rfl, by have := k1.1; have := k2.1; have := k3.1; omega, ((k1.trans k2).trans k3).trans k4, d4⟩
    · intro x S4 hx k4 _
      simp (config := {decide := true}) only [ws_cons, ty_non, ty_bl, ty_int, ty_str, ty_tup, kit_tuple_NoneType, kit_tuple_bool, kit_tuple_int, kit_tuple_str, kit_tuple_tuple, kit_tuple_list, kit_list_NoneType, kit_list_bool, kit_list_int, kit_list_str, kit_list_tuple, kit_list_list, kit_int_NoneType, kit_int_bool, kit_int_int, kit_int_str, kit_int_tuple, kit_int_list, kit_bool_NoneType, kit_bool_bool, kit_bool_int, kit_bool_str, kit_bool_tuple, kit_bool_list, kit_str_NoneType, kit_str_bool, kit_str_int, kit_str_str, kit_str_tuple, kit_str_list, non_int, non_non, non_tup, non_str, non_ref, non_bl, ws_nil, ws_asg, ws_exp, ws_retS, ws_ifs, ws_pass, ws_raise, wr_slot, wr_cst, wr_nil, wr_cons, wr_tup, wr_lst, wr_dsp, wr_bin, wr_neg, ex_int, wr_not, wr_cmp, wr_and, wr_or, wr_ite, wr_isN, wr_notN, wr_ix, wr_sl, wr_prim, wr_lrg, wr_meth, wr_isT, wr_callE, wr_c0, wr_c1, wr_ok, m_lrg, m_addI, m_subI, m_mulI, m_divI, m_modI, m_powI, m_addT, m_addS, m_ltI, m_leI, m_gtI, m_geI, m_eq, m_ne, m_in, m_nin, eq_int, m_ixT, m_ixC, m_ixD, at_0, at_1, at_2, at_3, m_lenT, m_lenC, m_intI, m_intB, m_abs, m_max, m_min, m_tupT, m_listT, m_slT, m_slC, t_bl, t_int, t_non, t_tup, a_nm, a_tp, setSlots, partM, methFor, List.getElem?_cons_zero, List.getElem?_cons_succ, List.set_cons_zero, List.set_cons_succ, Option.some.injEq, exists_eq_left', true_and, and_true, eq_str, decide_eq_true_eq, ↓reduceIte, if_true, if_false, decide_true, decide_false, Bool.false_eq_true, ok_both, ok_case, ok_either, ok_first, ok_give, ok_k, ok_kp, ok_l, ok_left, ok_let, ok_name, ok_never, ok_none, ok_odd, ok_one, ok_other, ok_p, ok_pair, ok_r, ok_right, ok_second, ok_split, ok_star, ok_w, ok_way, ok_within, ok_without, ok_wrong, ok_yes, ok_no, ok_n, ok_led, ok_lr, ok_pp, ok_ppp, List.length_cons, List.length_nil, Nat.zero_add, Int.reduceSub, Int.reduceAdd, Int.reduceNeg, Int.reduceMul, Bool.not_true, Bool.not_false, wipeE]
      exact Kp.refl
end
end EK

namespace EK
open PySem PySem.Spec L2
namespace Lib
def f_law_mixed : FnI := ⟨["_law_cell", "_law_k"], ["_law_cell", "_law_k", "_law_number"], [],
  (.cons (.asg (.nm 2) (.bin .mod (.bin .add (.bin .add (.bin .mul (.bin .mod (.slot 0) (.cst (.int 2147483629))) (.cst (.int 48271))) (.bin .mul (.cst (.int 7919)) (.slot 1))) (.cst (.int 13))) (.cst (.int 2147483629)))) (.cons (.asg (.nm 2) (.bin .mod (.bin .add (.bin .mul (.slot 2) (.bin .add (.bin .fdiv (.slot 2) (.cst (.int 5))) (.slot 1))) (.bin .mul (.cst (.int 16807)) (.slot 1))) (.cst (.int 2147483587)))) (.cons (.ret (.bin .mod (.bin .add (.bin .mul (.slot 2) (.cst (.int 69621))) (.bin .fdiv (.slot 2) (.cst (.int 127)))) (.cst (.int 2147483647)))) .nil)))⟩
def f_law_deck : FnI := ⟨["_law_script"], ["_law_script", "_law_deck_here", "_law_k", "_law_cell", "_law_number", "_law_turn", "_law_j"], [],
  (.cons (.asg (.nm 1) (.lst .nil)) (.cons (.for (.tp [2, 3]) .enum (.cons (.sl (.slot 0) .nil (.cons (.cst (.int 63)) .nil)) .nil) (.cons (.asg (.nm 4) (.bin .mod (.prim .abs (.cons (.slot 3) .nil)) (.bin .pow (.cst (.int 2147483647)) (.cst (.int 60))))) (.cons (.ifs (.cmp .lt (.slot 4) (.bin .pow (.cst (.int 10)) (.cst (.int 18)))) (.cons (.exp (.meth .extend (.slot 1) (.cons (.comp [6] (.nm 6) .range (.cons (.cst (.int 7)) .nil) .nil (.call "_law_mixed" (.cons (.slot 4) (.cons (.bin .add (.bin .mul (.cst (.int 7)) (.slot 2)) (.slot 6)) .nil)))) .nil))) (.cons (.asg (.nm 4) (.cst (.int 0))) .nil)) .nil) (.cons (.for (.nm 5) .range (.cons (.cst (.int 60)) .nil) (.cons (.ifs (.cmp .gt (.slot 4) (.cst (.int 0))) (.cons (.exp (.meth .append (.slot 1) (.cons (.bin .mod (.slot 4) (.cst (.int 2147483647))) .nil))) (.cons (.asg (.nm 4) (.bin .fdiv (.slot 4) (.cst (.int 2147483647)))) .nil)) .nil) .nil)) .nil)))) (.cons (.for (.nm 2) .range (.cons (.prim .len (.cons (.slot 1) .nil)) (.cons (.cst (.int 150)) .nil)) (.cons (.exp (.meth .append (.slot 1) (.cons (.call "_law_mixed" (.cons (.prim .sum (.cons (.sl (.slot 0) .nil (.cons (.cst (.int 63)) .nil)) .nil)) (.cons (.slot 2) .nil))) .nil))) .nil)) (.cons (.ret (.sl (.slot 1) .nil (.cons (.cst (.int 900)) .nil))) .nil))))⟩
def f_law_next : FnI := ⟨["_law_deck_here", "_law_many"], ["_law_deck_here", "_law_many"], [],
  (.cons (.ifs (.cmp .eq (.prim .len (.cons (.slot 0) .nil)) (.cst (.int 0))) (.cons (.ret (.cst (.int 0))) .nil) .nil) (.cons (.ret (.bin .mod (.meth .pop (.slot 0) (.cons (.cst (.int 0)) .nil)) (.slot 1))) .nil))⟩
def f_law_power : FnI := ⟨["_law_number", "_law_times"], ["_law_number", "_law_times", "_law_found", "_law_turn"], [],
  (.cons (.asg (.nm 2) (.cst (.int 1))) (.cons (.for (.nm 3) .range (.cons (.slot 1) .nil) (.cons (.asg (.nm 2) (.bin .mul (.slot 2) (.slot 0))) .nil)) (.cons (.ret (.slot 2)) .nil)))⟩
def f_law_count : FnI := ⟨["_law_kind_here"], ["_law_kind_here", "_law_one", "_law_other"], [],
  (.cons (.ifs (.cmp .eq (.prim .len (.cons (.slot 0) .nil)) (.cst (.int 1))) (.cons (.ret (.prim .int (.cons (.cmp .eq (.ix (.slot 0) (.cst (.int 0))) (.cst (.str "one"))) .nil))) .nil) .nil) (.cons (.asg (.nm 1) (.call "_law_count" (.cons (.ix (.slot 0) (.cst (.int 1))) .nil))) (.cons (.asg (.nm 2) (.call "_law_count" (.cons (.ix (.slot 0) (.cst (.int 2))) .nil))) (.cons (.ret (.ix (.dsp ["either", "both", "way"] (.cons (.bin .add (.slot 1) (.slot 2)) (.cons (.bin .mul (.slot 1) (.slot 2)) (.cons (.call "_law_power" (.cons (.slot 2) (.cons (.slot 1) .nil))) .nil)))) (.ix (.slot 0) (.cst (.int 0))))) .nil))))⟩
def f_law_kind : FnI := ⟨["_law_deck_here", "_law_deep", "_law_most"], ["_law_deck_here", "_law_deep", "_law_most", "_law_way", "_law_word", "_law_one", "_law_other"], [],
  (.cons (.asg (.nm 3) (.call "_law_next" (.cons (.slot 0) (.cons (.ix (.lst (.cons (.cst (.int 1)) (.cons (.cst (.int 6)) .nil))) (.prim .int (.cons (.cmp .gt (.slot 1) (.cst (.int 0))) .nil))) .nil)))) (.cons (.ifs (.or (.cmp .eq (.slot 3) (.cst (.int 0))) (.cmp .eq (.slot 3) (.cst (.int 5)))) (.cons (.ret (.ix (.lst (.cons (.tup (.cons (.cst (.str "one")) .nil)) (.cons (.tup (.cons (.cst (.str "either")) (.cons (.tup (.cons (.cst (.str "one")) .nil)) (.cons (.tup (.cons (.cst (.str "one")) .nil)) .nil)))) .nil))) (.prim .int (.cons (.and (.cmp .eq (.slot 3) (.cst (.int 5))) (.cmp .gt (.slot 2) (.cst (.int 1)))) .nil)))) .nil) .nil) (.cons (.asg (.nm 4) (.ix (.lst (.cons (.cst (.str "either")) (.cons (.cst (.str "both")) (.cons (.cst (.str "way")) (.cons (.cst (.str "either")) .nil))))) (.bin .sub (.slot 3) (.cst (.int 1))))) (.cons (.asg (.nm 5) (.call "_law_kind" (.cons (.slot 0) (.cons (.bin .sub (.slot 1) (.cst (.int 1))) (.cons (.slot 2) .nil))))) (.cons (.asg (.nm 6) (.call "_law_kind" (.cons (.slot 0) (.cons (.bin .sub (.slot 1) (.cst (.int 1))) (.cons (.slot 2) .nil))))) (.cons (.ifs (.and (.cmp .ne (.slot 4) (.cst (.str "both"))) (.cmp .eq (.call "_law_next" (.cons (.slot 0) (.cons (.cst (.int 6)) .nil))) (.cst (.int 1)))) (.cons (.asg (.nm 5) (.tup (.cons (.cst (.str "none")) .nil))) .nil) (.cons (.ifs (.and (.cmp .eq (.slot 4) (.cst (.str "either"))) (.cmp .eq (.call "_law_next" (.cons (.slot 0) (.cons (.cst (.int 6)) .nil))) (.cst (.int 1)))) (.cons (.asg (.nm 6) (.tup (.cons (.cst (.str "none")) .nil))) .nil) .nil) .nil)) (.cons (.ifs (.and (.cmp .eq (.slot 4) (.cst (.str "way"))) (.cmp .gt (.call "_law_count" (.cons (.slot 5) .nil)) (.cst (.int 6)))) (.cons (.asg (.nm 5) (.tup (.cons (.cst (.str "one")) .nil))) .nil) .nil) (.cons (.ifs (.cmp .gt (.call "_law_count" (.cons (.tup (.cons (.slot 4) (.cons (.slot 5) (.cons (.slot 6) .nil)))) .nil)) (.slot 2)) (.cons (.ret (.tup (.cons (.cst (.str "one")) .nil))) .nil) .nil) (.cons (.ret (.tup (.cons (.slot 4) (.cons (.slot 5) (.cons (.slot 6) .nil))))) .nil)))))))))⟩
def f_gift : FnI := ⟨["kind", "way", "thing"], ["kind", "way", "thing"], [],
  (.cons (.ret (.ix (.ix (.slot 1) (.cst (.int 1))) (.meth .index (.call "things" (.cons (.ix (.slot 0) (.cst (.int 1))) .nil)) (.cons (.slot 2) .nil)))) .nil)⟩
end Lib
open Lib
section
variable {T : Text} {r : Nat} {S : Store}
theorem mulOk_l {i j : Int} (h : i.natAbs < 2 ^ 63) : mulOk i j = true := by simp [mulOk, h]
theorem mulOk_r {i j : Int} (h : j.natAbs < 2 ^ 63) : mulOk i j = true := by simp [mulOk, h]
def mixI (c k : Int) : Int :=
  let n := (c % 2147483629 * 48271 + 7919 * k + 13) % 2147483629
  let m := (n * (n / 5 + k) + 16807 * k) % 2147483587
  (m * 69621 + m / 127) % 2147483647
structure HasA (T : Text) : Prop where
  mixed : T.fns.lookup ("_law_mixed" : Str) = some f_law_mixed
  deck : T.fns.lookup ("_law_deck" : Str) = some f_law_deck
  next : T.fns.lookup ("_law_next" : Str) = some f_law_next
  power : T.fns.lookup ("_law_power" : Str) = some f_law_power
  count : T.fns.lookup ("_law_count" : Str) = some f_law_count
  kind : T.fns.lookup ("_law_kind" : Str) = some f_law_kind
theorem sp_mixed {c k : Int} (hf : HasA T) : Wr (callF T (r + 1) "_law_mixed" [.int c, .int k] S) (fun v S' => v = .int (mixI c k) ∧ S' = S) nE := by
  refine wr_call (ws := [.int c, .int k]) hf.mixed rfl rfl ?_
  show Ws (execSs (conf T r) f_law_mixed.body [some (.int c), some (.int k), none] S) _ _ _
  simp (config := {decide := true}) only [f_law_mixed, ws_cons, ty_non, ty_bl, ty_int, ty_str, ty_tup, kit_tuple_NoneType, kit_tuple_bool, kit_tuple_int, kit_tuple_str, kit_tuple_tuple, kit_tuple_list, kit_list_NoneType, kit_list_bool, kit_list_int, kit_list_str, kit_list_tuple, kit_list_list, kit_int_NoneType, kit_int_bool, kit_int_int, kit_int_str, kit_int_tuple, kit_int_list, kit_bool_NoneType, kit_bool_bool, kit_bool_int, kit_bool_str, kit_bool_tuple, kit_bool_list, kit_str_NoneType, kit_str_bool, kit_str_int, kit_str_str, kit_str_tuple, kit_str_list, non_int, non_non, non_tup, non_str, non_ref, non_bl, ws_nil, ws_asg, ws_exp, ws_retS, ws_ifs, ws_pass, ws_raise, wr_slot, wr_cst, wr_nil, wr_cons, wr_tup, wr_lst, wr_dsp, wr_bin, wr_neg, ex_int, wr_not, wr_cmp, wr_and, wr_or, wr_ite, wr_isN, wr_notN, wr_ix, wr_sl, wr_prim, wr_lrg, wr_meth, wr_isT, wr_callE, wr_c0, wr_c1, wr_ok, m_lrg, m_addI, m_subI, m_mulI, m_divI, m_modI, m_powI, m_addT, m_addS, m_ltI, m_leI, m_gtI, m_geI, m_eq, m_ne, m_in, m_nin, eq_int, m_ixT, m_ixC, m_ixD, at_0, at_1, at_2, at_3, m_lenT, m_lenC, m_intI, m_intB, m_abs, m_max, m_min, m_tupT, m_listT, m_slT, m_slC, t_bl, t_int, t_non, t_tup, a_nm, a_tp, setSlots, partM, methFor, List.getElem?_cons_zero, List.getElem?_cons_succ, List.set_cons_zero, List.set_cons_succ, Option.some.injEq, exists_eq_left', true_and, and_true, eq_str, decide_eq_true_eq, ↓reduceIte, if_true, if_false, decide_true, decide_false, Bool.false_eq_true, ok_both, ok_case, ok_either, ok_first, ok_give, ok_k, ok_kp, ok_l, ok_left, ok_let, ok_name, ok_never, ok_none, ok_odd, ok_one, ok_other, ok_p, ok_pair, ok_r, ok_right, ok_second, ok_split, ok_star, ok_w, ok_way, ok_within, ok_without, ok_wrong, ok_yes, ok_no, ok_n, ok_led, ok_lr, ok_pp, ok_ppp, List.length_cons, List.length_nil, Nat.zero_add, Int.reduceSub, Int.reduceAdd, Int.reduceNeg, Int.reduceMul, Bool.not_true, Bool.not_false]
  refine ⟨mulOk_r (by decide), mulOk_l (by decide), mulOk_l (by omega), mulOk_l (by decide), mulOk_r (by decide), rfl⟩
/-- a deck at d: whole numbers -/
def Deck (S : Store) (d : Nat) : Prop := ∃ ns : List Int, S[d]? = some (.lst (ns.map .int))
theorem Deck.kp {M : List Nat} {S S' : Store} {d : Nat} (h : Deck S d) (k : Kp M S S') (hm : d ∉ M) : Deck S' d := by
  obtain ⟨ns, e⟩ := h
  exact ⟨ns, k.get e hm⟩
/-- what draws from the deck leaves -/
def Drawn (d : Nat) (S S' : Store) : Prop := Kp [d] S S' ∧ Deck S' d
theorem sp_next {d : Nat} {m : Int} (hf : HasA T) (hd : Deck S d) (hm : 0 < m) : Wr (callF T (r + 1) "_law_next" [.ref d, .int m] S) (fun v S' => ∃ i : Int, v = .int i ∧ 0 ≤ i ∧ i < m ∧ Drawn d S S') nE := by
  obtain ⟨ns, e⟩ := hd
  refine wr_call (ws := [.ref d, .int m]) hf.next rfl rfl ?_
  show Ws (execSs (conf T r) f_law_next.body [some (.ref d), some (.int m)] S) _ _ _
  simp (config := {decide := true}) only [f_law_next, ws_cons, ty_non, ty_bl, ty_int, ty_str, ty_tup, kit_tuple_NoneType, kit_tuple_bool, kit_tuple_int, kit_tuple_str, kit_tuple_tuple, kit_tuple_list, kit_list_NoneType, kit_list_bool, kit_list_int, kit_list_str, kit_list_tuple, kit_list_list, kit_int_NoneType, kit_int_bool, kit_int_int, kit_int_str, kit_int_tuple, kit_int_list, kit_bool_NoneType, kit_bool_bool, kit_bool_int, kit_bool_str, kit_bool_tuple, kit_bool_list, kit_str_NoneType, kit_str_bool, kit_str_int, kit_str_str, kit_str_tuple, kit_str_list, non_int, non_non, non_tup, non_str, non_ref, non_bl, ws_nil, ws_asg, ws_exp, ws_retS, ws_ifs, ws_pass, ws_raise, wr_slot, wr_cst, wr_nil, wr_cons, wr_tup, wr_lst, wr_dsp, wr_bin, wr_neg, ex_int, wr_not, wr_cmp, wr_and, wr_or, wr_ite, wr_isN, wr_notN, wr_ix, wr_sl, wr_prim, wr_lrg, wr_meth, wr_isT, wr_callE, wr_c0, wr_c1, wr_ok, m_lrg, m_addI, m_subI, m_mulI, m_divI, m_modI, m_powI, m_addT, m_addS, m_ltI, m_leI, m_gtI, m_geI, m_eq, m_ne, m_in, m_nin, eq_int, m_ixT, m_ixC, m_ixD, at_0, at_1, at_2, at_3, m_lenT, m_lenC, m_intI, m_intB, m_abs, m_max, m_min, m_tupT, m_listT, m_slT, m_slC, t_bl, t_int, t_non, t_tup, a_nm, a_tp, setSlots, partM, methFor, List.getElem?_cons_zero, List.getElem?_cons_succ, List.set_cons_zero, List.set_cons_succ, Option.some.injEq, exists_eq_left', true_and, and_true, eq_str, decide_eq_true_eq, ↓reduceIte, if_true, if_false, decide_true, decide_false, Bool.false_eq_true, ok_both, ok_case, ok_either, ok_first, ok_give, ok_k, ok_kp, ok_l, ok_left, ok_let, ok_name, ok_never, ok_none, ok_odd, ok_one, ok_other, ok_p, ok_pair, ok_r, ok_right, ok_second, ok_split, ok_star, ok_w, ok_way, ok_within, ok_without, ok_wrong, ok_yes, ok_no, ok_n, ok_led, ok_lr, ok_pp, ok_ppp, List.length_cons, List.length_nil, Nat.zero_add, Int.reduceSub, Int.reduceAdd, Int.reduceNeg, Int.reduceMul, Bool.not_true, Bool.not_false]
  rw [m_lenL e]
  simp (config := {decide := true}) only [ws_cons, ty_non, ty_bl, ty_int, ty_str, ty_tup, kit_tuple_NoneType, kit_tuple_bool, kit_tuple_int, kit_tuple_str, kit_tuple_tuple, kit_tuple_list, kit_list_NoneType, kit_list_bool, kit_list_int, kit_list_str, kit_list_tuple, kit_list_list, kit_int_NoneType, kit_int_bool, kit_int_int, kit_int_str, kit_int_tuple, kit_int_list, kit_bool_NoneType, kit_bool_bool, kit_bool_int, kit_bool_str, kit_bool_tuple, kit_bool_list, kit_str_NoneType, kit_str_bool, kit_str_int, kit_str_str, kit_str_tuple, kit_str_list, non_int, non_non, non_tup, non_str, non_ref, non_bl, ws_nil, ws_asg, ws_exp, ws_retS, ws_ifs, ws_pass, ws_raise, wr_slot, wr_cst, wr_nil, wr_cons, wr_tup, wr_lst, wr_dsp, wr_bin, wr_neg, ex_int, wr_not, wr_cmp, wr_and, wr_or, wr_ite, wr_isN, wr_notN, wr_ix, wr_sl, wr_prim, wr_lrg, wr_meth, wr_isT, wr_callE, wr_c0, wr_c1, wr_ok, m_lrg, m_addI, m_subI, m_mulI, m_divI, m_modI, m_powI, m_addT, m_addS, m_ltI, m_leI, m_gtI, m_geI, m_eq, m_ne, m_in, m_nin, eq_int, m_ixT, m_ixC, m_ixD, at_0, at_1, at_2, at_3, m_lenT, m_lenC, m_intI, m_intB, m_abs, m_max, m_min, m_tupT, m_listT, m_slT, m_slC, t_bl, t_int, t_non, t_tup, a_nm, a_tp, setSlots, partM, methFor, List.getElem?_cons_zero, List.getElem?_cons_succ, List.set_cons_zero, List.set_cons_succ, Option.some.injEq, exists_eq_left', true_and, and_true, eq_str, decide_eq_true_eq, ↓reduceIte, if_true, if_false, decide_true, decide_false, Bool.false_eq_true, ok_both, ok_case, ok_either, ok_first, ok_give, ok_k, ok_kp, ok_l, ok_left, ok_let, ok_name, ok_never, ok_none, ok_odd, ok_one, ok_other, ok_p, ok_pair, ok_r, ok_right, ok_second, ok_split, ok_star, ok_w, ok_way, ok_within, ok_without, ok_wrong, ok_yes, ok_no, ok_n, ok_led, ok_lr, ok_pp, ok_ppp, List.length_cons, List.length_nil, Nat.zero_add, Int.reduceSub, Int.reduceAdd, Int.reduceNeg, Int.reduceMul, Bool.not_true, Bool.not_false]
  cases ns with
  | nil =>
    simp (config := {decide := true}) only [ws_cons, ty_non, ty_bl, ty_int, ty_str, ty_tup, kit_tuple_NoneType, kit_tuple_bool, kit_tuple_int, kit_tuple_str, kit_tuple_tuple, kit_tuple_list, kit_list_NoneType, kit_list_bool, kit_list_int, kit_list_str, kit_list_tuple, kit_list_list, kit_int_NoneType, kit_int_bool, kit_int_int, kit_int_str, kit_int_tuple, kit_int_list, kit_bool_NoneType, kit_bool_bool, kit_bool_int, kit_bool_str, kit_bool_tuple, kit_bool_list, kit_str_NoneType, kit_str_bool, kit_str_int, kit_str_str, kit_str_tuple, kit_str_list, non_int, non_non, non_tup, non_str, non_ref, non_bl, ws_nil, ws_asg, ws_exp, ws_retS, ws_ifs, ws_pass, ws_raise, wr_slot, wr_cst, wr_nil, wr_cons, wr_tup, wr_lst, wr_dsp, wr_bin, wr_neg, ex_int, wr_not, wr_cmp, wr_and, wr_or, wr_ite, wr_isN, wr_notN, wr_ix, wr_sl, wr_prim, wr_lrg, wr_meth, wr_isT, wr_callE, wr_c0, wr_c1, wr_ok, m_lrg, m_addI, m_subI, m_mulI, m_divI, m_modI, m_powI, m_addT, m_addS, m_ltI, m_leI, m_gtI, m_geI, m_eq, m_ne, m_in, m_nin, eq_int, m_ixT, m_ixC, m_ixD, at_0, at_1, at_2, at_3, m_lenT, m_lenC, m_intI, m_intB, m_abs, m_max, m_min, m_tupT, m_listT, m_slT, m_slC, t_bl, t_int, t_non, t_tup, a_nm, a_tp, setSlots, partM, methFor, List.getElem?_cons_zero, List.getElem?_cons_succ, List.set_cons_zero, List.set_cons_succ, Option.some.injEq, exists_eq_left', true_and, and_true, eq_str, decide_eq_true_eq, ↓reduceIte, if_true, if_false, decide_true, decide_false, Bool.false_eq_true, ok_both, ok_case, ok_either, ok_first, ok_give, ok_k, ok_kp, ok_l, ok_left, ok_let, ok_name, ok_never, ok_none, ok_odd, ok_one, ok_other, ok_p, ok_pair, ok_r, ok_right, ok_second, ok_split, ok_star, ok_w, ok_way, ok_within, ok_without, ok_wrong, ok_yes, ok_no, ok_n, ok_led, ok_lr, ok_pp, ok_ppp, List.length_cons, List.length_nil, Nat.zero_add, Int.reduceSub, Int.reduceAdd, Int.reduceNeg, Int.reduceMul, Bool.not_true, Bool.not_false, List.map_nil]
    exact ⟨hm, Kp.refl, [], e⟩
  | cons n ns =>
    have : ¬ (((List.map PV.int (n :: ns)).length : Nat) : Int) = 0 := by simp; omega
    simp (config := {decide := true}) only [ws_cons, ty_non, ty_bl, ty_int, ty_str, ty_tup, kit_tuple_NoneType, kit_tuple_bool, kit_tuple_int, kit_tuple_str, kit_tuple_tuple, kit_tuple_list, kit_list_NoneType, kit_list_bool, kit_list_int, kit_list_str, kit_list_tuple, kit_list_list, kit_int_NoneType, kit_int_bool, kit_int_int, kit_int_str, kit_int_tuple, kit_int_list, kit_bool_NoneType, kit_bool_bool, kit_bool_int, kit_bool_str, kit_bool_tuple, kit_bool_list, kit_str_NoneType, kit_str_bool, kit_str_int, kit_str_str, kit_str_tuple, kit_str_list, non_int, non_non, non_tup, non_str, non_ref, non_bl, ws_nil, ws_asg, ws_exp, ws_retS, ws_ifs, ws_pass, ws_raise, wr_slot, wr_cst, wr_nil, wr_cons, wr_tup, wr_lst, wr_dsp, wr_bin, wr_neg, ex_int, wr_not, wr_cmp, wr_and, wr_or, wr_ite, wr_isN, wr_notN, wr_ix, wr_sl, wr_prim, wr_lrg, wr_meth, wr_isT, wr_callE, wr_c0, wr_c1, wr_ok, m_lrg, m_addI, m_subI, m_mulI, m_divI, m_modI, m_powI, m_addT, m_addS, m_ltI, m_leI, m_gtI, m_geI, m_eq, m_ne, m_in, m_nin, eq_int, m_ixT, m_ixC, m_ixD, at_0, at_1, at_2, at_3, m_lenT, m_lenC, m_intI, m_intB, m_abs, m_max, m_min, m_tupT, m_listT, m_slT, m_slC, t_bl, t_int, t_non, t_tup, a_nm, a_tp, setSlots, partM, methFor, List.getElem?_cons_zero, List.getElem?_cons_succ, List.set_cons_zero, List.set_cons_succ, Option.some.injEq, exists_eq_left', true_and, and_true, eq_str, decide_eq_true_eq, ↓reduceIte, if_true, if_false, decide_true, decide_false, Bool.false_eq_true, ok_both, ok_case, ok_either, ok_first, ok_give, ok_k, ok_kp, ok_l, ok_left, ok_let, ok_name, ok_never, ok_none, ok_odd, ok_one, ok_other, ok_p, ok_pair, ok_r, ok_right, ok_second, ok_split, ok_star, ok_w, ok_way, ok_within, ok_without, ok_wrong, ok_yes, ok_no, ok_n, ok_led, ok_lr, ok_pp, ok_ppp, List.length_cons, List.length_nil, Nat.zero_add, Int.reduceSub, Int.reduceAdd, Int.reduceNeg, Int.reduceMul, Bool.not_true, Bool.not_false, this]
    rw [m_pop0 e]
    simp (config := {decide := true}) only [ws_cons, ty_non, ty_bl, ty_int, ty_str, ty_tup, kit_tuple_NoneType, kit_tuple_bool, kit_tuple_int, kit_tuple_str, kit_tuple_tuple, kit_tuple_list, kit_list_NoneType, kit_list_bool, kit_list_int, kit_list_str, kit_list_tuple, kit_list_list, kit_int_NoneType, kit_int_bool, kit_int_int, kit_int_str, kit_int_tuple, kit_int_list, kit_bool_NoneType, kit_bool_bool, kit_bool_int, kit_bool_str, kit_bool_tuple, kit_bool_list, kit_str_NoneType, kit_str_bool, kit_str_int, kit_str_str, kit_str_tuple, kit_str_list, non_int, non_non, non_tup, non_str, non_ref, non_bl, ws_nil, ws_asg, ws_exp, ws_retS, ws_ifs, ws_pass, ws_raise, wr_slot, wr_cst, wr_nil, wr_cons, wr_tup, wr_lst, wr_dsp, wr_bin, wr_neg, ex_int, wr_not, wr_cmp, wr_and, wr_or, wr_ite, wr_isN, wr_notN, wr_ix, wr_sl, wr_prim, wr_lrg, wr_meth, wr_isT, wr_callE, wr_c0, wr_c1, wr_ok, m_lrg, m_addI, m_subI, m_mulI, m_divI, m_modI, m_powI, m_addT, m_addS, m_ltI, m_leI, m_gtI, m_geI, m_eq, m_ne, m_in, m_nin, eq_int, m_ixT, m_ixC, m_ixD, at_0, at_1, at_2, at_3, m_lenT, m_lenC, m_intI, m_intB, m_abs, m_max, m_min, m_tupT, m_listT, m_slT, m_slC, t_bl, t_int, t_non, t_tup, a_nm, a_tp, setSlots, partM, methFor, List.getElem?_cons_zero, List.getElem?_cons_succ, List.set_cons_zero, List.set_cons_succ, Option.some.injEq, exists_eq_left', true_and, and_true, eq_str, decide_eq_true_eq, ↓reduceIte, if_true, if_false, decide_true, decide_false, Bool.false_eq_true, ok_both, ok_case, ok_either, ok_first, ok_give, ok_k, ok_kp, ok_l, ok_left, ok_let, ok_name, ok_never, ok_none, ok_odd, ok_one, ok_other, ok_p, ok_pair, ok_r, ok_right, ok_second, ok_split, ok_star, ok_w, ok_way, ok_within, ok_without, ok_wrong, ok_yes, ok_no, ok_n, ok_led, ok_lr, ok_pp, ok_ppp, List.length_cons, List.length_nil, Nat.zero_add, Int.reduceSub, Int.reduceAdd, Int.reduceNeg, Int.reduceMul, Bool.not_true, Bool.not_false]
    have h1 := Int.emod_nonneg n (show m ≠ 0 by omega)
    have h2 := Int.emod_lt_of_pos n hm
    refine ⟨hm, h1, h2, Kp.refl.set (.inl (by simp)), ns, get_set e⟩
theorem range_nat2 {i j : Nat} (h : i ≤ 1000000000) (h' : j ≤ 1000000000) : rangeM [.int (i : Nat), .int (j : Nat)] = some (rangeP (i : Nat) (j - i)) := by
  have h5 : ((j : Int) - (i : Int)).toNat = j - i := by omega
  unfold rangeM
  simp only [fits_of (i := (i : Nat)) (by omega) (by omega), fits_of (i := (j : Nat)) (by omega) (by omega), Bool.and_self, if_true, h5]
theorem range_downD {n : Nat} (h : n ≤ 1000000) : rangeM [.int ((n : Nat) - 1), .int (-1), .int (-1)] = some (rangeD ((n : Nat) - 1) n) := by
  have h3 : ((n : Int) - 1 - -1).toNat = n := by omega
  unfold rangeM
  simp only [fits_of (i := (n : Nat) - 1) (by omega) (by omega), fits_of (i := -1) (by omega) (by omega), decide_true, Bool.and_self, if_true, h3]
theorem rangeD_mid {hi : Int} {n : Nat} {pre : List PV} {x : PV} {suf : List PV} (h : rangeD hi n = pre ++ x :: suf) : pre.length < n ∧ x = .int (hi + (pre.length : Nat) * (-1)) := by
  have hl := congrArg List.length h
  rw [show (rangeD hi n).length = n by simp [rangeD], List.length_append, List.length_cons] at hl
  have hp : pre.length < n := by omega
  refine ⟨hp, ?_⟩
  have e : (rangeD hi n)[pre.length]? = some x := by rw [h]; simp
  unfold rangeD at e
  rw [List.getElem?_map, List.getElem?_range hp] at e
  exact (Option.some.inj e).symm
theorem range_mid {lo : Int} {n : Nat} {pre : List PV} {x : PV} {suf : List PV} (h : rangeP lo n = pre ++ x :: suf) : pre.length < n ∧ x = .int (lo + (pre.length : Nat)) := by
  have hl := congrArg List.length h
  rw [range_len, List.length_append, List.length_cons] at hl
  have hp : pre.length < n := by omega
  refine ⟨hp, ?_⟩
  have e : (rangeP lo n)[pre.length]? = some x := by rw [h]; simp
  unfold rangeP at e
  rw [List.getElem?_map, List.getElem?_range hp] at e
  exact (Option.some.inj e).symm
theorem sp_power {n t : Nat} (hf : HasA T) (hn : n < 2 ^ 62) (ht : t ≤ 100000) : Wr (callF T (r + 1) "_law_power" [.int (n : Nat), .int (t : Nat)] S) (fun v S' => v = .int ((n ^ t : Nat)) ∧ S' = S) nE := by
  refine wr_call (ws := [.int (n : Nat), .int (t : Nat)]) hf.power rfl rfl ?_
  show Ws (execSs (conf T r) f_law_power.body [some (.int (n : Nat)), some (.int (t : Nat)), none, none] S) _ _ _
  simp (config := {decide := true}) only [f_law_power, ws_cons, ty_non, ty_bl, ty_int, ty_str, ty_tup, kit_tuple_NoneType, kit_tuple_bool, kit_tuple_int, kit_tuple_str, kit_tuple_tuple, kit_tuple_list, kit_list_NoneType, kit_list_bool, kit_list_int, kit_list_str, kit_list_tuple, kit_list_list, kit_int_NoneType, kit_int_bool, kit_int_int, kit_int_str, kit_int_tuple, kit_int_list, kit_bool_NoneType, kit_bool_bool, kit_bool_int, kit_bool_str, kit_bool_tuple, kit_bool_list, kit_str_NoneType, kit_str_bool, kit_str_int, kit_str_str, kit_str_tuple, kit_str_list, non_int, non_non, non_tup, non_str, non_ref, non_bl, ws_nil, ws_asg, ws_exp, ws_retS, ws_ifs, ws_pass, ws_raise, wr_slot, wr_cst, wr_nil, wr_cons, wr_tup, wr_lst, wr_dsp, wr_bin, wr_neg, ex_int, wr_not, wr_cmp, wr_and, wr_or, wr_ite, wr_isN, wr_notN, wr_ix, wr_sl, wr_prim, wr_lrg, wr_meth, wr_isT, wr_callE, wr_c0, wr_c1, wr_ok, m_lrg, m_addI, m_subI, m_mulI, m_divI, m_modI, m_powI, m_addT, m_addS, m_ltI, m_leI, m_gtI, m_geI, m_eq, m_ne, m_in, m_nin, eq_int, m_ixT, m_ixC, m_ixD, at_0, at_1, at_2, at_3, m_lenT, m_lenC, m_intI, m_intB, m_abs, m_max, m_min, m_tupT, m_listT, m_slT, m_slC, t_bl, t_int, t_non, t_tup, a_nm, a_tp, setSlots, partM, methFor, List.getElem?_cons_zero, List.getElem?_cons_succ, List.set_cons_zero, List.set_cons_succ, Option.some.injEq, exists_eq_left', true_and, and_true, eq_str, decide_eq_true_eq, ↓reduceIte, if_true, if_false, decide_true, decide_false, Bool.false_eq_true, ok_both, ok_case, ok_either, ok_first, ok_give, ok_k, ok_kp, ok_l, ok_left, ok_let, ok_name, ok_never, ok_none, ok_odd, ok_one, ok_other, ok_p, ok_pair, ok_r, ok_right, ok_second, ok_split, ok_star, ok_w, ok_way, ok_within, ok_without, ok_wrong, ok_yes, ok_no, ok_n, ok_led, ok_lr, ok_pp, ok_ppp, List.length_cons, List.length_nil, Nat.zero_add, Int.reduceSub, Int.reduceAdd, Int.reduceNeg, Int.reduceMul, Bool.not_true, Bool.not_false]
  with_unfolding_none refine ws_forI ?_
  simp (config := {decide := true}) only [ws_cons, ty_non, ty_bl, ty_int, ty_str, ty_tup, kit_tuple_NoneType, kit_tuple_bool, kit_tuple_int, kit_tuple_str, kit_tuple_tuple, kit_tuple_list, kit_list_NoneType, kit_list_bool, kit_list_int, kit_list_str, kit_list_tuple, kit_list_list, kit_int_NoneType, kit_int_bool, kit_int_int, kit_int_str, kit_int_tuple, kit_int_list, kit_bool_NoneType, kit_bool_bool, kit_bool_int, kit_bool_str, kit_bool_tuple, kit_bool_list, kit_str_NoneType, kit_str_bool, kit_str_int, kit_str_str, kit_str_tuple, kit_str_list, non_int, non_non, non_tup, non_str, non_ref, non_bl, ws_nil, ws_asg, ws_exp, ws_retS, ws_ifs, ws_pass, ws_raise, wr_slot, wr_cst, wr_nil, wr_cons, wr_tup, wr_lst, wr_dsp, wr_bin, wr_neg, ex_int, wr_not, wr_cmp, wr_and, wr_or, wr_ite, wr_isN, wr_notN, wr_ix, wr_sl, wr_prim, wr_lrg, wr_meth, wr_isT, wr_callE, wr_c0, wr_c1, wr_ok, m_lrg, m_addI, m_subI, m_mulI, m_divI, m_modI, m_powI, m_addT, m_addS, m_ltI, m_leI, m_gtI, m_geI, m_eq, m_ne, m_in, m_nin, eq_int, m_ixT, m_ixC, m_ixD, at_0, at_1, at_2, at_3, m_lenT, m_lenC, m_intI, m_intB, m_abs, m_max, m_min, m_tupT, m_listT, m_slT, m_slC, t_bl, t_int, t_non, t_tup, a_nm, a_tp, setSlots, partM, methFor, List.getElem?_cons_zero, List.getElem?_cons_succ, List.set_cons_zero, List.set_cons_succ, Option.some.injEq, exists_eq_left', true_and, and_true, eq_str, decide_eq_true_eq, ↓reduceIte, if_true, if_false, decide_true, decide_false, Bool.false_eq_true, ok_both, ok_case, ok_either, ok_first, ok_give, ok_k, ok_kp, ok_l, ok_left, ok_let, ok_name, ok_never, ok_none, ok_odd, ok_one, ok_other, ok_p, ok_pair, ok_r, ok_right, ok_second, ok_split, ok_star, ok_w, ok_way, ok_within, ok_without, ok_wrong, ok_yes, ok_no, ok_n, ok_led, ok_lr, ok_pp, ok_ppp, List.length_cons, List.length_nil, Nat.zero_add, Int.reduceSub, Int.reduceAdd, Int.reduceNeg, Int.reduceMul, Bool.not_true, Bool.not_false]
  have er := range_nat (n := t) (by omega)
  refine ⟨_, len_range er, fun pre e S2 => (∃ o, e = [some (.int (n : Nat)), some (.int (t : Nat)), some (.int ((n ^ pre.length : Nat))), o]) ∧ S2 = S, ⟨⟨_, rfl⟩, rfl⟩, ?_, ?_, ?_⟩
  · rintro e S2 ⟨⟨o, rfl⟩, rfl⟩
    simp (config := {decide := true}) only [ws_cons, ty_non, ty_bl, ty_int, ty_str, ty_tup, kit_tuple_NoneType, kit_tuple_bool, kit_tuple_int, kit_tuple_str, kit_tuple_tuple, kit_tuple_list, kit_list_NoneType, kit_list_bool, kit_list_int, kit_list_str, kit_list_tuple, kit_list_list, kit_int_NoneType, kit_int_bool, kit_int_int, kit_int_str, kit_int_tuple, kit_int_list, kit_bool_NoneType, kit_bool_bool, kit_bool_int, kit_bool_str, kit_bool_tuple, kit_bool_list, kit_str_NoneType, kit_str_bool, kit_str_int, kit_str_str, kit_str_tuple, kit_str_list, non_int, non_non, non_tup, non_str, non_ref, non_bl, ws_nil, ws_asg, ws_exp, ws_retS, ws_ifs, ws_pass, ws_raise, wr_slot, wr_cst, wr_nil, wr_cons, wr_tup, wr_lst, wr_dsp, wr_bin, wr_neg, ex_int, wr_not, wr_cmp, wr_and, wr_or, wr_ite, wr_isN, wr_notN, wr_ix, wr_sl, wr_prim, wr_lrg, wr_meth, wr_isT, wr_callE, wr_c0, wr_c1, wr_ok, m_lrg, m_addI, m_subI, m_mulI, m_divI, m_modI, m_powI, m_addT, m_addS, m_ltI, m_leI, m_gtI, m_geI, m_eq, m_ne, m_in, m_nin, eq_int, m_ixT, m_ixC, m_ixD, at_0, at_1, at_2, at_3, m_lenT, m_lenC, m_intI, m_intB, m_abs, m_max, m_min, m_tupT, m_listT, m_slT, m_slC, t_bl, t_int, t_non, t_tup, a_nm, a_tp, setSlots, partM, methFor, List.getElem?_cons_zero, List.getElem?_cons_succ, List.set_cons_zero, List.set_cons_succ, Option.some.injEq, exists_eq_left', true_and, and_true, eq_str, decide_eq_true_eq, ↓reduceIte, if_true, if_false, decide_true, decide_false, Bool.false_eq_true, ok_both, ok_case, ok_either, ok_first, ok_give, ok_k, ok_kp, ok_l, ok_left, ok_let, ok_name, ok_never, ok_none, ok_odd, ok_one, ok_other, ok_p, ok_pair, ok_r, ok_right, ok_second, ok_split, ok_star, ok_w, ok_way, ok_within, ok_without, ok_wrong, ok_yes, ok_no, ok_n, ok_led, ok_lr, ok_pp, ok_ppp, List.length_cons, List.length_nil, Nat.zero_add, Int.reduceSub, Int.reduceAdd, Int.reduceNeg, Int.reduceMul, Bool.not_true, Bool.not_false, range_len]
  · rintro pre e S2 _
    exact it_range er
  · rintro pre x suf e S2 hx ⟨⟨o, rfl⟩, rfl⟩
    refine ⟨_, rfl, ?_⟩
    simp (config := {decide := true}) only [ws_cons, ty_non, ty_bl, ty_int, ty_str, ty_tup, kit_tuple_NoneType, kit_tuple_bool, kit_tuple_int, kit_tuple_str, kit_tuple_tuple, kit_tuple_list, kit_list_NoneType, kit_list_bool, kit_list_int, kit_list_str, kit_list_tuple, kit_list_list, kit_int_NoneType, kit_int_bool, kit_int_int, kit_int_str, kit_int_tuple, kit_int_list, kit_bool_NoneType, kit_bool_bool, kit_bool_int, kit_bool_str, kit_bool_tuple, kit_bool_list, kit_str_NoneType, kit_str_bool, kit_str_int, kit_str_str, kit_str_tuple, kit_str_list, non_int, non_non, non_tup, non_str, non_ref, non_bl, ws_nil, ws_asg, ws_exp, ws_retS, ws_ifs, ws_pass, ws_raise, wr_slot, wr_cst, wr_nil, wr_cons, wr_tup, wr_lst, wr_dsp, wr_bin, wr_neg, ex_int, wr_not, wr_cmp, wr_and, wr_or, wr_ite, wr_isN, wr_notN, wr_ix, wr_sl, wr_prim, wr_lrg, wr_meth, wr_isT, wr_callE, wr_c0, wr_c1, wr_ok, m_lrg, m_addI, m_subI, m_mulI, m_divI, m_modI, m_powI, m_addT, m_addS, m_ltI, m_leI, m_gtI, m_geI, m_eq, m_ne, m_in, m_nin, eq_int, m_ixT, m_ixC, m_ixD, at_0, at_1, at_2, at_3, m_lenT, m_lenC, m_intI, m_intB, m_abs, m_max, m_min, m_tupT, m_listT, m_slT, m_slC, t_bl, t_int, t_non, t_tup, a_nm, a_tp, setSlots, partM, methFor, List.getElem?_cons_zero, List.getElem?_cons_succ, List.set_cons_zero, List.set_cons_succ, Option.some.injEq, exists_eq_left', true_and, and_true, eq_str, decide_eq_true_eq, ↓reduceIte, if_true, if_false, decide_true, decide_false, Bool.false_eq_true, ok_both, ok_case, ok_either, ok_first, ok_give, ok_k, ok_kp, ok_l, ok_left, ok_let, ok_name, ok_never, ok_none, ok_odd, ok_one, ok_other, ok_p, ok_pair, ok_r, ok_right, ok_second, ok_split, ok_star, ok_w, ok_way, ok_within, ok_without, ok_wrong, ok_yes, ok_no, ok_n, ok_led, ok_lr, ok_pp, ok_ppp, List.length_cons, List.length_nil, Nat.zero_add, Int.reduceSub, Int.reduceAdd, Int.reduceNeg, Int.reduceMul, Bool.not_true, Bool.not_false]
    refine ⟨mulOk_r (by omega), some x, ?_⟩
    rw [List.length_append, List.length_singleton, Nat.pow_succ, Int.natCast_mul]
/-- its parts have at most m -/
def Kd.sub (m : Nat) : Kd → Prop
  | .none => True
  | .one => True
  | .either a b => a.le m ∧ b.le m
  | .both a b => a.le m ∧ b.le m
  | .way a b => a.le m ∧ b.le m
theorem Kd.le.sub {m : Nat} : ∀ {k : Kd}, k.le m → k.sub m
  | .none, _ => trivial
  | .one, _ => trivial
  | .either _ _, h => h.2
  | .both _ _, h => h.2
  | .way _ _, h => h.2
/-- a kind's count by the law's own reckoning -/
theorem sp_count (hf : HasA T) : ∀ (k : Kd) (r : Nat) (S : Store), k.sub 1000 → k.dep + 1 ≤ r → Wr (callF T (r + 1) "_law_count" [K k] S) (fun v S' => v = .int (k.cnt : Nat) ∧ S' = S) nE
  | .none, r, S, _, _ => by
    refine wr_call (ws := [K .none]) hf.count rfl rfl ?_
    show Ws (execSs (conf T r) f_law_count.body [some (K .none), none, none] S) _ _ _
    simp (config := {decide := true}) only [f_law_count, K, ws_cons, ty_non, ty_bl, ty_int, ty_str, ty_tup, kit_tuple_NoneType, kit_tuple_bool, kit_tuple_int, kit_tuple_str, kit_tuple_tuple, kit_tuple_list, kit_list_NoneType, kit_list_bool, kit_list_int, kit_list_str, kit_list_tuple, kit_list_list, kit_int_NoneType, kit_int_bool, kit_int_int, kit_int_str, kit_int_tuple, kit_int_list, kit_bool_NoneType, kit_bool_bool, kit_bool_int, kit_bool_str, kit_bool_tuple, kit_bool_list, kit_str_NoneType, kit_str_bool, kit_str_int, kit_str_str, kit_str_tuple, kit_str_list, non_int, non_non, non_tup, non_str, non_ref, non_bl, ws_nil, ws_asg, ws_exp, ws_retS, ws_ifs, ws_pass, ws_raise, wr_slot, wr_cst, wr_nil, wr_cons, wr_tup, wr_lst, wr_dsp, wr_bin, wr_neg, ex_int, wr_not, wr_cmp, wr_and, wr_or, wr_ite, wr_isN, wr_notN, wr_ix, wr_sl, wr_prim, wr_lrg, wr_meth, wr_isT, wr_callE, wr_c0, wr_c1, wr_ok, m_lrg, m_addI, m_subI, m_mulI, m_divI, m_modI, m_powI, m_addT, m_addS, m_ltI, m_leI, m_gtI, m_geI, m_eq, m_ne, m_in, m_nin, eq_int, m_ixT, m_ixC, m_ixD, at_0, at_1, at_2, at_3, m_lenT, m_lenC, m_intI, m_intB, m_abs, m_max, m_min, m_tupT, m_listT, m_slT, m_slC, t_bl, t_int, t_non, t_tup, a_nm, a_tp, setSlots, partM, methFor, List.getElem?_cons_zero, List.getElem?_cons_succ, List.set_cons_zero, List.set_cons_succ, Option.some.injEq, exists_eq_left', true_and, and_true, eq_str, decide_eq_true_eq, ↓reduceIte, if_true, if_false, decide_true, decide_false, Bool.false_eq_true, ok_both, ok_case, ok_either, ok_first, ok_give, ok_k, ok_kp, ok_l, ok_left, ok_let, ok_name, ok_never, ok_none, ok_odd, ok_one, ok_other, ok_p, ok_pair, ok_r, ok_right, ok_second, ok_split, ok_star, ok_w, ok_way, ok_within, ok_without, ok_wrong, ok_yes, ok_no, ok_n, ok_led, ok_lr, ok_pp, ok_ppp, List.length_cons, List.length_nil, Nat.zero_add, Int.reduceSub, Int.reduceAdd, Int.reduceNeg, Int.reduceMul, Bool.not_true, Bool.not_false]
    rfl
  | .one, r, S, _, _ => by
    refine wr_call (ws := [K .one]) hf.count rfl rfl ?_
    show Ws (execSs (conf T r) f_law_count.body [some (K .one), none, none] S) _ _ _
    simp (config := {decide := true}) only [f_law_count, K, ws_cons, ty_non, ty_bl, ty_int, ty_str, ty_tup, kit_tuple_NoneType, kit_tuple_bool, kit_tuple_int, kit_tuple_str, kit_tuple_tuple, kit_tuple_list, kit_list_NoneType, kit_list_bool, kit_list_int, kit_list_str, kit_list_tuple, kit_list_list, kit_int_NoneType, kit_int_bool, kit_int_int, kit_int_str, kit_int_tuple, kit_int_list, kit_bool_NoneType, kit_bool_bool, kit_bool_int, kit_bool_str, kit_bool_tuple, kit_bool_list, kit_str_NoneType, kit_str_bool, kit_str_int, kit_str_str, kit_str_tuple, kit_str_list, non_int, non_non, non_tup, non_str, non_ref, non_bl, ws_nil, ws_asg, ws_exp, ws_retS, ws_ifs, ws_pass, ws_raise, wr_slot, wr_cst, wr_nil, wr_cons, wr_tup, wr_lst, wr_dsp, wr_bin, wr_neg, ex_int, wr_not, wr_cmp, wr_and, wr_or, wr_ite, wr_isN, wr_notN, wr_ix, wr_sl, wr_prim, wr_lrg, wr_meth, wr_isT, wr_callE, wr_c0, wr_c1, wr_ok, m_lrg, m_addI, m_subI, m_mulI, m_divI, m_modI, m_powI, m_addT, m_addS, m_ltI, m_leI, m_gtI, m_geI, m_eq, m_ne, m_in, m_nin, eq_int, m_ixT, m_ixC, m_ixD, at_0, at_1, at_2, at_3, m_lenT, m_lenC, m_intI, m_intB, m_abs, m_max, m_min, m_tupT, m_listT, m_slT, m_slC, t_bl, t_int, t_non, t_tup, a_nm, a_tp, setSlots, partM, methFor, List.getElem?_cons_zero, List.getElem?_cons_succ, List.set_cons_zero, List.set_cons_succ, Option.some.injEq, exists_eq_left', true_and, and_true, eq_str, decide_eq_true_eq, ↓reduceIte, if_true, if_false, decide_true, decide_false, Bool.false_eq_true, ok_both, ok_case, ok_either, ok_first, ok_give, ok_k, ok_kp, ok_l, ok_left, ok_let, ok_name, ok_never, ok_none, ok_odd, ok_one, ok_other, ok_p, ok_pair, ok_r, ok_right, ok_second, ok_split, ok_star, ok_w, ok_way, ok_within, ok_without, ok_wrong, ok_yes, ok_no, ok_n, ok_led, ok_lr, ok_pp, ok_ppp, List.length_cons, List.length_nil, Nat.zero_add, Int.reduceSub, Int.reduceAdd, Int.reduceNeg, Int.reduceMul, Bool.not_true, Bool.not_false]
    rfl
  | .either a b, r + 1, S, hk, hr => by
    have hr : max a.dep b.dep + 1 + 1 ≤ r + 1 := hr
    have ca := hk.1.cnt
    have cb := hk.2.cnt
    refine wr_call (ws := [K (.either a b)]) hf.count rfl rfl ?_
    show Ws (execSs (conf T (r + 1)) f_law_count.body [some (K (.either a b)), none, none] S) _ _ _
    simp (config := {decide := true}) only [f_law_count, K, ws_cons, ty_non, ty_bl, ty_int, ty_str, ty_tup, kit_tuple_NoneType, kit_tuple_bool, kit_tuple_int, kit_tuple_str, kit_tuple_tuple, kit_tuple_list, kit_list_NoneType, kit_list_bool, kit_list_int, kit_list_str, kit_list_tuple, kit_list_list, kit_int_NoneType, kit_int_bool, kit_int_int, kit_int_str, kit_int_tuple, kit_int_list, kit_bool_NoneType, kit_bool_bool, kit_bool_int, kit_bool_str, kit_bool_tuple, kit_bool_list, kit_str_NoneType, kit_str_bool, kit_str_int, kit_str_str, kit_str_tuple, kit_str_list, non_int, non_non, non_tup, non_str, non_ref, non_bl, ws_nil, ws_asg, ws_exp, ws_retS, ws_ifs, ws_pass, ws_raise, wr_slot, wr_cst, wr_nil, wr_cons, wr_tup, wr_lst, wr_dsp, wr_bin, wr_neg, ex_int, wr_not, wr_cmp, wr_and, wr_or, wr_ite, wr_isN, wr_notN, wr_ix, wr_sl, wr_prim, wr_lrg, wr_meth, wr_isT, wr_callE, wr_c0, wr_c1, wr_ok, m_lrg, m_addI, m_subI, m_mulI, m_divI, m_modI, m_powI, m_addT, m_addS, m_ltI, m_leI, m_gtI, m_geI, m_eq, m_ne, m_in, m_nin, eq_int, m_ixT, m_ixC, m_ixD, at_0, at_1, at_2, at_3, m_lenT, m_lenC, m_intI, m_intB, m_abs, m_max, m_min, m_tupT, m_listT, m_slT, m_slC, t_bl, t_int, t_non, t_tup, a_nm, a_tp, setSlots, partM, methFor, List.getElem?_cons_zero, List.getElem?_cons_succ, List.set_cons_zero, List.set_cons_succ, Option.some.injEq, exists_eq_left', true_and, and_true, eq_str, decide_eq_true_eq, ↓reduceIte, if_true, if_false, decide_true, decide_false, Bool.false_eq_true, ok_both, ok_case, ok_either, ok_first, ok_give, ok_k, ok_kp, ok_l, ok_left, ok_let, ok_name, ok_never, ok_none, ok_odd, ok_one, ok_other, ok_p, ok_pair, ok_r, ok_right, ok_second, ok_split, ok_star, ok_w, ok_way, ok_within, ok_without, ok_wrong, ok_yes, ok_no, ok_n, ok_led, ok_lr, ok_pp, ok_ppp, List.length_cons, List.length_nil, Nat.zero_add, Int.reduceSub, Int.reduceAdd, Int.reduceNeg, Int.reduceMul, Bool.not_true, Bool.not_false]
    refine (sp_count hf a r S hk.1.sub (by omega)).imp ?_ fun _ _ _ z => z.elim
    rintro v S1 ⟨rfl, rfl⟩
    refine (sp_count hf b r S1 hk.2.sub (by omega)).imp ?_ fun _ _ _ z => z.elim
    rintro v S2 ⟨rfl, rfl⟩
    simp (config := {decide := true}) only [ws_cons, ty_non, ty_bl, ty_int, ty_str, ty_tup, kit_tuple_NoneType, kit_tuple_bool, kit_tuple_int, kit_tuple_str, kit_tuple_tuple, kit_tuple_list, kit_list_NoneType, kit_list_bool, kit_list_int, kit_list_str, kit_list_tuple, kit_list_list, kit_int_NoneType, kit_int_bool, kit_int_int, kit_int_str, kit_int_tuple, kit_int_list, kit_bool_NoneType, kit_bool_bool, kit_bool_int, kit_bool_str, kit_bool_tuple, kit_bool_list, kit_str_NoneType, kit_str_bool, kit_str_int, kit_str_str, kit_str_tuple, kit_str_list, non_int, non_non, non_tup, non_str, non_ref, non_bl, ws_nil, ws_asg, ws_exp, ws_retS, ws_ifs, ws_pass, ws_raise, wr_slot, wr_cst, wr_nil, wr_cons, wr_tup, wr_lst, wr_dsp, wr_bin, wr_neg, ex_int, wr_not, wr_cmp, wr_and, wr_or, wr_ite, wr_isN, wr_notN, wr_ix, wr_sl, wr_prim, wr_lrg, wr_meth, wr_isT, wr_callE, wr_c0, wr_c1, wr_ok, m_lrg, m_addI, m_subI, m_mulI, m_divI, m_modI, m_powI, m_addT, m_addS, m_ltI, m_leI, m_gtI, m_geI, m_eq, m_ne, m_in, m_nin, eq_int, m_ixT, m_ixC, m_ixD, at_0, at_1, at_2, at_3, m_lenT, m_lenC, m_intI, m_intB, m_abs, m_max, m_min, m_tupT, m_listT, m_slT, m_slC, t_bl, t_int, t_non, t_tup, a_nm, a_tp, setSlots, partM, methFor, List.getElem?_cons_zero, List.getElem?_cons_succ, List.set_cons_zero, List.set_cons_succ, Option.some.injEq, exists_eq_left', true_and, and_true, eq_str, decide_eq_true_eq, ↓reduceIte, if_true, if_false, decide_true, decide_false, Bool.false_eq_true, ok_both, ok_case, ok_either, ok_first, ok_give, ok_k, ok_kp, ok_l, ok_left, ok_let, ok_name, ok_never, ok_none, ok_odd, ok_one, ok_other, ok_p, ok_pair, ok_r, ok_right, ok_second, ok_split, ok_star, ok_w, ok_way, ok_within, ok_without, ok_wrong, ok_yes, ok_no, ok_n, ok_led, ok_lr, ok_pp, ok_ppp, List.length_cons, List.length_nil, Nat.zero_add, Int.reduceSub, Int.reduceAdd, Int.reduceNeg, Int.reduceMul, Bool.not_true, Bool.not_false]
    refine ⟨mulOk_l (by omega), (sp_power hf (by omega) (by omega)).imp ?_ fun _ _ _ z => z.elim⟩
    rintro v S3 ⟨rfl, rfl⟩
    exact ⟨_, rfl, by rw [Kd.cnt]; rfl, rfl⟩
  | .both a b, r + 1, S, hk, hr => by
    have hr : max a.dep b.dep + 1 + 1 ≤ r + 1 := hr
    have ca := hk.1.cnt
    have cb := hk.2.cnt
    refine wr_call (ws := [K (.both a b)]) hf.count rfl rfl ?_
    show Ws (execSs (conf T (r + 1)) f_law_count.body [some (K (.both a b)), none, none] S) _ _ _
    simp (config := {decide := true}) only [f_law_count, K, ws_cons, ty_non, ty_bl, ty_int, ty_str, ty_tup, kit_tuple_NoneType, kit_tuple_bool, kit_tuple_int, kit_tuple_str, kit_tuple_tuple, kit_tuple_list, kit_list_NoneType, kit_list_bool, kit_list_int, kit_list_str, kit_list_tuple, kit_list_list, kit_int_NoneType, kit_int_bool, kit_int_int, kit_int_str, kit_int_tuple, kit_int_list, kit_bool_NoneType, kit_bool_bool, kit_bool_int, kit_bool_str, kit_bool_tuple, kit_bool_list, kit_str_NoneType, kit_str_bool, kit_str_int, kit_str_str, kit_str_tuple, kit_str_list, non_int, non_non, non_tup, non_str, non_ref, non_bl, ws_nil, ws_asg, ws_exp, ws_retS, ws_ifs, ws_pass, ws_raise, wr_slot, wr_cst, wr_nil, wr_cons, wr_tup, wr_lst, wr_dsp, wr_bin, wr_neg, ex_int, wr_not, wr_cmp, wr_and, wr_or, wr_ite, wr_isN, wr_notN, wr_ix, wr_sl, wr_prim, wr_lrg, wr_meth, wr_isT, wr_callE, wr_c0, wr_c1, wr_ok, m_lrg, m_addI, m_subI, m_mulI, m_divI, m_modI, m_powI, m_addT, m_addS, m_ltI, m_leI, m_gtI, m_geI, m_eq, m_ne, m_in, m_nin, eq_int, m_ixT, m_ixC, m_ixD, at_0, at_1, at_2, at_3, m_lenT, m_lenC, m_intI, m_intB, m_abs, m_max, m_min, m_tupT, m_listT, m_slT, m_slC, t_bl, t_int, t_non, t_tup, a_nm, a_tp, setSlots, partM, methFor, List.getElem?_cons_zero, List.getElem?_cons_succ, List.set_cons_zero, List.set_cons_succ, Option.some.injEq, exists_eq_left', true_and, and_true, eq_str, decide_eq_true_eq, ↓reduceIte, if_true, if_false, decide_true, decide_false, Bool.false_eq_true, ok_both, ok_case, ok_either, ok_first, ok_give, ok_k, ok_kp, ok_l, ok_left, ok_let, ok_name, ok_never, ok_none, ok_odd, ok_one, ok_other, ok_p, ok_pair, ok_r, ok_right, ok_second, ok_split, ok_star, ok_w, ok_way, ok_within, ok_without, ok_wrong, ok_yes, ok_no, ok_n, ok_led, ok_lr, ok_pp, ok_ppp, List.length_cons, List.length_nil, Nat.zero_add, Int.reduceSub, Int.reduceAdd, Int.reduceNeg, Int.reduceMul, Bool.not_true, Bool.not_false]
    refine (sp_count hf a r S hk.1.sub (by omega)).imp ?_ fun _ _ _ z => z.elim
    rintro v S1 ⟨rfl, rfl⟩
    refine (sp_count hf b r S1 hk.2.sub (by omega)).imp ?_ fun _ _ _ z => z.elim
    rintro v S2 ⟨rfl, rfl⟩
    simp (config := {decide := true}) only [ws_cons, ty_non, ty_bl, ty_int, ty_str, ty_tup, kit_tuple_NoneType, kit_tuple_bool, kit_tuple_int, kit_tuple_str, kit_tuple_tuple, kit_tuple_list, kit_list_NoneType, kit_list_bool, kit_list_int, kit_list_str, kit_list_tuple, kit_list_list, kit_int_NoneType, kit_int_bool, kit_int_int, kit_int_str, kit_int_tuple, kit_int_list, kit_bool_NoneType, kit_bool_bool, kit_bool_int, kit_bool_str, kit_bool_tuple, kit_bool_list, kit_str_NoneType, kit_str_bool, kit_str_int, kit_str_str, kit_str_tuple, kit_str_list, non_int, non_non, non_tup, non_str, non_ref, non_bl, ws_nil, ws_asg, ws_exp, ws_retS, ws_ifs, ws_pass, ws_raise, wr_slot, wr_cst, wr_nil, wr_cons, wr_tup, wr_lst, wr_dsp, wr_bin, wr_neg, ex_int, wr_not, wr_cmp, wr_and, wr_or, wr_ite, wr_isN, wr_notN, wr_ix, wr_sl, wr_prim, wr_lrg, wr_meth, wr_isT, wr_callE, wr_c0, wr_c1, wr_ok, m_lrg, m_addI, m_subI, m_mulI, m_divI, m_modI, m_powI, m_addT, m_addS, m_ltI, m_leI, m_gtI, m_geI, m_eq, m_ne, m_in, m_nin, eq_int, m_ixT, m_ixC, m_ixD, at_0, at_1, at_2, at_3, m_lenT, m_lenC, m_intI, m_intB, m_abs, m_max, m_min, m_tupT, m_listT, m_slT, m_slC, t_bl, t_int, t_non, t_tup, a_nm, a_tp, setSlots, partM, methFor, List.getElem?_cons_zero, List.getElem?_cons_succ, List.set_cons_zero, List.set_cons_succ, Option.some.injEq, exists_eq_left', true_and, and_true, eq_str, decide_eq_true_eq, ↓reduceIte, if_true, if_false, decide_true, decide_false, Bool.false_eq_true, ok_both, ok_case, ok_either, ok_first, ok_give, ok_k, ok_kp, ok_l, ok_left, ok_let, ok_name, ok_never, ok_none, ok_odd, ok_one, ok_other, ok_p, ok_pair, ok_r, ok_right, ok_second, ok_split, ok_star, ok_w, ok_way, ok_within, ok_without, ok_wrong, ok_yes, ok_no, ok_n, ok_led, ok_lr, ok_pp, ok_ppp, List.length_cons, List.length_nil, Nat.zero_add, Int.reduceSub, Int.reduceAdd, Int.reduceNeg, Int.reduceMul, Bool.not_true, Bool.not_false]
    refine ⟨mulOk_l (by omega), (sp_power hf (by omega) (by omega)).imp ?_ fun _ _ _ z => z.elim⟩
    rintro v S3 ⟨rfl, rfl⟩
    exact ⟨_, rfl, by rw [Kd.cnt]; rfl, rfl⟩
  | .way a b, r + 1, S, hk, hr => by
    have hr : max a.dep b.dep + 1 + 1 ≤ r + 1 := hr
    have ca := hk.1.cnt
    have cb := hk.2.cnt
    refine wr_call (ws := [K (.way a b)]) hf.count rfl rfl ?_
    show Ws (execSs (conf T (r + 1)) f_law_count.body [some (K (.way a b)), none, none] S) _ _ _
    simp (config := {decide := true}) only [f_law_count, K, ws_cons, ty_non, ty_bl, ty_int, ty_str, ty_tup, kit_tuple_NoneType, kit_tuple_bool, kit_tuple_int, kit_tuple_str, kit_tuple_tuple, kit_tuple_list, kit_list_NoneType, kit_list_bool, kit_list_int, kit_list_str, kit_list_tuple, kit_list_list, kit_int_NoneType, kit_int_bool, kit_int_int, kit_int_str, kit_int_tuple, kit_int_list, kit_bool_NoneType, kit_bool_bool, kit_bool_int, kit_bool_str, kit_bool_tuple, kit_bool_list, kit_str_NoneType, kit_str_bool, kit_str_int, kit_str_str, kit_str_tuple, kit_str_list, non_int, non_non, non_tup, non_str, non_ref, non_bl, ws_nil, ws_asg, ws_exp, ws_retS, ws_ifs, ws_pass, ws_raise, wr_slot, wr_cst, wr_nil, wr_cons, wr_tup, wr_lst, wr_dsp, wr_bin, wr_neg, ex_int, wr_not, wr_cmp, wr_and, wr_or, wr_ite, wr_isN, wr_notN, wr_ix, wr_sl, wr_prim, wr_lrg, wr_meth, wr_isT, wr_callE, wr_c0, wr_c1, wr_ok, m_lrg, m_addI, m_subI, m_mulI, m_divI, m_modI, m_powI, m_addT, m_addS, m_ltI, m_leI, m_gtI, m_geI, m_eq, m_ne, m_in, m_nin, eq_int, m_ixT, m_ixC, m_ixD, at_0, at_1, at_2, at_3, m_lenT, m_lenC, m_intI, m_intB, m_abs, m_max, m_min, m_tupT, m_listT, m_slT, m_slC, t_bl, t_int, t_non, t_tup, a_nm, a_tp, setSlots, partM, methFor, List.getElem?_cons_zero, List.getElem?_cons_succ, List.set_cons_zero, List.set_cons_succ, Option.some.injEq, exists_eq_left', true_and, and_true, eq_str, decide_eq_true_eq, ↓reduceIte, if_true, if_false, decide_true, decide_false, Bool.false_eq_true, ok_both, ok_case, ok_either, ok_first, ok_give, ok_k, ok_kp, ok_l, ok_left, ok_let, ok_name, ok_never, ok_none, ok_odd, ok_one, ok_other, ok_p, ok_pair, ok_r, ok_right, ok_second, ok_split, ok_star, ok_w, ok_way, ok_within, ok_without, ok_wrong, ok_yes, ok_no, ok_n, ok_led, ok_lr, ok_pp, ok_ppp, List.length_cons, List.length_nil, Nat.zero_add, Int.reduceSub, Int.reduceAdd, Int.reduceNeg, Int.reduceMul, Bool.not_true, Bool.not_false]
    refine (sp_count hf a r S hk.1.sub (by omega)).imp ?_ fun _ _ _ z => z.elim
    rintro v S1 ⟨rfl, rfl⟩
    refine (sp_count hf b r S1 hk.2.sub (by omega)).imp ?_ fun _ _ _ z => z.elim
    rintro v S2 ⟨rfl, rfl⟩
    simp (config := {decide := true}) only [ws_cons, ty_non, ty_bl, ty_int, ty_str, ty_tup, kit_tuple_NoneType, kit_tuple_bool, kit_tuple_int, kit_tuple_str, kit_tuple_tuple, kit_tuple_list, kit_list_NoneType, kit_list_bool, kit_list_int, kit_list_str, kit_list_tuple, kit_list_list, kit_int_NoneType, kit_int_bool, kit_int_int, kit_int_str, kit_int_tuple, kit_int_list, kit_bool_NoneType, kit_bool_bool, kit_bool_int, kit_bool_str, kit_bool_tuple, kit_bool_list, kit_str_NoneType, kit_str_bool, kit_str_int, kit_str_str, kit_str_tuple, kit_str_list, non_int, non_non, non_tup, non_str, non_ref, non_bl, ws_nil, ws_asg, ws_exp, ws_retS, ws_ifs, ws_pass, ws_raise, wr_slot, wr_cst, wr_nil, wr_cons, wr_tup, wr_lst, wr_dsp, wr_bin, wr_neg, ex_int, wr_not, wr_cmp, wr_and, wr_or, wr_ite, wr_isN, wr_notN, wr_ix, wr_sl, wr_prim, wr_lrg, wr_meth, wr_isT, wr_callE, wr_c0, wr_c1, wr_ok, m_lrg, m_addI, m_subI, m_mulI, m_divI, m_modI, m_powI, m_addT, m_addS, m_ltI, m_leI, m_gtI, m_geI, m_eq, m_ne, m_in, m_nin, eq_int, m_ixT, m_ixC, m_ixD, at_0, at_1, at_2, at_3, m_lenT, m_lenC, m_intI, m_intB, m_abs, m_max, m_min, m_tupT, m_listT, m_slT, m_slC, t_bl, t_int, t_non, t_tup, a_nm, a_tp, setSlots, partM, methFor, List.getElem?_cons_zero, List.getElem?_cons_succ, List.set_cons_zero, List.set_cons_succ, Option.some.injEq, exists_eq_left', true_and, and_true, eq_str, decide_eq_true_eq, ↓reduceIte, if_true, if_false, decide_true, decide_false, Bool.false_eq_true, ok_both, ok_case, ok_either, ok_first, ok_give, ok_k, ok_kp, ok_l, ok_left, ok_let, ok_name, ok_never, ok_none, ok_odd, ok_one, ok_other, ok_p, ok_pair, ok_r, ok_right, ok_second, ok_split, ok_star, ok_w, ok_way, ok_within, ok_without, ok_wrong, ok_yes, ok_no, ok_n, ok_led, ok_lr, ok_pp, ok_ppp, List.length_cons, List.length_nil, Nat.zero_add, Int.reduceSub, Int.reduceAdd, Int.reduceNeg, Int.reduceMul, Bool.not_true, Bool.not_false]
    refine ⟨mulOk_l (by omega), (sp_power hf (by omega) (by omega)).imp ?_ fun _ _ _ z => z.elim⟩
    rintro v S3 ⟨rfl, rfl⟩
    exact ⟨_, rfl, by rw [Kd.cnt], rfl⟩
theorem Drawn.trans {d : Nat} {S1 S2 : Store} (a : Drawn d S S1) (b : Drawn d S1 S2) : Drawn d S S2 := ⟨a.1.trans b.1, b.2⟩
theorem Deck.app {d : Nat} {g : List Cell} (h : Deck S d) : Deck (S ++ g) d := by
  obtain ⟨ns, e⟩ := h
  exact ⟨ns, get_app e⟩
theorem Drawn.of_app {d : Nat} {g : List Cell} {S' : Store} (h : Drawn d (S ++ g) S') : Drawn d S S' := ⟨(Kp.refl.app (g := g)).trans h.1, h.2⟩
theorem sp_kind (hf : HasA T) {d : Nat} {m : Nat} (hm : 1 ≤ m) (hm2 : m ≤ 1000) : ∀ (n : Nat) (dp : Int) (r : Nat) (S : Store), dp = n → n + 8 ≤ r → Deck S d →
    Wr (callF T (r + 1) "_law_kind" [.ref d, .int dp, .int (m : Nat)] S) (fun v S' => ∃ k : Kd, v = K k ∧ k.le m ∧ k.dep ≤ n ∧ 1 ≤ k.cnt ∧ Drawn d S S') nE
  | 0, dp, r + 1, S, hdp, hr, hd => by
    have hdp : dp = 0 := by simpa using hdp
    subst hdp
    refine wr_call (ws := [.ref d, .int 0, .int (m : Nat)]) hf.kind rfl rfl ?_
    show Ws (execSs (conf T (r + 1)) f_law_kind.body [some (.ref d), some (.int 0), some (.int (m : Nat)), none, none, none, none] S) _ _ _
    simp (config := {decide := true}) only [f_law_kind, ws_cons, ty_non, ty_bl, ty_int, ty_str, ty_tup, kit_tuple_NoneType, kit_tuple_bool, kit_tuple_int, kit_tuple_str, kit_tuple_tuple, kit_tuple_list, kit_list_NoneType, kit_list_bool, kit_list_int, kit_list_str, kit_list_tuple, kit_list_list, kit_int_NoneType, kit_int_bool, kit_int_int, kit_int_str, kit_int_tuple, kit_int_list, kit_bool_NoneType, kit_bool_bool, kit_bool_int, kit_bool_str, kit_bool_tuple, kit_bool_list, kit_str_NoneType, kit_str_bool, kit_str_int, kit_str_str, kit_str_tuple, kit_str_list, non_int, non_non, non_tup, non_str, non_ref, non_bl, ws_nil, ws_asg, ws_exp, ws_retS, ws_ifs, ws_pass, ws_raise, wr_slot, wr_cst, wr_nil, wr_cons, wr_tup, wr_lst, wr_dsp, wr_bin, wr_neg, ex_int, wr_not, wr_cmp, wr_and, wr_or, wr_ite, wr_isN, wr_notN, wr_ix, wr_sl, wr_prim, wr_lrg, wr_meth, wr_isT, wr_callE, wr_c0, wr_c1, wr_ok, m_lrg, m_addI, m_subI, m_mulI, m_divI, m_modI, m_powI, m_addT, m_addS, m_ltI, m_leI, m_gtI, m_geI, m_eq, m_ne, m_in, m_nin, eq_int, m_ixT, m_ixC, m_ixD, at_0, at_1, at_2, at_3, m_lenT, m_lenC, m_intI, m_intB, m_abs, m_max, m_min, m_tupT, m_listT, m_slT, m_slC, t_bl, t_int, t_non, t_tup, a_nm, a_tp, setSlots, partM, methFor, List.getElem?_cons_zero, List.getElem?_cons_succ, List.set_cons_zero, List.set_cons_succ, Option.some.injEq, exists_eq_left', true_and, and_true, eq_str, decide_eq_true_eq, ↓reduceIte, if_true, if_false, decide_true, decide_false, Bool.false_eq_true, ok_both, ok_case, ok_either, ok_first, ok_give, ok_k, ok_kp, ok_l, ok_left, ok_let, ok_name, ok_never, ok_none, ok_odd, ok_one, ok_other, ok_p, ok_pair, ok_r, ok_right, ok_second, ok_split, ok_star, ok_w, ok_way, ok_within, ok_without, ok_wrong, ok_yes, ok_no, ok_n, ok_led, ok_lr, ok_pp, ok_ppp, List.length_cons, List.length_nil, Nat.zero_add, Int.reduceSub, Int.reduceAdd, Int.reduceNeg, Int.reduceMul, Bool.not_true, Bool.not_false]
    rw [m_ixL get_new]
    try simp (config := {decide := true}) only [ws_cons, ty_non, ty_bl, ty_int, ty_str, ty_tup, kit_tuple_NoneType, kit_tuple_bool, kit_tuple_int, kit_tuple_str, kit_tuple_tuple, kit_tuple_list, kit_list_NoneType, kit_list_bool, kit_list_int, kit_list_str, kit_list_tuple, kit_list_list, kit_int_NoneType, kit_int_bool, kit_int_int, kit_int_str, kit_int_tuple, kit_int_list, kit_bool_NoneType, kit_bool_bool, kit_bool_int, kit_bool_str, kit_bool_tuple, kit_bool_list, kit_str_NoneType, kit_str_bool, kit_str_int, kit_str_str, kit_str_tuple, kit_str_list, non_int, non_non, non_tup, non_str, non_ref, non_bl, ws_nil, ws_asg, ws_exp, ws_retS, ws_ifs, ws_pass, ws_raise, wr_slot, wr_cst, wr_nil, wr_cons, wr_tup, wr_lst, wr_dsp, wr_bin, wr_neg, ex_int, wr_not, wr_cmp, wr_and, wr_or, wr_ite, wr_isN, wr_notN, wr_ix, wr_sl, wr_prim, wr_lrg, wr_meth, wr_isT, wr_callE, wr_c0, wr_c1, wr_ok, m_lrg, m_addI, m_subI, m_mulI, m_divI, m_modI, m_powI, m_addT, m_addS, m_ltI, m_leI, m_gtI, m_geI, m_eq, m_ne, m_in, m_nin, eq_int, m_ixT, m_ixC, m_ixD, at_0, at_1, at_2, at_3, m_lenT, m_lenC, m_intI, m_intB, m_abs, m_max, m_min, m_tupT, m_listT, m_slT, m_slC, t_bl, t_int, t_non, t_tup, a_nm, a_tp, setSlots, partM, methFor, List.getElem?_cons_zero, List.getElem?_cons_succ, List.set_cons_zero, List.set_cons_succ, Option.some.injEq, exists_eq_left', true_and, and_true, eq_str, decide_eq_true_eq, ↓reduceIte, if_true, if_false, decide_true, decide_false, Bool.false_eq_true, ok_both, ok_case, ok_either, ok_first, ok_give, ok_k, ok_kp, ok_l, ok_left, ok_let, ok_name, ok_never, ok_none, ok_odd, ok_one, ok_other, ok_p, ok_pair, ok_r, ok_right, ok_second, ok_split, ok_star, ok_w, ok_way, ok_within, ok_without, ok_wrong, ok_yes, ok_no, ok_n, ok_led, ok_lr, ok_pp, ok_ppp, List.length_cons, List.length_nil, Nat.zero_add, Int.reduceSub, Int.reduceAdd, Int.reduceNeg, Int.reduceMul, Bool.not_true, Bool.not_false]
    refine (sp_next hf hd.app (by decide)).imp ?_ fun _ _ _ z => z.elim
    rintro v S1 ⟨i, rfl, h1, h2, hd1⟩
    have hi : i = 0 := by omega
    subst hi
    try simp (config := {decide := true}) only [ws_cons, ty_non, ty_bl, ty_int, ty_str, ty_tup, kit_tuple_NoneType, kit_tuple_bool, kit_tuple_int, kit_tuple_str, kit_tuple_tuple, kit_tuple_list, kit_list_NoneType, kit_list_bool, kit_list_int, kit_list_str, kit_list_tuple, kit_list_list, kit_int_NoneType, kit_int_bool, kit_int_int, kit_int_str, kit_int_tuple, kit_int_list, kit_bool_NoneType, kit_bool_bool, kit_bool_int, kit_bool_str, kit_bool_tuple, kit_bool_list, kit_str_NoneType, kit_str_bool, kit_str_int, kit_str_str, kit_str_tuple, kit_str_list, non_int, non_non, non_tup, non_str, non_ref, non_bl, ws_nil, ws_asg, ws_exp, ws_retS, ws_ifs, ws_pass, ws_raise, wr_slot, wr_cst, wr_nil, wr_cons, wr_tup, wr_lst, wr_dsp, wr_bin, wr_neg, ex_int, wr_not, wr_cmp, wr_and, wr_or, wr_ite, wr_isN, wr_notN, wr_ix, wr_sl, wr_prim, wr_lrg, wr_meth, wr_isT, wr_callE, wr_c0, wr_c1, wr_ok, m_lrg, m_addI, m_subI, m_mulI, m_divI, m_modI, m_powI, m_addT, m_addS, m_ltI, m_leI, m_gtI, m_geI, m_eq, m_ne, m_in, m_nin, eq_int, m_ixT, m_ixC, m_ixD, at_0, at_1, at_2, at_3, m_lenT, m_lenC, m_intI, m_intB, m_abs, m_max, m_min, m_tupT, m_listT, m_slT, m_slC, t_bl, t_int, t_non, t_tup, a_nm, a_tp, setSlots, partM, methFor, List.getElem?_cons_zero, List.getElem?_cons_succ, List.set_cons_zero, List.set_cons_succ, Option.some.injEq, exists_eq_left', true_and, and_true, eq_str, decide_eq_true_eq, ↓reduceIte, if_true, if_false, decide_true, decide_false, Bool.false_eq_true, ok_both, ok_case, ok_either, ok_first, ok_give, ok_k, ok_kp, ok_l, ok_left, ok_let, ok_name, ok_never, ok_none, ok_odd, ok_one, ok_other, ok_p, ok_pair, ok_r, ok_right, ok_second, ok_split, ok_star, ok_w, ok_way, ok_within, ok_without, ok_wrong, ok_yes, ok_no, ok_n, ok_led, ok_lr, ok_pp, ok_ppp, List.length_cons, List.length_nil, Nat.zero_add, Int.reduceSub, Int.reduceAdd, Int.reduceNeg, Int.reduceMul, Bool.not_true, Bool.not_false]
    rw [m_ixL get_new]
    try simp (config := {decide := true}) only [ws_cons, ty_non, ty_bl, ty_int, ty_str, ty_tup, kit_tuple_NoneType, kit_tuple_bool, kit_tuple_int, kit_tuple_str, kit_tuple_tuple, kit_tuple_list, kit_list_NoneType, kit_list_bool, kit_list_int, kit_list_str, kit_list_tuple, kit_list_list, kit_int_NoneType, kit_int_bool, kit_int_int, kit_int_str, kit_int_tuple, kit_int_list, kit_bool_NoneType, kit_bool_bool, kit_bool_int, kit_bool_str, kit_bool_tuple, kit_bool_list, kit_str_NoneType, kit_str_bool, kit_str_int, kit_str_str, kit_str_tuple, kit_str_list, non_int, non_non, non_tup, non_str, non_ref, non_bl, ws_nil, ws_asg, ws_exp, ws_retS, ws_ifs, ws_pass, ws_raise, wr_slot, wr_cst, wr_nil, wr_cons, wr_tup, wr_lst, wr_dsp, wr_bin, wr_neg, ex_int, wr_not, wr_cmp, wr_and, wr_or, wr_ite, wr_isN, wr_notN, wr_ix, wr_sl, wr_prim, wr_lrg, wr_meth, wr_isT, wr_callE, wr_c0, wr_c1, wr_ok, m_lrg, m_addI, m_subI, m_mulI, m_divI, m_modI, m_powI, m_addT, m_addS, m_ltI, m_leI, m_gtI, m_geI, m_eq, m_ne, m_in, m_nin, eq_int, m_ixT, m_ixC, m_ixD, at_0, at_1, at_2, at_3, m_lenT, m_lenC, m_intI, m_intB, m_abs, m_max, m_min, m_tupT, m_listT, m_slT, m_slC, t_bl, t_int, t_non, t_tup, a_nm, a_tp, setSlots, partM, methFor, List.getElem?_cons_zero, List.getElem?_cons_succ, List.set_cons_zero, List.set_cons_succ, Option.some.injEq, exists_eq_left', true_and, and_true, eq_str, decide_eq_true_eq, ↓reduceIte, if_true, if_false, decide_true, decide_false, Bool.false_eq_true, ok_both, ok_case, ok_either, ok_first, ok_give, ok_k, ok_kp, ok_l, ok_left, ok_let, ok_name, ok_never, ok_none, ok_odd, ok_one, ok_other, ok_p, ok_pair, ok_r, ok_right, ok_second, ok_split, ok_star, ok_w, ok_way, ok_within, ok_without, ok_wrong, ok_yes, ok_no, ok_n, ok_led, ok_lr, ok_pp, ok_ppp, List.length_cons, List.length_nil, Nat.zero_add, Int.reduceSub, Int.reduceAdd, Int.reduceNeg, Int.reduceMul, Bool.not_true, Bool.not_false]
    exact ⟨.one, rfl, hm, Nat.le_refl _, Nat.le_refl _, hd1.of_app.1.app, hd1.2.app⟩
  | n + 1, dp, r + 1, S, hdp, hr, hd => by
    have hp : (0 : Int) < dp := by omega
    refine wr_call (ws := [.ref d, .int dp, .int (m : Nat)]) hf.kind rfl rfl ?_
    show Ws (execSs (conf T (r + 1)) f_law_kind.body [some (.ref d), some (.int dp), some (.int (m : Nat)), none, none, none, none] S) _ _ _
    simp (config := {decide := true}) only [f_law_kind, ws_cons, ty_non, ty_bl, ty_int, ty_str, ty_tup, kit_tuple_NoneType, kit_tuple_bool, kit_tuple_int, kit_tuple_str, kit_tuple_tuple, kit_tuple_list, kit_list_NoneType, kit_list_bool, kit_list_int, kit_list_str, kit_list_tuple, kit_list_list, kit_int_NoneType, kit_int_bool, kit_int_int, kit_int_str, kit_int_tuple, kit_int_list, kit_bool_NoneType, kit_bool_bool, kit_bool_int, kit_bool_str, kit_bool_tuple, kit_bool_list, kit_str_NoneType, kit_str_bool, kit_str_int, kit_str_str, kit_str_tuple, kit_str_list, non_int, non_non, non_tup, non_str, non_ref, non_bl, ws_nil, ws_asg, ws_exp, ws_retS, ws_ifs, ws_pass, ws_raise, wr_slot, wr_cst, wr_nil, wr_cons, wr_tup, wr_lst, wr_dsp, wr_bin, wr_neg, ex_int, wr_not, wr_cmp, wr_and, wr_or, wr_ite, wr_isN, wr_notN, wr_ix, wr_sl, wr_prim, wr_lrg, wr_meth, wr_isT, wr_callE, wr_c0, wr_c1, wr_ok, m_lrg, m_addI, m_subI, m_mulI, m_divI, m_modI, m_powI, m_addT, m_addS, m_ltI, m_leI, m_gtI, m_geI, m_eq, m_ne, m_in, m_nin, eq_int, m_ixT, m_ixC, m_ixD, at_0, at_1, at_2, at_3, m_lenT, m_lenC, m_intI, m_intB, m_abs, m_max, m_min, m_tupT, m_listT, m_slT, m_slC, t_bl, t_int, t_non, t_tup, a_nm, a_tp, setSlots, partM, methFor, List.getElem?_cons_zero, List.getElem?_cons_succ, List.set_cons_zero, List.set_cons_succ, Option.some.injEq, exists_eq_left', true_and, and_true, eq_str, decide_eq_true_eq, ↓reduceIte, if_true, if_false, decide_true, decide_false, Bool.false_eq_true, ok_both, ok_case, ok_either, ok_first, ok_give, ok_k, ok_kp, ok_l, ok_left, ok_let, ok_name, ok_never, ok_none, ok_odd, ok_one, ok_other, ok_p, ok_pair, ok_r, ok_right, ok_second, ok_split, ok_star, ok_w, ok_way, ok_within, ok_without, ok_wrong, ok_yes, ok_no, ok_n, ok_led, ok_lr, ok_pp, ok_ppp, List.length_cons, List.length_nil, Nat.zero_add, Int.reduceSub, Int.reduceAdd, Int.reduceNeg, Int.reduceMul, Bool.not_true, Bool.not_false]
    rw [m_ixL get_new]
    simp (config := {decide := true}) only [ws_cons, ty_non, ty_bl, ty_int, ty_str, ty_tup, kit_tuple_NoneType, kit_tuple_bool, kit_tuple_int, kit_tuple_str, kit_tuple_tuple, kit_tuple_list, kit_list_NoneType, kit_list_bool, kit_list_int, kit_list_str, kit_list_tuple, kit_list_list, kit_int_NoneType, kit_int_bool, kit_int_int, kit_int_str, kit_int_tuple, kit_int_list, kit_bool_NoneType, kit_bool_bool, kit_bool_int, kit_bool_str, kit_bool_tuple, kit_bool_list, kit_str_NoneType, kit_str_bool, kit_str_int, kit_str_str, kit_str_tuple, kit_str_list, non_int, non_non, non_tup, non_str, non_ref, non_bl, ws_nil, ws_asg, ws_exp, ws_retS, ws_ifs, ws_pass, ws_raise, wr_slot, wr_cst, wr_nil, wr_cons, wr_tup, wr_lst, wr_dsp, wr_bin, wr_neg, ex_int, wr_not, wr_cmp, wr_and, wr_or, wr_ite, wr_isN, wr_notN, wr_ix, wr_sl, wr_prim, wr_lrg, wr_meth, wr_isT, wr_callE, wr_c0, wr_c1, wr_ok, m_lrg, m_addI, m_subI, m_mulI, m_divI, m_modI, m_powI, m_addT, m_addS, m_ltI, m_leI, m_gtI, m_geI, m_eq, m_ne, m_in, m_nin, eq_int, m_ixT, m_ixC, m_ixD, at_0, at_1, at_2, at_3, m_lenT, m_lenC, m_intI, m_intB, m_abs, m_max, m_min, m_tupT, m_listT, m_slT, m_slC, t_bl, t_int, t_non, t_tup, a_nm, a_tp, setSlots, partM, methFor, List.getElem?_cons_zero, List.getElem?_cons_succ, List.set_cons_zero, List.set_cons_succ, Option.some.injEq, exists_eq_left', true_and, and_true, eq_str, decide_eq_true_eq, ↓reduceIte, if_true, if_false, decide_true, decide_false, Bool.false_eq_true, ok_both, ok_case, ok_either, ok_first, ok_give, ok_k, ok_kp, ok_l, ok_left, ok_let, ok_name, ok_never, ok_none, ok_odd, ok_one, ok_other, ok_p, ok_pair, ok_r, ok_right, ok_second, ok_split, ok_star, ok_w, ok_way, ok_within, ok_without, ok_wrong, ok_yes, ok_no, ok_n, ok_led, ok_lr, ok_pp, ok_ppp, List.length_cons, List.length_nil, Nat.zero_add, Int.reduceSub, Int.reduceAdd, Int.reduceNeg, Int.reduceMul, Bool.not_true, Bool.not_false, hp]
    refine (sp_next hf hd.app (by decide)).imp ?_ fun _ _ _ z => z.elim
    rintro v S1 ⟨i, rfl, h1, h2, hd1⟩
    have ih := sp_kind hf (d := d) hm hm2 n (dp - 1) r
    have hi : i = 0 ∨ i = 5 ∨ i = 1 ∨ i = 2 ∨ i = 3 ∨ i = 4 := by omega
    rcases hi with rfl | rfl | rfl | rfl | rfl | rfl
    · try simp (config := {decide := true}) only [ws_cons, ty_non, ty_bl, ty_int, ty_str, ty_tup, kit_tuple_NoneType, kit_tuple_bool, kit_tuple_int, kit_tuple_str, kit_tuple_tuple, kit_tuple_list, kit_list_NoneType, kit_list_bool, kit_list_int, kit_list_str, kit_list_tuple, kit_list_list, kit_int_NoneType, kit_int_bool, kit_int_int, kit_int_str, kit_int_tuple, kit_int_list, kit_bool_NoneType, kit_bool_bool, kit_bool_int, kit_bool_str, kit_bool_tuple, kit_bool_list, kit_str_NoneType, kit_str_bool, kit_str_int, kit_str_str, kit_str_tuple, kit_str_list, non_int, non_non, non_tup, non_str, non_ref, non_bl, ws_nil, ws_asg, ws_exp, ws_retS, ws_ifs, ws_pass, ws_raise, wr_slot, wr_cst, wr_nil, wr_cons, wr_tup, wr_lst, wr_dsp, wr_bin, wr_neg, ex_int, wr_not, wr_cmp, wr_and, wr_or, wr_ite, wr_isN, wr_notN, wr_ix, wr_sl, wr_prim, wr_lrg, wr_meth, wr_isT, wr_callE, wr_c0, wr_c1, wr_ok, m_lrg, m_addI, m_subI, m_mulI, m_divI, m_modI, m_powI, m_addT, m_addS, m_ltI, m_leI, m_gtI, m_geI, m_eq, m_ne, m_in, m_nin, eq_int, m_ixT, m_ixC, m_ixD, at_0, at_1, at_2, at_3, m_lenT, m_lenC, m_intI, m_intB, m_abs, m_max, m_min, m_tupT, m_listT, m_slT, m_slC, t_bl, t_int, t_non, t_tup, a_nm, a_tp, setSlots, partM, methFor, List.getElem?_cons_zero, List.getElem?_cons_succ, List.set_cons_zero, List.set_cons_succ, Option.some.injEq, exists_eq_left', true_and, and_true, eq_str, decide_eq_true_eq, ↓reduceIte, if_true, if_false, decide_true, decide_false, Bool.false_eq_true, ok_both, ok_case, ok_either, ok_first, ok_give, ok_k, ok_kp, ok_l, ok_left, ok_let, ok_name, ok_never, ok_none, ok_odd, ok_one, ok_other, ok_p, ok_pair, ok_r, ok_right, ok_second, ok_split, ok_star, ok_w, ok_way, ok_within, ok_without, ok_wrong, ok_yes, ok_no, ok_n, ok_led, ok_lr, ok_pp, ok_ppp, List.length_cons, List.length_nil, Nat.zero_add, Int.reduceSub, Int.reduceAdd, Int.reduceNeg, Int.reduceMul, Bool.not_true, Bool.not_false]
      rw [m_ixL get_new]
      try simp (config := {decide := true}) only [ws_cons, ty_non, ty_bl, ty_int, ty_str, ty_tup, kit_tuple_NoneType, kit_tuple_bool, kit_tuple_int, kit_tuple_str, kit_tuple_tuple, kit_tuple_list, kit_list_NoneType, kit_list_bool, kit_list_int, kit_list_str, kit_list_tuple, kit_list_list, kit_int_NoneType, kit_int_bool, kit_int_int, kit_int_str, kit_int_tuple, kit_int_list, kit_bool_NoneType, kit_bool_bool, kit_bool_int, kit_bool_str, kit_bool_tuple, kit_bool_list, kit_str_NoneType, kit_str_bool, kit_str_int, kit_str_str, kit_str_tuple, kit_str_list, non_int, non_non, non_tup, non_str, non_ref, non_bl, ws_nil, ws_asg, ws_exp, ws_retS, ws_ifs, ws_pass, ws_raise, wr_slot, wr_cst, wr_nil, wr_cons, wr_tup, wr_lst, wr_dsp, wr_bin, wr_neg, ex_int, wr_not, wr_cmp, wr_and, wr_or, wr_ite, wr_isN, wr_notN, wr_ix, wr_sl, wr_prim, wr_lrg, wr_meth, wr_isT, wr_callE, wr_c0, wr_c1, wr_ok, m_lrg, m_addI, m_subI, m_mulI, m_divI, m_modI, m_powI, m_addT, m_addS, m_ltI, m_leI, m_gtI, m_geI, m_eq, m_ne, m_in, m_nin, eq_int, m_ixT, m_ixC, m_ixD, at_0, at_1, at_2, at_3, m_lenT, m_lenC, m_intI, m_intB, m_abs, m_max, m_min, m_tupT, m_listT, m_slT, m_slC, t_bl, t_int, t_non, t_tup, a_nm, a_tp, setSlots, partM, methFor, List.getElem?_cons_zero, List.getElem?_cons_succ, List.set_cons_zero, List.set_cons_succ, Option.some.injEq, exists_eq_left', true_and, and_true, eq_str, decide_eq_true_eq, ↓reduceIte, if_true, if_false, decide_true, decide_false, Bool.false_eq_true, ok_both, ok_case, ok_either, ok_first, ok_give, ok_k, ok_kp, ok_l, ok_left, ok_let, ok_name, ok_never, ok_none, ok_odd, ok_one, ok_other, ok_p, ok_pair, ok_r, ok_right, ok_second, ok_split, ok_star, ok_w, ok_way, ok_within, ok_without, ok_wrong, ok_yes, ok_no, ok_n, ok_led, ok_lr, ok_pp, ok_ppp, List.length_cons, List.length_nil, Nat.zero_add, Int.reduceSub, Int.reduceAdd, Int.reduceNeg, Int.reduceMul, Bool.not_true, Bool.not_false]
      exact ⟨.one, rfl, hm, Nat.zero_le _, Nat.le_refl _, hd1.of_app.1.app, hd1.2.app⟩
    · try simp (config := {decide := true}) only [ws_cons, ty_non, ty_bl, ty_int, ty_str, ty_tup, kit_tuple_NoneType, kit_tuple_bool, kit_tuple_int, kit_tuple_str, kit_tuple_tuple, kit_tuple_list, kit_list_NoneType, kit_list_bool, kit_list_int, kit_list_str, kit_list_tuple, kit_list_list, kit_int_NoneType, kit_int_bool, kit_int_int, kit_int_str, kit_int_tuple, kit_int_list, kit_bool_NoneType, kit_bool_bool, kit_bool_int, kit_bool_str, kit_bool_tuple, kit_bool_list, kit_str_NoneType, kit_str_bool, kit_str_int, kit_str_str, kit_str_tuple, kit_str_list, non_int, non_non, non_tup, non_str, non_ref, non_bl, ws_nil, ws_asg, ws_exp, ws_retS, ws_ifs, ws_pass, ws_raise, wr_slot, wr_cst, wr_nil, wr_cons, wr_tup, wr_lst, wr_dsp, wr_bin, wr_neg, ex_int, wr_not, wr_cmp, wr_and, wr_or, wr_ite, wr_isN, wr_notN, wr_ix, wr_sl, wr_prim, wr_lrg, wr_meth, wr_isT, wr_callE, wr_c0, wr_c1, wr_ok, m_lrg, m_addI, m_subI, m_mulI, m_divI, m_modI, m_powI, m_addT, m_addS, m_ltI, m_leI, m_gtI, m_geI, m_eq, m_ne, m_in, m_nin, eq_int, m_ixT, m_ixC, m_ixD, at_0, at_1, at_2, at_3, m_lenT, m_lenC, m_intI, m_intB, m_abs, m_max, m_min, m_tupT, m_listT, m_slT, m_slC, t_bl, t_int, t_non, t_tup, a_nm, a_tp, setSlots, partM, methFor, List.getElem?_cons_zero, List.getElem?_cons_succ, List.set_cons_zero, List.set_cons_succ, Option.some.injEq, exists_eq_left', true_and, and_true, eq_str, decide_eq_true_eq, ↓reduceIte, if_true, if_false, decide_true, decide_false, Bool.false_eq_true, ok_both, ok_case, ok_either, ok_first, ok_give, ok_k, ok_kp, ok_l, ok_left, ok_let, ok_name, ok_never, ok_none, ok_odd, ok_one, ok_other, ok_p, ok_pair, ok_r, ok_right, ok_second, ok_split, ok_star, ok_w, ok_way, ok_within, ok_without, ok_wrong, ok_yes, ok_no, ok_n, ok_led, ok_lr, ok_pp, ok_ppp, List.length_cons, List.length_nil, Nat.zero_add, Int.reduceSub, Int.reduceAdd, Int.reduceNeg, Int.reduceMul, Bool.not_true, Bool.not_false]
      rw [m_ixL get_new]
      by_cases h1m : (1 : Int) < (m : Int)
      · simp (config := {decide := true}) only [ws_cons, ty_non, ty_bl, ty_int, ty_str, ty_tup, kit_tuple_NoneType, kit_tuple_bool, kit_tuple_int, kit_tuple_str, kit_tuple_tuple, kit_tuple_list, kit_list_NoneType, kit_list_bool, kit_list_int, kit_list_str, kit_list_tuple, kit_list_list, kit_int_NoneType, kit_int_bool, kit_int_int, kit_int_str, kit_int_tuple, kit_int_list, kit_bool_NoneType, kit_bool_bool, kit_bool_int, kit_bool_str, kit_bool_tuple, kit_bool_list, kit_str_NoneType, kit_str_bool, kit_str_int, kit_str_str, kit_str_tuple, kit_str_list, non_int, non_non, non_tup, non_str, non_ref, non_bl, ws_nil, ws_asg, ws_exp, ws_retS, ws_ifs, ws_pass, ws_raise, wr_slot, wr_cst, wr_nil, wr_cons, wr_tup, wr_lst, wr_dsp, wr_bin, wr_neg, ex_int, wr_not, wr_cmp, wr_and, wr_or, wr_ite, wr_isN, wr_notN, wr_ix, wr_sl, wr_prim, wr_lrg, wr_meth, wr_isT, wr_callE, wr_c0, wr_c1, wr_ok, m_lrg, m_addI, m_subI, m_mulI, m_divI, m_modI, m_powI, m_addT, m_addS, m_ltI, m_leI, m_gtI, m_geI, m_eq, m_ne, m_in, m_nin, eq_int, m_ixT, m_ixC, m_ixD, at_0, at_1, at_2, at_3, m_lenT, m_lenC, m_intI, m_intB, m_abs, m_max, m_min, m_tupT, m_listT, m_slT, m_slC, t_bl, t_int, t_non, t_tup, a_nm, a_tp, setSlots, partM, methFor, List.getElem?_cons_zero, List.getElem?_cons_succ, List.set_cons_zero, List.set_cons_succ, Option.some.injEq, exists_eq_left', true_and, and_true, eq_str, decide_eq_true_eq, ↓reduceIte, if_true, if_false, decide_true, decide_false, Bool.false_eq_true, ok_both, ok_case, ok_either, ok_first, ok_give, ok_k, ok_kp, ok_l, ok_left, ok_let, ok_name, ok_never, ok_none, ok_odd, ok_one, ok_other, ok_p, ok_pair, ok_r, ok_right, ok_second, ok_split, ok_star, ok_w, ok_way, ok_within, ok_without, ok_wrong, ok_yes, ok_no, ok_n, ok_led, ok_lr, ok_pp, ok_ppp, List.length_cons, List.length_nil, Nat.zero_add, Int.reduceSub, Int.reduceAdd, Int.reduceNeg, Int.reduceMul, Bool.not_true, Bool.not_false, h1m]
        exact ⟨.either .one .one, rfl, ⟨by show 1 + 1 ≤ m; omega, hm, hm⟩, by show 0 + 1 ≤ n + 1; omega, by show 1 ≤ 1 + 1; omega, hd1.of_app.1.app, hd1.2.app⟩
      · simp (config := {decide := true}) only [ws_cons, ty_non, ty_bl, ty_int, ty_str, ty_tup, kit_tuple_NoneType, kit_tuple_bool, kit_tuple_int, kit_tuple_str, kit_tuple_tuple, kit_tuple_list, kit_list_NoneType, kit_list_bool, kit_list_int, kit_list_str, kit_list_tuple, kit_list_list, kit_int_NoneType, kit_int_bool, kit_int_int, kit_int_str, kit_int_tuple, kit_int_list, kit_bool_NoneType, kit_bool_bool, kit_bool_int, kit_bool_str, kit_bool_tuple, kit_bool_list, kit_str_NoneType, kit_str_bool, kit_str_int, kit_str_str, kit_str_tuple, kit_str_list, non_int, non_non, non_tup, non_str, non_ref, non_bl, ws_nil, ws_asg, ws_exp, ws_retS, ws_ifs, ws_pass, ws_raise, wr_slot, wr_cst, wr_nil, wr_cons, wr_tup, wr_lst, wr_dsp, wr_bin, wr_neg, ex_int, wr_not, wr_cmp, wr_and, wr_or, wr_ite, wr_isN, wr_notN, wr_ix, wr_sl, wr_prim, wr_lrg, wr_meth, wr_isT, wr_callE, wr_c0, wr_c1, wr_ok, m_lrg, m_addI, m_subI, m_mulI, m_divI, m_modI, m_powI, m_addT, m_addS, m_ltI, m_leI, m_gtI, m_geI, m_eq, m_ne, m_in, m_nin, eq_int, m_ixT, m_ixC, m_ixD, at_0, at_1, at_2, at_3, m_lenT, m_lenC, m_intI, m_intB, m_abs, m_max, m_min, m_tupT, m_listT, m_slT, m_slC, t_bl, t_int, t_non, t_tup, a_nm, a_tp, setSlots, partM, methFor, List.getElem?_cons_zero, List.getElem?_cons_succ, List.set_cons_zero, List.set_cons_succ, Option.some.injEq, exists_eq_left', true_and, and_true, eq_str, decide_eq_true_eq, ↓reduceIte, if_true, if_false, decide_true, decide_false, Bool.false_eq_true, ok_both, ok_case, ok_either, ok_first, ok_give, ok_k, ok_kp, ok_l, ok_left, ok_let, ok_name, ok_never, ok_none, ok_odd, ok_one, ok_other, ok_p, ok_pair, ok_r, ok_right, ok_second, ok_split, ok_star, ok_w, ok_way, ok_within, ok_without, ok_wrong, ok_yes, ok_no, ok_n, ok_led, ok_lr, ok_pp, ok_ppp, List.length_cons, List.length_nil, Nat.zero_add, Int.reduceSub, Int.reduceAdd, Int.reduceNeg, Int.reduceMul, Bool.not_true, Bool.not_false, h1m]
        exact ⟨.one, rfl, hm, Nat.zero_le _, Nat.le_refl _, hd1.of_app.1.app, hd1.2.app⟩
    · try simp (config := {decide := true}) only [ws_cons, ty_non, ty_bl, ty_int, ty_str, ty_tup, kit_tuple_NoneType, kit_tuple_bool, kit_tuple_int, kit_tuple_str, kit_tuple_tuple, kit_tuple_list, kit_list_NoneType, kit_list_bool, kit_list_int, kit_list_str, kit_list_tuple, kit_list_list, kit_int_NoneType, kit_int_bool, kit_int_int, kit_int_str, kit_int_tuple, kit_int_list, kit_bool_NoneType, kit_bool_bool, kit_bool_int, kit_bool_str, kit_bool_tuple, kit_bool_list, kit_str_NoneType, kit_str_bool, kit_str_int, kit_str_str, kit_str_tuple, kit_str_list, non_int, non_non, non_tup, non_str, non_ref, non_bl, ws_nil, ws_asg, ws_exp, ws_retS, ws_ifs, ws_pass, ws_raise, wr_slot, wr_cst, wr_nil, wr_cons, wr_tup, wr_lst, wr_dsp, wr_bin, wr_neg, ex_int, wr_not, wr_cmp, wr_and, wr_or, wr_ite, wr_isN, wr_notN, wr_ix, wr_sl, wr_prim, wr_lrg, wr_meth, wr_isT, wr_callE, wr_c0, wr_c1, wr_ok, m_lrg, m_addI, m_subI, m_mulI, m_divI, m_modI, m_powI, m_addT, m_addS, m_ltI, m_leI, m_gtI, m_geI, m_eq, m_ne, m_in, m_nin, eq_int, m_ixT, m_ixC, m_ixD, at_0, at_1, at_2, at_3, m_lenT, m_lenC, m_intI, m_intB, m_abs, m_max, m_min, m_tupT, m_listT, m_slT, m_slC, t_bl, t_int, t_non, t_tup, a_nm, a_tp, setSlots, partM, methFor, List.getElem?_cons_zero, List.getElem?_cons_succ, List.set_cons_zero, List.set_cons_succ, Option.some.injEq, exists_eq_left', true_and, and_true, eq_str, decide_eq_true_eq, ↓reduceIte, if_true, if_false, decide_true, decide_false, Bool.false_eq_true, ok_both, ok_case, ok_either, ok_first, ok_give, ok_k, ok_kp, ok_l, ok_left, ok_let, ok_name, ok_never, ok_none, ok_odd, ok_one, ok_other, ok_p, ok_pair, ok_r, ok_right, ok_second, ok_split, ok_star, ok_w, ok_way, ok_within, ok_without, ok_wrong, ok_yes, ok_no, ok_n, ok_led, ok_lr, ok_pp, ok_ppp, List.length_cons, List.length_nil, Nat.zero_add, Int.reduceSub, Int.reduceAdd, Int.reduceNeg, Int.reduceMul, Bool.not_true, Bool.not_false]
      rw [m_ixL get_new]
      try simp (config := {decide := true}) only [ws_cons, ty_non, ty_bl, ty_int, ty_str, ty_tup, kit_tuple_NoneType, kit_tuple_bool, kit_tuple_int, kit_tuple_str, kit_tuple_tuple, kit_tuple_list, kit_list_NoneType, kit_list_bool, kit_list_int, kit_list_str, kit_list_tuple, kit_list_list, kit_int_NoneType, kit_int_bool, kit_int_int, kit_int_str, kit_int_tuple, kit_int_list, kit_bool_NoneType, kit_bool_bool, kit_bool_int, kit_bool_str, kit_bool_tuple, kit_bool_list, kit_str_NoneType, kit_str_bool, kit_str_int, kit_str_str, kit_str_tuple, kit_str_list, non_int, non_non, non_tup, non_str, non_ref, non_bl, ws_nil, ws_asg, ws_exp, ws_retS, ws_ifs, ws_pass, ws_raise, wr_slot, wr_cst, wr_nil, wr_cons, wr_tup, wr_lst, wr_dsp, wr_bin, wr_neg, ex_int, wr_not, wr_cmp, wr_and, wr_or, wr_ite, wr_isN, wr_notN, wr_ix, wr_sl, wr_prim, wr_lrg, wr_meth, wr_isT, wr_callE, wr_c0, wr_c1, wr_ok, m_lrg, m_addI, m_subI, m_mulI, m_divI, m_modI, m_powI, m_addT, m_addS, m_ltI, m_leI, m_gtI, m_geI, m_eq, m_ne, m_in, m_nin, eq_int, m_ixT, m_ixC, m_ixD, at_0, at_1, at_2, at_3, m_lenT, m_lenC, m_intI, m_intB, m_abs, m_max, m_min, m_tupT, m_listT, m_slT, m_slC, t_bl, t_int, t_non, t_tup, a_nm, a_tp, setSlots, partM, methFor, List.getElem?_cons_zero, List.getElem?_cons_succ, List.set_cons_zero, List.set_cons_succ, Option.some.injEq, exists_eq_left', true_and, and_true, eq_str, decide_eq_true_eq, ↓reduceIte, if_true, if_false, decide_true, decide_false, Bool.false_eq_true, ok_both, ok_case, ok_either, ok_first, ok_give, ok_k, ok_kp, ok_l, ok_left, ok_let, ok_name, ok_never, ok_none, ok_odd, ok_one, ok_other, ok_p, ok_pair, ok_r, ok_right, ok_second, ok_split, ok_star, ok_w, ok_way, ok_within, ok_without, ok_wrong, ok_yes, ok_no, ok_n, ok_led, ok_lr, ok_pp, ok_ppp, List.length_cons, List.length_nil, Nat.zero_add, Int.reduceSub, Int.reduceAdd, Int.reduceNeg, Int.reduceMul, Bool.not_true, Bool.not_false]
      refine (ih _ (by omega) (by omega) hd1.2.app).imp ?_ fun _ _ _ z => z.elim
      rintro v S2 ⟨a, rfl, la, da, ca, hd2⟩
      refine (ih _ (by omega) (by omega) hd2.2).imp ?_ fun _ _ _ z => z.elim
      rintro v S3 ⟨b, rfl, lb, db, cb, hd3⟩
      have hd3' : Drawn d S S3 := (hd1.of_app.trans hd2.of_app).trans hd3
      try simp (config := {decide := true}) only [ws_cons, ty_non, ty_bl, ty_int, ty_str, ty_tup, kit_tuple_NoneType, kit_tuple_bool, kit_tuple_int, kit_tuple_str, kit_tuple_tuple, kit_tuple_list, kit_list_NoneType, kit_list_bool, kit_list_int, kit_list_str, kit_list_tuple, kit_list_list, kit_int_NoneType, kit_int_bool, kit_int_int, kit_int_str, kit_int_tuple, kit_int_list, kit_bool_NoneType, kit_bool_bool, kit_bool_int, kit_bool_str, kit_bool_tuple, kit_bool_list, kit_str_NoneType, kit_str_bool, kit_str_int, kit_str_str, kit_str_tuple, kit_str_list, non_int, non_non, non_tup, non_str, non_ref, non_bl, ws_nil, ws_asg, ws_exp, ws_retS, ws_ifs, ws_pass, ws_raise, wr_slot, wr_cst, wr_nil, wr_cons, wr_tup, wr_lst, wr_dsp, wr_bin, wr_neg, ex_int, wr_not, wr_cmp, wr_and, wr_or, wr_ite, wr_isN, wr_notN, wr_ix, wr_sl, wr_prim, wr_lrg, wr_meth, wr_isT, wr_callE, wr_c0, wr_c1, wr_ok, m_lrg, m_addI, m_subI, m_mulI, m_divI, m_modI, m_powI, m_addT, m_addS, m_ltI, m_leI, m_gtI, m_geI, m_eq, m_ne, m_in, m_nin, eq_int, m_ixT, m_ixC, m_ixD, at_0, at_1, at_2, at_3, m_lenT, m_lenC, m_intI, m_intB, m_abs, m_max, m_min, m_tupT, m_listT, m_slT, m_slC, t_bl, t_int, t_non, t_tup, a_nm, a_tp, setSlots, partM, methFor, List.getElem?_cons_zero, List.getElem?_cons_succ, List.set_cons_zero, List.set_cons_succ, Option.some.injEq, exists_eq_left', true_and, and_true, eq_str, decide_eq_true_eq, ↓reduceIte, if_true, if_false, decide_true, decide_false, Bool.false_eq_true, ok_both, ok_case, ok_either, ok_first, ok_give, ok_k, ok_kp, ok_l, ok_left, ok_let, ok_name, ok_never, ok_none, ok_odd, ok_one, ok_other, ok_p, ok_pair, ok_r, ok_right, ok_second, ok_split, ok_star, ok_w, ok_way, ok_within, ok_without, ok_wrong, ok_yes, ok_no, ok_n, ok_led, ok_lr, ok_pp, ok_ppp, List.length_cons, List.length_nil, Nat.zero_add, Int.reduceSub, Int.reduceAdd, Int.reduceNeg, Int.reduceMul, Bool.not_true, Bool.not_false]
      refine (sp_next hf hd3'.2 (by decide)).imp ?_ fun _ _ _ z => z.elim
      rintro v S4 ⟨j, rfl, _, _, hd4⟩
      try simp (config := {decide := true}) only [ws_cons, ty_non, ty_bl, ty_int, ty_str, ty_tup, kit_tuple_NoneType, kit_tuple_bool, kit_tuple_int, kit_tuple_str, kit_tuple_tuple, kit_tuple_list, kit_list_NoneType, kit_list_bool, kit_list_int, kit_list_str, kit_list_tuple, kit_list_list, kit_int_NoneType, kit_int_bool, kit_int_int, kit_int_str, kit_int_tuple, kit_int_list, kit_bool_NoneType, kit_bool_bool, kit_bool_int, kit_bool_str, kit_bool_tuple, kit_bool_list, kit_str_NoneType, kit_str_bool, kit_str_int, kit_str_str, kit_str_tuple, kit_str_list, non_int, non_non, non_tup, non_str, non_ref, non_bl, ws_nil, ws_asg, ws_exp, ws_retS, ws_ifs, ws_pass, ws_raise, wr_slot, wr_cst, wr_nil, wr_cons, wr_tup, wr_lst, wr_dsp, wr_bin, wr_neg, ex_int, wr_not, wr_cmp, wr_and, wr_or, wr_ite, wr_isN, wr_notN, wr_ix, wr_sl, wr_prim, wr_lrg, wr_meth, wr_isT, wr_callE, wr_c0, wr_c1, wr_ok, m_lrg, m_addI, m_subI, m_mulI, m_divI, m_modI, m_powI, m_addT, m_addS, m_ltI, m_leI, m_gtI, m_geI, m_eq, m_ne, m_in, m_nin, eq_int, m_ixT, m_ixC, m_ixD, at_0, at_1, at_2, at_3, m_lenT, m_lenC, m_intI, m_intB, m_abs, m_max, m_min, m_tupT, m_listT, m_slT, m_slC, t_bl, t_int, t_non, t_tup, a_nm, a_tp, setSlots, partM, methFor, List.getElem?_cons_zero, List.getElem?_cons_succ, List.set_cons_zero, List.set_cons_succ, Option.some.injEq, exists_eq_left', true_and, and_true, eq_str, decide_eq_true_eq, ↓reduceIte, if_true, if_false, decide_true, decide_false, Bool.false_eq_true, ok_both, ok_case, ok_either, ok_first, ok_give, ok_k, ok_kp, ok_l, ok_left, ok_let, ok_name, ok_never, ok_none, ok_odd, ok_one, ok_other, ok_p, ok_pair, ok_r, ok_right, ok_second, ok_split, ok_star, ok_w, ok_way, ok_within, ok_without, ok_wrong, ok_yes, ok_no, ok_n, ok_led, ok_lr, ok_pp, ok_ppp, List.length_cons, List.length_nil, Nat.zero_add, Int.reduceSub, Int.reduceAdd, Int.reduceNeg, Int.reduceMul, Bool.not_true, Bool.not_false]
      have hd4' := hd3'.trans hd4
      by_cases hj : j = 1
      · simp (config := {decide := true}) only [hj, ws_cons, ty_non, ty_bl, ty_int, ty_str, ty_tup, kit_tuple_NoneType, kit_tuple_bool, kit_tuple_int, kit_tuple_str, kit_tuple_tuple, kit_tuple_list, kit_list_NoneType, kit_list_bool, kit_list_int, kit_list_str, kit_list_tuple, kit_list_list, kit_int_NoneType, kit_int_bool, kit_int_int, kit_int_str, kit_int_tuple, kit_int_list, kit_bool_NoneType, kit_bool_bool, kit_bool_int, kit_bool_str, kit_bool_tuple, kit_bool_list, kit_str_NoneType, kit_str_bool, kit_str_int, kit_str_str, kit_str_tuple, kit_str_list, non_int, non_non, non_tup, non_str, non_ref, non_bl, ws_nil, ws_asg, ws_exp, ws_retS, ws_ifs, ws_pass, ws_raise, wr_slot, wr_cst, wr_nil, wr_cons, wr_tup, wr_lst, wr_dsp, wr_bin, wr_neg, ex_int, wr_not, wr_cmp, wr_and, wr_or, wr_ite, wr_isN, wr_notN, wr_ix, wr_sl, wr_prim, wr_lrg, wr_meth, wr_isT, wr_callE, wr_c0, wr_c1, wr_ok, m_lrg, m_addI, m_subI, m_mulI, m_divI, m_modI, m_powI, m_addT, m_addS, m_ltI, m_leI, m_gtI, m_geI, m_eq, m_ne, m_in, m_nin, eq_int, m_ixT, m_ixC, m_ixD, at_0, at_1, at_2, at_3, m_lenT, m_lenC, m_intI, m_intB, m_abs, m_max, m_min, m_tupT, m_listT, m_slT, m_slC, t_bl, t_int, t_non, t_tup, a_nm, a_tp, setSlots, partM, methFor, List.getElem?_cons_zero, List.getElem?_cons_succ, List.set_cons_zero, List.set_cons_succ, Option.some.injEq, exists_eq_left', true_and, and_true, eq_str, decide_eq_true_eq, ↓reduceIte, if_true, if_false, decide_true, decide_false, Bool.false_eq_true, ok_both, ok_case, ok_either, ok_first, ok_give, ok_k, ok_kp, ok_l, ok_left, ok_let, ok_name, ok_never, ok_none, ok_odd, ok_one, ok_other, ok_p, ok_pair, ok_r, ok_right, ok_second, ok_split, ok_star, ok_w, ok_way, ok_within, ok_without, ok_wrong, ok_yes, ok_no, ok_n, ok_led, ok_lr, ok_pp, ok_ppp, List.length_cons, List.length_nil, Nat.zero_add, Int.reduceSub, Int.reduceAdd, Int.reduceNeg, Int.reduceMul, Bool.not_true, Bool.not_false]
        change Wr (callF T (r + 1) "_law_count" [K (.either .none b)] _) _ _
        refine (sp_count hf (.either .none b) r _ ⟨(Kd.le.mono hm2 (show Kd.le m .none from trivial)), (Kd.le.mono hm2 lb)⟩ (by show max (Kd.dep .none) (Kd.dep b) + 1 + 1 ≤ r; have := (show Kd.dep .none ≤ n from Nat.zero_le _); have := db; omega)).imp ?_ fun _ _ _ z => z.elim
        rintro v S9 ⟨rfl, rfl⟩
        try simp (config := {decide := true}) only [ws_cons, ty_non, ty_bl, ty_int, ty_str, ty_tup, kit_tuple_NoneType, kit_tuple_bool, kit_tuple_int, kit_tuple_str, kit_tuple_tuple, kit_tuple_list, kit_list_NoneType, kit_list_bool, kit_list_int, kit_list_str, kit_list_tuple, kit_list_list, kit_int_NoneType, kit_int_bool, kit_int_int, kit_int_str, kit_int_tuple, kit_int_list, kit_bool_NoneType, kit_bool_bool, kit_bool_int, kit_bool_str, kit_bool_tuple, kit_bool_list, kit_str_NoneType, kit_str_bool, kit_str_int, kit_str_str, kit_str_tuple, kit_str_list, non_int, non_non, non_tup, non_str, non_ref, non_bl, ws_nil, ws_asg, ws_exp, ws_retS, ws_ifs, ws_pass, ws_raise, wr_slot, wr_cst, wr_nil, wr_cons, wr_tup, wr_lst, wr_dsp, wr_bin, wr_neg, ex_int, wr_not, wr_cmp, wr_and, wr_or, wr_ite, wr_isN, wr_notN, wr_ix, wr_sl, wr_prim, wr_lrg, wr_meth, wr_isT, wr_callE, wr_c0, wr_c1, wr_ok, m_lrg, m_addI, m_subI, m_mulI, m_divI, m_modI, m_powI, m_addT, m_addS, m_ltI, m_leI, m_gtI, m_geI, m_eq, m_ne, m_in, m_nin, eq_int, m_ixT, m_ixC, m_ixD, at_0, at_1, at_2, at_3, m_lenT, m_lenC, m_intI, m_intB, m_abs, m_max, m_min, m_tupT, m_listT, m_slT, m_slC, t_bl, t_int, t_non, t_tup, a_nm, a_tp, setSlots, partM, methFor, List.getElem?_cons_zero, List.getElem?_cons_succ, List.set_cons_zero, List.set_cons_succ, Option.some.injEq, exists_eq_left', true_and, and_true, eq_str, decide_eq_true_eq, ↓reduceIte, if_true, if_false, decide_true, decide_false, Bool.false_eq_true, ok_both, ok_case, ok_either, ok_first, ok_give, ok_k, ok_kp, ok_l, ok_left, ok_let, ok_name, ok_never, ok_none, ok_odd, ok_one, ok_other, ok_p, ok_pair, ok_r, ok_right, ok_second, ok_split, ok_star, ok_w, ok_way, ok_within, ok_without, ok_wrong, ok_yes, ok_no, ok_n, ok_led, ok_lr, ok_pp, ok_ppp, List.length_cons, List.length_nil, Nat.zero_add, Int.reduceSub, Int.reduceAdd, Int.reduceNeg, Int.reduceMul, Bool.not_true, Bool.not_false]
        by_cases hc : (m : Int) < ((Kd.cnt (.either .none b) : Nat) : Int)
        · simp (config := {decide := true}) only [hc, ws_cons, ty_non, ty_bl, ty_int, ty_str, ty_tup, kit_tuple_NoneType, kit_tuple_bool, kit_tuple_int, kit_tuple_str, kit_tuple_tuple, kit_tuple_list, kit_list_NoneType, kit_list_bool, kit_list_int, kit_list_str, kit_list_tuple, kit_list_list, kit_int_NoneType, kit_int_bool, kit_int_int, kit_int_str, kit_int_tuple, kit_int_list, kit_bool_NoneType, kit_bool_bool, kit_bool_int, kit_bool_str, kit_bool_tuple, kit_bool_list, kit_str_NoneType, kit_str_bool, kit_str_int, kit_str_str, kit_str_tuple, kit_str_list, non_int, non_non, non_tup, non_str, non_ref, non_bl, ws_nil, ws_asg, ws_exp, ws_retS, ws_ifs, ws_pass, ws_raise, wr_slot, wr_cst, wr_nil, wr_cons, wr_tup, wr_lst, wr_dsp, wr_bin, wr_neg, ex_int, wr_not, wr_cmp, wr_and, wr_or, wr_ite, wr_isN, wr_notN, wr_ix, wr_sl, wr_prim, wr_lrg, wr_meth, wr_isT, wr_callE, wr_c0, wr_c1, wr_ok, m_lrg, m_addI, m_subI, m_mulI, m_divI, m_modI, m_powI, m_addT, m_addS, m_ltI, m_leI, m_gtI, m_geI, m_eq, m_ne, m_in, m_nin, eq_int, m_ixT, m_ixC, m_ixD, at_0, at_1, at_2, at_3, m_lenT, m_lenC, m_intI, m_intB, m_abs, m_max, m_min, m_tupT, m_listT, m_slT, m_slC, t_bl, t_int, t_non, t_tup, a_nm, a_tp, setSlots, partM, methFor, List.getElem?_cons_zero, List.getElem?_cons_succ, List.set_cons_zero, List.set_cons_succ, Option.some.injEq, exists_eq_left', true_and, and_true, eq_str, decide_eq_true_eq, ↓reduceIte, if_true, if_false, decide_true, decide_false, Bool.false_eq_true, ok_both, ok_case, ok_either, ok_first, ok_give, ok_k, ok_kp, ok_l, ok_left, ok_let, ok_name, ok_never, ok_none, ok_odd, ok_one, ok_other, ok_p, ok_pair, ok_r, ok_right, ok_second, ok_split, ok_star, ok_w, ok_way, ok_within, ok_without, ok_wrong, ok_yes, ok_no, ok_n, ok_led, ok_lr, ok_pp, ok_ppp, List.length_cons, List.length_nil, Nat.zero_add, Int.reduceSub, Int.reduceAdd, Int.reduceNeg, Int.reduceMul, Bool.not_true, Bool.not_false]
          exact ⟨.one, rfl, hm, Nat.zero_le _, Nat.le_refl _, hd4'⟩
        · simp (config := {decide := true}) only [hc, ws_cons, ty_non, ty_bl, ty_int, ty_str, ty_tup, kit_tuple_NoneType, kit_tuple_bool, kit_tuple_int, kit_tuple_str, kit_tuple_tuple, kit_tuple_list, kit_list_NoneType, kit_list_bool, kit_list_int, kit_list_str, kit_list_tuple, kit_list_list, kit_int_NoneType, kit_int_bool, kit_int_int, kit_int_str, kit_int_tuple, kit_int_list, kit_bool_NoneType, kit_bool_bool, kit_bool_int, kit_bool_str, kit_bool_tuple, kit_bool_list, kit_str_NoneType, kit_str_bool, kit_str_int, kit_str_str, kit_str_tuple, kit_str_list, non_int, non_non, non_tup, non_str, non_ref, non_bl, ws_nil, ws_asg, ws_exp, ws_retS, ws_ifs, ws_pass, ws_raise, wr_slot, wr_cst, wr_nil, wr_cons, wr_tup, wr_lst, wr_dsp, wr_bin, wr_neg, ex_int, wr_not, wr_cmp, wr_and, wr_or, wr_ite, wr_isN, wr_notN, wr_ix, wr_sl, wr_prim, wr_lrg, wr_meth, wr_isT, wr_callE, wr_c0, wr_c1, wr_ok, m_lrg, m_addI, m_subI, m_mulI, m_divI, m_modI, m_powI, m_addT, m_addS, m_ltI, m_leI, m_gtI, m_geI, m_eq, m_ne, m_in, m_nin, eq_int, m_ixT, m_ixC, m_ixD, at_0, at_1, at_2, at_3, m_lenT, m_lenC, m_intI, m_intB, m_abs, m_max, m_min, m_tupT, m_listT, m_slT, m_slC, t_bl, t_int, t_non, t_tup, a_nm, a_tp, setSlots, partM, methFor, List.getElem?_cons_zero, List.getElem?_cons_succ, List.set_cons_zero, List.set_cons_succ, Option.some.injEq, exists_eq_left', true_and, and_true, eq_str, decide_eq_true_eq, ↓reduceIte, if_true, if_false, decide_true, decide_false, Bool.false_eq_true, ok_both, ok_case, ok_either, ok_first, ok_give, ok_k, ok_kp, ok_l, ok_left, ok_let, ok_name, ok_never, ok_none, ok_odd, ok_one, ok_other, ok_p, ok_pair, ok_r, ok_right, ok_second, ok_split, ok_star, ok_w, ok_way, ok_within, ok_without, ok_wrong, ok_yes, ok_no, ok_n, ok_led, ok_lr, ok_pp, ok_ppp, List.length_cons, List.length_nil, Nat.zero_add, Int.reduceSub, Int.reduceAdd, Int.reduceNeg, Int.reduceMul, Bool.not_true, Bool.not_false]
          exact ⟨.either .none b, rfl, ⟨Int.ofNat_le.mp (Int.not_lt.mp hc), (show Kd.le m .none from trivial), lb⟩, by show max (Kd.dep .none) (Kd.dep b) + 1 ≤ n + 1; have := (show Kd.dep .none ≤ n from Nat.zero_le _); have := db; omega, by show 1 ≤ Kd.cnt .none + Kd.cnt b; omega, hd4'⟩
      · simp (config := {decide := true}) only [hj, ws_cons, ty_non, ty_bl, ty_int, ty_str, ty_tup, kit_tuple_NoneType, kit_tuple_bool, kit_tuple_int, kit_tuple_str, kit_tuple_tuple, kit_tuple_list, kit_list_NoneType, kit_list_bool, kit_list_int, kit_list_str, kit_list_tuple, kit_list_list, kit_int_NoneType, kit_int_bool, kit_int_int, kit_int_str, kit_int_tuple, kit_int_list, kit_bool_NoneType, kit_bool_bool, kit_bool_int, kit_bool_str, kit_bool_tuple, kit_bool_list, kit_str_NoneType, kit_str_bool, kit_str_int, kit_str_str, kit_str_tuple, kit_str_list, non_int, non_non, non_tup, non_str, non_ref, non_bl, ws_nil, ws_asg, ws_exp, ws_retS, ws_ifs, ws_pass, ws_raise, wr_slot, wr_cst, wr_nil, wr_cons, wr_tup, wr_lst, wr_dsp, wr_bin, wr_neg, ex_int, wr_not, wr_cmp, wr_and, wr_or, wr_ite, wr_isN, wr_notN, wr_ix, wr_sl, wr_prim, wr_lrg, wr_meth, wr_isT, wr_callE, wr_c0, wr_c1, wr_ok, m_lrg, m_addI, m_subI, m_mulI, m_divI, m_modI, m_powI, m_addT, m_addS, m_ltI, m_leI, m_gtI, m_geI, m_eq, m_ne, m_in, m_nin, eq_int, m_ixT, m_ixC, m_ixD, at_0, at_1, at_2, at_3, m_lenT, m_lenC, m_intI, m_intB, m_abs, m_max, m_min, m_tupT, m_listT, m_slT, m_slC, t_bl, t_int, t_non, t_tup, a_nm, a_tp, setSlots, partM, methFor, List.getElem?_cons_zero, List.getElem?_cons_succ, List.set_cons_zero, List.set_cons_succ, Option.some.injEq, exists_eq_left', true_and, and_true, eq_str, decide_eq_true_eq, ↓reduceIte, if_true, if_false, decide_true, decide_false, Bool.false_eq_true, ok_both, ok_case, ok_either, ok_first, ok_give, ok_k, ok_kp, ok_l, ok_left, ok_let, ok_name, ok_never, ok_none, ok_odd, ok_one, ok_other, ok_p, ok_pair, ok_r, ok_right, ok_second, ok_split, ok_star, ok_w, ok_way, ok_within, ok_without, ok_wrong, ok_yes, ok_no, ok_n, ok_led, ok_lr, ok_pp, ok_ppp, List.length_cons, List.length_nil, Nat.zero_add, Int.reduceSub, Int.reduceAdd, Int.reduceNeg, Int.reduceMul, Bool.not_true, Bool.not_false]
        refine (sp_next hf hd4'.2 (by decide)).imp ?_ fun _ _ _ z => z.elim
        rintro v S5 ⟨j2, rfl, _, _, hd5⟩
        try simp (config := {decide := true}) only [ws_cons, ty_non, ty_bl, ty_int, ty_str, ty_tup, kit_tuple_NoneType, kit_tuple_bool, kit_tuple_int, kit_tuple_str, kit_tuple_tuple, kit_tuple_list, kit_list_NoneType, kit_list_bool, kit_list_int, kit_list_str, kit_list_tuple, kit_list_list, kit_int_NoneType, kit_int_bool, kit_int_int, kit_int_str, kit_int_tuple, kit_int_list, kit_bool_NoneType, kit_bool_bool, kit_bool_int, kit_bool_str, kit_bool_tuple, kit_bool_list, kit_str_NoneType, kit_str_bool, kit_str_int, kit_str_str, kit_str_tuple, kit_str_list, non_int, non_non, non_tup, non_str, non_ref, non_bl, ws_nil, ws_asg, ws_exp, ws_retS, ws_ifs, ws_pass, ws_raise, wr_slot, wr_cst, wr_nil, wr_cons, wr_tup, wr_lst, wr_dsp, wr_bin, wr_neg, ex_int, wr_not, wr_cmp, wr_and, wr_or, wr_ite, wr_isN, wr_notN, wr_ix, wr_sl, wr_prim, wr_lrg, wr_meth, wr_isT, wr_callE, wr_c0, wr_c1, wr_ok, m_lrg, m_addI, m_subI, m_mulI, m_divI, m_modI, m_powI, m_addT, m_addS, m_ltI, m_leI, m_gtI, m_geI, m_eq, m_ne, m_in, m_nin, eq_int, m_ixT, m_ixC, m_ixD, at_0, at_1, at_2, at_3, m_lenT, m_lenC, m_intI, m_intB, m_abs, m_max, m_min, m_tupT, m_listT, m_slT, m_slC, t_bl, t_int, t_non, t_tup, a_nm, a_tp, setSlots, partM, methFor, List.getElem?_cons_zero, List.getElem?_cons_succ, List.set_cons_zero, List.set_cons_succ, Option.some.injEq, exists_eq_left', true_and, and_true, eq_str, decide_eq_true_eq, ↓reduceIte, if_true, if_false, decide_true, decide_false, Bool.false_eq_true, ok_both, ok_case, ok_either, ok_first, ok_give, ok_k, ok_kp, ok_l, ok_left, ok_let, ok_name, ok_never, ok_none, ok_odd, ok_one, ok_other, ok_p, ok_pair, ok_r, ok_right, ok_second, ok_split, ok_star, ok_w, ok_way, ok_within, ok_without, ok_wrong, ok_yes, ok_no, ok_n, ok_led, ok_lr, ok_pp, ok_ppp, List.length_cons, List.length_nil, Nat.zero_add, Int.reduceSub, Int.reduceAdd, Int.reduceNeg, Int.reduceMul, Bool.not_true, Bool.not_false]
        have hd5' := hd4'.trans hd5
        by_cases hj2 : j2 = 1
        · simp (config := {decide := true}) only [hj2, ws_cons, ty_non, ty_bl, ty_int, ty_str, ty_tup, kit_tuple_NoneType, kit_tuple_bool, kit_tuple_int, kit_tuple_str, kit_tuple_tuple, kit_tuple_list, kit_list_NoneType, kit_list_bool, kit_list_int, kit_list_str, kit_list_tuple, kit_list_list, kit_int_NoneType, kit_int_bool, kit_int_int, kit_int_str, kit_int_tuple, kit_int_list, kit_bool_NoneType, kit_bool_bool, kit_bool_int, kit_bool_str, kit_bool_tuple, kit_bool_list, kit_str_NoneType, kit_str_bool, kit_str_int, kit_str_str, kit_str_tuple, kit_str_list, non_int, non_non, non_tup, non_str, non_ref, non_bl, ws_nil, ws_asg, ws_exp, ws_retS, ws_ifs, ws_pass, ws_raise, wr_slot, wr_cst, wr_nil, wr_cons, wr_tup, wr_lst, wr_dsp, wr_bin, wr_neg, ex_int, wr_not, wr_cmp, wr_and, wr_or, wr_ite, wr_isN, wr_notN, wr_ix, wr_sl, wr_prim, wr_lrg, wr_meth, wr_isT, wr_callE, wr_c0, wr_c1, wr_ok, m_lrg, m_addI, m_subI, m_mulI, m_divI, m_modI, m_powI, m_addT, m_addS, m_ltI, m_leI, m_gtI, m_geI, m_eq, m_ne, m_in, m_nin, eq_int, m_ixT, m_ixC, m_ixD, at_0, at_1, at_2, at_3, m_lenT, m_lenC, m_intI, m_intB, m_abs, m_max, m_min, m_tupT, m_listT, m_slT, m_slC, t_bl, t_int, t_non, t_tup, a_nm, a_tp, setSlots, partM, methFor, List.getElem?_cons_zero, List.getElem?_cons_succ, List.set_cons_zero, List.set_cons_succ, Option.some.injEq, exists_eq_left', true_and, and_true, eq_str, decide_eq_true_eq, ↓reduceIte, if_true, if_false, decide_true, decide_false, Bool.false_eq_true, ok_both, ok_case, ok_either, ok_first, ok_give, ok_k, ok_kp, ok_l, ok_left, ok_let, ok_name, ok_never, ok_none, ok_odd, ok_one, ok_other, ok_p, ok_pair, ok_r, ok_right, ok_second, ok_split, ok_star, ok_w, ok_way, ok_within, ok_without, ok_wrong, ok_yes, ok_no, ok_n, ok_led, ok_lr, ok_pp, ok_ppp, List.length_cons, List.length_nil, Nat.zero_add, Int.reduceSub, Int.reduceAdd, Int.reduceNeg, Int.reduceMul, Bool.not_true, Bool.not_false]
          change Wr (callF T (r + 1) "_law_count" [K (.either a .none)] _) _ _
          refine (sp_count hf (.either a .none) r _ ⟨(Kd.le.mono hm2 la), (Kd.le.mono hm2 (show Kd.le m .none from trivial))⟩ (by show max (Kd.dep a) (Kd.dep .none) + 1 + 1 ≤ r; have := da; have := (show Kd.dep .none ≤ n from Nat.zero_le _); omega)).imp ?_ fun _ _ _ z => z.elim
          rintro v S9 ⟨rfl, rfl⟩
          try simp (config := {decide := true}) only [ws_cons, ty_non, ty_bl, ty_int, ty_str, ty_tup, kit_tuple_NoneType, kit_tuple_bool, kit_tuple_int, kit_tuple_str, kit_tuple_tuple, kit_tuple_list, kit_list_NoneType, kit_list_bool, kit_list_int, kit_list_str, kit_list_tuple, kit_list_list, kit_int_NoneType, kit_int_bool, kit_int_int, kit_int_str, kit_int_tuple, kit_int_list, kit_bool_NoneType, kit_bool_bool, kit_bool_int, kit_bool_str, kit_bool_tuple, kit_bool_list, kit_str_NoneType, kit_str_bool, kit_str_int, kit_str_str, kit_str_tuple, kit_str_list, non_int, non_non, non_tup, non_str, non_ref, non_bl, ws_nil, ws_asg, ws_exp, ws_retS, ws_ifs, ws_pass, ws_raise, wr_slot, wr_cst, wr_nil, wr_cons, wr_tup, wr_lst, wr_dsp, wr_bin, wr_neg, ex_int, wr_not, wr_cmp, wr_and, wr_or, wr_ite, wr_isN, wr_notN, wr_ix, wr_sl, wr_prim, wr_lrg, wr_meth, wr_isT, wr_callE, wr_c0, wr_c1, wr_ok, m_lrg, m_addI, m_subI, m_mulI, m_divI, m_modI, m_powI, m_addT, m_addS, m_ltI, m_leI, m_gtI, m_geI, m_eq, m_ne, m_in, m_nin, eq_int, m_ixT, m_ixC, m_ixD, at_0, at_1, at_2, at_3, m_lenT, m_lenC, m_intI, m_intB, m_abs, m_max, m_min, m_tupT, m_listT, m_slT, m_slC, t_bl, t_int, t_non, t_tup, a_nm, a_tp, setSlots, partM, methFor, List.getElem?_cons_zero, List.getElem?_cons_succ, List.set_cons_zero, List.set_cons_succ, Option.some.injEq, exists_eq_left', true_and, and_true, eq_str, decide_eq_true_eq, ↓reduceIte, if_true, if_false, decide_true, decide_false, Bool.false_eq_true, ok_both, ok_case, ok_either, ok_first, ok_give, ok_k, ok_kp, ok_l, ok_left, ok_let, ok_name, ok_never, ok_none, ok_odd, ok_one, ok_other, ok_p, ok_pair, ok_r, ok_right, ok_second, ok_split, ok_star, ok_w, ok_way, ok_within, ok_without, ok_wrong, ok_yes, ok_no, ok_n, ok_led, ok_lr, ok_pp, ok_ppp, List.length_cons, List.length_nil, Nat.zero_add, Int.reduceSub, Int.reduceAdd, Int.reduceNeg, Int.reduceMul, Bool.not_true, Bool.not_false]
          by_cases hc : (m : Int) < ((Kd.cnt (.either a .none) : Nat) : Int)
          · simp (config := {decide := true}) only [hc, ws_cons, ty_non, ty_bl, ty_int, ty_str, ty_tup, kit_tuple_NoneType, kit_tuple_bool, kit_tuple_int, kit_tuple_str, kit_tuple_tuple, kit_tuple_list, kit_list_NoneType, kit_list_bool, kit_list_int, kit_list_str, kit_list_tuple, kit_list_list, kit_int_NoneType, kit_int_bool, kit_int_int, kit_int_str, kit_int_tuple, kit_int_list, kit_bool_NoneType, kit_bool_bool, kit_bool_int, kit_bool_str, kit_bool_tuple, kit_bool_list, kit_str_NoneType, kit_str_bool, kit_str_int, kit_str_str, kit_str_tuple, kit_str_list, non_int, non_non, non_tup, non_str, non_ref, non_bl, ws_nil, ws_asg, ws_exp, ws_retS, ws_ifs, ws_pass, ws_raise, wr_slot, wr_cst, wr_nil, wr_cons, wr_tup, wr_lst, wr_dsp, wr_bin, wr_neg, ex_int, wr_not, wr_cmp, wr_and, wr_or, wr_ite, wr_isN, wr_notN, wr_ix, wr_sl, wr_prim, wr_lrg, wr_meth, wr_isT, wr_callE, wr_c0, wr_c1, wr_ok, m_lrg, m_addI, m_subI, m_mulI, m_divI, m_modI, m_powI, m_addT, m_addS, m_ltI, m_leI, m_gtI, m_geI, m_eq, m_ne, m_in, m_nin, eq_int, m_ixT, m_ixC, m_ixD, at_0, at_1, at_2, at_3, m_lenT, m_lenC, m_intI, m_intB, m_abs, m_max, m_min, m_tupT, m_listT, m_slT, m_slC, t_bl, t_int, t_non, t_tup, a_nm, a_tp, setSlots, partM, methFor, List.getElem?_cons_zero, List.getElem?_cons_succ, List.set_cons_zero, List.set_cons_succ, Option.some.injEq, exists_eq_left', true_and, and_true, eq_str, decide_eq_true_eq, ↓reduceIte, if_true, if_false, decide_true, decide_false, Bool.false_eq_true, ok_both, ok_case, ok_either, ok_first, ok_give, ok_k, ok_kp, ok_l, ok_left, ok_let, ok_name, ok_never, ok_none, ok_odd, ok_one, ok_other, ok_p, ok_pair, ok_r, ok_right, ok_second, ok_split, ok_star, ok_w, ok_way, ok_within, ok_without, ok_wrong, ok_yes, ok_no, ok_n, ok_led, ok_lr, ok_pp, ok_ppp, List.length_cons, List.length_nil, Nat.zero_add, Int.reduceSub, Int.reduceAdd, Int.reduceNeg, Int.reduceMul, Bool.not_true, Bool.not_false]
            exact ⟨.one, rfl, hm, Nat.zero_le _, Nat.le_refl _, hd5'⟩
          · simp (config := {decide := true}) only [hc, ws_cons, ty_non, ty_bl, ty_int, ty_str, ty_tup, kit_tuple_NoneType, kit_tuple_bool, kit_tuple_int, kit_tuple_str, kit_tuple_tuple, kit_tuple_list, kit_list_NoneType, kit_list_bool, kit_list_int, kit_list_str, kit_list_tuple, kit_list_list, kit_int_NoneType, kit_int_bool, kit_int_int, kit_int_str, kit_int_tuple, kit_int_list, kit_bool_NoneType, kit_bool_bool, kit_bool_int, kit_bool_str, kit_bool_tuple, kit_bool_list, kit_str_NoneType, kit_str_bool, kit_str_int, kit_str_str, kit_str_tuple, kit_str_list, non_int, non_non, non_tup, non_str, non_ref, non_bl, ws_nil, ws_asg, ws_exp, ws_retS, ws_ifs, ws_pass, ws_raise, wr_slot, wr_cst, wr_nil, wr_cons, wr_tup, wr_lst, wr_dsp, wr_bin, wr_neg, ex_int, wr_not, wr_cmp, wr_and, wr_or, wr_ite, wr_isN, wr_notN, wr_ix, wr_sl, wr_prim, wr_lrg, wr_meth, wr_isT, wr_callE, wr_c0, wr_c1, wr_ok, m_lrg, m_addI, m_subI, m_mulI, m_divI, m_modI, m_powI, m_addT, m_addS, m_ltI, m_leI, m_gtI, m_geI, m_eq, m_ne, m_in, m_nin, eq_int, m_ixT, m_ixC, m_ixD, at_0, at_1, at_2, at_3, m_lenT, m_lenC, m_intI, m_intB, m_abs, m_max, m_min, m_tupT, m_listT, m_slT, m_slC, t_bl, t_int, t_non, t_tup, a_nm, a_tp, setSlots, partM, methFor, List.getElem?_cons_zero, List.getElem?_cons_succ, List.set_cons_zero, List.set_cons_succ, Option.some.injEq, exists_eq_left', true_and, and_true, eq_str, decide_eq_true_eq, ↓reduceIte, if_true, if_false, decide_true, decide_false, Bool.false_eq_true, ok_both, ok_case, ok_either, ok_first, ok_give, ok_k, ok_kp, ok_l, ok_left, ok_let, ok_name, ok_never, ok_none, ok_odd, ok_one, ok_other, ok_p, ok_pair, ok_r, ok_right, ok_second, ok_split, ok_star, ok_w, ok_way, ok_within, ok_without, ok_wrong, ok_yes, ok_no, ok_n, ok_led, ok_lr, ok_pp, ok_ppp, List.length_cons, List.length_nil, Nat.zero_add, Int.reduceSub, Int.reduceAdd, Int.reduceNeg, Int.reduceMul, Bool.not_true, Bool.not_false]
            exact ⟨.either a .none, rfl, ⟨Int.ofNat_le.mp (Int.not_lt.mp hc), la, (show Kd.le m .none from trivial)⟩, by show max (Kd.dep a) (Kd.dep .none) + 1 ≤ n + 1; have := da; have := (show Kd.dep .none ≤ n from Nat.zero_le _); omega, by show 1 ≤ Kd.cnt a + Kd.cnt .none; omega, hd5'⟩
        · simp (config := {decide := true}) only [hj2, ws_cons, ty_non, ty_bl, ty_int, ty_str, ty_tup, kit_tuple_NoneType, kit_tuple_bool, kit_tuple_int, kit_tuple_str, kit_tuple_tuple, kit_tuple_list, kit_list_NoneType, kit_list_bool, kit_list_int, kit_list_str, kit_list_tuple, kit_list_list, kit_int_NoneType, kit_int_bool, kit_int_int, kit_int_str, kit_int_tuple, kit_int_list, kit_bool_NoneType, kit_bool_bool, kit_bool_int, kit_bool_str, kit_bool_tuple, kit_bool_list, kit_str_NoneType, kit_str_bool, kit_str_int, kit_str_str, kit_str_tuple, kit_str_list, non_int, non_non, non_tup, non_str, non_ref, non_bl, ws_nil, ws_asg, ws_exp, ws_retS, ws_ifs, ws_pass, ws_raise, wr_slot, wr_cst, wr_nil, wr_cons, wr_tup, wr_lst, wr_dsp, wr_bin, wr_neg, ex_int, wr_not, wr_cmp, wr_and, wr_or, wr_ite, wr_isN, wr_notN, wr_ix, wr_sl, wr_prim, wr_lrg, wr_meth, wr_isT, wr_callE, wr_c0, wr_c1, wr_ok, m_lrg, m_addI, m_subI, m_mulI, m_divI, m_modI, m_powI, m_addT, m_addS, m_ltI, m_leI, m_gtI, m_geI, m_eq, m_ne, m_in, m_nin, eq_int, m_ixT, m_ixC, m_ixD, at_0, at_1, at_2, at_3, m_lenT, m_lenC, m_intI, m_intB, m_abs, m_max, m_min, m_tupT, m_listT, m_slT, m_slC, t_bl, t_int, t_non, t_tup, a_nm, a_tp, setSlots, partM, methFor, List.getElem?_cons_zero, List.getElem?_cons_succ, List.set_cons_zero, List.set_cons_succ, Option.some.injEq, exists_eq_left', true_and, and_true, eq_str, decide_eq_true_eq, ↓reduceIte, if_true, if_false, decide_true, decide_false, Bool.false_eq_true, ok_both, ok_case, ok_either, ok_first, ok_give, ok_k, ok_kp, ok_l, ok_left, ok_let, ok_name, ok_never, ok_none, ok_odd, ok_one, ok_other, ok_p, ok_pair, ok_r, ok_right, ok_second, ok_split, ok_star, ok_w, ok_way, ok_within, ok_without, ok_wrong, ok_yes, ok_no, ok_n, ok_led, ok_lr, ok_pp, ok_ppp, List.length_cons, List.length_nil, Nat.zero_add, Int.reduceSub, Int.reduceAdd, Int.reduceNeg, Int.reduceMul, Bool.not_true, Bool.not_false]
          change Wr (callF T (r + 1) "_law_count" [K (.either a b)] _) _ _
          refine (sp_count hf (.either a b) r _ ⟨(Kd.le.mono hm2 la), (Kd.le.mono hm2 lb)⟩ (by show max (Kd.dep a) (Kd.dep b) + 1 + 1 ≤ r; have := da; have := db; omega)).imp ?_ fun _ _ _ z => z.elim
          rintro v S9 ⟨rfl, rfl⟩
          try simp (config := {decide := true}) only [ws_cons, ty_non, ty_bl, ty_int, ty_str, ty_tup, kit_tuple_NoneType, kit_tuple_bool, kit_tuple_int, kit_tuple_str, kit_tuple_tuple, kit_tuple_list, kit_list_NoneType, kit_list_bool, kit_list_int, kit_list_str, kit_list_tuple, kit_list_list, kit_int_NoneType, kit_int_bool, kit_int_int, kit_int_str, kit_int_tuple, kit_int_list, kit_bool_NoneType, kit_bool_bool, kit_bool_int, kit_bool_str, kit_bool_tuple, kit_bool_list, kit_str_NoneType, kit_str_bool, kit_str_int, kit_str_str, kit_str_tuple, kit_str_list, non_int, non_non, non_tup, non_str, non_ref, non_bl, ws_nil, ws_asg, ws_exp, ws_retS, ws_ifs, ws_pass, ws_raise, wr_slot, wr_cst, wr_nil, wr_cons, wr_tup, wr_lst, wr_dsp, wr_bin, wr_neg, ex_int, wr_not, wr_cmp, wr_and, wr_or, wr_ite, wr_isN, wr_notN, wr_ix, wr_sl, wr_prim, wr_lrg, wr_meth, wr_isT, wr_callE, wr_c0, wr_c1, wr_ok, m_lrg, m_addI, m_subI, m_mulI, m_divI, m_modI, m_powI, m_addT, m_addS, m_ltI, m_leI, m_gtI, m_geI, m_eq, m_ne, m_in, m_nin, eq_int, m_ixT, m_ixC, m_ixD, at_0, at_1, at_2, at_3, m_lenT, m_lenC, m_intI, m_intB, m_abs, m_max, m_min, m_tupT, m_listT, m_slT, m_slC, t_bl, t_int, t_non, t_tup, a_nm, a_tp, setSlots, partM, methFor, List.getElem?_cons_zero, List.getElem?_cons_succ, List.set_cons_zero, List.set_cons_succ, Option.some.injEq, exists_eq_left', true_and, and_true, eq_str, decide_eq_true_eq, ↓reduceIte, if_true, if_false, decide_true, decide_false, Bool.false_eq_true, ok_both, ok_case, ok_either, ok_first, ok_give, ok_k, ok_kp, ok_l, ok_left, ok_let, ok_name, ok_never, ok_none, ok_odd, ok_one, ok_other, ok_p, ok_pair, ok_r, ok_right, ok_second, ok_split, ok_star, ok_w, ok_way, ok_within, ok_without, ok_wrong, ok_yes, ok_no, ok_n, ok_led, ok_lr, ok_pp, ok_ppp, List.length_cons, List.length_nil, Nat.zero_add, Int.reduceSub, Int.reduceAdd, Int.reduceNeg, Int.reduceMul, Bool.not_true, Bool.not_false]
          by_cases hc : (m : Int) < ((Kd.cnt (.either a b) : Nat) : Int)
          · simp (config := {decide := true}) only [hc, ws_cons, ty_non, ty_bl, ty_int, ty_str, ty_tup, kit_tuple_NoneType, kit_tuple_bool, kit_tuple_int, kit_tuple_str, kit_tuple_tuple, kit_tuple_list, kit_list_NoneType, kit_list_bool, kit_list_int, kit_list_str, kit_list_tuple, kit_list_list, kit_int_NoneType, kit_int_bool, kit_int_int, kit_int_str, kit_int_tuple, kit_int_list, kit_bool_NoneType, kit_bool_bool, kit_bool_int, kit_bool_str, kit_bool_tuple, kit_bool_list, kit_str_NoneType, kit_str_bool, kit_str_int, kit_str_str, kit_str_tuple, kit_str_list, non_int, non_non, non_tup, non_str, non_ref, non_bl, ws_nil, ws_asg, ws_exp, ws_retS, ws_ifs, ws_pass, ws_raise, wr_slot, wr_cst, wr_nil, wr_cons, wr_tup, wr_lst, wr_dsp, wr_bin, wr_neg, ex_int, wr_not, wr_cmp, wr_and, wr_or, wr_ite, wr_isN, wr_notN, wr_ix, wr_sl, wr_prim, wr_lrg, wr_meth, wr_isT, wr_callE, wr_c0, wr_c1, wr_ok, m_lrg, m_addI, m_subI, m_mulI, m_divI, m_modI, m_powI, m_addT, m_addS, m_ltI, m_leI, m_gtI, m_geI, m_eq, m_ne, m_in, m_nin, eq_int, m_ixT, m_ixC, m_ixD, at_0, at_1, at_2, at_3, m_lenT, m_lenC, m_intI, m_intB, m_abs, m_max, m_min, m_tupT, m_listT, m_slT, m_slC, t_bl, t_int, t_non, t_tup, a_nm, a_tp, setSlots, partM, methFor, List.getElem?_cons_zero, List.getElem?_cons_succ, List.set_cons_zero, List.set_cons_succ, Option.some.injEq, exists_eq_left', true_and, and_true, eq_str, decide_eq_true_eq, ↓reduceIte, if_true, if_false, decide_true, decide_false, Bool.false_eq_true, ok_both, ok_case, ok_either, ok_first, ok_give, ok_k, ok_kp, ok_l, ok_left, ok_let, ok_name, ok_never, ok_none, ok_odd, ok_one, ok_other, ok_p, ok_pair, ok_r, ok_right, ok_second, ok_split, ok_star, ok_w, ok_way, ok_within, ok_without, ok_wrong, ok_yes, ok_no, ok_n, ok_led, ok_lr, ok_pp, ok_ppp, List.length_cons, List.length_nil, Nat.zero_add, Int.reduceSub, Int.reduceAdd, Int.reduceNeg, Int.reduceMul, Bool.not_true, Bool.not_false]
            exact ⟨.one, rfl, hm, Nat.zero_le _, Nat.le_refl _, hd5'⟩
          · simp (config := {decide := true}) only [hc, ws_cons, ty_non, ty_bl, ty_int, ty_str, ty_tup, kit_tuple_NoneType, kit_tuple_bool, kit_tuple_int, kit_tuple_str, kit_tuple_tuple, kit_tuple_list, kit_list_NoneType, kit_list_bool, kit_list_int, kit_list_str, kit_list_tuple, kit_list_list, kit_int_NoneType, kit_int_bool, kit_int_int, kit_int_str, kit_int_tuple, kit_int_list, kit_bool_NoneType, kit_bool_bool, kit_bool_int, kit_bool_str, kit_bool_tuple, kit_bool_list, kit_str_NoneType, kit_str_bool, kit_str_int, kit_str_str, kit_str_tuple, kit_str_list, non_int, non_non, non_tup, non_str, non_ref, non_bl, ws_nil, ws_asg, ws_exp, ws_retS, ws_ifs, ws_pass, ws_raise, wr_slot, wr_cst, wr_nil, wr_cons, wr_tup, wr_lst, wr_dsp, wr_bin, wr_neg, ex_int, wr_not, wr_cmp, wr_and, wr_or, wr_ite, wr_isN, wr_notN, wr_ix, wr_sl, wr_prim, wr_lrg, wr_meth, wr_isT, wr_callE, wr_c0, wr_c1, wr_ok, m_lrg, m_addI, m_subI, m_mulI, m_divI, m_modI, m_powI, m_addT, m_addS, m_ltI, m_leI, m_gtI, m_geI, m_eq, m_ne, m_in, m_nin, eq_int, m_ixT, m_ixC, m_ixD, at_0, at_1, at_2, at_3, m_lenT, m_lenC, m_intI, m_intB, m_abs, m_max, m_min, m_tupT, m_listT, m_slT, m_slC, t_bl, t_int, t_non, t_tup, a_nm, a_tp, setSlots, partM, methFor, List.getElem?_cons_zero, List.getElem?_cons_succ, List.set_cons_zero, List.set_cons_succ, Option.some.injEq, exists_eq_left', true_and, and_true, eq_str, decide_eq_true_eq, ↓reduceIte, if_true, if_false, decide_true, decide_false, Bool.false_eq_true, ok_both, ok_case, ok_either, ok_first, ok_give, ok_k, ok_kp, ok_l, ok_left, ok_let, ok_name, ok_never, ok_none, ok_odd, ok_one, ok_other, ok_p, ok_pair, ok_r, ok_right, ok_second, ok_split, ok_star, ok_w, ok_way, ok_within, ok_without, ok_wrong, ok_yes, ok_no, ok_n, ok_led, ok_lr, ok_pp, ok_ppp, List.length_cons, List.length_nil, Nat.zero_add, Int.reduceSub, Int.reduceAdd, Int.reduceNeg, Int.reduceMul, Bool.not_true, Bool.not_false]
            exact ⟨.either a b, rfl, ⟨Int.ofNat_le.mp (Int.not_lt.mp hc), la, lb⟩, by show max (Kd.dep a) (Kd.dep b) + 1 ≤ n + 1; have := da; have := db; omega, by show 1 ≤ Kd.cnt a + Kd.cnt b; omega, hd5'⟩
    · try simp (config := {decide := true}) only [ws_cons, ty_non, ty_bl, ty_int, ty_str, ty_tup, kit_tuple_NoneType, kit_tuple_bool, kit_tuple_int, kit_tuple_str, kit_tuple_tuple, kit_tuple_list, kit_list_NoneType, kit_list_bool, kit_list_int, kit_list_str, kit_list_tuple, kit_list_list, kit_int_NoneType, kit_int_bool, kit_int_int, kit_int_str, kit_int_tuple, kit_int_list, kit_bool_NoneType, kit_bool_bool, kit_bool_int, kit_bool_str, kit_bool_tuple, kit_bool_list, kit_str_NoneType, kit_str_bool, kit_str_int, kit_str_str, kit_str_tuple, kit_str_list, non_int, non_non, non_tup, non_str, non_ref, non_bl, ws_nil, ws_asg, ws_exp, ws_retS, ws_ifs, ws_pass, ws_raise, wr_slot, wr_cst, wr_nil, wr_cons, wr_tup, wr_lst, wr_dsp, wr_bin, wr_neg, ex_int, wr_not, wr_cmp, wr_and, wr_or, wr_ite, wr_isN, wr_notN, wr_ix, wr_sl, wr_prim, wr_lrg, wr_meth, wr_isT, wr_callE, wr_c0, wr_c1, wr_ok, m_lrg, m_addI, m_subI, m_mulI, m_divI, m_modI, m_powI, m_addT, m_addS, m_ltI, m_leI, m_gtI, m_geI, m_eq, m_ne, m_in, m_nin, eq_int, m_ixT, m_ixC, m_ixD, at_0, at_1, at_2, at_3, m_lenT, m_lenC, m_intI, m_intB, m_abs, m_max, m_min, m_tupT, m_listT, m_slT, m_slC, t_bl, t_int, t_non, t_tup, a_nm, a_tp, setSlots, partM, methFor, List.getElem?_cons_zero, List.getElem?_cons_succ, List.set_cons_zero, List.set_cons_succ, Option.some.injEq, exists_eq_left', true_and, and_true, eq_str, decide_eq_true_eq, ↓reduceIte, if_true, if_false, decide_true, decide_false, Bool.false_eq_true, ok_both, ok_case, ok_either, ok_first, ok_give, ok_k, ok_kp, ok_l, ok_left, ok_let, ok_name, ok_never, ok_none, ok_odd, ok_one, ok_other, ok_p, ok_pair, ok_r, ok_right, ok_second, ok_split, ok_star, ok_w, ok_way, ok_within, ok_without, ok_wrong, ok_yes, ok_no, ok_n, ok_led, ok_lr, ok_pp, ok_ppp, List.length_cons, List.length_nil, Nat.zero_add, Int.reduceSub, Int.reduceAdd, Int.reduceNeg, Int.reduceMul, Bool.not_true, Bool.not_false]
      rw [m_ixL get_new]
      try simp (config := {decide := true}) only [ws_cons, ty_non, ty_bl, ty_int, ty_str, ty_tup, kit_tuple_NoneType, kit_tuple_bool, kit_tuple_int, kit_tuple_str, kit_tuple_tuple, kit_tuple_list, kit_list_NoneType, kit_list_bool, kit_list_int, kit_list_str, kit_list_tuple, kit_list_list, kit_int_NoneType, kit_int_bool, kit_int_int, kit_int_str, kit_int_tuple, kit_int_list, kit_bool_NoneType, kit_bool_bool, kit_bool_int, kit_bool_str, kit_bool_tuple, kit_bool_list, kit_str_NoneType, kit_str_bool, kit_str_int, kit_str_str, kit_str_tuple, kit_str_list, non_int, non_non, non_tup, non_str, non_ref, non_bl, ws_nil, ws_asg, ws_exp, ws_retS, ws_ifs, ws_pass, ws_raise, wr_slot, wr_cst, wr_nil, wr_cons, wr_tup, wr_lst, wr_dsp, wr_bin, wr_neg, ex_int, wr_not, wr_cmp, wr_and, wr_or, wr_ite, wr_isN, wr_notN, wr_ix, wr_sl, wr_prim, wr_lrg, wr_meth, wr_isT, wr_callE, wr_c0, wr_c1, wr_ok, m_lrg, m_addI, m_subI, m_mulI, m_divI, m_modI, m_powI, m_addT, m_addS, m_ltI, m_leI, m_gtI, m_geI, m_eq, m_ne, m_in, m_nin, eq_int, m_ixT, m_ixC, m_ixD, at_0, at_1, at_2, at_3, m_lenT, m_lenC, m_intI, m_intB, m_abs, m_max, m_min, m_tupT, m_listT, m_slT, m_slC, t_bl, t_int, t_non, t_tup, a_nm, a_tp, setSlots, partM, methFor, List.getElem?_cons_zero, List.getElem?_cons_succ, List.set_cons_zero, List.set_cons_succ, Option.some.injEq, exists_eq_left', true_and, and_true, eq_str, decide_eq_true_eq, ↓reduceIte, if_true, if_false, decide_true, decide_false, Bool.false_eq_true, ok_both, ok_case, ok_either, ok_first, ok_give, ok_k, ok_kp, ok_l, ok_left, ok_let, ok_name, ok_never, ok_none, ok_odd, ok_one, ok_other, ok_p, ok_pair, ok_r, ok_right, ok_second, ok_split, ok_star, ok_w, ok_way, ok_within, ok_without, ok_wrong, ok_yes, ok_no, ok_n, ok_led, ok_lr, ok_pp, ok_ppp, List.length_cons, List.length_nil, Nat.zero_add, Int.reduceSub, Int.reduceAdd, Int.reduceNeg, Int.reduceMul, Bool.not_true, Bool.not_false]
      refine (ih _ (by omega) (by omega) hd1.2.app).imp ?_ fun _ _ _ z => z.elim
      rintro v S2 ⟨a, rfl, la, da, ca, hd2⟩
      refine (ih _ (by omega) (by omega) hd2.2).imp ?_ fun _ _ _ z => z.elim
      rintro v S3 ⟨b, rfl, lb, db, cb, hd3⟩
      have hd3' : Drawn d S S3 := (hd1.of_app.trans hd2.of_app).trans hd3
      try simp (config := {decide := true}) only [ws_cons, ty_non, ty_bl, ty_int, ty_str, ty_tup, kit_tuple_NoneType, kit_tuple_bool, kit_tuple_int, kit_tuple_str, kit_tuple_tuple, kit_tuple_list, kit_list_NoneType, kit_list_bool, kit_list_int, kit_list_str, kit_list_tuple, kit_list_list, kit_int_NoneType, kit_int_bool, kit_int_int, kit_int_str, kit_int_tuple, kit_int_list, kit_bool_NoneType, kit_bool_bool, kit_bool_int, kit_bool_str, kit_bool_tuple, kit_bool_list, kit_str_NoneType, kit_str_bool, kit_str_int, kit_str_str, kit_str_tuple, kit_str_list, non_int, non_non, non_tup, non_str, non_ref, non_bl, ws_nil, ws_asg, ws_exp, ws_retS, ws_ifs, ws_pass, ws_raise, wr_slot, wr_cst, wr_nil, wr_cons, wr_tup, wr_lst, wr_dsp, wr_bin, wr_neg, ex_int, wr_not, wr_cmp, wr_and, wr_or, wr_ite, wr_isN, wr_notN, wr_ix, wr_sl, wr_prim, wr_lrg, wr_meth, wr_isT, wr_callE, wr_c0, wr_c1, wr_ok, m_lrg, m_addI, m_subI, m_mulI, m_divI, m_modI, m_powI, m_addT, m_addS, m_ltI, m_leI, m_gtI, m_geI, m_eq, m_ne, m_in, m_nin, eq_int, m_ixT, m_ixC, m_ixD, at_0, at_1, at_2, at_3, m_lenT, m_lenC, m_intI, m_intB, m_abs, m_max, m_min, m_tupT, m_listT, m_slT, m_slC, t_bl, t_int, t_non, t_tup, a_nm, a_tp, setSlots, partM, methFor, List.getElem?_cons_zero, List.getElem?_cons_succ, List.set_cons_zero, List.set_cons_succ, Option.some.injEq, exists_eq_left', true_and, and_true, eq_str, decide_eq_true_eq, ↓reduceIte, if_true, if_false, decide_true, decide_false, Bool.false_eq_true, ok_both, ok_case, ok_either, ok_first, ok_give, ok_k, ok_kp, ok_l, ok_left, ok_let, ok_name, ok_never, ok_none, ok_odd, ok_one, ok_other, ok_p, ok_pair, ok_r, ok_right, ok_second, ok_split, ok_star, ok_w, ok_way, ok_within, ok_without, ok_wrong, ok_yes, ok_no, ok_n, ok_led, ok_lr, ok_pp, ok_ppp, List.length_cons, List.length_nil, Nat.zero_add, Int.reduceSub, Int.reduceAdd, Int.reduceNeg, Int.reduceMul, Bool.not_true, Bool.not_false]
      change Wr (callF T (r + 1) "_law_count" [K (.both a b)] _) _ _
      refine (sp_count hf (.both a b) r _ ⟨(Kd.le.mono hm2 la), (Kd.le.mono hm2 lb)⟩ (by show max (Kd.dep a) (Kd.dep b) + 1 + 1 ≤ r; have := da; have := db; omega)).imp ?_ fun _ _ _ z => z.elim
      rintro v S9 ⟨rfl, rfl⟩
      try simp (config := {decide := true}) only [ws_cons, ty_non, ty_bl, ty_int, ty_str, ty_tup, kit_tuple_NoneType, kit_tuple_bool, kit_tuple_int, kit_tuple_str, kit_tuple_tuple, kit_tuple_list, kit_list_NoneType, kit_list_bool, kit_list_int, kit_list_str, kit_list_tuple, kit_list_list, kit_int_NoneType, kit_int_bool, kit_int_int, kit_int_str, kit_int_tuple, kit_int_list, kit_bool_NoneType, kit_bool_bool, kit_bool_int, kit_bool_str, kit_bool_tuple, kit_bool_list, kit_str_NoneType, kit_str_bool, kit_str_int, kit_str_str, kit_str_tuple, kit_str_list, non_int, non_non, non_tup, non_str, non_ref, non_bl, ws_nil, ws_asg, ws_exp, ws_retS, ws_ifs, ws_pass, ws_raise, wr_slot, wr_cst, wr_nil, wr_cons, wr_tup, wr_lst, wr_dsp, wr_bin, wr_neg, ex_int, wr_not, wr_cmp, wr_and, wr_or, wr_ite, wr_isN, wr_notN, wr_ix, wr_sl, wr_prim, wr_lrg, wr_meth, wr_isT, wr_callE, wr_c0, wr_c1, wr_ok, m_lrg, m_addI, m_subI, m_mulI, m_divI, m_modI, m_powI, m_addT, m_addS, m_ltI, m_leI, m_gtI, m_geI, m_eq, m_ne, m_in, m_nin, eq_int, m_ixT, m_ixC, m_ixD, at_0, at_1, at_2, at_3, m_lenT, m_lenC, m_intI, m_intB, m_abs, m_max, m_min, m_tupT, m_listT, m_slT, m_slC, t_bl, t_int, t_non, t_tup, a_nm, a_tp, setSlots, partM, methFor, List.getElem?_cons_zero, List.getElem?_cons_succ, List.set_cons_zero, List.set_cons_succ, Option.some.injEq, exists_eq_left', true_and, and_true, eq_str, decide_eq_true_eq, ↓reduceIte, if_true, if_false, decide_true, decide_false, Bool.false_eq_true, ok_both, ok_case, ok_either, ok_first, ok_give, ok_k, ok_kp, ok_l, ok_left, ok_let, ok_name, ok_never, ok_none, ok_odd, ok_one, ok_other, ok_p, ok_pair, ok_r, ok_right, ok_second, ok_split, ok_star, ok_w, ok_way, ok_within, ok_without, ok_wrong, ok_yes, ok_no, ok_n, ok_led, ok_lr, ok_pp, ok_ppp, List.length_cons, List.length_nil, Nat.zero_add, Int.reduceSub, Int.reduceAdd, Int.reduceNeg, Int.reduceMul, Bool.not_true, Bool.not_false]
      by_cases hc : (m : Int) < ((Kd.cnt (.both a b) : Nat) : Int)
      · simp (config := {decide := true}) only [hc, ws_cons, ty_non, ty_bl, ty_int, ty_str, ty_tup, kit_tuple_NoneType, kit_tuple_bool, kit_tuple_int, kit_tuple_str, kit_tuple_tuple, kit_tuple_list, kit_list_NoneType, kit_list_bool, kit_list_int, kit_list_str, kit_list_tuple, kit_list_list, kit_int_NoneType, kit_int_bool, kit_int_int, kit_int_str, kit_int_tuple, kit_int_list, kit_bool_NoneType, kit_bool_bool, kit_bool_int, kit_bool_str, kit_bool_tuple, kit_bool_list, kit_str_NoneType, kit_str_bool, kit_str_int, kit_str_str, kit_str_tuple, kit_str_list, non_int, non_non, non_tup, non_str, non_ref, non_bl, ws_nil, ws_asg, ws_exp, ws_retS, ws_ifs, ws_pass, ws_raise, wr_slot, wr_cst, wr_nil, wr_cons, wr_tup, wr_lst, wr_dsp, wr_bin, wr_neg, ex_int, wr_not, wr_cmp, wr_and, wr_or, wr_ite, wr_isN, wr_notN, wr_ix, wr_sl, wr_prim, wr_lrg, wr_meth, wr_isT, wr_callE, wr_c0, wr_c1, wr_ok, m_lrg, m_addI, m_subI, m_mulI, m_divI, m_modI, m_powI, m_addT, m_addS, m_ltI, m_leI, m_gtI, m_geI, m_eq, m_ne, m_in, m_nin, eq_int, m_ixT, m_ixC, m_ixD, at_0, at_1, at_2, at_3, m_lenT, m_lenC, m_intI, m_intB, m_abs, m_max, m_min, m_tupT, m_listT, m_slT, m_slC, t_bl, t_int, t_non, t_tup, a_nm, a_tp, setSlots, partM, methFor, List.getElem?_cons_zero, List.getElem?_cons_succ, List.set_cons_zero, List.set_cons_succ, Option.some.injEq, exists_eq_left', true_and, and_true, eq_str, decide_eq_true_eq, ↓reduceIte, if_true, if_false, decide_true, decide_false, Bool.false_eq_true, ok_both, ok_case, ok_either, ok_first, ok_give, ok_k, ok_kp, ok_l, ok_left, ok_let, ok_name, ok_never, ok_none, ok_odd, ok_one, ok_other, ok_p, ok_pair, ok_r, ok_right, ok_second, ok_split, ok_star, ok_w, ok_way, ok_within, ok_without, ok_wrong, ok_yes, ok_no, ok_n, ok_led, ok_lr, ok_pp, ok_ppp, List.length_cons, List.length_nil, Nat.zero_add, Int.reduceSub, Int.reduceAdd, Int.reduceNeg, Int.reduceMul, Bool.not_true, Bool.not_false]
        exact ⟨.one, rfl, hm, Nat.zero_le _, Nat.le_refl _, hd3'⟩
      · simp (config := {decide := true}) only [hc, ws_cons, ty_non, ty_bl, ty_int, ty_str, ty_tup, kit_tuple_NoneType, kit_tuple_bool, kit_tuple_int, kit_tuple_str, kit_tuple_tuple, kit_tuple_list, kit_list_NoneType, kit_list_bool, kit_list_int, kit_list_str, kit_list_tuple, kit_list_list, kit_int_NoneType, kit_int_bool, kit_int_int, kit_int_str, kit_int_tuple, kit_int_list, kit_bool_NoneType, kit_bool_bool, kit_bool_int, kit_bool_str, kit_bool_tuple, kit_bool_list, kit_str_NoneType, kit_str_bool, kit_str_int, kit_str_str, kit_str_tuple, kit_str_list, non_int, non_non, non_tup, non_str, non_ref, non_bl, ws_nil, ws_asg, ws_exp, ws_retS, ws_ifs, ws_pass, ws_raise, wr_slot, wr_cst, wr_nil, wr_cons, wr_tup, wr_lst, wr_dsp, wr_bin, wr_neg, ex_int, wr_not, wr_cmp, wr_and, wr_or, wr_ite, wr_isN, wr_notN, wr_ix, wr_sl, wr_prim, wr_lrg, wr_meth, wr_isT, wr_callE, wr_c0, wr_c1, wr_ok, m_lrg, m_addI, m_subI, m_mulI, m_divI, m_modI, m_powI, m_addT, m_addS, m_ltI, m_leI, m_gtI, m_geI, m_eq, m_ne, m_in, m_nin, eq_int, m_ixT, m_ixC, m_ixD, at_0, at_1, at_2, at_3, m_lenT, m_lenC, m_intI, m_intB, m_abs, m_max, m_min, m_tupT, m_listT, m_slT, m_slC, t_bl, t_int, t_non, t_tup, a_nm, a_tp, setSlots, partM, methFor, List.getElem?_cons_zero, List.getElem?_cons_succ, List.set_cons_zero, List.set_cons_succ, Option.some.injEq, exists_eq_left', true_and, and_true, eq_str, decide_eq_true_eq, ↓reduceIte, if_true, if_false, decide_true, decide_false, Bool.false_eq_true, ok_both, ok_case, ok_either, ok_first, ok_give, ok_k, ok_kp, ok_l, ok_left, ok_let, ok_name, ok_never, ok_none, ok_odd, ok_one, ok_other, ok_p, ok_pair, ok_r, ok_right, ok_second, ok_split, ok_star, ok_w, ok_way, ok_within, ok_without, ok_wrong, ok_yes, ok_no, ok_n, ok_led, ok_lr, ok_pp, ok_ppp, List.length_cons, List.length_nil, Nat.zero_add, Int.reduceSub, Int.reduceAdd, Int.reduceNeg, Int.reduceMul, Bool.not_true, Bool.not_false]
        exact ⟨.both a b, rfl, ⟨Int.ofNat_le.mp (Int.not_lt.mp hc), la, lb⟩, by show max (Kd.dep a) (Kd.dep b) + 1 ≤ n + 1; have := da; have := db; omega, Nat.mul_pos ca cb, hd3'⟩
    · try simp (config := {decide := true}) only [ws_cons, ty_non, ty_bl, ty_int, ty_str, ty_tup, kit_tuple_NoneType, kit_tuple_bool, kit_tuple_int, kit_tuple_str, kit_tuple_tuple, kit_tuple_list, kit_list_NoneType, kit_list_bool, kit_list_int, kit_list_str, kit_list_tuple, kit_list_list, kit_int_NoneType, kit_int_bool, kit_int_int, kit_int_str, kit_int_tuple, kit_int_list, kit_bool_NoneType, kit_bool_bool, kit_bool_int, kit_bool_str, kit_bool_tuple, kit_bool_list, kit_str_NoneType, kit_str_bool, kit_str_int, kit_str_str, kit_str_tuple, kit_str_list, non_int, non_non, non_tup, non_str, non_ref, non_bl, ws_nil, ws_asg, ws_exp, ws_retS, ws_ifs, ws_pass, ws_raise, wr_slot, wr_cst, wr_nil, wr_cons, wr_tup, wr_lst, wr_dsp, wr_bin, wr_neg, ex_int, wr_not, wr_cmp, wr_and, wr_or, wr_ite, wr_isN, wr_notN, wr_ix, wr_sl, wr_prim, wr_lrg, wr_meth, wr_isT, wr_callE, wr_c0, wr_c1, wr_ok, m_lrg, m_addI, m_subI, m_mulI, m_divI, m_modI, m_powI, m_addT, m_addS, m_ltI, m_leI, m_gtI, m_geI, m_eq, m_ne, m_in, m_nin, eq_int, m_ixT, m_ixC, m_ixD, at_0, at_1, at_2, at_3, m_lenT, m_lenC, m_intI, m_intB, m_abs, m_max, m_min, m_tupT, m_listT, m_slT, m_slC, t_bl, t_int, t_non, t_tup, a_nm, a_tp, setSlots, partM, methFor, List.getElem?_cons_zero, List.getElem?_cons_succ, List.set_cons_zero, List.set_cons_succ, Option.some.injEq, exists_eq_left', true_and, and_true, eq_str, decide_eq_true_eq, ↓reduceIte, if_true, if_false, decide_true, decide_false, Bool.false_eq_true, ok_both, ok_case, ok_either, ok_first, ok_give, ok_k, ok_kp, ok_l, ok_left, ok_let, ok_name, ok_never, ok_none, ok_odd, ok_one, ok_other, ok_p, ok_pair, ok_r, ok_right, ok_second, ok_split, ok_star, ok_w, ok_way, ok_within, ok_without, ok_wrong, ok_yes, ok_no, ok_n, ok_led, ok_lr, ok_pp, ok_ppp, List.length_cons, List.length_nil, Nat.zero_add, Int.reduceSub, Int.reduceAdd, Int.reduceNeg, Int.reduceMul, Bool.not_true, Bool.not_false]
      rw [m_ixL get_new]
      try simp (config := {decide := true}) only [ws_cons, ty_non, ty_bl, ty_int, ty_str, ty_tup, kit_tuple_NoneType, kit_tuple_bool, kit_tuple_int, kit_tuple_str, kit_tuple_tuple, kit_tuple_list, kit_list_NoneType, kit_list_bool, kit_list_int, kit_list_str, kit_list_tuple, kit_list_list, kit_int_NoneType, kit_int_bool, kit_int_int, kit_int_str, kit_int_tuple, kit_int_list, kit_bool_NoneType, kit_bool_bool, kit_bool_int, kit_bool_str, kit_bool_tuple, kit_bool_list, kit_str_NoneType, kit_str_bool, kit_str_int, kit_str_str, kit_str_tuple, kit_str_list, non_int, non_non, non_tup, non_str, non_ref, non_bl, ws_nil, ws_asg, ws_exp, ws_retS, ws_ifs, ws_pass, ws_raise, wr_slot, wr_cst, wr_nil, wr_cons, wr_tup, wr_lst, wr_dsp, wr_bin, wr_neg, ex_int, wr_not, wr_cmp, wr_and, wr_or, wr_ite, wr_isN, wr_notN, wr_ix, wr_sl, wr_prim, wr_lrg, wr_meth, wr_isT, wr_callE, wr_c0, wr_c1, wr_ok, m_lrg, m_addI, m_subI, m_mulI, m_divI, m_modI, m_powI, m_addT, m_addS, m_ltI, m_leI, m_gtI, m_geI, m_eq, m_ne, m_in, m_nin, eq_int, m_ixT, m_ixC, m_ixD, at_0, at_1, at_2, at_3, m_lenT, m_lenC, m_intI, m_intB, m_abs, m_max, m_min, m_tupT, m_listT, m_slT, m_slC, t_bl, t_int, t_non, t_tup, a_nm, a_tp, setSlots, partM, methFor, List.getElem?_cons_zero, List.getElem?_cons_succ, List.set_cons_zero, List.set_cons_succ, Option.some.injEq, exists_eq_left', true_and, and_true, eq_str, decide_eq_true_eq, ↓reduceIte, if_true, if_false, decide_true, decide_false, Bool.false_eq_true, ok_both, ok_case, ok_either, ok_first, ok_give, ok_k, ok_kp, ok_l, ok_left, ok_let, ok_name, ok_never, ok_none, ok_odd, ok_one, ok_other, ok_p, ok_pair, ok_r, ok_right, ok_second, ok_split, ok_star, ok_w, ok_way, ok_within, ok_without, ok_wrong, ok_yes, ok_no, ok_n, ok_led, ok_lr, ok_pp, ok_ppp, List.length_cons, List.length_nil, Nat.zero_add, Int.reduceSub, Int.reduceAdd, Int.reduceNeg, Int.reduceMul, Bool.not_true, Bool.not_false]
      refine (ih _ (by omega) (by omega) hd1.2.app).imp ?_ fun _ _ _ z => z.elim
      rintro v S2 ⟨a, rfl, la, da, ca, hd2⟩
      refine (ih _ (by omega) (by omega) hd2.2).imp ?_ fun _ _ _ z => z.elim
      rintro v S3 ⟨b, rfl, lb, db, cb, hd3⟩
      have hd3' : Drawn d S S3 := (hd1.of_app.trans hd2.of_app).trans hd3
      try simp (config := {decide := true}) only [ws_cons, ty_non, ty_bl, ty_int, ty_str, ty_tup, kit_tuple_NoneType, kit_tuple_bool, kit_tuple_int, kit_tuple_str, kit_tuple_tuple, kit_tuple_list, kit_list_NoneType, kit_list_bool, kit_list_int, kit_list_str, kit_list_tuple, kit_list_list, kit_int_NoneType, kit_int_bool, kit_int_int, kit_int_str, kit_int_tuple, kit_int_list, kit_bool_NoneType, kit_bool_bool, kit_bool_int, kit_bool_str, kit_bool_tuple, kit_bool_list, kit_str_NoneType, kit_str_bool, kit_str_int, kit_str_str, kit_str_tuple, kit_str_list, non_int, non_non, non_tup, non_str, non_ref, non_bl, ws_nil, ws_asg, ws_exp, ws_retS, ws_ifs, ws_pass, ws_raise, wr_slot, wr_cst, wr_nil, wr_cons, wr_tup, wr_lst, wr_dsp, wr_bin, wr_neg, ex_int, wr_not, wr_cmp, wr_and, wr_or, wr_ite, wr_isN, wr_notN, wr_ix, wr_sl, wr_prim, wr_lrg, wr_meth, wr_isT, wr_callE, wr_c0, wr_c1, wr_ok, m_lrg, m_addI, m_subI, m_mulI, m_divI, m_modI, m_powI, m_addT, m_addS, m_ltI, m_leI, m_gtI, m_geI, m_eq, m_ne, m_in, m_nin, eq_int, m_ixT, m_ixC, m_ixD, at_0, at_1, at_2, at_3, m_lenT, m_lenC, m_intI, m_intB, m_abs, m_max, m_min, m_tupT, m_listT, m_slT, m_slC, t_bl, t_int, t_non, t_tup, a_nm, a_tp, setSlots, partM, methFor, List.getElem?_cons_zero, List.getElem?_cons_succ, List.set_cons_zero, List.set_cons_succ, Option.some.injEq, exists_eq_left', true_and, and_true, eq_str, decide_eq_true_eq, ↓reduceIte, if_true, if_false, decide_true, decide_false, Bool.false_eq_true, ok_both, ok_case, ok_either, ok_first, ok_give, ok_k, ok_kp, ok_l, ok_left, ok_let, ok_name, ok_never, ok_none, ok_odd, ok_one, ok_other, ok_p, ok_pair, ok_r, ok_right, ok_second, ok_split, ok_star, ok_w, ok_way, ok_within, ok_without, ok_wrong, ok_yes, ok_no, ok_n, ok_led, ok_lr, ok_pp, ok_ppp, List.length_cons, List.length_nil, Nat.zero_add, Int.reduceSub, Int.reduceAdd, Int.reduceNeg, Int.reduceMul, Bool.not_true, Bool.not_false]
      refine (sp_next hf hd3'.2 (by decide)).imp ?_ fun _ _ _ z => z.elim
      rintro v S4 ⟨j, rfl, _, _, hd4⟩
      try simp (config := {decide := true}) only [ws_cons, ty_non, ty_bl, ty_int, ty_str, ty_tup, kit_tuple_NoneType, kit_tuple_bool, kit_tuple_int, kit_tuple_str, kit_tuple_tuple, kit_tuple_list, kit_list_NoneType, kit_list_bool, kit_list_int, kit_list_str, kit_list_tuple, kit_list_list, kit_int_NoneType, kit_int_bool, kit_int_int, kit_int_str, kit_int_tuple, kit_int_list, kit_bool_NoneType, kit_bool_bool, kit_bool_int, kit_bool_str, kit_bool_tuple, kit_bool_list, kit_str_NoneType, kit_str_bool, kit_str_int, kit_str_str, kit_str_tuple, kit_str_list, non_int, non_non, non_tup, non_str, non_ref, non_bl, ws_nil, ws_asg, ws_exp, ws_retS, ws_ifs, ws_pass, ws_raise, wr_slot, wr_cst, wr_nil, wr_cons, wr_tup, wr_lst, wr_dsp, wr_bin, wr_neg, ex_int, wr_not, wr_cmp, wr_and, wr_or, wr_ite, wr_isN, wr_notN, wr_ix, wr_sl, wr_prim, wr_lrg, wr_meth, wr_isT, wr_callE, wr_c0, wr_c1, wr_ok, m_lrg, m_addI, m_subI, m_mulI, m_divI, m_modI, m_powI, m_addT, m_addS, m_ltI, m_leI, m_gtI, m_geI, m_eq, m_ne, m_in, m_nin, eq_int, m_ixT, m_ixC, m_ixD, at_0, at_1, at_2, at_3, m_lenT, m_lenC, m_intI, m_intB, m_abs, m_max, m_min, m_tupT, m_listT, m_slT, m_slC, t_bl, t_int, t_non, t_tup, a_nm, a_tp, setSlots, partM, methFor, List.getElem?_cons_zero, List.getElem?_cons_succ, List.set_cons_zero, List.set_cons_succ, Option.some.injEq, exists_eq_left', true_and, and_true, eq_str, decide_eq_true_eq, ↓reduceIte, if_true, if_false, decide_true, decide_false, Bool.false_eq_true, ok_both, ok_case, ok_either, ok_first, ok_give, ok_k, ok_kp, ok_l, ok_left, ok_let, ok_name, ok_never, ok_none, ok_odd, ok_one, ok_other, ok_p, ok_pair, ok_r, ok_right, ok_second, ok_split, ok_star, ok_w, ok_way, ok_within, ok_without, ok_wrong, ok_yes, ok_no, ok_n, ok_led, ok_lr, ok_pp, ok_ppp, List.length_cons, List.length_nil, Nat.zero_add, Int.reduceSub, Int.reduceAdd, Int.reduceNeg, Int.reduceMul, Bool.not_true, Bool.not_false]
      have hd4' := hd3'.trans hd4
      by_cases hj : j = 1
      · simp (config := {decide := true}) only [hj, ws_cons, ty_non, ty_bl, ty_int, ty_str, ty_tup, kit_tuple_NoneType, kit_tuple_bool, kit_tuple_int, kit_tuple_str, kit_tuple_tuple, kit_tuple_list, kit_list_NoneType, kit_list_bool, kit_list_int, kit_list_str, kit_list_tuple, kit_list_list, kit_int_NoneType, kit_int_bool, kit_int_int, kit_int_str, kit_int_tuple, kit_int_list, kit_bool_NoneType, kit_bool_bool, kit_bool_int, kit_bool_str, kit_bool_tuple, kit_bool_list, kit_str_NoneType, kit_str_bool, kit_str_int, kit_str_str, kit_str_tuple, kit_str_list, non_int, non_non, non_tup, non_str, non_ref, non_bl, ws_nil, ws_asg, ws_exp, ws_retS, ws_ifs, ws_pass, ws_raise, wr_slot, wr_cst, wr_nil, wr_cons, wr_tup, wr_lst, wr_dsp, wr_bin, wr_neg, ex_int, wr_not, wr_cmp, wr_and, wr_or, wr_ite, wr_isN, wr_notN, wr_ix, wr_sl, wr_prim, wr_lrg, wr_meth, wr_isT, wr_callE, wr_c0, wr_c1, wr_ok, m_lrg, m_addI, m_subI, m_mulI, m_divI, m_modI, m_powI, m_addT, m_addS, m_ltI, m_leI, m_gtI, m_geI, m_eq, m_ne, m_in, m_nin, eq_int, m_ixT, m_ixC, m_ixD, at_0, at_1, at_2, at_3, m_lenT, m_lenC, m_intI, m_intB, m_abs, m_max, m_min, m_tupT, m_listT, m_slT, m_slC, t_bl, t_int, t_non, t_tup, a_nm, a_tp, setSlots, partM, methFor, List.getElem?_cons_zero, List.getElem?_cons_succ, List.set_cons_zero, List.set_cons_succ, Option.some.injEq, exists_eq_left', true_and, and_true, eq_str, decide_eq_true_eq, ↓reduceIte, if_true, if_false, decide_true, decide_false, Bool.false_eq_true, ok_both, ok_case, ok_either, ok_first, ok_give, ok_k, ok_kp, ok_l, ok_left, ok_let, ok_name, ok_never, ok_none, ok_odd, ok_one, ok_other, ok_p, ok_pair, ok_r, ok_right, ok_second, ok_split, ok_star, ok_w, ok_way, ok_within, ok_without, ok_wrong, ok_yes, ok_no, ok_n, ok_led, ok_lr, ok_pp, ok_ppp, List.length_cons, List.length_nil, Nat.zero_add, Int.reduceSub, Int.reduceAdd, Int.reduceNeg, Int.reduceMul, Bool.not_true, Bool.not_false]
        change Wr (callF T (r + 1) "_law_count" [K .none] _) _ _
        refine (sp_count hf .none r _ (Kd.le.sub (Kd.le.mono hm2 (show Kd.le m .none from trivial))) (by have := (show Kd.dep .none ≤ n from Nat.zero_le _); omega)).imp ?_ fun _ _ _ z => z.elim
        rintro v S8 ⟨rfl, rfl⟩
        try simp (config := {decide := true}) only [ws_cons, ty_non, ty_bl, ty_int, ty_str, ty_tup, kit_tuple_NoneType, kit_tuple_bool, kit_tuple_int, kit_tuple_str, kit_tuple_tuple, kit_tuple_list, kit_list_NoneType, kit_list_bool, kit_list_int, kit_list_str, kit_list_tuple, kit_list_list, kit_int_NoneType, kit_int_bool, kit_int_int, kit_int_str, kit_int_tuple, kit_int_list, kit_bool_NoneType, kit_bool_bool, kit_bool_int, kit_bool_str, kit_bool_tuple, kit_bool_list, kit_str_NoneType, kit_str_bool, kit_str_int, kit_str_str, kit_str_tuple, kit_str_list, non_int, non_non, non_tup, non_str, non_ref, non_bl, ws_nil, ws_asg, ws_exp, ws_retS, ws_ifs, ws_pass, ws_raise, wr_slot, wr_cst, wr_nil, wr_cons, wr_tup, wr_lst, wr_dsp, wr_bin, wr_neg, ex_int, wr_not, wr_cmp, wr_and, wr_or, wr_ite, wr_isN, wr_notN, wr_ix, wr_sl, wr_prim, wr_lrg, wr_meth, wr_isT, wr_callE, wr_c0, wr_c1, wr_ok, m_lrg, m_addI, m_subI, m_mulI, m_divI, m_modI, m_powI, m_addT, m_addS, m_ltI, m_leI, m_gtI, m_geI, m_eq, m_ne, m_in, m_nin, eq_int, m_ixT, m_ixC, m_ixD, at_0, at_1, at_2, at_3, m_lenT, m_lenC, m_intI, m_intB, m_abs, m_max, m_min, m_tupT, m_listT, m_slT, m_slC, t_bl, t_int, t_non, t_tup, a_nm, a_tp, setSlots, partM, methFor, List.getElem?_cons_zero, List.getElem?_cons_succ, List.set_cons_zero, List.set_cons_succ, Option.some.injEq, exists_eq_left', true_and, and_true, eq_str, decide_eq_true_eq, ↓reduceIte, if_true, if_false, decide_true, decide_false, Bool.false_eq_true, ok_both, ok_case, ok_either, ok_first, ok_give, ok_k, ok_kp, ok_l, ok_left, ok_let, ok_name, ok_never, ok_none, ok_odd, ok_one, ok_other, ok_p, ok_pair, ok_r, ok_right, ok_second, ok_split, ok_star, ok_w, ok_way, ok_within, ok_without, ok_wrong, ok_yes, ok_no, ok_n, ok_led, ok_lr, ok_pp, ok_ppp, List.length_cons, List.length_nil, Nat.zero_add, Int.reduceSub, Int.reduceAdd, Int.reduceNeg, Int.reduceMul, Bool.not_true, Bool.not_false]
        change Wr (callF T (r + 1) "_law_count" [K (.way .none b)] _) _ _
        refine (sp_count hf (.way .none b) r _ ⟨(Kd.le.mono hm2 (show Kd.le m .none from trivial)), (Kd.le.mono hm2 lb)⟩ (by show max (Kd.dep .none) (Kd.dep b) + 1 + 1 ≤ r; have := (show Kd.dep .none ≤ n from Nat.zero_le _); have := db; omega)).imp ?_ fun _ _ _ z => z.elim
        rintro v S9 ⟨rfl, rfl⟩
        try simp (config := {decide := true}) only [ws_cons, ty_non, ty_bl, ty_int, ty_str, ty_tup, kit_tuple_NoneType, kit_tuple_bool, kit_tuple_int, kit_tuple_str, kit_tuple_tuple, kit_tuple_list, kit_list_NoneType, kit_list_bool, kit_list_int, kit_list_str, kit_list_tuple, kit_list_list, kit_int_NoneType, kit_int_bool, kit_int_int, kit_int_str, kit_int_tuple, kit_int_list, kit_bool_NoneType, kit_bool_bool, kit_bool_int, kit_bool_str, kit_bool_tuple, kit_bool_list, kit_str_NoneType, kit_str_bool, kit_str_int, kit_str_str, kit_str_tuple, kit_str_list, non_int, non_non, non_tup, non_str, non_ref, non_bl, ws_nil, ws_asg, ws_exp, ws_retS, ws_ifs, ws_pass, ws_raise, wr_slot, wr_cst, wr_nil, wr_cons, wr_tup, wr_lst, wr_dsp, wr_bin, wr_neg, ex_int, wr_not, wr_cmp, wr_and, wr_or, wr_ite, wr_isN, wr_notN, wr_ix, wr_sl, wr_prim, wr_lrg, wr_meth, wr_isT, wr_callE, wr_c0, wr_c1, wr_ok, m_lrg, m_addI, m_subI, m_mulI, m_divI, m_modI, m_powI, m_addT, m_addS, m_ltI, m_leI, m_gtI, m_geI, m_eq, m_ne, m_in, m_nin, eq_int, m_ixT, m_ixC, m_ixD, at_0, at_1, at_2, at_3, m_lenT, m_lenC, m_intI, m_intB, m_abs, m_max, m_min, m_tupT, m_listT, m_slT, m_slC, t_bl, t_int, t_non, t_tup, a_nm, a_tp, setSlots, partM, methFor, List.getElem?_cons_zero, List.getElem?_cons_succ, List.set_cons_zero, List.set_cons_succ, Option.some.injEq, exists_eq_left', true_and, and_true, eq_str, decide_eq_true_eq, ↓reduceIte, if_true, if_false, decide_true, decide_false, Bool.false_eq_true, ok_both, ok_case, ok_either, ok_first, ok_give, ok_k, ok_kp, ok_l, ok_left, ok_let, ok_name, ok_never, ok_none, ok_odd, ok_one, ok_other, ok_p, ok_pair, ok_r, ok_right, ok_second, ok_split, ok_star, ok_w, ok_way, ok_within, ok_without, ok_wrong, ok_yes, ok_no, ok_n, ok_led, ok_lr, ok_pp, ok_ppp, List.length_cons, List.length_nil, Nat.zero_add, Int.reduceSub, Int.reduceAdd, Int.reduceNeg, Int.reduceMul, Bool.not_true, Bool.not_false]
        by_cases hc : (m : Int) < ((Kd.cnt (.way .none b) : Nat) : Int)
        · simp (config := {decide := true}) only [hc, ws_cons, ty_non, ty_bl, ty_int, ty_str, ty_tup, kit_tuple_NoneType, kit_tuple_bool, kit_tuple_int, kit_tuple_str, kit_tuple_tuple, kit_tuple_list, kit_list_NoneType, kit_list_bool, kit_list_int, kit_list_str, kit_list_tuple, kit_list_list, kit_int_NoneType, kit_int_bool, kit_int_int, kit_int_str, kit_int_tuple, kit_int_list, kit_bool_NoneType, kit_bool_bool, kit_bool_int, kit_bool_str, kit_bool_tuple, kit_bool_list, kit_str_NoneType, kit_str_bool, kit_str_int, kit_str_str, kit_str_tuple, kit_str_list, non_int, non_non, non_tup, non_str, non_ref, non_bl, ws_nil, ws_asg, ws_exp, ws_retS, ws_ifs, ws_pass, ws_raise, wr_slot, wr_cst, wr_nil, wr_cons, wr_tup, wr_lst, wr_dsp, wr_bin, wr_neg, ex_int, wr_not, wr_cmp, wr_and, wr_or, wr_ite, wr_isN, wr_notN, wr_ix, wr_sl, wr_prim, wr_lrg, wr_meth, wr_isT, wr_callE, wr_c0, wr_c1, wr_ok, m_lrg, m_addI, m_subI, m_mulI, m_divI, m_modI, m_powI, m_addT, m_addS, m_ltI, m_leI, m_gtI, m_geI, m_eq, m_ne, m_in, m_nin, eq_int, m_ixT, m_ixC, m_ixD, at_0, at_1, at_2, at_3, m_lenT, m_lenC, m_intI, m_intB, m_abs, m_max, m_min, m_tupT, m_listT, m_slT, m_slC, t_bl, t_int, t_non, t_tup, a_nm, a_tp, setSlots, partM, methFor, List.getElem?_cons_zero, List.getElem?_cons_succ, List.set_cons_zero, List.set_cons_succ, Option.some.injEq, exists_eq_left', true_and, and_true, eq_str, decide_eq_true_eq, ↓reduceIte, if_true, if_false, decide_true, decide_false, Bool.false_eq_true, ok_both, ok_case, ok_either, ok_first, ok_give, ok_k, ok_kp, ok_l, ok_left, ok_let, ok_name, ok_never, ok_none, ok_odd, ok_one, ok_other, ok_p, ok_pair, ok_r, ok_right, ok_second, ok_split, ok_star, ok_w, ok_way, ok_within, ok_without, ok_wrong, ok_yes, ok_no, ok_n, ok_led, ok_lr, ok_pp, ok_ppp, List.length_cons, List.length_nil, Nat.zero_add, Int.reduceSub, Int.reduceAdd, Int.reduceNeg, Int.reduceMul, Bool.not_true, Bool.not_false]
          exact ⟨.one, rfl, hm, Nat.zero_le _, Nat.le_refl _, hd4'⟩
        · simp (config := {decide := true}) only [hc, ws_cons, ty_non, ty_bl, ty_int, ty_str, ty_tup, kit_tuple_NoneType, kit_tuple_bool, kit_tuple_int, kit_tuple_str, kit_tuple_tuple, kit_tuple_list, kit_list_NoneType, kit_list_bool, kit_list_int, kit_list_str, kit_list_tuple, kit_list_list, kit_int_NoneType, kit_int_bool, kit_int_int, kit_int_str, kit_int_tuple, kit_int_list, kit_bool_NoneType, kit_bool_bool, kit_bool_int, kit_bool_str, kit_bool_tuple, kit_bool_list, kit_str_NoneType, kit_str_bool, kit_str_int, kit_str_str, kit_str_tuple, kit_str_list, non_int, non_non, non_tup, non_str, non_ref, non_bl, ws_nil, ws_asg, ws_exp, ws_retS, ws_ifs, ws_pass, ws_raise, wr_slot, wr_cst, wr_nil, wr_cons, wr_tup, wr_lst, wr_dsp, wr_bin, wr_neg, ex_int, wr_not, wr_cmp, wr_and, wr_or, wr_ite, wr_isN, wr_notN, wr_ix, wr_sl, wr_prim, wr_lrg, wr_meth, wr_isT, wr_callE, wr_c0, wr_c1, wr_ok, m_lrg, m_addI, m_subI, m_mulI, m_divI, m_modI, m_powI, m_addT, m_addS, m_ltI, m_leI, m_gtI, m_geI, m_eq, m_ne, m_in, m_nin, eq_int, m_ixT, m_ixC, m_ixD, at_0, at_1, at_2, at_3, m_lenT, m_lenC, m_intI, m_intB, m_abs, m_max, m_min, m_tupT, m_listT, m_slT, m_slC, t_bl, t_int, t_non, t_tup, a_nm, a_tp, setSlots, partM, methFor, List.getElem?_cons_zero, List.getElem?_cons_succ, List.set_cons_zero, List.set_cons_succ, Option.some.injEq, exists_eq_left', true_and, and_true, eq_str, decide_eq_true_eq, ↓reduceIte, if_true, if_false, decide_true, decide_false, Bool.false_eq_true, ok_both, ok_case, ok_either, ok_first, ok_give, ok_k, ok_kp, ok_l, ok_left, ok_let, ok_name, ok_never, ok_none, ok_odd, ok_one, ok_other, ok_p, ok_pair, ok_r, ok_right, ok_second, ok_split, ok_star, ok_w, ok_way, ok_within, ok_without, ok_wrong, ok_yes, ok_no, ok_n, ok_led, ok_lr, ok_pp, ok_ppp, List.length_cons, List.length_nil, Nat.zero_add, Int.reduceSub, Int.reduceAdd, Int.reduceNeg, Int.reduceMul, Bool.not_true, Bool.not_false]
          exact ⟨.way .none b, rfl, ⟨Int.ofNat_le.mp (Int.not_lt.mp hc), (show Kd.le m .none from trivial), lb⟩, by show max (Kd.dep .none) (Kd.dep b) + 1 ≤ n + 1; have := (show Kd.dep .none ≤ n from Nat.zero_le _); have := db; omega, Nat.pow_pos cb, hd4'⟩
      · simp (config := {decide := true}) only [hj, ws_cons, ty_non, ty_bl, ty_int, ty_str, ty_tup, kit_tuple_NoneType, kit_tuple_bool, kit_tuple_int, kit_tuple_str, kit_tuple_tuple, kit_tuple_list, kit_list_NoneType, kit_list_bool, kit_list_int, kit_list_str, kit_list_tuple, kit_list_list, kit_int_NoneType, kit_int_bool, kit_int_int, kit_int_str, kit_int_tuple, kit_int_list, kit_bool_NoneType, kit_bool_bool, kit_bool_int, kit_bool_str, kit_bool_tuple, kit_bool_list, kit_str_NoneType, kit_str_bool, kit_str_int, kit_str_str, kit_str_tuple, kit_str_list, non_int, non_non, non_tup, non_str, non_ref, non_bl, ws_nil, ws_asg, ws_exp, ws_retS, ws_ifs, ws_pass, ws_raise, wr_slot, wr_cst, wr_nil, wr_cons, wr_tup, wr_lst, wr_dsp, wr_bin, wr_neg, ex_int, wr_not, wr_cmp, wr_and, wr_or, wr_ite, wr_isN, wr_notN, wr_ix, wr_sl, wr_prim, wr_lrg, wr_meth, wr_isT, wr_callE, wr_c0, wr_c1, wr_ok, m_lrg, m_addI, m_subI, m_mulI, m_divI, m_modI, m_powI, m_addT, m_addS, m_ltI, m_leI, m_gtI, m_geI, m_eq, m_ne, m_in, m_nin, eq_int, m_ixT, m_ixC, m_ixD, at_0, at_1, at_2, at_3, m_lenT, m_lenC, m_intI, m_intB, m_abs, m_max, m_min, m_tupT, m_listT, m_slT, m_slC, t_bl, t_int, t_non, t_tup, a_nm, a_tp, setSlots, partM, methFor, List.getElem?_cons_zero, List.getElem?_cons_succ, List.set_cons_zero, List.set_cons_succ, Option.some.injEq, exists_eq_left', true_and, and_true, eq_str, decide_eq_true_eq, ↓reduceIte, if_true, if_false, decide_true, decide_false, Bool.false_eq_true, ok_both, ok_case, ok_either, ok_first, ok_give, ok_k, ok_kp, ok_l, ok_left, ok_let, ok_name, ok_never, ok_none, ok_odd, ok_one, ok_other, ok_p, ok_pair, ok_r, ok_right, ok_second, ok_split, ok_star, ok_w, ok_way, ok_within, ok_without, ok_wrong, ok_yes, ok_no, ok_n, ok_led, ok_lr, ok_pp, ok_ppp, List.length_cons, List.length_nil, Nat.zero_add, Int.reduceSub, Int.reduceAdd, Int.reduceNeg, Int.reduceMul, Bool.not_true, Bool.not_false]
        change Wr (callF T (r + 1) "_law_count" [K a] _) _ _
        refine (sp_count hf a r _ (Kd.le.sub (Kd.le.mono hm2 la)) (by have := da; omega)).imp ?_ fun _ _ _ z => z.elim
        rintro v S8 ⟨rfl, rfl⟩
        try simp (config := {decide := true}) only [ws_cons, ty_non, ty_bl, ty_int, ty_str, ty_tup, kit_tuple_NoneType, kit_tuple_bool, kit_tuple_int, kit_tuple_str, kit_tuple_tuple, kit_tuple_list, kit_list_NoneType, kit_list_bool, kit_list_int, kit_list_str, kit_list_tuple, kit_list_list, kit_int_NoneType, kit_int_bool, kit_int_int, kit_int_str, kit_int_tuple, kit_int_list, kit_bool_NoneType, kit_bool_bool, kit_bool_int, kit_bool_str, kit_bool_tuple, kit_bool_list, kit_str_NoneType, kit_str_bool, kit_str_int, kit_str_str, kit_str_tuple, kit_str_list, non_int, non_non, non_tup, non_str, non_ref, non_bl, ws_nil, ws_asg, ws_exp, ws_retS, ws_ifs, ws_pass, ws_raise, wr_slot, wr_cst, wr_nil, wr_cons, wr_tup, wr_lst, wr_dsp, wr_bin, wr_neg, ex_int, wr_not, wr_cmp, wr_and, wr_or, wr_ite, wr_isN, wr_notN, wr_ix, wr_sl, wr_prim, wr_lrg, wr_meth, wr_isT, wr_callE, wr_c0, wr_c1, wr_ok, m_lrg, m_addI, m_subI, m_mulI, m_divI, m_modI, m_powI, m_addT, m_addS, m_ltI, m_leI, m_gtI, m_geI, m_eq, m_ne, m_in, m_nin, eq_int, m_ixT, m_ixC, m_ixD, at_0, at_1, at_2, at_3, m_lenT, m_lenC, m_intI, m_intB, m_abs, m_max, m_min, m_tupT, m_listT, m_slT, m_slC, t_bl, t_int, t_non, t_tup, a_nm, a_tp, setSlots, partM, methFor, List.getElem?_cons_zero, List.getElem?_cons_succ, List.set_cons_zero, List.set_cons_succ, Option.some.injEq, exists_eq_left', true_and, and_true, eq_str, decide_eq_true_eq, ↓reduceIte, if_true, if_false, decide_true, decide_false, Bool.false_eq_true, ok_both, ok_case, ok_either, ok_first, ok_give, ok_k, ok_kp, ok_l, ok_left, ok_let, ok_name, ok_never, ok_none, ok_odd, ok_one, ok_other, ok_p, ok_pair, ok_r, ok_right, ok_second, ok_split, ok_star, ok_w, ok_way, ok_within, ok_without, ok_wrong, ok_yes, ok_no, ok_n, ok_led, ok_lr, ok_pp, ok_ppp, List.length_cons, List.length_nil, Nat.zero_add, Int.reduceSub, Int.reduceAdd, Int.reduceNeg, Int.reduceMul, Bool.not_true, Bool.not_false]
        by_cases h6 : (6 : Int) < ((Kd.cnt a : Nat) : Int)
        · simp (config := {decide := true}) only [h6, ws_cons, ty_non, ty_bl, ty_int, ty_str, ty_tup, kit_tuple_NoneType, kit_tuple_bool, kit_tuple_int, kit_tuple_str, kit_tuple_tuple, kit_tuple_list, kit_list_NoneType, kit_list_bool, kit_list_int, kit_list_str, kit_list_tuple, kit_list_list, kit_int_NoneType, kit_int_bool, kit_int_int, kit_int_str, kit_int_tuple, kit_int_list, kit_bool_NoneType, kit_bool_bool, kit_bool_int, kit_bool_str, kit_bool_tuple, kit_bool_list, kit_str_NoneType, kit_str_bool, kit_str_int, kit_str_str, kit_str_tuple, kit_str_list, non_int, non_non, non_tup, non_str, non_ref, non_bl, ws_nil, ws_asg, ws_exp, ws_retS, ws_ifs, ws_pass, ws_raise, wr_slot, wr_cst, wr_nil, wr_cons, wr_tup, wr_lst, wr_dsp, wr_bin, wr_neg, ex_int, wr_not, wr_cmp, wr_and, wr_or, wr_ite, wr_isN, wr_notN, wr_ix, wr_sl, wr_prim, wr_lrg, wr_meth, wr_isT, wr_callE, wr_c0, wr_c1, wr_ok, m_lrg, m_addI, m_subI, m_mulI, m_divI, m_modI, m_powI, m_addT, m_addS, m_ltI, m_leI, m_gtI, m_geI, m_eq, m_ne, m_in, m_nin, eq_int, m_ixT, m_ixC, m_ixD, at_0, at_1, at_2, at_3, m_lenT, m_lenC, m_intI, m_intB, m_abs, m_max, m_min, m_tupT, m_listT, m_slT, m_slC, t_bl, t_int, t_non, t_tup, a_nm, a_tp, setSlots, partM, methFor, List.getElem?_cons_zero, List.getElem?_cons_succ, List.set_cons_zero, List.set_cons_succ, Option.some.injEq, exists_eq_left', true_and, and_true, eq_str, decide_eq_true_eq, ↓reduceIte, if_true, if_false, decide_true, decide_false, Bool.false_eq_true, ok_both, ok_case, ok_either, ok_first, ok_give, ok_k, ok_kp, ok_l, ok_left, ok_let, ok_name, ok_never, ok_none, ok_odd, ok_one, ok_other, ok_p, ok_pair, ok_r, ok_right, ok_second, ok_split, ok_star, ok_w, ok_way, ok_within, ok_without, ok_wrong, ok_yes, ok_no, ok_n, ok_led, ok_lr, ok_pp, ok_ppp, List.length_cons, List.length_nil, Nat.zero_add, Int.reduceSub, Int.reduceAdd, Int.reduceNeg, Int.reduceMul, Bool.not_true, Bool.not_false]
          change Wr (callF T (r + 1) "_law_count" [K (.way .one b)] _) _ _
          refine (sp_count hf (.way .one b) r _ ⟨(Kd.le.mono hm2 (show Kd.le m .one from hm)), (Kd.le.mono hm2 lb)⟩ (by show max (Kd.dep .one) (Kd.dep b) + 1 + 1 ≤ r; have := (show Kd.dep .one ≤ n from Nat.zero_le _); have := db; omega)).imp ?_ fun _ _ _ z => z.elim
          rintro v S9 ⟨rfl, rfl⟩
          try simp (config := {decide := true}) only [ws_cons, ty_non, ty_bl, ty_int, ty_str, ty_tup, kit_tuple_NoneType, kit_tuple_bool, kit_tuple_int, kit_tuple_str, kit_tuple_tuple, kit_tuple_list, kit_list_NoneType, kit_list_bool, kit_list_int, kit_list_str, kit_list_tuple, kit_list_list, kit_int_NoneType, kit_int_bool, kit_int_int, kit_int_str, kit_int_tuple, kit_int_list, kit_bool_NoneType, kit_bool_bool, kit_bool_int, kit_bool_str, kit_bool_tuple, kit_bool_list, kit_str_NoneType, kit_str_bool, kit_str_int, kit_str_str, kit_str_tuple, kit_str_list, non_int, non_non, non_tup, non_str, non_ref, non_bl, ws_nil, ws_asg, ws_exp, ws_retS, ws_ifs, ws_pass, ws_raise, wr_slot, wr_cst, wr_nil, wr_cons, wr_tup, wr_lst, wr_dsp, wr_bin, wr_neg, ex_int, wr_not, wr_cmp, wr_and, wr_or, wr_ite, wr_isN, wr_notN, wr_ix, wr_sl, wr_prim, wr_lrg, wr_meth, wr_isT, wr_callE, wr_c0, wr_c1, wr_ok, m_lrg, m_addI, m_subI, m_mulI, m_divI, m_modI, m_powI, m_addT, m_addS, m_ltI, m_leI, m_gtI, m_geI, m_eq, m_ne, m_in, m_nin, eq_int, m_ixT, m_ixC, m_ixD, at_0, at_1, at_2, at_3, m_lenT, m_lenC, m_intI, m_intB, m_abs, m_max, m_min, m_tupT, m_listT, m_slT, m_slC, t_bl, t_int, t_non, t_tup, a_nm, a_tp, setSlots, partM, methFor, List.getElem?_cons_zero, List.getElem?_cons_succ, List.set_cons_zero, List.set_cons_succ, Option.some.injEq, exists_eq_left', true_and, and_true, eq_str, decide_eq_true_eq, ↓reduceIte, if_true, if_false, decide_true, decide_false, Bool.false_eq_true, ok_both, ok_case, ok_either, ok_first, ok_give, ok_k, ok_kp, ok_l, ok_left, ok_let, ok_name, ok_never, ok_none, ok_odd, ok_one, ok_other, ok_p, ok_pair, ok_r, ok_right, ok_second, ok_split, ok_star, ok_w, ok_way, ok_within, ok_without, ok_wrong, ok_yes, ok_no, ok_n, ok_led, ok_lr, ok_pp, ok_ppp, List.length_cons, List.length_nil, Nat.zero_add, Int.reduceSub, Int.reduceAdd, Int.reduceNeg, Int.reduceMul, Bool.not_true, Bool.not_false]
          by_cases hc : (m : Int) < ((Kd.cnt (.way .one b) : Nat) : Int)
          · simp (config := {decide := true}) only [hc, ws_cons, ty_non, ty_bl, ty_int, ty_str, ty_tup, kit_tuple_NoneType, kit_tuple_bool, kit_tuple_int, kit_tuple_str, kit_tuple_tuple, kit_tuple_list, kit_list_NoneType, kit_list_bool, kit_list_int, kit_list_str, kit_list_tuple, kit_list_list, kit_int_NoneType, kit_int_bool, kit_int_int, kit_int_str, kit_int_tuple, kit_int_list, kit_bool_NoneType, kit_bool_bool, kit_bool_int, kit_bool_str, kit_bool_tuple, kit_bool_list, kit_str_NoneType, kit_str_bool, kit_str_int, kit_str_str, kit_str_tuple, kit_str_list, non_int, non_non, non_tup, non_str, non_ref, non_bl, ws_nil, ws_asg, ws_exp, ws_retS, ws_ifs, ws_pass, ws_raise, wr_slot, wr_cst, wr_nil, wr_cons, wr_tup, wr_lst, wr_dsp, wr_bin, wr_neg, ex_int, wr_not, wr_cmp, wr_and, wr_or, wr_ite, wr_isN, wr_notN, wr_ix, wr_sl, wr_prim, wr_lrg, wr_meth, wr_isT, wr_callE, wr_c0, wr_c1, wr_ok, m_lrg, m_addI, m_subI, m_mulI, m_divI, m_modI, m_powI, m_addT, m_addS, m_ltI, m_leI, m_gtI, m_geI, m_eq, m_ne, m_in, m_nin, eq_int, m_ixT, m_ixC, m_ixD, at_0, at_1, at_2, at_3, m_lenT, m_lenC, m_intI, m_intB, m_abs, m_max, m_min, m_tupT, m_listT, m_slT, m_slC, t_bl, t_int, t_non, t_tup, a_nm, a_tp, setSlots, partM, methFor, List.getElem?_cons_zero, List.getElem?_cons_succ, List.set_cons_zero, List.set_cons_succ, Option.some.injEq, exists_eq_left', true_and, and_true, eq_str, decide_eq_true_eq, ↓reduceIte, if_true, if_false, decide_true, decide_false, Bool.false_eq_true, ok_both, ok_case, ok_either, ok_first, ok_give, ok_k, ok_kp, ok_l, ok_left, ok_let, ok_name, ok_never, ok_none, ok_odd, ok_one, ok_other, ok_p, ok_pair, ok_r, ok_right, ok_second, ok_split, ok_star, ok_w, ok_way, ok_within, ok_without, ok_wrong, ok_yes, ok_no, ok_n, ok_led, ok_lr, ok_pp, ok_ppp, List.length_cons, List.length_nil, Nat.zero_add, Int.reduceSub, Int.reduceAdd, Int.reduceNeg, Int.reduceMul, Bool.not_true, Bool.not_false]
            exact ⟨.one, rfl, hm, Nat.zero_le _, Nat.le_refl _, hd4'⟩
          · simp (config := {decide := true}) only [hc, ws_cons, ty_non, ty_bl, ty_int, ty_str, ty_tup, kit_tuple_NoneType, kit_tuple_bool, kit_tuple_int, kit_tuple_str, kit_tuple_tuple, kit_tuple_list, kit_list_NoneType, kit_list_bool, kit_list_int, kit_list_str, kit_list_tuple, kit_list_list, kit_int_NoneType, kit_int_bool, kit_int_int, kit_int_str, kit_int_tuple, kit_int_list, kit_bool_NoneType, kit_bool_bool, kit_bool_int, kit_bool_str, kit_bool_tuple, kit_bool_list, kit_str_NoneType, kit_str_bool, kit_str_int, kit_str_str, kit_str_tuple, kit_str_list, non_int, non_non, non_tup, non_str, non_ref, non_bl, ws_nil, ws_asg, ws_exp, ws_retS, ws_ifs, ws_pass, ws_raise, wr_slot, wr_cst, wr_nil, wr_cons, wr_tup, wr_lst, wr_dsp, wr_bin, wr_neg, ex_int, wr_not, wr_cmp, wr_and, wr_or, wr_ite, wr_isN, wr_notN, wr_ix, wr_sl, wr_prim, wr_lrg, wr_meth, wr_isT, wr_callE, wr_c0, wr_c1, wr_ok, m_lrg, m_addI, m_subI, m_mulI, m_divI, m_modI, m_powI, m_addT, m_addS, m_ltI, m_leI, m_gtI, m_geI, m_eq, m_ne, m_in, m_nin, eq_int, m_ixT, m_ixC, m_ixD, at_0, at_1, at_2, at_3, m_lenT, m_lenC, m_intI, m_intB, m_abs, m_max, m_min, m_tupT, m_listT, m_slT, m_slC, t_bl, t_int, t_non, t_tup, a_nm, a_tp, setSlots, partM, methFor, List.getElem?_cons_zero, List.getElem?_cons_succ, List.set_cons_zero, List.set_cons_succ, Option.some.injEq, exists_eq_left', true_and, and_true, eq_str, decide_eq_true_eq, ↓reduceIte, if_true, if_false, decide_true, decide_false, Bool.false_eq_true, ok_both, ok_case, ok_either, ok_first, ok_give, ok_k, ok_kp, ok_l, ok_left, ok_let, ok_name, ok_never, ok_none, ok_odd, ok_one, ok_other, ok_p, ok_pair, ok_r, ok_right, ok_second, ok_split, ok_star, ok_w, ok_way, ok_within, ok_without, ok_wrong, ok_yes, ok_no, ok_n, ok_led, ok_lr, ok_pp, ok_ppp, List.length_cons, List.length_nil, Nat.zero_add, Int.reduceSub, Int.reduceAdd, Int.reduceNeg, Int.reduceMul, Bool.not_true, Bool.not_false]
            exact ⟨.way .one b, rfl, ⟨Int.ofNat_le.mp (Int.not_lt.mp hc), (show Kd.le m .one from hm), lb⟩, by show max (Kd.dep .one) (Kd.dep b) + 1 ≤ n + 1; have := (show Kd.dep .one ≤ n from Nat.zero_le _); have := db; omega, Nat.pow_pos cb, hd4'⟩
        · simp (config := {decide := true}) only [h6, ws_cons, ty_non, ty_bl, ty_int, ty_str, ty_tup, kit_tuple_NoneType, kit_tuple_bool, kit_tuple_int, kit_tuple_str, kit_tuple_tuple, kit_tuple_list, kit_list_NoneType, kit_list_bool, kit_list_int, kit_list_str, kit_list_tuple, kit_list_list, kit_int_NoneType, kit_int_bool, kit_int_int, kit_int_str, kit_int_tuple, kit_int_list, kit_bool_NoneType, kit_bool_bool, kit_bool_int, kit_bool_str, kit_bool_tuple, kit_bool_list, kit_str_NoneType, kit_str_bool, kit_str_int, kit_str_str, kit_str_tuple, kit_str_list, non_int, non_non, non_tup, non_str, non_ref, non_bl, ws_nil, ws_asg, ws_exp, ws_retS, ws_ifs, ws_pass, ws_raise, wr_slot, wr_cst, wr_nil, wr_cons, wr_tup, wr_lst, wr_dsp, wr_bin, wr_neg, ex_int, wr_not, wr_cmp, wr_and, wr_or, wr_ite, wr_isN, wr_notN, wr_ix, wr_sl, wr_prim, wr_lrg, wr_meth, wr_isT, wr_callE, wr_c0, wr_c1, wr_ok, m_lrg, m_addI, m_subI, m_mulI, m_divI, m_modI, m_powI, m_addT, m_addS, m_ltI, m_leI, m_gtI, m_geI, m_eq, m_ne, m_in, m_nin, eq_int, m_ixT, m_ixC, m_ixD, at_0, at_1, at_2, at_3, m_lenT, m_lenC, m_intI, m_intB, m_abs, m_max, m_min, m_tupT, m_listT, m_slT, m_slC, t_bl, t_int, t_non, t_tup, a_nm, a_tp, setSlots, partM, methFor, List.getElem?_cons_zero, List.getElem?_cons_succ, List.set_cons_zero, List.set_cons_succ, Option.some.injEq, exists_eq_left', true_and, and_true, eq_str, decide_eq_true_eq, ↓reduceIte, if_true, if_false, decide_true, decide_false, Bool.false_eq_true, ok_both, ok_case, ok_either, ok_first, ok_give, ok_k, ok_kp, ok_l, ok_left, ok_let, ok_name, ok_never, ok_none, ok_odd, ok_one, ok_other, ok_p, ok_pair, ok_r, ok_right, ok_second, ok_split, ok_star, ok_w, ok_way, ok_within, ok_without, ok_wrong, ok_yes, ok_no, ok_n, ok_led, ok_lr, ok_pp, ok_ppp, List.length_cons, List.length_nil, Nat.zero_add, Int.reduceSub, Int.reduceAdd, Int.reduceNeg, Int.reduceMul, Bool.not_true, Bool.not_false]
          change Wr (callF T (r + 1) "_law_count" [K (.way a b)] _) _ _
          refine (sp_count hf (.way a b) r _ ⟨(Kd.le.mono hm2 la), (Kd.le.mono hm2 lb)⟩ (by show max (Kd.dep a) (Kd.dep b) + 1 + 1 ≤ r; have := da; have := db; omega)).imp ?_ fun _ _ _ z => z.elim
          rintro v S9 ⟨rfl, rfl⟩
          try simp (config := {decide := true}) only [ws_cons, ty_non, ty_bl, ty_int, ty_str, ty_tup, kit_tuple_NoneType, kit_tuple_bool, kit_tuple_int, kit_tuple_str, kit_tuple_tuple, kit_tuple_list, kit_list_NoneType, kit_list_bool, kit_list_int, kit_list_str, kit_list_tuple, kit_list_list, kit_int_NoneType, kit_int_bool, kit_int_int, kit_int_str, kit_int_tuple, kit_int_list, kit_bool_NoneType, kit_bool_bool, kit_bool_int, kit_bool_str, kit_bool_tuple, kit_bool_list, kit_str_NoneType, kit_str_bool, kit_str_int, kit_str_str, kit_str_tuple, kit_str_list, non_int, non_non, non_tup, non_str, non_ref, non_bl, ws_nil, ws_asg, ws_exp, ws_retS, ws_ifs, ws_pass, ws_raise, wr_slot, wr_cst, wr_nil, wr_cons, wr_tup, wr_lst, wr_dsp, wr_bin, wr_neg, ex_int, wr_not, wr_cmp, wr_and, wr_or, wr_ite, wr_isN, wr_notN, wr_ix, wr_sl, wr_prim, wr_lrg, wr_meth, wr_isT, wr_callE, wr_c0, wr_c1, wr_ok, m_lrg, m_addI, m_subI, m_mulI, m_divI, m_modI, m_powI, m_addT, m_addS, m_ltI, m_leI, m_gtI, m_geI, m_eq, m_ne, m_in, m_nin, eq_int, m_ixT, m_ixC, m_ixD, at_0, at_1, at_2, at_3, m_lenT, m_lenC, m_intI, m_intB, m_abs, m_max, m_min, m_tupT, m_listT, m_slT, m_slC, t_bl, t_int, t_non, t_tup, a_nm, a_tp, setSlots, partM, methFor, List.getElem?_cons_zero, List.getElem?_cons_succ, List.set_cons_zero, List.set_cons_succ, Option.some.injEq, exists_eq_left', true_and, and_true, eq_str, decide_eq_true_eq, ↓reduceIte, if_true, if_false, decide_true, decide_false, Bool.false_eq_true, ok_both, ok_case, ok_either, ok_first, ok_give, ok_k, ok_kp, ok_l, ok_left, ok_let, ok_name, ok_never, ok_none, ok_odd, ok_one, ok_other, ok_p, ok_pair, ok_r, ok_right, ok_second, ok_split, ok_star, ok_w, ok_way, ok_within, ok_without, ok_wrong, ok_yes, ok_no, ok_n, ok_led, ok_lr, ok_pp, ok_ppp, List.length_cons, List.length_nil, Nat.zero_add, Int.reduceSub, Int.reduceAdd, Int.reduceNeg, Int.reduceMul, Bool.not_true, Bool.not_false]
          by_cases hc : (m : Int) < ((Kd.cnt (.way a b) : Nat) : Int)
          · simp (config := {decide := true}) only [hc, ws_cons, ty_non, ty_bl, ty_int, ty_str, ty_tup, kit_tuple_NoneType, kit_tuple_bool, kit_tuple_int, kit_tuple_str, kit_tuple_tuple, kit_tuple_list, kit_list_NoneType, kit_list_bool, kit_list_int, kit_list_str, kit_list_tuple, kit_list_list, kit_int_NoneType, kit_int_bool, kit_int_int, kit_int_str, kit_int_tuple, kit_int_list, kit_bool_NoneType, kit_bool_bool, kit_bool_int, kit_bool_str, kit_bool_tuple, kit_bool_list, kit_str_NoneType, kit_str_bool, kit_str_int, kit_str_str, kit_str_tuple, kit_str_list, non_int, non_non, non_tup, non_str, non_ref, non_bl, ws_nil, ws_asg, ws_exp, ws_retS, ws_ifs, ws_pass, ws_raise, wr_slot, wr_cst, wr_nil, wr_cons, wr_tup, wr_lst, wr_dsp, wr_bin, wr_neg, ex_int, wr_not, wr_cmp, wr_and, wr_or, wr_ite, wr_isN, wr_notN, wr_ix, wr_sl, wr_prim, wr_lrg, wr_meth, wr_isT, wr_callE, wr_c0, wr_c1, wr_ok, m_lrg, m_addI, m_subI, m_mulI, m_divI, m_modI, m_powI, m_addT, m_addS, m_ltI, m_leI, m_gtI, m_geI, m_eq, m_ne, m_in, m_nin, eq_int, m_ixT, m_ixC, m_ixD, at_0, at_1, at_2, at_3, m_lenT, m_lenC, m_intI, m_intB, m_abs, m_max, m_min, m_tupT, m_listT, m_slT, m_slC, t_bl, t_int, t_non, t_tup, a_nm, a_tp, setSlots, partM, methFor, List.getElem?_cons_zero, List.getElem?_cons_succ, List.set_cons_zero, List.set_cons_succ, Option.some.injEq, exists_eq_left', true_and, and_true, eq_str, decide_eq_true_eq, ↓reduceIte, if_true, if_false, decide_true, decide_false, Bool.false_eq_true, ok_both, ok_case, ok_either, ok_first, ok_give, ok_k, ok_kp, ok_l, ok_left, ok_let, ok_name, ok_never, ok_none, ok_odd, ok_one, ok_other, ok_p, ok_pair, ok_r, ok_right, ok_second, ok_split, ok_star, ok_w, ok_way, ok_within, ok_without, ok_wrong, ok_yes, ok_no, ok_n, ok_led, ok_lr, ok_pp, ok_ppp, List.length_cons, List.length_nil, Nat.zero_add, Int.reduceSub, Int.reduceAdd, Int.reduceNeg, Int.reduceMul, Bool.not_true, Bool.not_false]
            exact ⟨.one, rfl, hm, Nat.zero_le _, Nat.le_refl _, hd4'⟩
          · simp (config := {decide := true}) only [hc, ws_cons, ty_non, ty_bl, ty_int, ty_str, ty_tup, kit_tuple_NoneType, kit_tuple_bool, kit_tuple_int, kit_tuple_str, kit_tuple_tuple, kit_tuple_list, kit_list_NoneType, kit_list_bool, kit_list_int, kit_list_str, kit_list_tuple, kit_list_list, kit_int_NoneType, kit_int_bool, kit_int_int, kit_int_str, kit_int_tuple, kit_int_list, kit_bool_NoneType, kit_bool_bool, kit_bool_int, kit_bool_str, kit_bool_tuple, kit_bool_list, kit_str_NoneType, kit_str_bool, kit_str_int, kit_str_str, kit_str_tuple, kit_str_list, non_int, non_non, non_tup, non_str, non_ref, non_bl, ws_nil, ws_asg, ws_exp, ws_retS, ws_ifs, ws_pass, ws_raise, wr_slot, wr_cst, wr_nil, wr_cons, wr_tup, wr_lst, wr_dsp, wr_bin, wr_neg, ex_int, wr_not, wr_cmp, wr_and, wr_or, wr_ite, wr_isN, wr_notN, wr_ix, wr_sl, wr_prim, wr_lrg, wr_meth, wr_isT, wr_callE, wr_c0, wr_c1, wr_ok, m_lrg, m_addI, m_subI, m_mulI, m_divI, m_modI, m_powI, m_addT, m_addS, m_ltI, m_leI, m_gtI, m_geI, m_eq, m_ne, m_in, m_nin, eq_int, m_ixT, m_ixC, m_ixD, at_0, at_1, at_2, at_3, m_lenT, m_lenC, m_intI, m_intB, m_abs, m_max, m_min, m_tupT, m_listT, m_slT, m_slC, t_bl, t_int, t_non, t_tup, a_nm, a_tp, setSlots, partM, methFor, List.getElem?_cons_zero, List.getElem?_cons_succ, List.set_cons_zero, List.set_cons_succ, Option.some.injEq, exists_eq_left', true_and, and_true, eq_str, decide_eq_true_eq, ↓reduceIte, if_true, if_false, decide_true, decide_false, Bool.false_eq_true, ok_both, ok_case, ok_either, ok_first, ok_give, ok_k, ok_kp, ok_l, ok_left, ok_let, ok_name, ok_never, ok_none, ok_odd, ok_one, ok_other, ok_p, ok_pair, ok_r, ok_right, ok_second, ok_split, ok_star, ok_w, ok_way, ok_within, ok_without, ok_wrong, ok_yes, ok_no, ok_n, ok_led, ok_lr, ok_pp, ok_ppp, List.length_cons, List.length_nil, Nat.zero_add, Int.reduceSub, Int.reduceAdd, Int.reduceNeg, Int.reduceMul, Bool.not_true, Bool.not_false]
            exact ⟨.way a b, rfl, ⟨Int.ofNat_le.mp (Int.not_lt.mp hc), la, lb⟩, by show max (Kd.dep a) (Kd.dep b) + 1 ≤ n + 1; have := da; have := db; omega, Nat.pow_pos cb, hd4'⟩
    · try simp (config := {decide := true}) only [ws_cons, ty_non, ty_bl, ty_int, ty_str, ty_tup, kit_tuple_NoneType, kit_tuple_bool, kit_tuple_int, kit_tuple_str, kit_tuple_tuple, kit_tuple_list, kit_list_NoneType, kit_list_bool, kit_list_int, kit_list_str, kit_list_tuple, kit_list_list, kit_int_NoneType, kit_int_bool, kit_int_int, kit_int_str, kit_int_tuple, kit_int_list, kit_bool_NoneType, kit_bool_bool, kit_bool_int, kit_bool_str, kit_bool_tuple, kit_bool_list, kit_str_NoneType, kit_str_bool, kit_str_int, kit_str_str, kit_str_tuple, kit_str_list, non_int, non_non, non_tup, non_str, non_ref, non_bl, ws_nil, ws_asg, ws_exp, ws_retS, ws_ifs, ws_pass, ws_raise, wr_slot, wr_cst, wr_nil, wr_cons, wr_tup, wr_lst, wr_dsp, wr_bin, wr_neg, ex_int, wr_not, wr_cmp, wr_and, wr_or, wr_ite, wr_isN, wr_notN, wr_ix, wr_sl, wr_prim, wr_lrg, wr_meth, wr_isT, wr_callE, wr_c0, wr_c1, wr_ok, m_lrg, m_addI, m_subI, m_mulI, m_divI, m_modI, m_powI, m_addT, m_addS, m_ltI, m_leI, m_gtI, m_geI, m_eq, m_ne, m_in, m_nin, eq_int, m_ixT, m_ixC, m_ixD, at_0, at_1, at_2, at_3, m_lenT, m_lenC, m_intI, m_intB, m_abs, m_max, m_min, m_tupT, m_listT, m_slT, m_slC, t_bl, t_int, t_non, t_tup, a_nm, a_tp, setSlots, partM, methFor, List.getElem?_cons_zero, List.getElem?_cons_succ, List.set_cons_zero, List.set_cons_succ, Option.some.injEq, exists_eq_left', true_and, and_true, eq_str, decide_eq_true_eq, ↓reduceIte, if_true, if_false, decide_true, decide_false, Bool.false_eq_true, ok_both, ok_case, ok_either, ok_first, ok_give, ok_k, ok_kp, ok_l, ok_left, ok_let, ok_name, ok_never, ok_none, ok_odd, ok_one, ok_other, ok_p, ok_pair, ok_r, ok_right, ok_second, ok_split, ok_star, ok_w, ok_way, ok_within, ok_without, ok_wrong, ok_yes, ok_no, ok_n, ok_led, ok_lr, ok_pp, ok_ppp, List.length_cons, List.length_nil, Nat.zero_add, Int.reduceSub, Int.reduceAdd, Int.reduceNeg, Int.reduceMul, Bool.not_true, Bool.not_false]
      rw [m_ixL get_new]
      try simp (config := {decide := true}) only [ws_cons, ty_non, ty_bl, ty_int, ty_str, ty_tup, kit_tuple_NoneType, kit_tuple_bool, kit_tuple_int, kit_tuple_str, kit_tuple_tuple, kit_tuple_list, kit_list_NoneType, kit_list_bool, kit_list_int, kit_list_str, kit_list_tuple, kit_list_list, kit_int_NoneType, kit_int_bool, kit_int_int, kit_int_str, kit_int_tuple, kit_int_list, kit_bool_NoneType, kit_bool_bool, kit_bool_int, kit_bool_str, kit_bool_tuple, kit_bool_list, kit_str_NoneType, kit_str_bool, kit_str_int, kit_str_str, kit_str_tuple, kit_str_list, non_int, non_non, non_tup, non_str, non_ref, non_bl, ws_nil, ws_asg, ws_exp, ws_retS, ws_ifs, ws_pass, ws_raise, wr_slot, wr_cst, wr_nil, wr_cons, wr_tup, wr_lst, wr_dsp, wr_bin, wr_neg, ex_int, wr_not, wr_cmp, wr_and, wr_or, wr_ite, wr_isN, wr_notN, wr_ix, wr_sl, wr_prim, wr_lrg, wr_meth, wr_isT, wr_callE, wr_c0, wr_c1, wr_ok, m_lrg, m_addI, m_subI, m_mulI, m_divI, m_modI, m_powI, m_addT, m_addS, m_ltI, m_leI, m_gtI, m_geI, m_eq, m_ne, m_in, m_nin, eq_int, m_ixT, m_ixC, m_ixD, at_0, at_1, at_2, at_3, m_lenT, m_lenC, m_intI, m_intB, m_abs, m_max, m_min, m_tupT, m_listT, m_slT, m_slC, t_bl, t_int, t_non, t_tup, a_nm, a_tp, setSlots, partM, methFor, List.getElem?_cons_zero, List.getElem?_cons_succ, List.set_cons_zero, List.set_cons_succ, Option.some.injEq, exists_eq_left', true_and, and_true, eq_str, decide_eq_true_eq, ↓reduceIte, if_true, if_false, decide_true, decide_false, Bool.false_eq_true, ok_both, ok_case, ok_either, ok_first, ok_give, ok_k, ok_kp, ok_l, ok_left, ok_let, ok_name, ok_never, ok_none, ok_odd, ok_one, ok_other, ok_p, ok_pair, ok_r, ok_right, ok_second, ok_split, ok_star, ok_w, ok_way, ok_within, ok_without, ok_wrong, ok_yes, ok_no, ok_n, ok_led, ok_lr, ok_pp, ok_ppp, List.length_cons, List.length_nil, Nat.zero_add, Int.reduceSub, Int.reduceAdd, Int.reduceNeg, Int.reduceMul, Bool.not_true, Bool.not_false]
      refine (ih _ (by omega) (by omega) hd1.2.app).imp ?_ fun _ _ _ z => z.elim
      rintro v S2 ⟨a, rfl, la, da, ca, hd2⟩
      refine (ih _ (by omega) (by omega) hd2.2).imp ?_ fun _ _ _ z => z.elim
      rintro v S3 ⟨b, rfl, lb, db, cb, hd3⟩
      have hd3' : Drawn d S S3 := (hd1.of_app.trans hd2.of_app).trans hd3
      try simp (config := {decide := true}) only [ws_cons, ty_non, ty_bl, ty_int, ty_str, ty_tup, kit_tuple_NoneType, kit_tuple_bool, kit_tuple_int, kit_tuple_str, kit_tuple_tuple, kit_tuple_list, kit_list_NoneType, kit_list_bool, kit_list_int, kit_list_str, kit_list_tuple, kit_list_list, kit_int_NoneType, kit_int_bool, kit_int_int, kit_int_str, kit_int_tuple, kit_int_list, kit_bool_NoneType, kit_bool_bool, kit_bool_int, kit_bool_str, kit_bool_tuple, kit_bool_list, kit_str_NoneType, kit_str_bool, kit_str_int, kit_str_str, kit_str_tuple, kit_str_list, non_int, non_non, non_tup, non_str, non_ref, non_bl, ws_nil, ws_asg, ws_exp, ws_retS, ws_ifs, ws_pass, ws_raise, wr_slot, wr_cst, wr_nil, wr_cons, wr_tup, wr_lst, wr_dsp, wr_bin, wr_neg, ex_int, wr_not, wr_cmp, wr_and, wr_or, wr_ite, wr_isN, wr_notN, wr_ix, wr_sl, wr_prim, wr_lrg, wr_meth, wr_isT, wr_callE, wr_c0, wr_c1, wr_ok, m_lrg, m_addI, m_subI, m_mulI, m_divI, m_modI, m_powI, m_addT, m_addS, m_ltI, m_leI, m_gtI, m_geI, m_eq, m_ne, m_in, m_nin, eq_int, m_ixT, m_ixC, m_ixD, at_0, at_1, at_2, at_3, m_lenT, m_lenC, m_intI, m_intB, m_abs, m_max, m_min, m_tupT, m_listT, m_slT, m_slC, t_bl, t_int, t_non, t_tup, a_nm, a_tp, setSlots, partM, methFor, List.getElem?_cons_zero, List.getElem?_cons_succ, List.set_cons_zero, List.set_cons_succ, Option.some.injEq, exists_eq_left', true_and, and_true, eq_str, decide_eq_true_eq, ↓reduceIte, if_true, if_false, decide_true, decide_false, Bool.false_eq_true, ok_both, ok_case, ok_either, ok_first, ok_give, ok_k, ok_kp, ok_l, ok_left, ok_let, ok_name, ok_never, ok_none, ok_odd, ok_one, ok_other, ok_p, ok_pair, ok_r, ok_right, ok_second, ok_split, ok_star, ok_w, ok_way, ok_within, ok_without, ok_wrong, ok_yes, ok_no, ok_n, ok_led, ok_lr, ok_pp, ok_ppp, List.length_cons, List.length_nil, Nat.zero_add, Int.reduceSub, Int.reduceAdd, Int.reduceNeg, Int.reduceMul, Bool.not_true, Bool.not_false]
      refine (sp_next hf hd3'.2 (by decide)).imp ?_ fun _ _ _ z => z.elim
      rintro v S4 ⟨j, rfl, _, _, hd4⟩
      try simp (config := {decide := true}) only [ws_cons, ty_non, ty_bl, ty_int, ty_str, ty_tup, kit_tuple_NoneType, kit_tuple_bool, kit_tuple_int, kit_tuple_str, kit_tuple_tuple, kit_tuple_list, kit_list_NoneType, kit_list_bool, kit_list_int, kit_list_str, kit_list_tuple, kit_list_list, kit_int_NoneType, kit_int_bool, kit_int_int, kit_int_str, kit_int_tuple, kit_int_list, kit_bool_NoneType, kit_bool_bool, kit_bool_int, kit_bool_str, kit_bool_tuple, kit_bool_list, kit_str_NoneType, kit_str_bool, kit_str_int, kit_str_str, kit_str_tuple, kit_str_list, non_int, non_non, non_tup, non_str, non_ref, non_bl, ws_nil, ws_asg, ws_exp, ws_retS, ws_ifs, ws_pass, ws_raise, wr_slot, wr_cst, wr_nil, wr_cons, wr_tup, wr_lst, wr_dsp, wr_bin, wr_neg, ex_int, wr_not, wr_cmp, wr_and, wr_or, wr_ite, wr_isN, wr_notN, wr_ix, wr_sl, wr_prim, wr_lrg, wr_meth, wr_isT, wr_callE, wr_c0, wr_c1, wr_ok, m_lrg, m_addI, m_subI, m_mulI, m_divI, m_modI, m_powI, m_addT, m_addS, m_ltI, m_leI, m_gtI, m_geI, m_eq, m_ne, m_in, m_nin, eq_int, m_ixT, m_ixC, m_ixD, at_0, at_1, at_2, at_3, m_lenT, m_lenC, m_intI, m_intB, m_abs, m_max, m_min, m_tupT, m_listT, m_slT, m_slC, t_bl, t_int, t_non, t_tup, a_nm, a_tp, setSlots, partM, methFor, List.getElem?_cons_zero, List.getElem?_cons_succ, List.set_cons_zero, List.set_cons_succ, Option.some.injEq, exists_eq_left', true_and, and_true, eq_str, decide_eq_true_eq, ↓reduceIte, if_true, if_false, decide_true, decide_false, Bool.false_eq_true, ok_both, ok_case, ok_either, ok_first, ok_give, ok_k, ok_kp, ok_l, ok_left, ok_let, ok_name, ok_never, ok_none, ok_odd, ok_one, ok_other, ok_p, ok_pair, ok_r, ok_right, ok_second, ok_split, ok_star, ok_w, ok_way, ok_within, ok_without, ok_wrong, ok_yes, ok_no, ok_n, ok_led, ok_lr, ok_pp, ok_ppp, List.length_cons, List.length_nil, Nat.zero_add, Int.reduceSub, Int.reduceAdd, Int.reduceNeg, Int.reduceMul, Bool.not_true, Bool.not_false]
      have hd4' := hd3'.trans hd4
      by_cases hj : j = 1
      · simp (config := {decide := true}) only [hj, ws_cons, ty_non, ty_bl, ty_int, ty_str, ty_tup, kit_tuple_NoneType, kit_tuple_bool, kit_tuple_int, kit_tuple_str, kit_tuple_tuple, kit_tuple_list, kit_list_NoneType, kit_list_bool, kit_list_int, kit_list_str, kit_list_tuple, kit_list_list, kit_int_NoneType, kit_int_bool, kit_int_int, kit_int_str, kit_int_tuple, kit_int_list, kit_bool_NoneType, kit_bool_bool, kit_bool_int, kit_bool_str, kit_bool_tuple, kit_bool_list, kit_str_NoneType, kit_str_bool, kit_str_int, kit_str_str, kit_str_tuple, kit_str_list, non_int, non_non, non_tup, non_str, non_ref, non_bl, ws_nil, ws_asg, ws_exp, ws_retS, ws_ifs, ws_pass, ws_raise, wr_slot, wr_cst, wr_nil, wr_cons, wr_tup, wr_lst, wr_dsp, wr_bin, wr_neg, ex_int, wr_not, wr_cmp, wr_and, wr_or, wr_ite, wr_isN, wr_notN, wr_ix, wr_sl, wr_prim, wr_lrg, wr_meth, wr_isT, wr_callE, wr_c0, wr_c1, wr_ok, m_lrg, m_addI, m_subI, m_mulI, m_divI, m_modI, m_powI, m_addT, m_addS, m_ltI, m_leI, m_gtI, m_geI, m_eq, m_ne, m_in, m_nin, eq_int, m_ixT, m_ixC, m_ixD, at_0, at_1, at_2, at_3, m_lenT, m_lenC, m_intI, m_intB, m_abs, m_max, m_min, m_tupT, m_listT, m_slT, m_slC, t_bl, t_int, t_non, t_tup, a_nm, a_tp, setSlots, partM, methFor, List.getElem?_cons_zero, List.getElem?_cons_succ, List.set_cons_zero, List.set_cons_succ, Option.some.injEq, exists_eq_left', true_and, and_true, eq_str, decide_eq_true_eq, ↓reduceIte, if_true, if_false, decide_true, decide_false, Bool.false_eq_true, ok_both, ok_case, ok_either, ok_first, ok_give, ok_k, ok_kp, ok_l, ok_left, ok_let, ok_name, ok_never, ok_none, ok_odd, ok_one, ok_other, ok_p, ok_pair, ok_r, ok_right, ok_second, ok_split, ok_star, ok_w, ok_way, ok_within, ok_without, ok_wrong, ok_yes, ok_no, ok_n, ok_led, ok_lr, ok_pp, ok_ppp, List.length_cons, List.length_nil, Nat.zero_add, Int.reduceSub, Int.reduceAdd, Int.reduceNeg, Int.reduceMul, Bool.not_true, Bool.not_false]
        change Wr (callF T (r + 1) "_law_count" [K (.either .none b)] _) _ _
        refine (sp_count hf (.either .none b) r _ ⟨(Kd.le.mono hm2 (show Kd.le m .none from trivial)), (Kd.le.mono hm2 lb)⟩ (by show max (Kd.dep .none) (Kd.dep b) + 1 + 1 ≤ r; have := (show Kd.dep .none ≤ n from Nat.zero_le _); have := db; omega)).imp ?_ fun _ _ _ z => z.elim
        rintro v S9 ⟨rfl, rfl⟩
        try simp (config := {decide := true}) only [ws_cons, ty_non, ty_bl, ty_int, ty_str, ty_tup, kit_tuple_NoneType, kit_tuple_bool, kit_tuple_int, kit_tuple_str, kit_tuple_tuple, kit_tuple_list, kit_list_NoneType, kit_list_bool, kit_list_int, kit_list_str, kit_list_tuple, kit_list_list, kit_int_NoneType, kit_int_bool, kit_int_int, kit_int_str, kit_int_tuple, kit_int_list, kit_bool_NoneType, kit_bool_bool, kit_bool_int, kit_bool_str, kit_bool_tuple, kit_bool_list, kit_str_NoneType, kit_str_bool, kit_str_int, kit_str_str, kit_str_tuple, kit_str_list, non_int, non_non, non_tup, non_str, non_ref, non_bl, ws_nil, ws_asg, ws_exp, ws_retS, ws_ifs, ws_pass, ws_raise, wr_slot, wr_cst, wr_nil, wr_cons, wr_tup, wr_lst, wr_dsp, wr_bin, wr_neg, ex_int, wr_not, wr_cmp, wr_and, wr_or, wr_ite, wr_isN, wr_notN, wr_ix, wr_sl, wr_prim, wr_lrg, wr_meth, wr_isT, wr_callE, wr_c0, wr_c1, wr_ok, m_lrg, m_addI, m_subI, m_mulI, m_divI, m_modI, m_powI, m_addT, m_addS, m_ltI, m_leI, m_gtI, m_geI, m_eq, m_ne, m_in, m_nin, eq_int, m_ixT, m_ixC, m_ixD, at_0, at_1, at_2, at_3, m_lenT, m_lenC, m_intI, m_intB, m_abs, m_max, m_min, m_tupT, m_listT, m_slT, m_slC, t_bl, t_int, t_non, t_tup, a_nm, a_tp, setSlots, partM, methFor, List.getElem?_cons_zero, List.getElem?_cons_succ, List.set_cons_zero, List.set_cons_succ, Option.some.injEq, exists_eq_left', true_and, and_true, eq_str, decide_eq_true_eq, ↓reduceIte, if_true, if_false, decide_true, decide_false, Bool.false_eq_true, ok_both, ok_case, ok_either, ok_first, ok_give, ok_k, ok_kp, ok_l, ok_left, ok_let, ok_name, ok_never, ok_none, ok_odd, ok_one, ok_other, ok_p, ok_pair, ok_r, ok_right, ok_second, ok_split, ok_star, ok_w, ok_way, ok_within, ok_without, ok_wrong, ok_yes, ok_no, ok_n, ok_led, ok_lr, ok_pp, ok_ppp, List.length_cons, List.length_nil, Nat.zero_add, Int.reduceSub, Int.reduceAdd, Int.reduceNeg, Int.reduceMul, Bool.not_true, Bool.not_false]
        by_cases hc : (m : Int) < ((Kd.cnt (.either .none b) : Nat) : Int)
        · simp (config := {decide := true}) only [hc, ws_cons, ty_non, ty_bl, ty_int, ty_str, ty_tup, kit_tuple_NoneType, kit_tuple_bool, kit_tuple_int, kit_tuple_str, kit_tuple_tuple, kit_tuple_list, kit_list_NoneType, kit_list_bool, kit_list_int, kit_list_str, kit_list_tuple, kit_list_list, kit_int_NoneType, kit_int_bool, kit_int_int, kit_int_str, kit_int_tuple, kit_int_list, kit_bool_NoneType, kit_bool_bool, kit_bool_int, kit_bool_str, kit_bool_tuple, kit_bool_list, kit_str_NoneType, kit_str_bool, kit_str_int, kit_str_str, kit_str_tuple, kit_str_list, non_int, non_non, non_tup, non_str, non_ref, non_bl, ws_nil, ws_asg, ws_exp, ws_retS, ws_ifs, ws_pass, ws_raise, wr_slot, wr_cst, wr_nil, wr_cons, wr_tup, wr_lst, wr_dsp, wr_bin, wr_neg, ex_int, wr_not, wr_cmp, wr_and, wr_or, wr_ite, wr_isN, wr_notN, wr_ix, wr_sl, wr_prim, wr_lrg, wr_meth, wr_isT, wr_callE, wr_c0, wr_c1, wr_ok, m_lrg, m_addI, m_subI, m_mulI, m_divI, m_modI, m_powI, m_addT, m_addS, m_ltI, m_leI, m_gtI, m_geI, m_eq, m_ne, m_in, m_nin, eq_int, m_ixT, m_ixC, m_ixD, at_0, at_1, at_2, at_3, m_lenT, m_lenC, m_intI, m_intB, m_abs, m_max, m_min, m_tupT, m_listT, m_slT, m_slC, t_bl, t_int, t_non, t_tup, a_nm, a_tp, setSlots, partM, methFor, List.getElem?_cons_zero, List.getElem?_cons_succ, List.set_cons_zero, List.set_cons_succ, Option.some.injEq, exists_eq_left', true_and, and_true, eq_str, decide_eq_true_eq, ↓reduceIte, if_true, if_false, decide_true, decide_false, Bool.false_eq_true, ok_both, ok_case, ok_either, ok_first, ok_give, ok_k, ok_kp, ok_l, ok_left, ok_let, ok_name, ok_never, ok_none, ok_odd, ok_one, ok_other, ok_p, ok_pair, ok_r, ok_right, ok_second, ok_split, ok_star, ok_w, ok_way, ok_within, ok_without, ok_wrong, ok_yes, ok_no, ok_n, ok_led, ok_lr, ok_pp, ok_ppp, List.length_cons, List.length_nil, Nat.zero_add, Int.reduceSub, Int.reduceAdd, Int.reduceNeg, Int.reduceMul, Bool.not_true, Bool.not_false]
          exact ⟨.one, rfl, hm, Nat.zero_le _, Nat.le_refl _, hd4'⟩
        · simp (config := {decide := true}) only [hc, ws_cons, ty_non, ty_bl, ty_int, ty_str, ty_tup, kit_tuple_NoneType, kit_tuple_bool, kit_tuple_int, kit_tuple_str, kit_tuple_tuple, kit_tuple_list, kit_list_NoneType, kit_list_bool, kit_list_int, kit_list_str, kit_list_tuple, kit_list_list, kit_int_NoneType, kit_int_bool, kit_int_int, kit_int_str, kit_int_tuple, kit_int_list, kit_bool_NoneType, kit_bool_bool, kit_bool_int, kit_bool_str, kit_bool_tuple, kit_bool_list, kit_str_NoneType, kit_str_bool, kit_str_int, kit_str_str, kit_str_tuple, kit_str_list, non_int, non_non, non_tup, non_str, non_ref, non_bl, ws_nil, ws_asg, ws_exp, ws_retS, ws_ifs, ws_pass, ws_raise, wr_slot, wr_cst, wr_nil, wr_cons, wr_tup, wr_lst, wr_dsp, wr_bin, wr_neg, ex_int, wr_not, wr_cmp, wr_and, wr_or, wr_ite, wr_isN, wr_notN, wr_ix, wr_sl, wr_prim, wr_lrg, wr_meth, wr_isT, wr_callE, wr_c0, wr_c1, wr_ok, m_lrg, m_addI, m_subI, m_mulI, m_divI, m_modI, m_powI, m_addT, m_addS, m_ltI, m_leI, m_gtI, m_geI, m_eq, m_ne, m_in, m_nin, eq_int, m_ixT, m_ixC, m_ixD, at_0, at_1, at_2, at_3, m_lenT, m_lenC, m_intI, m_intB, m_abs, m_max, m_min, m_tupT, m_listT, m_slT, m_slC, t_bl, t_int, t_non, t_tup, a_nm, a_tp, setSlots, partM, methFor, List.getElem?_cons_zero, List.getElem?_cons_succ, List.set_cons_zero, List.set_cons_succ, Option.some.injEq, exists_eq_left', true_and, and_true, eq_str, decide_eq_true_eq, ↓reduceIte, if_true, if_false, decide_true, decide_false, Bool.false_eq_true, ok_both, ok_case, ok_either, ok_first, ok_give, ok_k, ok_kp, ok_l, ok_left, ok_let, ok_name, ok_never, ok_none, ok_odd, ok_one, ok_other, ok_p, ok_pair, ok_r, ok_right, ok_second, ok_split, ok_star, ok_w, ok_way, ok_within, ok_without, ok_wrong, ok_yes, ok_no, ok_n, ok_led, ok_lr, ok_pp, ok_ppp, List.length_cons, List.length_nil, Nat.zero_add, Int.reduceSub, Int.reduceAdd, Int.reduceNeg, Int.reduceMul, Bool.not_true, Bool.not_false]
          exact ⟨.either .none b, rfl, ⟨Int.ofNat_le.mp (Int.not_lt.mp hc), (show Kd.le m .none from trivial), lb⟩, by show max (Kd.dep .none) (Kd.dep b) + 1 ≤ n + 1; have := (show Kd.dep .none ≤ n from Nat.zero_le _); have := db; omega, by show 1 ≤ Kd.cnt .none + Kd.cnt b; omega, hd4'⟩
      · simp (config := {decide := true}) only [hj, ws_cons, ty_non, ty_bl, ty_int, ty_str, ty_tup, kit_tuple_NoneType, kit_tuple_bool, kit_tuple_int, kit_tuple_str, kit_tuple_tuple, kit_tuple_list, kit_list_NoneType, kit_list_bool, kit_list_int, kit_list_str, kit_list_tuple, kit_list_list, kit_int_NoneType, kit_int_bool, kit_int_int, kit_int_str, kit_int_tuple, kit_int_list, kit_bool_NoneType, kit_bool_bool, kit_bool_int, kit_bool_str, kit_bool_tuple, kit_bool_list, kit_str_NoneType, kit_str_bool, kit_str_int, kit_str_str, kit_str_tuple, kit_str_list, non_int, non_non, non_tup, non_str, non_ref, non_bl, ws_nil, ws_asg, ws_exp, ws_retS, ws_ifs, ws_pass, ws_raise, wr_slot, wr_cst, wr_nil, wr_cons, wr_tup, wr_lst, wr_dsp, wr_bin, wr_neg, ex_int, wr_not, wr_cmp, wr_and, wr_or, wr_ite, wr_isN, wr_notN, wr_ix, wr_sl, wr_prim, wr_lrg, wr_meth, wr_isT, wr_callE, wr_c0, wr_c1, wr_ok, m_lrg, m_addI, m_subI, m_mulI, m_divI, m_modI, m_powI, m_addT, m_addS, m_ltI, m_leI, m_gtI, m_geI, m_eq, m_ne, m_in, m_nin, eq_int, m_ixT, m_ixC, m_ixD, at_0, at_1, at_2, at_3, m_lenT, m_lenC, m_intI, m_intB, m_abs, m_max, m_min, m_tupT, m_listT, m_slT, m_slC, t_bl, t_int, t_non, t_tup, a_nm, a_tp, setSlots, partM, methFor, List.getElem?_cons_zero, List.getElem?_cons_succ, List.set_cons_zero, List.set_cons_succ, Option.some.injEq, exists_eq_left', true_and, and_true, eq_str, decide_eq_true_eq, ↓reduceIte, if_true, if_false, decide_true, decide_false, Bool.false_eq_true, ok_both, ok_case, ok_either, ok_first, ok_give, ok_k, ok_kp, ok_l, ok_left, ok_let, ok_name, ok_never, ok_none, ok_odd, ok_one, ok_other, ok_p, ok_pair, ok_r, ok_right, ok_second, ok_split, ok_star, ok_w, ok_way, ok_within, ok_without, ok_wrong, ok_yes, ok_no, ok_n, ok_led, ok_lr, ok_pp, ok_ppp, List.length_cons, List.length_nil, Nat.zero_add, Int.reduceSub, Int.reduceAdd, Int.reduceNeg, Int.reduceMul, Bool.not_true, Bool.not_false]
        refine (sp_next hf hd4'.2 (by decide)).imp ?_ fun _ _ _ z => z.elim
        rintro v S5 ⟨j2, rfl, _, _, hd5⟩
        try simp (config := {decide := true}) only [ws_cons, ty_non, ty_bl, ty_int, ty_str, ty_tup, kit_tuple_NoneType, kit_tuple_bool, kit_tuple_int, kit_tuple_str, kit_tuple_tuple, kit_tuple_list, kit_list_NoneType, kit_list_bool, kit_list_int, kit_list_str, kit_list_tuple, kit_list_list, kit_int_NoneType, kit_int_bool, kit_int_int, kit_int_str, kit_int_tuple, kit_int_list, kit_bool_NoneType, kit_bool_bool, kit_bool_int, kit_bool_str, kit_bool_tuple, kit_bool_list, kit_str_NoneType, kit_str_bool, kit_str_int, kit_str_str, kit_str_tuple, kit_str_list, non_int, non_non, non_tup, non_str, non_ref, non_bl, ws_nil, ws_asg, ws_exp, ws_retS, ws_ifs, ws_pass, ws_raise, wr_slot, wr_cst, wr_nil, wr_cons, wr_tup, wr_lst, wr_dsp, wr_bin, wr_neg, ex_int, wr_not, wr_cmp, wr_and, wr_or, wr_ite, wr_isN, wr_notN, wr_ix, wr_sl, wr_prim, wr_lrg, wr_meth, wr_isT, wr_callE, wr_c0, wr_c1, wr_ok, m_lrg, m_addI, m_subI, m_mulI, m_divI, m_modI, m_powI, m_addT, m_addS, m_ltI, m_leI, m_gtI, m_geI, m_eq, m_ne, m_in, m_nin, eq_int, m_ixT, m_ixC, m_ixD, at_0, at_1, at_2, at_3, m_lenT, m_lenC, m_intI, m_intB, m_abs, m_max, m_min, m_tupT, m_listT, m_slT, m_slC, t_bl, t_int, t_non, t_tup, a_nm, a_tp, setSlots, partM, methFor, List.getElem?_cons_zero, List.getElem?_cons_succ, List.set_cons_zero, List.set_cons_succ, Option.some.injEq, exists_eq_left', true_and, and_true, eq_str, decide_eq_true_eq, ↓reduceIte, if_true, if_false, decide_true, decide_false, Bool.false_eq_true, ok_both, ok_case, ok_either, ok_first, ok_give, ok_k, ok_kp, ok_l, ok_left, ok_let, ok_name, ok_never, ok_none, ok_odd, ok_one, ok_other, ok_p, ok_pair, ok_r, ok_right, ok_second, ok_split, ok_star, ok_w, ok_way, ok_within, ok_without, ok_wrong, ok_yes, ok_no, ok_n, ok_led, ok_lr, ok_pp, ok_ppp, List.length_cons, List.length_nil, Nat.zero_add, Int.reduceSub, Int.reduceAdd, Int.reduceNeg, Int.reduceMul, Bool.not_true, Bool.not_false]
        have hd5' := hd4'.trans hd5
        by_cases hj2 : j2 = 1
        · simp (config := {decide := true}) only [hj2, ws_cons, ty_non, ty_bl, ty_int, ty_str, ty_tup, kit_tuple_NoneType, kit_tuple_bool, kit_tuple_int, kit_tuple_str, kit_tuple_tuple, kit_tuple_list, kit_list_NoneType, kit_list_bool, kit_list_int, kit_list_str, kit_list_tuple, kit_list_list, kit_int_NoneType, kit_int_bool, kit_int_int, kit_int_str, kit_int_tuple, kit_int_list, kit_bool_NoneType, kit_bool_bool, kit_bool_int, kit_bool_str, kit_bool_tuple, kit_bool_list, kit_str_NoneType, kit_str_bool, kit_str_int, kit_str_str, kit_str_tuple, kit_str_list, non_int, non_non, non_tup, non_str, non_ref, non_bl, ws_nil, ws_asg, ws_exp, ws_retS, ws_ifs, ws_pass, ws_raise, wr_slot, wr_cst, wr_nil, wr_cons, wr_tup, wr_lst, wr_dsp, wr_bin, wr_neg, ex_int, wr_not, wr_cmp, wr_and, wr_or, wr_ite, wr_isN, wr_notN, wr_ix, wr_sl, wr_prim, wr_lrg, wr_meth, wr_isT, wr_callE, wr_c0, wr_c1, wr_ok, m_lrg, m_addI, m_subI, m_mulI, m_divI, m_modI, m_powI, m_addT, m_addS, m_ltI, m_leI, m_gtI, m_geI, m_eq, m_ne, m_in, m_nin, eq_int, m_ixT, m_ixC, m_ixD, at_0, at_1, at_2, at_3, m_lenT, m_lenC, m_intI, m_intB, m_abs, m_max, m_min, m_tupT, m_listT, m_slT, m_slC, t_bl, t_int, t_non, t_tup, a_nm, a_tp, setSlots, partM, methFor, List.getElem?_cons_zero, List.getElem?_cons_succ, List.set_cons_zero, List.set_cons_succ, Option.some.injEq, exists_eq_left', true_and, and_true, eq_str, decide_eq_true_eq, ↓reduceIte, if_true, if_false, decide_true, decide_false, Bool.false_eq_true, ok_both, ok_case, ok_either, ok_first, ok_give, ok_k, ok_kp, ok_l, ok_left, ok_let, ok_name, ok_never, ok_none, ok_odd, ok_one, ok_other, ok_p, ok_pair, ok_r, ok_right, ok_second, ok_split, ok_star, ok_w, ok_way, ok_within, ok_without, ok_wrong, ok_yes, ok_no, ok_n, ok_led, ok_lr, ok_pp, ok_ppp, List.length_cons, List.length_nil, Nat.zero_add, Int.reduceSub, Int.reduceAdd, Int.reduceNeg, Int.reduceMul, Bool.not_true, Bool.not_false]
          change Wr (callF T (r + 1) "_law_count" [K (.either a .none)] _) _ _
          refine (sp_count hf (.either a .none) r _ ⟨(Kd.le.mono hm2 la), (Kd.le.mono hm2 (show Kd.le m .none from trivial))⟩ (by show max (Kd.dep a) (Kd.dep .none) + 1 + 1 ≤ r; have := da; have := (show Kd.dep .none ≤ n from Nat.zero_le _); omega)).imp ?_ fun _ _ _ z => z.elim
          rintro v S9 ⟨rfl, rfl⟩
          try simp (config := {decide := true}) only [ws_cons, ty_non, ty_bl, ty_int, ty_str, ty_tup, kit_tuple_NoneType, kit_tuple_bool, kit_tuple_int, kit_tuple_str, kit_tuple_tuple, kit_tuple_list, kit_list_NoneType, kit_list_bool, kit_list_int, kit_list_str, kit_list_tuple, kit_list_list, kit_int_NoneType, kit_int_bool, kit_int_int, kit_int_str, kit_int_tuple, kit_int_list, kit_bool_NoneType, kit_bool_bool, kit_bool_int, kit_bool_str, kit_bool_tuple, kit_bool_list, kit_str_NoneType, kit_str_bool, kit_str_int, kit_str_str, kit_str_tuple, kit_str_list, non_int, non_non, non_tup, non_str, non_ref, non_bl, ws_nil, ws_asg, ws_exp, ws_retS, ws_ifs, ws_pass, ws_raise, wr_slot, wr_cst, wr_nil, wr_cons, wr_tup, wr_lst, wr_dsp, wr_bin, wr_neg, ex_int, wr_not, wr_cmp, wr_and, wr_or, wr_ite, wr_isN, wr_notN, wr_ix, wr_sl, wr_prim, wr_lrg, wr_meth, wr_isT, wr_callE, wr_c0, wr_c1, wr_ok, m_lrg, m_addI, m_subI, m_mulI, m_divI, m_modI, m_powI, m_addT, m_addS, m_ltI, m_leI, m_gtI, m_geI, m_eq, m_ne, m_in, m_nin, eq_int, m_ixT, m_ixC, m_ixD, at_0, at_1, at_2, at_3, m_lenT, m_lenC, m_intI, m_intB, m_abs, m_max, m_min, m_tupT, m_listT, m_slT, m_slC, t_bl, t_int, t_non, t_tup, a_nm, a_tp, setSlots, partM, methFor, List.getElem?_cons_zero, List.getElem?_cons_succ, List.set_cons_zero, List.set_cons_succ, Option.some.injEq, exists_eq_left', true_and, and_true, eq_str, decide_eq_true_eq, ↓reduceIte, if_true, if_false, decide_true, decide_false, Bool.false_eq_true, ok_both, ok_case, ok_either, ok_first, ok_give, ok_k, ok_kp, ok_l, ok_left, ok_let, ok_name, ok_never, ok_none, ok_odd, ok_one, ok_other, ok_p, ok_pair, ok_r, ok_right, ok_second, ok_split, ok_star, ok_w, ok_way, ok_within, ok_without, ok_wrong, ok_yes, ok_no, ok_n, ok_led, ok_lr, ok_pp, ok_ppp, List.length_cons, List.length_nil, Nat.zero_add, Int.reduceSub, Int.reduceAdd, Int.reduceNeg, Int.reduceMul, Bool.not_true, Bool.not_false]
          by_cases hc : (m : Int) < ((Kd.cnt (.either a .none) : Nat) : Int)
          · simp (config := {decide := true}) only [hc, ws_cons, ty_non, ty_bl, ty_int, ty_str, ty_tup, kit_tuple_NoneType, kit_tuple_bool, kit_tuple_int, kit_tuple_str, kit_tuple_tuple, kit_tuple_list, kit_list_NoneType, kit_list_bool, kit_list_int, kit_list_str, kit_list_tuple, kit_list_list, kit_int_NoneType, kit_int_bool, kit_int_int, kit_int_str, kit_int_tuple, kit_int_list, kit_bool_NoneType, kit_bool_bool, kit_bool_int, kit_bool_str, kit_bool_tuple, kit_bool_list, kit_str_NoneType, kit_str_bool, kit_str_int, kit_str_str, kit_str_tuple, kit_str_list, non_int, non_non, non_tup, non_str, non_ref, non_bl, ws_nil, ws_asg, ws_exp, ws_retS, ws_ifs, ws_pass, ws_raise, wr_slot, wr_cst, wr_nil, wr_cons, wr_tup, wr_lst, wr_dsp, wr_bin, wr_neg, ex_int, wr_not, wr_cmp, wr_and, wr_or, wr_ite, wr_isN, wr_notN, wr_ix, wr_sl, wr_prim, wr_lrg, wr_meth, wr_isT, wr_callE, wr_c0, wr_c1, wr_ok, m_lrg, m_addI, m_subI, m_mulI, m_divI, m_modI, m_powI, m_addT, m_addS, m_ltI, m_leI, m_gtI, m_geI, m_eq, m_ne, m_in, m_nin, eq_int, m_ixT, m_ixC, m_ixD, at_0, at_1, at_2, at_3, m_lenT, m_lenC, m_intI, m_intB, m_abs, m_max, m_min, m_tupT, m_listT, m_slT, m_slC, t_bl, t_int, t_non, t_tup, a_nm, a_tp, setSlots, partM, methFor, List.getElem?_cons_zero, List.getElem?_cons_succ, List.set_cons_zero, List.set_cons_succ, Option.some.injEq, exists_eq_left', true_and, and_true, eq_str, decide_eq_true_eq, ↓reduceIte, if_true, if_false, decide_true, decide_false, Bool.false_eq_true, ok_both, ok_case, ok_either, ok_first, ok_give, ok_k, ok_kp, ok_l, ok_left, ok_let, ok_name, ok_never, ok_none, ok_odd, ok_one, ok_other, ok_p, ok_pair, ok_r, ok_right, ok_second, ok_split, ok_star, ok_w, ok_way, ok_within, ok_without, ok_wrong, ok_yes, ok_no, ok_n, ok_led, ok_lr, ok_pp, ok_ppp, List.length_cons, List.length_nil, Nat.zero_add, Int.reduceSub, Int.reduceAdd, Int.reduceNeg, Int.reduceMul, Bool.not_true, Bool.not_false]
            exact ⟨.one, rfl, hm, Nat.zero_le _, Nat.le_refl _, hd5'⟩
          · simp (config := {decide := true}) only [hc, ws_cons, ty_non, ty_bl, ty_int, ty_str, ty_tup, kit_tuple_NoneType, kit_tuple_bool, kit_tuple_int, kit_tuple_str, kit_tuple_tuple, kit_tuple_list, kit_list_NoneType, kit_list_bool, kit_list_int, kit_list_str, kit_list_tuple, kit_list_list, kit_int_NoneType, kit_int_bool, kit_int_int, kit_int_str, kit_int_tuple, kit_int_list, kit_bool_NoneType, kit_bool_bool, kit_bool_int, kit_bool_str, kit_bool_tuple, kit_bool_list, kit_str_NoneType, kit_str_bool, kit_str_int, kit_str_str, kit_str_tuple, kit_str_list, non_int, non_non, non_tup, non_str, non_ref, non_bl, ws_nil, ws_asg, ws_exp, ws_retS, ws_ifs, ws_pass, ws_raise, wr_slot, wr_cst, wr_nil, wr_cons, wr_tup, wr_lst, wr_dsp, wr_bin, wr_neg, ex_int, wr_not, wr_cmp, wr_and, wr_or, wr_ite, wr_isN, wr_notN, wr_ix, wr_sl, wr_prim, wr_lrg, wr_meth, wr_isT, wr_callE, wr_c0, wr_c1, wr_ok, m_lrg, m_addI, m_subI, m_mulI, m_divI, m_modI, m_powI, m_addT, m_addS, m_ltI, m_leI, m_gtI, m_geI, m_eq, m_ne, m_in, m_nin, eq_int, m_ixT, m_ixC, m_ixD, at_0, at_1, at_2, at_3, m_lenT, m_lenC, m_intI, m_intB, m_abs, m_max, m_min, m_tupT, m_listT, m_slT, m_slC, t_bl, t_int, t_non, t_tup, a_nm, a_tp, setSlots, partM, methFor, List.getElem?_cons_zero, List.getElem?_cons_succ, List.set_cons_zero, List.set_cons_succ, Option.some.injEq, exists_eq_left', true_and, and_true, eq_str, decide_eq_true_eq, ↓reduceIte, if_true, if_false, decide_true, decide_false, Bool.false_eq_true, ok_both, ok_case, ok_either, ok_first, ok_give, ok_k, ok_kp, ok_l, ok_left, ok_let, ok_name, ok_never, ok_none, ok_odd, ok_one, ok_other, ok_p, ok_pair, ok_r, ok_right, ok_second, ok_split, ok_star, ok_w, ok_way, ok_within, ok_without, ok_wrong, ok_yes, ok_no, ok_n, ok_led, ok_lr, ok_pp, ok_ppp, List.length_cons, List.length_nil, Nat.zero_add, Int.reduceSub, Int.reduceAdd, Int.reduceNeg, Int.reduceMul, Bool.not_true, Bool.not_false]
            exact ⟨.either a .none, rfl, ⟨Int.ofNat_le.mp (Int.not_lt.mp hc), la, (show Kd.le m .none from trivial)⟩, by show max (Kd.dep a) (Kd.dep .none) + 1 ≤ n + 1; have := da; have := (show Kd.dep .none ≤ n from Nat.zero_le _); omega, by show 1 ≤ Kd.cnt a + Kd.cnt .none; omega, hd5'⟩
        · simp (config := {decide := true}) only [hj2, ws_cons, ty_non, ty_bl, ty_int, ty_str, ty_tup, kit_tuple_NoneType, kit_tuple_bool, kit_tuple_int, kit_tuple_str, kit_tuple_tuple, kit_tuple_list, kit_list_NoneType, kit_list_bool, kit_list_int, kit_list_str, kit_list_tuple, kit_list_list, kit_int_NoneType, kit_int_bool, kit_int_int, kit_int_str, kit_int_tuple, kit_int_list, kit_bool_NoneType, kit_bool_bool, kit_bool_int, kit_bool_str, kit_bool_tuple, kit_bool_list, kit_str_NoneType, kit_str_bool, kit_str_int, kit_str_str, kit_str_tuple, kit_str_list, non_int, non_non, non_tup, non_str, non_ref, non_bl, ws_nil, ws_asg, ws_exp, ws_retS, ws_ifs, ws_pass, ws_raise, wr_slot, wr_cst, wr_nil, wr_cons, wr_tup, wr_lst, wr_dsp, wr_bin, wr_neg, ex_int, wr_not, wr_cmp, wr_and, wr_or, wr_ite, wr_isN, wr_notN, wr_ix, wr_sl, wr_prim, wr_lrg, wr_meth, wr_isT, wr_callE, wr_c0, wr_c1, wr_ok, m_lrg, m_addI, m_subI, m_mulI, m_divI, m_modI, m_powI, m_addT, m_addS, m_ltI, m_leI, m_gtI, m_geI, m_eq, m_ne, m_in, m_nin, eq_int, m_ixT, m_ixC, m_ixD, at_0, at_1, at_2, at_3, m_lenT, m_lenC, m_intI, m_intB, m_abs, m_max, m_min, m_tupT, m_listT, m_slT, m_slC, t_bl, t_int, t_non, t_tup, a_nm, a_tp, setSlots, partM, methFor, List.getElem?_cons_zero, List.getElem?_cons_succ, List.set_cons_zero, List.set_cons_succ, Option.some.injEq, exists_eq_left', true_and, and_true, eq_str, decide_eq_true_eq, ↓reduceIte, if_true, if_false, decide_true, decide_false, Bool.false_eq_true, ok_both, ok_case, ok_either, ok_first, ok_give, ok_k, ok_kp, ok_l, ok_left, ok_let, ok_name, ok_never, ok_none, ok_odd, ok_one, ok_other, ok_p, ok_pair, ok_r, ok_right, ok_second, ok_split, ok_star, ok_w, ok_way, ok_within, ok_without, ok_wrong, ok_yes, ok_no, ok_n, ok_led, ok_lr, ok_pp, ok_ppp, List.length_cons, List.length_nil, Nat.zero_add, Int.reduceSub, Int.reduceAdd, Int.reduceNeg, Int.reduceMul, Bool.not_true, Bool.not_false]
          change Wr (callF T (r + 1) "_law_count" [K (.either a b)] _) _ _
          refine (sp_count hf (.either a b) r _ ⟨(Kd.le.mono hm2 la), (Kd.le.mono hm2 lb)⟩ (by show max (Kd.dep a) (Kd.dep b) + 1 + 1 ≤ r; have := da; have := db; omega)).imp ?_ fun _ _ _ z => z.elim
          rintro v S9 ⟨rfl, rfl⟩
          try simp (config := {decide := true}) only [ws_cons, ty_non, ty_bl, ty_int, ty_str, ty_tup, kit_tuple_NoneType, kit_tuple_bool, kit_tuple_int, kit_tuple_str, kit_tuple_tuple, kit_tuple_list, kit_list_NoneType, kit_list_bool, kit_list_int, kit_list_str, kit_list_tuple, kit_list_list, kit_int_NoneType, kit_int_bool, kit_int_int, kit_int_str, kit_int_tuple, kit_int_list, kit_bool_NoneType, kit_bool_bool, kit_bool_int, kit_bool_str, kit_bool_tuple, kit_bool_list, kit_str_NoneType, kit_str_bool, kit_str_int, kit_str_str, kit_str_tuple, kit_str_list, non_int, non_non, non_tup, non_str, non_ref, non_bl, ws_nil, ws_asg, ws_exp, ws_retS, ws_ifs, ws_pass, ws_raise, wr_slot, wr_cst, wr_nil, wr_cons, wr_tup, wr_lst, wr_dsp, wr_bin, wr_neg, ex_int, wr_not, wr_cmp, wr_and, wr_or, wr_ite, wr_isN, wr_notN, wr_ix, wr_sl, wr_prim, wr_lrg, wr_meth, wr_isT, wr_callE, wr_c0, wr_c1, wr_ok, m_lrg, m_addI, m_subI, m_mulI, m_divI, m_modI, m_powI, m_addT, m_addS, m_ltI, m_leI, m_gtI, m_geI, m_eq, m_ne, m_in, m_nin, eq_int, m_ixT, m_ixC, m_ixD, at_0, at_1, at_2, at_3, m_lenT, m_lenC, m_intI, m_intB, m_abs, m_max, m_min, m_tupT, m_listT, m_slT, m_slC, t_bl, t_int, t_non, t_tup, a_nm, a_tp, setSlots, partM, methFor, List.getElem?_cons_zero, List.getElem?_cons_succ, List.set_cons_zero, List.set_cons_succ, Option.some.injEq, exists_eq_left', true_and, and_true, eq_str, decide_eq_true_eq, ↓reduceIte, if_true, if_false, decide_true, decide_false, Bool.false_eq_true, ok_both, ok_case, ok_either, ok_first, ok_give, ok_k, ok_kp, ok_l, ok_left, ok_let, ok_name, ok_never, ok_none, ok_odd, ok_one, ok_other, ok_p, ok_pair, ok_r, ok_right, ok_second, ok_split, ok_star, ok_w, ok_way, ok_within, ok_without, ok_wrong, ok_yes, ok_no, ok_n, ok_led, ok_lr, ok_pp, ok_ppp, List.length_cons, List.length_nil, Nat.zero_add, Int.reduceSub, Int.reduceAdd, Int.reduceNeg, Int.reduceMul, Bool.not_true, Bool.not_false]
          by_cases hc : (m : Int) < ((Kd.cnt (.either a b) : Nat) : Int)
          · simp (config := {decide := true}) only [hc, ws_cons, ty_non, ty_bl, ty_int, ty_str, ty_tup, kit_tuple_NoneType, kit_tuple_bool, kit_tuple_int, kit_tuple_str, kit_tuple_tuple, kit_tuple_list, kit_list_NoneType, kit_list_bool, kit_list_int, kit_list_str, kit_list_tuple, kit_list_list, kit_int_NoneType, kit_int_bool, kit_int_int, kit_int_str, kit_int_tuple, kit_int_list, kit_bool_NoneType, kit_bool_bool, kit_bool_int, kit_bool_str, kit_bool_tuple, kit_bool_list, kit_str_NoneType, kit_str_bool, kit_str_int, kit_str_str, kit_str_tuple, kit_str_list, non_int, non_non, non_tup, non_str, non_ref, non_bl, ws_nil, ws_asg, ws_exp, ws_retS, ws_ifs, ws_pass, ws_raise, wr_slot, wr_cst, wr_nil, wr_cons, wr_tup, wr_lst, wr_dsp, wr_bin, wr_neg, ex_int, wr_not, wr_cmp, wr_and, wr_or, wr_ite, wr_isN, wr_notN, wr_ix, wr_sl, wr_prim, wr_lrg, wr_meth, wr_isT, wr_callE, wr_c0, wr_c1, wr_ok, m_lrg, m_addI, m_subI, m_mulI, m_divI, m_modI, m_powI, m_addT, m_addS, m_ltI, m_leI, m_gtI, m_geI, m_eq, m_ne, m_in, m_nin, eq_int, m_ixT, m_ixC, m_ixD, at_0, at_1, at_2, at_3, m_lenT, m_lenC, m_intI, m_intB, m_abs, m_max, m_min, m_tupT, m_listT, m_slT, m_slC, t_bl, t_int, t_non, t_tup, a_nm, a_tp, setSlots, partM, methFor, List.getElem?_cons_zero, List.getElem?_cons_succ, List.set_cons_zero, List.set_cons_succ, Option.some.injEq, exists_eq_left', true_and, and_true, eq_str, decide_eq_true_eq, ↓reduceIte, if_true, if_false, decide_true, decide_false, Bool.false_eq_true, ok_both, ok_case, ok_either, ok_first, ok_give, ok_k, ok_kp, ok_l, ok_left, ok_let, ok_name, ok_never, ok_none, ok_odd, ok_one, ok_other, ok_p, ok_pair, ok_r, ok_right, ok_second, ok_split, ok_star, ok_w, ok_way, ok_within, ok_without, ok_wrong, ok_yes, ok_no, ok_n, ok_led, ok_lr, ok_pp, ok_ppp, List.length_cons, List.length_nil, Nat.zero_add, Int.reduceSub, Int.reduceAdd, Int.reduceNeg, Int.reduceMul, Bool.not_true, Bool.not_false]
            exact ⟨.one, rfl, hm, Nat.zero_le _, Nat.le_refl _, hd5'⟩
          · simp (config := {decide := true}) only [hc, ws_cons, ty_non, ty_bl, ty_int, ty_str, ty_tup, kit_tuple_NoneType, kit_tuple_bool, kit_tuple_int, kit_tuple_str, kit_tuple_tuple, kit_tuple_list, kit_list_NoneType, kit_list_bool, kit_list_int, kit_list_str, kit_list_tuple, kit_list_list, kit_int_NoneType, kit_int_bool, kit_int_int, kit_int_str, kit_int_tuple, kit_int_list, kit_bool_NoneType, kit_bool_bool, kit_bool_int, kit_bool_str, kit_bool_tuple, kit_bool_list, kit_str_NoneType, kit_str_bool, kit_str_int, kit_str_str, kit_str_tuple, kit_str_list, non_int, non_non, non_tup, non_str, non_ref, non_bl, ws_nil, ws_asg, ws_exp, ws_retS, ws_ifs, ws_pass, ws_raise, wr_slot, wr_cst, wr_nil, wr_cons, wr_tup, wr_lst, wr_dsp, wr_bin, wr_neg, ex_int, wr_not, wr_cmp, wr_and, wr_or, wr_ite, wr_isN, wr_notN, wr_ix, wr_sl, wr_prim, wr_lrg, wr_meth, wr_isT, wr_callE, wr_c0, wr_c1, wr_ok, m_lrg, m_addI, m_subI, m_mulI, m_divI, m_modI, m_powI, m_addT, m_addS, m_ltI, m_leI, m_gtI, m_geI, m_eq, m_ne, m_in, m_nin, eq_int, m_ixT, m_ixC, m_ixD, at_0, at_1, at_2, at_3, m_lenT, m_lenC, m_intI, m_intB, m_abs, m_max, m_min, m_tupT, m_listT, m_slT, m_slC, t_bl, t_int, t_non, t_tup, a_nm, a_tp, setSlots, partM, methFor, List.getElem?_cons_zero, List.getElem?_cons_succ, List.set_cons_zero, List.set_cons_succ, Option.some.injEq, exists_eq_left', true_and, and_true, eq_str, decide_eq_true_eq, ↓reduceIte, if_true, if_false, decide_true, decide_false, Bool.false_eq_true, ok_both, ok_case, ok_either, ok_first, ok_give, ok_k, ok_kp, ok_l, ok_left, ok_let, ok_name, ok_never, ok_none, ok_odd, ok_one, ok_other, ok_p, ok_pair, ok_r, ok_right, ok_second, ok_split, ok_star, ok_w, ok_way, ok_within, ok_without, ok_wrong, ok_yes, ok_no, ok_n, ok_led, ok_lr, ok_pp, ok_ppp, List.length_cons, List.length_nil, Nat.zero_add, Int.reduceSub, Int.reduceAdd, Int.reduceNeg, Int.reduceMul, Bool.not_true, Bool.not_false]
            exact ⟨.either a b, rfl, ⟨Int.ofNat_le.mp (Int.not_lt.mp hc), la, lb⟩, by show max (Kd.dep a) (Kd.dep b) + 1 ≤ n + 1; have := da; have := db; omega, by show 1 ≤ Kd.cnt a + Kd.cnt b; omega, hd5'⟩
end
end EK

namespace EK
open PySem PySem.Spec L2
open Lib
section
variable {T : Text} {r : Nat} {S : Store}
theorem enum_mid {xs pre : List PV} {x : PV} {suf : List PV} (h : enumF xs = pre ++ x :: suf) : ∃ y, xs[pre.length]? = some y ∧ x = .tup [.int (pre.length : Nat), y] := by
  have e : (enumF xs)[pre.length]? = some x := by rw [h]; simp
  unfold enumF at e
  rw [List.getElem?_mapIdx] at e
  cases q : xs[pre.length]? with
  | none => rw [q] at e; cases e
  | some y =>
    rw [q] at e
    exact ⟨y, rfl, (Option.some.inj e).symm⟩
theorem cut_ints (ns : List Int) (l h : Option Int) : ∃ ms : List Int, cutP (ns.map .int) l h = ms.map .int ∧ ms.length ≤ ns.length := by
  unfold cutP
  rw [← List.map_drop, ← List.map_take]
  exact ⟨_, rfl, by rw [List.length_take, List.length_drop]; omega⟩
theorem ints_at {ms : List Int} {i : Nat} {y : PV} (h : (ms.map PV.int)[i]? = some y) : ∃ z : Int, y = .int z := by
  rw [List.getElem?_map] at h
  cases q : ms[i]? with
  | none => rw [q] at h; cases h
  | some z => rw [q] at h; exact ⟨z, (Option.some.inj h).symm⟩
theorem range_down {i j : Nat} (h : i ≤ 1000000000) (h' : j ≤ 1000000000) : lenM .range [.int (i : Nat), .int (j : Nat)] S = some (rangeP (i : Nat) (j - i)).length := len_range (range_nat2 h h')
theorem e10 : (10 : Int) ^ (18 : Int).toNat = 1000000000000000000 := by decide +kernel
theorem sp_deck {ns : List Int} (hf : HasA T) (hl : ns.length ≤ 63) : Wr (callF T (r + 2) "_law_deck" [.con (ns.map .int)] S) (fun v S' => ∃ n, v = .ref n ∧ S.length ≤ n ∧ Kp [] S S' ∧ Deck S' n) nE := by
  refine wr_call (r := r + 1) (ws := [.con (ns.map .int)]) hf.deck rfl rfl ?_
  show Ws (execSs (conf T (r + 1)) f_law_deck.body [some (.con (ns.map .int)), none, none, none, none, none, none] S) _ _ _
  simp (config := {decide := true}) only [f_law_deck, ws_cons, ty_non, ty_bl, ty_int, ty_str, ty_tup, kit_tuple_NoneType, kit_tuple_bool, kit_tuple_int, kit_tuple_str, kit_tuple_tuple, kit_tuple_list, kit_list_NoneType, kit_list_bool, kit_list_int, kit_list_str, kit_list_tuple, kit_list_list, kit_int_NoneType, kit_int_bool, kit_int_int, kit_int_str, kit_int_tuple, kit_int_list, kit_bool_NoneType, kit_bool_bool, kit_bool_int, kit_bool_str, kit_bool_tuple, kit_bool_list, kit_str_NoneType, kit_str_bool, kit_str_int, kit_str_str, kit_str_tuple, kit_str_list, non_int, non_non, non_tup, non_str, non_ref, non_bl, ws_nil, ws_asg, ws_exp, ws_retS, ws_ifs, ws_pass, ws_raise, wr_slot, wr_cst, wr_nil, wr_cons, wr_tup, wr_lst, wr_dsp, wr_bin, wr_neg, ex_int, wr_not, wr_cmp, wr_and, wr_or, wr_ite, wr_isN, wr_notN, wr_ix, wr_sl, wr_prim, wr_lrg, wr_meth, wr_isT, wr_callE, wr_c0, wr_c1, wr_ok, m_lrg, m_addI, m_subI, m_mulI, m_divI, m_modI, m_powI, m_addT, m_addS, m_ltI, m_leI, m_gtI, m_geI, m_eq, m_ne, m_in, m_nin, eq_int, m_ixT, m_ixC, m_ixD, at_0, at_1, at_2, at_3, m_lenT, m_lenC, m_intI, m_intB, m_abs, m_max, m_min, m_tupT, m_listT, m_slT, m_slC, t_bl, t_int, t_non, t_tup, a_nm, a_tp, setSlots, partM, methFor, List.getElem?_cons_zero, List.getElem?_cons_succ, List.set_cons_zero, List.set_cons_succ, Option.some.injEq, exists_eq_left', true_and, and_true, eq_str, decide_eq_true_eq, ↓reduceIte, if_true, if_false, decide_true, decide_false, Bool.false_eq_true, ok_both, ok_case, ok_either, ok_first, ok_give, ok_k, ok_kp, ok_l, ok_left, ok_let, ok_name, ok_never, ok_none, ok_odd, ok_one, ok_other, ok_p, ok_pair, ok_r, ok_right, ok_second, ok_split, ok_star, ok_w, ok_way, ok_within, ok_without, ok_wrong, ok_yes, ok_no, ok_n, ok_led, ok_lr, ok_pp, ok_ppp, List.length_cons, List.length_nil, Nat.zero_add, Int.reduceSub, Int.reduceAdd, Int.reduceNeg, Int.reduceMul, Bool.not_true, Bool.not_false]
  obtain ⟨ms, ec, hms⟩ := cut_ints ns none (some 63)
  refine ws_forI ?_
  simp (config := {decide := true}) only [ws_cons, ty_non, ty_bl, ty_int, ty_str, ty_tup, kit_tuple_NoneType, kit_tuple_bool, kit_tuple_int, kit_tuple_str, kit_tuple_tuple, kit_tuple_list, kit_list_NoneType, kit_list_bool, kit_list_int, kit_list_str, kit_list_tuple, kit_list_list, kit_int_NoneType, kit_int_bool, kit_int_int, kit_int_str, kit_int_tuple, kit_int_list, kit_bool_NoneType, kit_bool_bool, kit_bool_int, kit_bool_str, kit_bool_tuple, kit_bool_list, kit_str_NoneType, kit_str_bool, kit_str_int, kit_str_str, kit_str_tuple, kit_str_list, non_int, non_non, non_tup, non_str, non_ref, non_bl, ws_nil, ws_asg, ws_exp, ws_retS, ws_ifs, ws_pass, ws_raise, wr_slot, wr_cst, wr_nil, wr_cons, wr_tup, wr_lst, wr_dsp, wr_bin, wr_neg, ex_int, wr_not, wr_cmp, wr_and, wr_or, wr_ite, wr_isN, wr_notN, wr_ix, wr_sl, wr_prim, wr_lrg, wr_meth, wr_isT, wr_callE, wr_c0, wr_c1, wr_ok, m_lrg, m_addI, m_subI, m_mulI, m_divI, m_modI, m_powI, m_addT, m_addS, m_ltI, m_leI, m_gtI, m_geI, m_eq, m_ne, m_in, m_nin, eq_int, m_ixT, m_ixC, m_ixD, at_0, at_1, at_2, at_3, m_lenT, m_lenC, m_intI, m_intB, m_abs, m_max, m_min, m_tupT, m_listT, m_slT, m_slC, t_bl, t_int, t_non, t_tup, a_nm, a_tp, setSlots, partM, methFor, List.getElem?_cons_zero, List.getElem?_cons_succ, List.set_cons_zero, List.set_cons_succ, Option.some.injEq, exists_eq_left', true_and, and_true, eq_str, decide_eq_true_eq, ↓reduceIte, if_true, if_false, decide_true, decide_false, Bool.false_eq_true, ok_both, ok_case, ok_either, ok_first, ok_give, ok_k, ok_kp, ok_l, ok_left, ok_let, ok_name, ok_never, ok_none, ok_odd, ok_one, ok_other, ok_p, ok_pair, ok_r, ok_right, ok_second, ok_split, ok_star, ok_w, ok_way, ok_within, ok_without, ok_wrong, ok_yes, ok_no, ok_n, ok_led, ok_lr, ok_pp, ok_ppp, List.length_cons, List.length_nil, Nat.zero_add, Int.reduceSub, Int.reduceAdd, Int.reduceNeg, Int.reduceMul, Bool.not_true, Bool.not_false]
  rw [ec]
  have hS1 : ((S ++ [Cell.lst []]) ++ [Cell.lst (ms.map PV.int)])[(S ++ [Cell.lst []]).length]? = some (.lst (ms.map PV.int)) := get_new
  refine ⟨_, len_enum hS1, fun pre e S2 => (∃ o2 o3 o4 o5, e = [some (.con (ns.map .int)), some (.ref S.length), o2, o3, o4, o5, none]) ∧ Kp [] S S2 ∧ S2[(S ++ [Cell.lst []]).length]? = some (.lst (ms.map PV.int)) ∧ ∃ ds : List Int, S2[S.length]? = some (.lst (ds.map .int)) ∧ ds.length ≤ 67 * pre.length,
    ⟨⟨_, _, _, _, rfl⟩, Kp.refl.app.app, hS1, [], get_app get_new, Nat.zero_le _⟩, ?_, ?_, ?_⟩
  · -- behind the cells: the deck filled up
    rintro e S2 ⟨⟨o2, o3, o4, o5, rfl⟩, k, hc, ds, hd, hdl⟩
    have hen : (enumF (ms.map PV.int)).length = ms.length := by simp [enumF]
    rw [hen] at hdl
    refine ws_forI ?_
    simp (config := {decide := true}) only [ws_cons, ty_non, ty_bl, ty_int, ty_str, ty_tup, kit_tuple_NoneType, kit_tuple_bool, kit_tuple_int, kit_tuple_str, kit_tuple_tuple, kit_tuple_list, kit_list_NoneType, kit_list_bool, kit_list_int, kit_list_str, kit_list_tuple, kit_list_list, kit_int_NoneType, kit_int_bool, kit_int_int, kit_int_str, kit_int_tuple, kit_int_list, kit_bool_NoneType, kit_bool_bool, kit_bool_int, kit_bool_str, kit_bool_tuple, kit_bool_list, kit_str_NoneType, kit_str_bool, kit_str_int, kit_str_str, kit_str_tuple, kit_str_list, non_int, non_non, non_tup, non_str, non_ref, non_bl, ws_nil, ws_asg, ws_exp, ws_retS, ws_ifs, ws_pass, ws_raise, wr_slot, wr_cst, wr_nil, wr_cons, wr_tup, wr_lst, wr_dsp, wr_bin, wr_neg, ex_int, wr_not, wr_cmp, wr_and, wr_or, wr_ite, wr_isN, wr_notN, wr_ix, wr_sl, wr_prim, wr_lrg, wr_meth, wr_isT, wr_callE, wr_c0, wr_c1, wr_ok, m_lrg, m_addI, m_subI, m_mulI, m_divI, m_modI, m_powI, m_addT, m_addS, m_ltI, m_leI, m_gtI, m_geI, m_eq, m_ne, m_in, m_nin, eq_int, m_ixT, m_ixC, m_ixD, at_0, at_1, at_2, at_3, m_lenT, m_lenC, m_intI, m_intB, m_abs, m_max, m_min, m_tupT, m_listT, m_slT, m_slC, t_bl, t_int, t_non, t_tup, a_nm, a_tp, setSlots, partM, methFor, List.getElem?_cons_zero, List.getElem?_cons_succ, List.set_cons_zero, List.set_cons_succ, Option.some.injEq, exists_eq_left', true_and, and_true, eq_str, decide_eq_true_eq, ↓reduceIte, if_true, if_false, decide_true, decide_false, Bool.false_eq_true, ok_both, ok_case, ok_either, ok_first, ok_give, ok_k, ok_kp, ok_l, ok_left, ok_let, ok_name, ok_never, ok_none, ok_odd, ok_one, ok_other, ok_p, ok_pair, ok_r, ok_right, ok_second, ok_split, ok_star, ok_w, ok_way, ok_within, ok_without, ok_wrong, ok_yes, ok_no, ok_n, ok_led, ok_lr, ok_pp, ok_ppp, List.length_cons, List.length_nil, Nat.zero_add, Int.reduceSub, Int.reduceAdd, Int.reduceNeg, Int.reduceMul, Bool.not_true, Bool.not_false]
    rw [m_lenL hd]
    rw [List.length_map]
    have er := range_nat2 (i := ds.length) (j := 150) (by omega) (by omega)
    refine ⟨_, len_range er, fun pre e S3 => (∃ o2, e = [some (.con (ns.map .int)), some (.ref S.length), o2, o3, o4, o5, none]) ∧ Kp [] S S3 ∧ ∃ ds : List Int, S3[S.length]? = some (.lst (ds.map .int)) ∧ ds.length ≤ 10000 + pre.length,
      ⟨⟨_, rfl⟩, k, ds, hd, by omega⟩, ?_, ?_, ?_⟩
    · rintro e S3 ⟨⟨o2, rfl⟩, k3, ds3, hd3, _⟩
      simp (config := {decide := true}) only [ws_cons, ty_non, ty_bl, ty_int, ty_str, ty_tup, kit_tuple_NoneType, kit_tuple_bool, kit_tuple_int, kit_tuple_str, kit_tuple_tuple, kit_tuple_list, kit_list_NoneType, kit_list_bool, kit_list_int, kit_list_str, kit_list_tuple, kit_list_list, kit_int_NoneType, kit_int_bool, kit_int_int, kit_int_str, kit_int_tuple, kit_int_list, kit_bool_NoneType, kit_bool_bool, kit_bool_int, kit_bool_str, kit_bool_tuple, kit_bool_list, kit_str_NoneType, kit_str_bool, kit_str_int, kit_str_str, kit_str_tuple, kit_str_list, non_int, non_non, non_tup, non_str, non_ref, non_bl, ws_nil, ws_asg, ws_exp, ws_retS, ws_ifs, ws_pass, ws_raise, wr_slot, wr_cst, wr_nil, wr_cons, wr_tup, wr_lst, wr_dsp, wr_bin, wr_neg, ex_int, wr_not, wr_cmp, wr_and, wr_or, wr_ite, wr_isN, wr_notN, wr_ix, wr_sl, wr_prim, wr_lrg, wr_meth, wr_isT, wr_callE, wr_c0, wr_c1, wr_ok, m_lrg, m_addI, m_subI, m_mulI, m_divI, m_modI, m_powI, m_addT, m_addS, m_ltI, m_leI, m_gtI, m_geI, m_eq, m_ne, m_in, m_nin, eq_int, m_ixT, m_ixC, m_ixD, at_0, at_1, at_2, at_3, m_lenT, m_lenC, m_intI, m_intB, m_abs, m_max, m_min, m_tupT, m_listT, m_slT, m_slC, t_bl, t_int, t_non, t_tup, a_nm, a_tp, setSlots, partM, methFor, List.getElem?_cons_zero, List.getElem?_cons_succ, List.set_cons_zero, List.set_cons_succ, Option.some.injEq, exists_eq_left', true_and, and_true, eq_str, decide_eq_true_eq, ↓reduceIte, if_true, if_false, decide_true, decide_false, Bool.false_eq_true, ok_both, ok_case, ok_either, ok_first, ok_give, ok_k, ok_kp, ok_l, ok_left, ok_let, ok_name, ok_never, ok_none, ok_odd, ok_one, ok_other, ok_p, ok_pair, ok_r, ok_right, ok_second, ok_split, ok_star, ok_w, ok_way, ok_within, ok_without, ok_wrong, ok_yes, ok_no, ok_n, ok_led, ok_lr, ok_pp, ok_ppp, List.length_cons, List.length_nil, Nat.zero_add, Int.reduceSub, Int.reduceAdd, Int.reduceNeg, Int.reduceMul, Bool.not_true, Bool.not_false]
      rw [m_slL hd3]
      obtain ⟨qs, eq, _⟩ := cut_ints ds3 none (some 900)
      rw [eq]
      exact ⟨_, rfl, k3.1, k3.app, qs, get_new⟩
    · rintro pre e S3 _
      exact it_range er
    · rintro pre x suf e S3 hx ⟨⟨o2, rfl⟩, k3, ds3, hd3, hl3⟩
      obtain ⟨hp, rfl⟩ := range_mid hx
      refine ⟨_, rfl, ?_⟩
      simp (config := {decide := true}) only [ws_cons, ty_non, ty_bl, ty_int, ty_str, ty_tup, kit_tuple_NoneType, kit_tuple_bool, kit_tuple_int, kit_tuple_str, kit_tuple_tuple, kit_tuple_list, kit_list_NoneType, kit_list_bool, kit_list_int, kit_list_str, kit_list_tuple, kit_list_list, kit_int_NoneType, kit_int_bool, kit_int_int, kit_int_str, kit_int_tuple, kit_int_list, kit_bool_NoneType, kit_bool_bool, kit_bool_int, kit_bool_str, kit_bool_tuple, kit_bool_list, kit_str_NoneType, kit_str_bool, kit_str_int, kit_str_str, kit_str_tuple, kit_str_list, non_int, non_non, non_tup, non_str, non_ref, non_bl, ws_nil, ws_asg, ws_exp, ws_retS, ws_ifs, ws_pass, ws_raise, wr_slot, wr_cst, wr_nil, wr_cons, wr_tup, wr_lst, wr_dsp, wr_bin, wr_neg, ex_int, wr_not, wr_cmp, wr_and, wr_or, wr_ite, wr_isN, wr_notN, wr_ix, wr_sl, wr_prim, wr_lrg, wr_meth, wr_isT, wr_callE, wr_c0, wr_c1, wr_ok, m_lrg, m_addI, m_subI, m_mulI, m_divI, m_modI, m_powI, m_addT, m_addS, m_ltI, m_leI, m_gtI, m_geI, m_eq, m_ne, m_in, m_nin, eq_int, m_ixT, m_ixC, m_ixD, at_0, at_1, at_2, at_3, m_lenT, m_lenC, m_intI, m_intB, m_abs, m_max, m_min, m_tupT, m_listT, m_slT, m_slC, t_bl, t_int, t_non, t_tup, a_nm, a_tp, setSlots, partM, methFor, List.getElem?_cons_zero, List.getElem?_cons_succ, List.set_cons_zero, List.set_cons_succ, Option.some.injEq, exists_eq_left', true_and, and_true, eq_str, decide_eq_true_eq, ↓reduceIte, if_true, if_false, decide_true, decide_false, Bool.false_eq_true, ok_both, ok_case, ok_either, ok_first, ok_give, ok_k, ok_kp, ok_l, ok_left, ok_let, ok_name, ok_never, ok_none, ok_odd, ok_one, ok_other, ok_p, ok_pair, ok_r, ok_right, ok_second, ok_split, ok_star, ok_w, ok_way, ok_within, ok_without, ok_wrong, ok_yes, ok_no, ok_n, ok_led, ok_lr, ok_pp, ok_ppp, List.length_cons, List.length_nil, Nat.zero_add, Int.reduceSub, Int.reduceAdd, Int.reduceNeg, Int.reduceMul, Bool.not_true, Bool.not_false]
      rw [ec]
      rw [m_sum get_new]
      refine (sp_mixed hf).imp ?_ fun _ _ _ z => z.elim
      rintro v S4 ⟨rfl, rfl⟩
      rw [m_app (get_app hd3)]
      refine ⟨big (by rw [List.length_map]; omega), ⟨_, rfl⟩, k3.app.set (.inr (Nat.le_refl _)), ds3 ++ [mixI ms.sum ((ds.length : Nat) + (pre.length : Nat))], ?_, ?_⟩
      · rw [get_set (get_app hd3), List.map_append]; rfl
      · simp only [List.length_append, List.length_singleton]; omega
  · rintro pre e S2 ⟨_, _, hc, _⟩
    exact it_enum hc
  · rintro pre x suf e S2 hx ⟨⟨o2, o3, o4, o5, rfl⟩, k, hc, ds, hd, hdl⟩
    obtain ⟨y, hy, rfl⟩ := enum_mid hx
    obtain ⟨z, rfl⟩ := ints_at hy
    have hpl : pre.length < ms.length := by
      have := get_lt (S := []) (i := 0) (c := .lst []) 
      have h2 := (List.getElem?_eq_some_iff.mp hy).1
      simpa using h2
    refine ⟨_, rfl, ?_⟩
    simp (config := {decide := true}) only [ws_cons, ty_non, ty_bl, ty_int, ty_str, ty_tup, kit_tuple_NoneType, kit_tuple_bool, kit_tuple_int, kit_tuple_str, kit_tuple_tuple, kit_tuple_list, kit_list_NoneType, kit_list_bool, kit_list_int, kit_list_str, kit_list_tuple, kit_list_list, kit_int_NoneType, kit_int_bool, kit_int_int, kit_int_str, kit_int_tuple, kit_int_list, kit_bool_NoneType, kit_bool_bool, kit_bool_int, kit_bool_str, kit_bool_tuple, kit_bool_list, kit_str_NoneType, kit_str_bool, kit_str_int, kit_str_str, kit_str_tuple, kit_str_list, non_int, non_non, non_tup, non_str, non_ref, non_bl, ws_nil, ws_asg, ws_exp, ws_retS, ws_ifs, ws_pass, ws_raise, wr_slot, wr_cst, wr_nil, wr_cons, wr_tup, wr_lst, wr_dsp, wr_bin, wr_neg, ex_int, wr_not, wr_cmp, wr_and, wr_or, wr_ite, wr_isN, wr_notN, wr_ix, wr_sl, wr_prim, wr_lrg, wr_meth, wr_isT, wr_callE, wr_c0, wr_c1, wr_ok, m_lrg, m_addI, m_subI, m_mulI, m_divI, m_modI, m_powI, m_addT, m_addS, m_ltI, m_leI, m_gtI, m_geI, m_eq, m_ne, m_in, m_nin, eq_int, m_ixT, m_ixC, m_ixD, at_0, at_1, at_2, at_3, m_lenT, m_lenC, m_intI, m_intB, m_abs, m_max, m_min, m_tupT, m_listT, m_slT, m_slC, t_bl, t_int, t_non, t_tup, a_nm, a_tp, setSlots, partM, methFor, List.getElem?_cons_zero, List.getElem?_cons_succ, List.set_cons_zero, List.set_cons_succ, Option.some.injEq, exists_eq_left', true_and, and_true, eq_str, decide_eq_true_eq, ↓reduceIte, if_true, if_false, decide_true, decide_false, Bool.false_eq_true, ok_both, ok_case, ok_either, ok_first, ok_give, ok_k, ok_kp, ok_l, ok_left, ok_let, ok_name, ok_never, ok_none, ok_odd, ok_one, ok_other, ok_p, ok_pair, ok_r, ok_right, ok_second, ok_split, ok_star, ok_w, ok_way, ok_within, ok_without, ok_wrong, ok_yes, ok_no, ok_n, ok_led, ok_lr, ok_pp, ok_ppp, List.length_cons, List.length_nil, Nat.zero_add, Int.reduceSub, Int.reduceAdd, Int.reduceNeg, Int.reduceMul, Bool.not_true, Bool.not_false, e10]
    generalize (if z < 0 then -z else z) % 2147483647 ^ Int.toNat 60 = num
    refine Ws.imp (N := fun e S3 => ∃ num o5 ds3, e = [some (.con (ns.map .int)), some (.ref S.length), some (.int (pre.length : Nat)), some (.int z), some (.int num), o5, none] ∧ Kp [] S S3 ∧ S3[(S ++ [Cell.lst []]).length]? = some (.lst (ms.map PV.int)) ∧
      S3[S.length]? = some (.lst (List.map PV.int ds3)) ∧ ds3.length ≤ 67 * pre.length + 7) ?_ (fun e S3 h => ?_) (fun _ _ z => z) (fun _ _ _ _ z => z)
    · by_cases h18 : num < 1000000000000000000
      · simp (config := {decide := true}) only [h18, ws_cons, ty_non, ty_bl, ty_int, ty_str, ty_tup, kit_tuple_NoneType, kit_tuple_bool, kit_tuple_int, kit_tuple_str, kit_tuple_tuple, kit_tuple_list, kit_list_NoneType, kit_list_bool, kit_list_int, kit_list_str, kit_list_tuple, kit_list_list, kit_int_NoneType, kit_int_bool, kit_int_int, kit_int_str, kit_int_tuple, kit_int_list, kit_bool_NoneType, kit_bool_bool, kit_bool_int, kit_bool_str, kit_bool_tuple, kit_bool_list, kit_str_NoneType, kit_str_bool, kit_str_int, kit_str_str, kit_str_tuple, kit_str_list, non_int, non_non, non_tup, non_str, non_ref, non_bl, ws_nil, ws_asg, ws_exp, ws_retS, ws_ifs, ws_pass, ws_raise, wr_slot, wr_cst, wr_nil, wr_cons, wr_tup, wr_lst, wr_dsp, wr_bin, wr_neg, ex_int, wr_not, wr_cmp, wr_and, wr_or, wr_ite, wr_isN, wr_notN, wr_ix, wr_sl, wr_prim, wr_lrg, wr_meth, wr_isT, wr_callE, wr_c0, wr_c1, wr_ok, m_lrg, m_addI, m_subI, m_mulI, m_divI, m_modI, m_powI, m_addT, m_addS, m_ltI, m_leI, m_gtI, m_geI, m_eq, m_ne, m_in, m_nin, eq_int, m_ixT, m_ixC, m_ixD, at_0, at_1, at_2, at_3, m_lenT, m_lenC, m_intI, m_intB, m_abs, m_max, m_min, m_tupT, m_listT, m_slT, m_slC, t_bl, t_int, t_non, t_tup, a_nm, a_tp, setSlots, partM, methFor, List.getElem?_cons_zero, List.getElem?_cons_succ, List.set_cons_zero, List.set_cons_succ, Option.some.injEq, exists_eq_left', true_and, and_true, eq_str, decide_eq_true_eq, ↓reduceIte, if_true, if_false, decide_true, decide_false, Bool.false_eq_true, ok_both, ok_case, ok_either, ok_first, ok_give, ok_k, ok_kp, ok_l, ok_left, ok_let, ok_name, ok_never, ok_none, ok_odd, ok_one, ok_other, ok_p, ok_pair, ok_r, ok_right, ok_second, ok_split, ok_star, ok_w, ok_way, ok_within, ok_without, ok_wrong, ok_yes, ok_no, ok_n, ok_led, ok_lr, ok_pp, ok_ppp, List.length_cons, List.length_nil, Nat.zero_add, Int.reduceSub, Int.reduceAdd, Int.reduceNeg, Int.reduceMul, Bool.not_true, Bool.not_false]
        refine wr_compM (fun x => match x with
          | .int j => .int (mixI num (7 * (pre.length : Nat) + j))
          | _ => .non) ?_
        simp (config := {decide := true}) only [ws_cons, ty_non, ty_bl, ty_int, ty_str, ty_tup, kit_tuple_NoneType, kit_tuple_bool, kit_tuple_int, kit_tuple_str, kit_tuple_tuple, kit_tuple_list, kit_list_NoneType, kit_list_bool, kit_list_int, kit_list_str, kit_list_tuple, kit_list_list, kit_int_NoneType, kit_int_bool, kit_int_int, kit_int_str, kit_int_tuple, kit_int_list, kit_bool_NoneType, kit_bool_bool, kit_bool_int, kit_bool_str, kit_bool_tuple, kit_bool_list, kit_str_NoneType, kit_str_bool, kit_str_int, kit_str_str, kit_str_tuple, kit_str_list, non_int, non_non, non_tup, non_str, non_ref, non_bl, ws_nil, ws_asg, ws_exp, ws_retS, ws_ifs, ws_pass, ws_raise, wr_slot, wr_cst, wr_nil, wr_cons, wr_tup, wr_lst, wr_dsp, wr_bin, wr_neg, ex_int, wr_not, wr_cmp, wr_and, wr_or, wr_ite, wr_isN, wr_notN, wr_ix, wr_sl, wr_prim, wr_lrg, wr_meth, wr_isT, wr_callE, wr_c0, wr_c1, wr_ok, m_lrg, m_addI, m_subI, m_mulI, m_divI, m_modI, m_powI, m_addT, m_addS, m_ltI, m_leI, m_gtI, m_geI, m_eq, m_ne, m_in, m_nin, eq_int, m_ixT, m_ixC, m_ixD, at_0, at_1, at_2, at_3, m_lenT, m_lenC, m_intI, m_intB, m_abs, m_max, m_min, m_tupT, m_listT, m_slT, m_slC, t_bl, t_int, t_non, t_tup, a_nm, a_tp, setSlots, partM, methFor, List.getElem?_cons_zero, List.getElem?_cons_succ, List.set_cons_zero, List.set_cons_succ, Option.some.injEq, exists_eq_left', true_and, and_true, eq_str, decide_eq_true_eq, ↓reduceIte, if_true, if_false, decide_true, decide_false, Bool.false_eq_true, ok_both, ok_case, ok_either, ok_first, ok_give, ok_k, ok_kp, ok_l, ok_left, ok_let, ok_name, ok_never, ok_none, ok_odd, ok_one, ok_other, ok_p, ok_pair, ok_r, ok_right, ok_second, ok_split, ok_star, ok_w, ok_way, ok_within, ok_without, ok_wrong, ok_yes, ok_no, ok_n, ok_led, ok_lr, ok_pp, ok_ppp, List.length_cons, List.length_nil, Nat.zero_add, Int.reduceSub, Int.reduceAdd, Int.reduceNeg, Int.reduceMul, Bool.not_true, Bool.not_false]
        have er := range_nat (n := 7) (by omega)
        refine ⟨_, len_range er, by rw [range_len]; exact big (by omega), fun S4 _ i => it_range er, ?_, ?_⟩
        · intro S3 k3 d3
          have hd' := k3.get hd (by simp)
          rw [m_ext hd' d3]
          have em : (rangeP 0 7).map (fun x => match x with
            | .int j => PV.int (mixI num (7 * (pre.length : Nat) + j))
            | _ => .non) = ((List.range 7).map fun j => mixI num (7 * (pre.length : Nat) + (0 + (j : Nat)))).map PV.int := by
            unfold rangeP
            rw [List.map_map, List.map_map]
            rfl
          rw [em]
          refine ⟨big (by simp only [List.length_map, List.length_range]; omega), 0, o5, ds ++ _, rfl, (k.trans k3).set (.inr (Nat.le_refl _)), ?_, by rw [get_set hd', ← List.map_append], by simp only [List.length_append, List.length_map, List.length_range]; omega⟩
          exact get_set_ne (k3.get hc (by simp)) (by simp)
        · intro x S4 hx4 k4 _
          obtain ⟨p1, s1, hx5⟩ := List.append_of_mem hx4
          obtain ⟨_, rfl⟩ := range_mid hx5
          simp (config := {decide := true}) only [ws_cons, ty_non, ty_bl, ty_int, ty_str, ty_tup, kit_tuple_NoneType, kit_tuple_bool, kit_tuple_int, kit_tuple_str, kit_tuple_tuple, kit_tuple_list, kit_list_NoneType, kit_list_bool, kit_list_int, kit_list_str, kit_list_tuple, kit_list_list, kit_int_NoneType, kit_int_bool, kit_int_int, kit_int_str, kit_int_tuple, kit_int_list, kit_bool_NoneType, kit_bool_bool, kit_bool_int, kit_bool_str, kit_bool_tuple, kit_bool_list, kit_str_NoneType, kit_str_bool, kit_str_int, kit_str_str, kit_str_tuple, kit_str_list, non_int, non_non, non_tup, non_str, non_ref, non_bl, ws_nil, ws_asg, ws_exp, ws_retS, ws_ifs, ws_pass, ws_raise, wr_slot, wr_cst, wr_nil, wr_cons, wr_tup, wr_lst, wr_dsp, wr_bin, wr_neg, ex_int, wr_not, wr_cmp, wr_and, wr_or, wr_ite, wr_isN, wr_notN, wr_ix, wr_sl, wr_prim, wr_lrg, wr_meth, wr_isT, wr_callE, wr_c0, wr_c1, wr_ok, m_lrg, m_addI, m_subI, m_mulI, m_divI, m_modI, m_powI, m_addT, m_addS, m_ltI, m_leI, m_gtI, m_geI, m_eq, m_ne, m_in, m_nin, eq_int, m_ixT, m_ixC, m_ixD, at_0, at_1, at_2, at_3, m_lenT, m_lenC, m_intI, m_intB, m_abs, m_max, m_min, m_tupT, m_listT, m_slT, m_slC, t_bl, t_int, t_non, t_tup, a_nm, a_tp, setSlots, partM, methFor, List.getElem?_cons_zero, List.getElem?_cons_succ, List.set_cons_zero, List.set_cons_succ, Option.some.injEq, exists_eq_left', true_and, and_true, eq_str, decide_eq_true_eq, ↓reduceIte, if_true, if_false, decide_true, decide_false, Bool.false_eq_true, ok_both, ok_case, ok_either, ok_first, ok_give, ok_k, ok_kp, ok_l, ok_left, ok_let, ok_name, ok_never, ok_none, ok_odd, ok_one, ok_other, ok_p, ok_pair, ok_r, ok_right, ok_second, ok_split, ok_star, ok_w, ok_way, ok_within, ok_without, ok_wrong, ok_yes, ok_no, ok_n, ok_led, ok_lr, ok_pp, ok_ppp, List.length_cons, List.length_nil, Nat.zero_add, Int.reduceSub, Int.reduceAdd, Int.reduceNeg, Int.reduceMul, Bool.not_true, Bool.not_false, wipeE]
          refine ⟨mulOk_l (by decide), (sp_mixed hf).imp ?_ fun _ _ _ z => z.elim⟩
          rintro v S5 ⟨rfl, rfl⟩
          exact ⟨rfl, Kp.refl⟩
      · simp (config := {decide := true}) only [h18, ws_cons, ty_non, ty_bl, ty_int, ty_str, ty_tup, kit_tuple_NoneType, kit_tuple_bool, kit_tuple_int, kit_tuple_str, kit_tuple_tuple, kit_tuple_list, kit_list_NoneType, kit_list_bool, kit_list_int, kit_list_str, kit_list_tuple, kit_list_list, kit_int_NoneType, kit_int_bool, kit_int_int, kit_int_str, kit_int_tuple, kit_int_list, kit_bool_NoneType, kit_bool_bool, kit_bool_int, kit_bool_str, kit_bool_tuple, kit_bool_list, kit_str_NoneType, kit_str_bool, kit_str_int, kit_str_str, kit_str_tuple, kit_str_list, non_int, non_non, non_tup, non_str, non_ref, non_bl, ws_nil, ws_asg, ws_exp, ws_retS, ws_ifs, ws_pass, ws_raise, wr_slot, wr_cst, wr_nil, wr_cons, wr_tup, wr_lst, wr_dsp, wr_bin, wr_neg, ex_int, wr_not, wr_cmp, wr_and, wr_or, wr_ite, wr_isN, wr_notN, wr_ix, wr_sl, wr_prim, wr_lrg, wr_meth, wr_isT, wr_callE, wr_c0, wr_c1, wr_ok, m_lrg, m_addI, m_subI, m_mulI, m_divI, m_modI, m_powI, m_addT, m_addS, m_ltI, m_leI, m_gtI, m_geI, m_eq, m_ne, m_in, m_nin, eq_int, m_ixT, m_ixC, m_ixD, at_0, at_1, at_2, at_3, m_lenT, m_lenC, m_intI, m_intB, m_abs, m_max, m_min, m_tupT, m_listT, m_slT, m_slC, t_bl, t_int, t_non, t_tup, a_nm, a_tp, setSlots, partM, methFor, List.getElem?_cons_zero, List.getElem?_cons_succ, List.set_cons_zero, List.set_cons_succ, Option.some.injEq, exists_eq_left', true_and, and_true, eq_str, decide_eq_true_eq, ↓reduceIte, if_true, if_false, decide_true, decide_false, Bool.false_eq_true, ok_both, ok_case, ok_either, ok_first, ok_give, ok_k, ok_kp, ok_l, ok_left, ok_let, ok_name, ok_never, ok_none, ok_odd, ok_one, ok_other, ok_p, ok_pair, ok_r, ok_right, ok_second, ok_split, ok_star, ok_w, ok_way, ok_within, ok_without, ok_wrong, ok_yes, ok_no, ok_n, ok_led, ok_lr, ok_pp, ok_ppp, List.length_cons, List.length_nil, Nat.zero_add, Int.reduceSub, Int.reduceAdd, Int.reduceNeg, Int.reduceMul, Bool.not_true, Bool.not_false]
        exact ⟨num, o5, ds, rfl, k, hc, hd, by omega⟩
    · obtain ⟨num, o5, ds3, rfl, k3, hc3, hd3, hl3⟩ := h
      refine ws_forI ?_
      simp (config := {decide := true}) only [ws_cons, ty_non, ty_bl, ty_int, ty_str, ty_tup, kit_tuple_NoneType, kit_tuple_bool, kit_tuple_int, kit_tuple_str, kit_tuple_tuple, kit_tuple_list, kit_list_NoneType, kit_list_bool, kit_list_int, kit_list_str, kit_list_tuple, kit_list_list, kit_int_NoneType, kit_int_bool, kit_int_int, kit_int_str, kit_int_tuple, kit_int_list, kit_bool_NoneType, kit_bool_bool, kit_bool_int, kit_bool_str, kit_bool_tuple, kit_bool_list, kit_str_NoneType, kit_str_bool, kit_str_int, kit_str_str, kit_str_tuple, kit_str_list, non_int, non_non, non_tup, non_str, non_ref, non_bl, ws_nil, ws_asg, ws_exp, ws_retS, ws_ifs, ws_pass, ws_raise, wr_slot, wr_cst, wr_nil, wr_cons, wr_tup, wr_lst, wr_dsp, wr_bin, wr_neg, ex_int, wr_not, wr_cmp, wr_and, wr_or, wr_ite, wr_isN, wr_notN, wr_ix, wr_sl, wr_prim, wr_lrg, wr_meth, wr_isT, wr_callE, wr_c0, wr_c1, wr_ok, m_lrg, m_addI, m_subI, m_mulI, m_divI, m_modI, m_powI, m_addT, m_addS, m_ltI, m_leI, m_gtI, m_geI, m_eq, m_ne, m_in, m_nin, eq_int, m_ixT, m_ixC, m_ixD, at_0, at_1, at_2, at_3, m_lenT, m_lenC, m_intI, m_intB, m_abs, m_max, m_min, m_tupT, m_listT, m_slT, m_slC, t_bl, t_int, t_non, t_tup, a_nm, a_tp, setSlots, partM, methFor, List.getElem?_cons_zero, List.getElem?_cons_succ, List.set_cons_zero, List.set_cons_succ, Option.some.injEq, exists_eq_left', true_and, and_true, eq_str, decide_eq_true_eq, ↓reduceIte, if_true, if_false, decide_true, decide_false, Bool.false_eq_true, ok_both, ok_case, ok_either, ok_first, ok_give, ok_k, ok_kp, ok_l, ok_left, ok_let, ok_name, ok_never, ok_none, ok_odd, ok_one, ok_other, ok_p, ok_pair, ok_r, ok_right, ok_second, ok_split, ok_star, ok_w, ok_way, ok_within, ok_without, ok_wrong, ok_yes, ok_no, ok_n, ok_led, ok_lr, ok_pp, ok_ppp, List.length_cons, List.length_nil, Nat.zero_add, Int.reduceSub, Int.reduceAdd, Int.reduceNeg, Int.reduceMul, Bool.not_true, Bool.not_false]
      have er := range_nat (n := 60) (by omega)
      refine ⟨_, len_range er, fun p4 e S4 => (∃ num o5 ds4, e = [some (.con (ns.map .int)), some (.ref S.length), some (.int (pre.length : Nat)), some (.int z), some (.int num), o5, none] ∧ Kp [] S S4 ∧ S4[(S ++ [Cell.lst []]).length]? = some (.lst (ms.map PV.int)) ∧
        S4[S.length]? = some (.lst (List.map PV.int ds4)) ∧ ds4.length ≤ 67 * pre.length + 7 + p4.length), ⟨num, o5, ds3, rfl, k3, hc3, hd3, by omega⟩, ?_, ?_, ?_⟩
      · rintro e S4 ⟨num, o5, ds4, rfl, k4, hc4, hd4, hl4⟩
        rw [range_len] at hl4
        exact ⟨⟨_, _, _, _, rfl⟩, k4, hc4, ds4, hd4, by simp only [List.length_append, List.length_singleton]; omega⟩
      · rintro p4 e S4 _
        exact it_range er
      · rintro p4 x4 s4 e S4 hx4 ⟨num, o5, ds4, rfl, k4, hc4, hd4, hl4⟩
        have hp4 := (range_mid hx4).1
        refine ⟨_, rfl, ?_⟩
        simp (config := {decide := true}) only [ws_cons, ty_non, ty_bl, ty_int, ty_str, ty_tup, kit_tuple_NoneType, kit_tuple_bool, kit_tuple_int, kit_tuple_str, kit_tuple_tuple, kit_tuple_list, kit_list_NoneType, kit_list_bool, kit_list_int, kit_list_str, kit_list_tuple, kit_list_list, kit_int_NoneType, kit_int_bool, kit_int_int, kit_int_str, kit_int_tuple, kit_int_list, kit_bool_NoneType, kit_bool_bool, kit_bool_int, kit_bool_str, kit_bool_tuple, kit_bool_list, kit_str_NoneType, kit_str_bool, kit_str_int, kit_str_str, kit_str_tuple, kit_str_list, non_int, non_non, non_tup, non_str, non_ref, non_bl, ws_nil, ws_asg, ws_exp, ws_retS, ws_ifs, ws_pass, ws_raise, wr_slot, wr_cst, wr_nil, wr_cons, wr_tup, wr_lst, wr_dsp, wr_bin, wr_neg, ex_int, wr_not, wr_cmp, wr_and, wr_or, wr_ite, wr_isN, wr_notN, wr_ix, wr_sl, wr_prim, wr_lrg, wr_meth, wr_isT, wr_callE, wr_c0, wr_c1, wr_ok, m_lrg, m_addI, m_subI, m_mulI, m_divI, m_modI, m_powI, m_addT, m_addS, m_ltI, m_leI, m_gtI, m_geI, m_eq, m_ne, m_in, m_nin, eq_int, m_ixT, m_ixC, m_ixD, at_0, at_1, at_2, at_3, m_lenT, m_lenC, m_intI, m_intB, m_abs, m_max, m_min, m_tupT, m_listT, m_slT, m_slC, t_bl, t_int, t_non, t_tup, a_nm, a_tp, setSlots, partM, methFor, List.getElem?_cons_zero, List.getElem?_cons_succ, List.set_cons_zero, List.set_cons_succ, Option.some.injEq, exists_eq_left', true_and, and_true, eq_str, decide_eq_true_eq, ↓reduceIte, if_true, if_false, decide_true, decide_false, Bool.false_eq_true, ok_both, ok_case, ok_either, ok_first, ok_give, ok_k, ok_kp, ok_l, ok_left, ok_let, ok_name, ok_never, ok_none, ok_odd, ok_one, ok_other, ok_p, ok_pair, ok_r, ok_right, ok_second, ok_split, ok_star, ok_w, ok_way, ok_within, ok_without, ok_wrong, ok_yes, ok_no, ok_n, ok_led, ok_lr, ok_pp, ok_ppp, List.length_cons, List.length_nil, Nat.zero_add, Int.reduceSub, Int.reduceAdd, Int.reduceNeg, Int.reduceMul, Bool.not_true, Bool.not_false]
        by_cases hz : 0 < num
        · simp (config := {decide := true}) only [hz, ws_cons, ty_non, ty_bl, ty_int, ty_str, ty_tup, kit_tuple_NoneType, kit_tuple_bool, kit_tuple_int, kit_tuple_str, kit_tuple_tuple, kit_tuple_list, kit_list_NoneType, kit_list_bool, kit_list_int, kit_list_str, kit_list_tuple, kit_list_list, kit_int_NoneType, kit_int_bool, kit_int_int, kit_int_str, kit_int_tuple, kit_int_list, kit_bool_NoneType, kit_bool_bool, kit_bool_int, kit_bool_str, kit_bool_tuple, kit_bool_list, kit_str_NoneType, kit_str_bool, kit_str_int, kit_str_str, kit_str_tuple, kit_str_list, non_int, non_non, non_tup, non_str, non_ref, non_bl, ws_nil, ws_asg, ws_exp, ws_retS, ws_ifs, ws_pass, ws_raise, wr_slot, wr_cst, wr_nil, wr_cons, wr_tup, wr_lst, wr_dsp, wr_bin, wr_neg, ex_int, wr_not, wr_cmp, wr_and, wr_or, wr_ite, wr_isN, wr_notN, wr_ix, wr_sl, wr_prim, wr_lrg, wr_meth, wr_isT, wr_callE, wr_c0, wr_c1, wr_ok, m_lrg, m_addI, m_subI, m_mulI, m_divI, m_modI, m_powI, m_addT, m_addS, m_ltI, m_leI, m_gtI, m_geI, m_eq, m_ne, m_in, m_nin, eq_int, m_ixT, m_ixC, m_ixD, at_0, at_1, at_2, at_3, m_lenT, m_lenC, m_intI, m_intB, m_abs, m_max, m_min, m_tupT, m_listT, m_slT, m_slC, t_bl, t_int, t_non, t_tup, a_nm, a_tp, setSlots, partM, methFor, List.getElem?_cons_zero, List.getElem?_cons_succ, List.set_cons_zero, List.set_cons_succ, Option.some.injEq, exists_eq_left', true_and, and_true, eq_str, decide_eq_true_eq, ↓reduceIte, if_true, if_false, decide_true, decide_false, Bool.false_eq_true, ok_both, ok_case, ok_either, ok_first, ok_give, ok_k, ok_kp, ok_l, ok_left, ok_let, ok_name, ok_never, ok_none, ok_odd, ok_one, ok_other, ok_p, ok_pair, ok_r, ok_right, ok_second, ok_split, ok_star, ok_w, ok_way, ok_within, ok_without, ok_wrong, ok_yes, ok_no, ok_n, ok_led, ok_lr, ok_pp, ok_ppp, List.length_cons, List.length_nil, Nat.zero_add, Int.reduceSub, Int.reduceAdd, Int.reduceNeg, Int.reduceMul, Bool.not_true, Bool.not_false]
          rw [m_app hd4]
          refine ⟨big (by rw [List.length_map]; omega), num / 2147483647, _, ds4 ++ [_], rfl, k4.set (.inr (Nat.le_refl _)), get_set_ne hc4 (by simp), by rw [get_set hd4, List.map_append]; rfl, by simp only [List.length_append, List.length_singleton]; omega⟩
        · simp (config := {decide := true}) only [hz, ws_cons, ty_non, ty_bl, ty_int, ty_str, ty_tup, kit_tuple_NoneType, kit_tuple_bool, kit_tuple_int, kit_tuple_str, kit_tuple_tuple, kit_tuple_list, kit_list_NoneType, kit_list_bool, kit_list_int, kit_list_str, kit_list_tuple, kit_list_list, kit_int_NoneType, kit_int_bool, kit_int_int, kit_int_str, kit_int_tuple, kit_int_list, kit_bool_NoneType, kit_bool_bool, kit_bool_int, kit_bool_str, kit_bool_tuple, kit_bool_list, kit_str_NoneType, kit_str_bool, kit_str_int, kit_str_str, kit_str_tuple, kit_str_list, non_int, non_non, non_tup, non_str, non_ref, non_bl, ws_nil, ws_asg, ws_exp, ws_retS, ws_ifs, ws_pass, ws_raise, wr_slot, wr_cst, wr_nil, wr_cons, wr_tup, wr_lst, wr_dsp, wr_bin, wr_neg, ex_int, wr_not, wr_cmp, wr_and, wr_or, wr_ite, wr_isN, wr_notN, wr_ix, wr_sl, wr_prim, wr_lrg, wr_meth, wr_isT, wr_callE, wr_c0, wr_c1, wr_ok, m_lrg, m_addI, m_subI, m_mulI, m_divI, m_modI, m_powI, m_addT, m_addS, m_ltI, m_leI, m_gtI, m_geI, m_eq, m_ne, m_in, m_nin, eq_int, m_ixT, m_ixC, m_ixD, at_0, at_1, at_2, at_3, m_lenT, m_lenC, m_intI, m_intB, m_abs, m_max, m_min, m_tupT, m_listT, m_slT, m_slC, t_bl, t_int, t_non, t_tup, a_nm, a_tp, setSlots, partM, methFor, List.getElem?_cons_zero, List.getElem?_cons_succ, List.set_cons_zero, List.set_cons_succ, Option.some.injEq, exists_eq_left', true_and, and_true, eq_str, decide_eq_true_eq, ↓reduceIte, if_true, if_false, decide_true, decide_false, Bool.false_eq_true, ok_both, ok_case, ok_either, ok_first, ok_give, ok_k, ok_kp, ok_l, ok_left, ok_let, ok_name, ok_never, ok_none, ok_odd, ok_one, ok_other, ok_p, ok_pair, ok_r, ok_right, ok_second, ok_split, ok_star, ok_w, ok_way, ok_within, ok_without, ok_wrong, ok_yes, ok_no, ok_n, ok_led, ok_lr, ok_pp, ok_ppp, List.length_cons, List.length_nil, Nat.zero_add, Int.reduceSub, Int.reduceAdd, Int.reduceNeg, Int.reduceMul, Bool.not_true, Bool.not_false]
          exact ⟨num, _, ds4, rfl, k4, hc4, hd4, by simp only [List.length_append, List.length_singleton]; omega⟩
end
end EK

namespace EK
open PySem PySem.Spec L2
open Lib
/-! ### plain equality -/
mutual
theorem beq_refl : ∀ x : PV, clean x = true → beqPV x x = true
  | .non, _ => rfl
  | .int i, _ => by simp [beqPV]
  | .str x, _ => by simp [beqPV]
  | .tup xs, h => by
    unfold beqPV
    exact beqs_refl xs (by simpa [clean] using h)
  | .bl _, h => by simp [clean] at h
  | .ref _, h => by simp [clean] at h
  | .dct _ _, h => by simp [clean] at h
  | .con _, h => by simp [clean] at h
  | .clo _ _, h => by simp [clean] at h
theorem beqs_refl : ∀ xs : List PV, cleans xs = true → beqPVs xs xs = true
  | [], _ => rfl
  | x :: xs, h => by
    simp only [cleans, Bool.and_eq_true] at h
    unfold beqPVs
    simp only [beq_refl x h.1, beqs_refl xs h.2, Bool.and_self]
end
mutual
theorem beq_eq : ∀ x y : PV, clean x = true → beqPV x y = true → x = y
  | .non, y, _, h => by cases y <;> first | rfl | (simp [beqPV] at h)
  | .int i, y, _, h => by cases y <;> first | (simp [beqPV] at h; done) | (simp [beqPV] at h; rw [h])
  | .str i, y, _, h => by cases y <;> first | (simp [beqPV] at h; done) | (simp [beqPV] at h; rw [h])
  | .tup xs, y, hc, h => by
    cases y with
    | tup ys =>
      unfold beqPV at h
      rw [beqs_eq xs ys (by simpa [clean] using hc) h]
    | _ => simp [beqPV] at h
  | .bl _, _, h, _ => by simp [clean] at h
  | .ref _, _, h, _ => by simp [clean] at h
  | .dct _ _, _, h, _ => by simp [clean] at h
  | .con _, _, h, _ => by simp [clean] at h
  | .clo _ _, _, h, _ => by simp [clean] at h
theorem beqs_eq : ∀ xs ys : List PV, cleans xs = true → beqPVs xs ys = true → xs = ys
  | [], ys, _, h => by cases ys <;> first | rfl | (simp [beqPVs] at h)
  | x :: xs, ys, hc, h => by
    simp only [cleans, Bool.and_eq_true] at hc
    cases ys with
    | nil => simp [beqPVs] at h
    | cons y ys =>
      simp only [beqPVs, Bool.and_eq_true] at h
      rw [beq_eq x y hc.1 h.1, beqs_eq xs ys hc.2 h.2]
end
theorem beq_iff {x y : PV} (h : clean x = true) : beqPV x y = true ↔ x = y := ⟨beq_eq x y h, fun e => e ▸ beq_refl x h⟩
theorem cleans_iff : ∀ {xs : List PV}, cleans xs = true ↔ ∀ x ∈ xs, clean x = true
  | [] => by simp [cleans]
  | x :: xs => by simp [cleans, cleans_iff (xs := xs)]
theorem depths_le {n : Nat} : ∀ {xs : List PV}, depths xs ≤ n ↔ ∀ x ∈ xs, depth x ≤ n
  | [] => by simp [depths]
  | x :: xs => by
    simp only [depths, List.mem_cons, forall_eq_or_imp, ← depths_le (xs := xs)]
    omega
theorem eq_same {S : Store} {x : PV} (h : clean x = true) (hd : depth x ≤ 150) : eqM S x x = some true := by
  rw [eq_clean h h hd, beq_refl x h]
theorem eq_dec {S : Store} {x y : PV} [Decidable (x = y)] (h : clean x = true) (h2 : clean y = true) (hd : depth x ≤ 150) : eqM S x y = some (decide (x = y)) := by
  rw [eq_clean h h2 hd]
  congr 1
  rw [Bool.eq_iff_iff]
  simp [beq_iff h]
theorem find_at {x : PV} (hx : clean x = true) : ∀ {xs : List PV} {i : Nat}, xs.Nodup → (∀ y ∈ xs, clean y = true) → xs[i]? = some x → (xs.findIdx? fun y => beqPV y x) = some i
  | [], _, _, _, h => by simp at h
  | y :: ys, 0, _, _, h => by
    have e : y = x := by simpa using h
    subst e
    simp [List.findIdx?_cons, beq_refl y hx]
  | y :: ys, i + 1, hn, hc, h => by
    have hn' := List.nodup_cons.mp hn
    have h' : ys[i]? = some x := by simpa using h
    have : beqPV y x = false := by
      cases q : beqPV y x with
      | false => rfl
      | true =>
        have := beq_eq y x (hc y List.mem_cons_self) q
        subst this
        exact absurd (List.mem_of_getElem? h') hn'.1
    simp [List.findIdx?_cons, this, find_at hx hn'.2 (fun z hz => hc z (List.mem_cons_of_mem _ hz)) h']
theorem idx_at {S : Store} {x : PV} {xs : List PV} {i : Nat} (hn : xs.Nodup) (hc : ∀ y ∈ xs, clean y = true) (hd : depth x ≤ 150) (h : xs[i]? = some x) : idxEq S x xs = some i := by
  have hx := hc x (List.mem_of_getElem? h)
  unfold idxEq
  rw [if_pos (by simp [hx, cleans_iff.mpr hc, hd])]
  exact find_at hx hn hc h
/-! ### things are apart -/
theorem nodup_map' {α β : Type} {f : α → β} : ∀ {l : List α}, l.Nodup → (∀ x ∈ l, ∀ y ∈ l, f x = f y → x = y) → (l.map f).Nodup
  | [], _, _ => by simp
  | x :: l, h, hi => by
    have h' := List.nodup_cons.mp h
    rw [List.map_cons, List.nodup_cons]
    refine ⟨fun hm => ?_, nodup_map' h'.2 fun a ha b hb => hi a (List.mem_cons_of_mem _ ha) b (List.mem_cons_of_mem _ hb)⟩
    obtain ⟨y, hy, e⟩ := List.mem_map.mp hm
    have := hi x List.mem_cons_self y (List.mem_cons_of_mem _ hy) e.symm
    subst this
    exact h'.1 hy
theorem nodup_prod {α β γ : Type} {f : α → β → γ} {bs : List β} (hb : bs.Nodup) : ∀ {as : List α}, as.Nodup → (∀ x ∈ as, ∀ x' ∈ as, ∀ y ∈ bs, ∀ y' ∈ bs, f x y = f x' y' → x = x' ∧ y = y') → (as.flatMap fun x => bs.map (f x)).Nodup
  | [], _, _ => by simp
  | x :: as, ha, hi => by
    have h' := List.nodup_cons.mp ha
    rw [List.flatMap_cons, List.nodup_append]
    refine ⟨nodup_map' hb fun y hy y' hy' e => (hi x List.mem_cons_self x List.mem_cons_self y hy y' hy' e).2, nodup_prod hb h'.2 fun a ha b hb => hi a (List.mem_cons_of_mem _ ha) b (List.mem_cons_of_mem _ hb), fun u hu v hv e => ?_⟩
    obtain ⟨y, hy, rfl⟩ := List.mem_map.mp hu
    obtain ⟨x', hx', hv⟩ := List.mem_flatMap.mp hv
    obtain ⟨y', hy', rfl⟩ := List.mem_map.mp hv
    have := (hi x List.mem_cons_self x' (List.mem_cons_of_mem _ hx') y hy y' hy' e).1
    subst this
    exact h'.1 hx'
theorem nodup_wys {bs : List PV} (hb : bs.Nodup) : ∀ n, (wys bs n).Nodup
  | 0 => by simp [wys]
  | n + 1 => nodup_prod hb (nodup_wys hb n) fun x hx x' hx' y hy y' hy' e => by
    obtain ⟨l, rfl, _⟩ := wys_tup bs n hx
    obtain ⟨l', rfl, _⟩ := wys_tup bs n hx'
    simp only [ap1, PV.tup.injEq] at e
    have := List.append_inj' e rfl
    exact ⟨by rw [this.1], by simpa using this.2⟩
theorem nodup_ths : ∀ k : Kd, (ths k).Nodup
  | .none => by simp [ths]
  | .one => by simp [ths]
  | .either a b => by
    rw [ths, List.nodup_append]
    refine ⟨nodup_map' (nodup_ths a) fun x _ y _ e => by simpa using e, nodup_map' (nodup_ths b) fun x _ y _ e => by simpa using e, fun u hu v hv e => ?_⟩
    obtain ⟨x, _, rfl⟩ := List.mem_map.mp hu
    obtain ⟨y, _, rfl⟩ := List.mem_map.mp hv
    simp only [PV.tup.injEq, List.cons.injEq, PV.str.injEq] at e
    exact absurd e.1 (by decide)
  | .both a b => nodup_prod (nodup_ths b) (nodup_ths a) fun x _ x' _ y _ y' _ e => by simpa using e
  | .way a b => by
    rw [ths]
    exact nodup_map' (nodup_wys (nodup_ths b) _) fun x _ y _ e => by simpa using e
theorem ok_ths : ∀ (k : Kd) {x : PV}, x ∈ ths k → clean x = true ∧ depth x ≤ 2 * k.dep + 1
  | .none, x, h => by simp [ths] at h
  | .one, x, h => by
    simp [ths] at h
    subst h
    exact ⟨rfl, by simp [depth, depths]⟩
  | .either a b, x, h => by
    rw [ths, List.mem_append] at h
    have e : (Kd.either a b).dep = max a.dep b.dep + 1 := rfl
    rcases h with h | h
    · obtain ⟨y, hy, rfl⟩ := List.mem_map.mp h
      obtain ⟨h1, h2⟩ := ok_ths a hy
      exact ⟨by simp [clean, cleans, h1, ok_l], by simp only [depth, depths]; omega⟩
    · obtain ⟨y, hy, rfl⟩ := List.mem_map.mp h
      obtain ⟨h1, h2⟩ := ok_ths b hy
      exact ⟨by simp [clean, cleans, h1, ok_r], by simp only [depth, depths]; omega⟩
  | .both a b, x, h => by
    have e : (Kd.both a b).dep = max a.dep b.dep + 1 := rfl
    rw [ths] at h
    obtain ⟨y, hy, h⟩ := List.mem_flatMap.mp h
    obtain ⟨z, hz, rfl⟩ := List.mem_map.mp h
    obtain ⟨h1, h2⟩ := ok_ths a hy
    obtain ⟨h3, h4⟩ := ok_ths b hz
    exact ⟨by simp [clean, cleans, h1, h3, ok_p], by simp only [depth, depths]; omega⟩
  | .way a b, x, h => by
    have e : (Kd.way a b).dep = max a.dep b.dep + 1 := rfl
    rw [ths] at h
    obtain ⟨y, hy, rfl⟩ := List.mem_map.mp h
    obtain ⟨l, rfl, _, hl⟩ := wys_tup _ _ hy
    have h1 : cleans l = true := cleans_iff.mpr fun z hz => (ok_ths b (hl z hz)).1
    have h2 : depths l ≤ 2 * b.dep + 1 := depths_le.mpr fun z hz => (ok_ths b (hl z hz)).2
    exact ⟨by simp [clean, cleans, h1, ok_w], by simp only [depth, depths]; omega⟩
theorem ok_K : ∀ k : Kd, clean (K k) = true ∧ depth (K k) ≤ k.dep + 1
  | .none => ⟨by simp [K, clean, cleans, ok_none], by simp [K, depth, depths]⟩
  | .one => ⟨by simp [K, clean, cleans, ok_one], by simp [K, depth, depths]⟩
  | .either a b => ⟨by simp [K, clean, cleans, ok_either, (ok_K a).1, (ok_K b).1], by have := (ok_K a).2; have := (ok_K b).2; simp only [K, depth, depths, Kd.dep]; omega⟩
  | .both a b => ⟨by simp [K, clean, cleans, ok_both, (ok_K a).1, (ok_K b).1], by have := (ok_K a).2; have := (ok_K b).2; simp only [K, depth, depths, Kd.dep]; omega⟩
  | .way a b => ⟨by simp [K, clean, cleans, ok_way, (ok_K a).1, (ok_K b).1], by have := (ok_K a).2; have := (ok_K b).2; simp only [K, depth, depths, Kd.dep]; omega⟩
theorem K_inj : ∀ a b : Kd, K a = K b → a = b
  | .none, b, h => by cases b <;> first | rfl | (simp [K] at h) <;> (first | exact absurd h (by decide) | exact absurd h.1 (by decide))
  | .one, b, h => by cases b <;> first | rfl | (simp [K] at h) <;> (first | exact absurd h (by decide) | exact absurd h.1 (by decide))
  | .either a1 a2, b, h => by
    cases b with
    | either b1 b2 =>
      simp [K] at h
      rw [K_inj a1 b1 h.1, K_inj a2 b2 h.2]
    | _ => simp [K] at h <;> exact absurd h.1 (by decide)
  | .both a1 a2, b, h => by
    cases b with
    | both b1 b2 =>
      simp [K] at h
      rw [K_inj a1 b1 h.1, K_inj a2 b2 h.2]
    | _ => simp [K] at h <;> exact absurd h.1 (by decide)
  | .way a1 a2, b, h => by
    cases b with
    | way b1 b2 =>
      simp [K] at h
      rw [K_inj a1 b1 h.1, K_inj a2 b2 h.2]
    | _ => simp [K] at h <;> exact absurd h.1 (by decide)
/-! ### what a way gives -/
section
variable {T : Text} {r : Nat} {S : Store}
theorem sp_gift {a b : Kd} {row : List PV} {x y : PV} {i : Nat} (hf : HasThs T) (hg : T.fns.lookup ("gift" : Str) = some f_gift) (ha : a.le 1000) (hr : a.dep + 2 ≤ r) (hd : a.dep ≤ 70) (hx : (ths a)[i]? = some x) (hy : row[i]? = some y) :
    Wr (callF T (r + 2) "gift" [.tup [.str "way", K a, K b], .tup [.str "w", .tup row], x] S) (fun v S' => v = y ∧ Kp [] S S') nE := by
  refine wr_call (r := r + 1) (ws := [.tup [.str "way", K a, K b], .tup [.str "w", .tup row], x]) hg rfl rfl ?_
  show Ws (execSs (conf T (r + 1)) f_gift.body [some (.tup [.str "way", K a, K b]), some (.tup [.str "w", .tup row]), some x] S) _ _ _
  simp (config := {decide := true}) only [f_gift, ws_cons, ty_non, ty_bl, ty_int, ty_str, ty_tup, kit_tuple_NoneType, kit_tuple_bool, kit_tuple_int, kit_tuple_str, kit_tuple_tuple, kit_tuple_list, kit_list_NoneType, kit_list_bool, kit_list_int, kit_list_str, kit_list_tuple, kit_list_list, kit_int_NoneType, kit_int_bool, kit_int_int, kit_int_str, kit_int_tuple, kit_int_list, kit_bool_NoneType, kit_bool_bool, kit_bool_int, kit_bool_str, kit_bool_tuple, kit_bool_list, kit_str_NoneType, kit_str_bool, kit_str_int, kit_str_str, kit_str_tuple, kit_str_list, non_int, non_non, non_tup, non_str, non_ref, non_bl, ws_nil, ws_asg, ws_exp, ws_retS, ws_ifs, ws_pass, ws_raise, wr_slot, wr_cst, wr_nil, wr_cons, wr_tup, wr_lst, wr_dsp, wr_bin, wr_neg, ex_int, wr_not, wr_cmp, wr_and, wr_or, wr_ite, wr_isN, wr_notN, wr_ix, wr_sl, wr_prim, wr_lrg, wr_meth, wr_isT, wr_callE, wr_c0, wr_c1, wr_ok, m_lrg, m_addI, m_subI, m_mulI, m_divI, m_modI, m_powI, m_addT, m_addS, m_ltI, m_leI, m_gtI, m_geI, m_eq, m_ne, m_in, m_nin, eq_int, m_ixT, m_ixC, m_ixD, at_0, at_1, at_2, at_3, m_lenT, m_lenC, m_intI, m_intB, m_abs, m_max, m_min, m_tupT, m_listT, m_slT, m_slC, t_bl, t_int, t_non, t_tup, a_nm, a_tp, setSlots, partM, methFor, List.getElem?_cons_zero, List.getElem?_cons_succ, List.set_cons_zero, List.set_cons_succ, Option.some.injEq, exists_eq_left', true_and, and_true, eq_str, decide_eq_true_eq, ↓reduceIte, if_true, if_false, decide_true, decide_false, Bool.false_eq_true, ok_both, ok_case, ok_either, ok_first, ok_give, ok_k, ok_kp, ok_l, ok_left, ok_let, ok_name, ok_never, ok_none, ok_odd, ok_one, ok_other, ok_p, ok_pair, ok_r, ok_right, ok_second, ok_split, ok_star, ok_w, ok_way, ok_within, ok_without, ok_wrong, ok_yes, ok_no, ok_n, ok_led, ok_lr, ok_pp, ok_ppp, List.length_cons, List.length_nil, Nat.zero_add, Int.reduceSub, Int.reduceAdd, Int.reduceNeg, Int.reduceMul, Bool.not_true, Bool.not_false]
  refine (sp_things hf a r S ha hr).imp ?_ fun _ _ _ z => z.elim
  rintro v S1 ⟨n1, rfl, l1, k1, d1⟩
  simp (config := {decide := true}) only [ws_cons, ty_non, ty_bl, ty_int, ty_str, ty_tup, kit_tuple_NoneType, kit_tuple_bool, kit_tuple_int, kit_tuple_str, kit_tuple_tuple, kit_tuple_list, kit_list_NoneType, kit_list_bool, kit_list_int, kit_list_str, kit_list_tuple, kit_list_list, kit_int_NoneType, kit_int_bool, kit_int_int, kit_int_str, kit_int_tuple, kit_int_list, kit_bool_NoneType, kit_bool_bool, kit_bool_int, kit_bool_str, kit_bool_tuple, kit_bool_list, kit_str_NoneType, kit_str_bool, kit_str_int, kit_str_str, kit_str_tuple, kit_str_list, non_int, non_non, non_tup, non_str, non_ref, non_bl, ws_nil, ws_asg, ws_exp, ws_retS, ws_ifs, ws_pass, ws_raise, wr_slot, wr_cst, wr_nil, wr_cons, wr_tup, wr_lst, wr_dsp, wr_bin, wr_neg, ex_int, wr_not, wr_cmp, wr_and, wr_or, wr_ite, wr_isN, wr_notN, wr_ix, wr_sl, wr_prim, wr_lrg, wr_meth, wr_isT, wr_callE, wr_c0, wr_c1, wr_ok, m_lrg, m_addI, m_subI, m_mulI, m_divI, m_modI, m_powI, m_addT, m_addS, m_ltI, m_leI, m_gtI, m_geI, m_eq, m_ne, m_in, m_nin, eq_int, m_ixT, m_ixC, m_ixD, at_0, at_1, at_2, at_3, m_lenT, m_lenC, m_intI, m_intB, m_abs, m_max, m_min, m_tupT, m_listT, m_slT, m_slC, t_bl, t_int, t_non, t_tup, a_nm, a_tp, setSlots, partM, methFor, List.getElem?_cons_zero, List.getElem?_cons_succ, List.set_cons_zero, List.set_cons_succ, Option.some.injEq, exists_eq_left', true_and, and_true, eq_str, decide_eq_true_eq, ↓reduceIte, if_true, if_false, decide_true, decide_false, Bool.false_eq_true, ok_both, ok_case, ok_either, ok_first, ok_give, ok_k, ok_kp, ok_l, ok_left, ok_let, ok_name, ok_never, ok_none, ok_odd, ok_one, ok_other, ok_p, ok_pair, ok_r, ok_right, ok_second, ok_split, ok_star, ok_w, ok_way, ok_within, ok_without, ok_wrong, ok_yes, ok_no, ok_n, ok_led, ok_lr, ok_pp, ok_ppp, List.length_cons, List.length_nil, Nat.zero_add, Int.reduceSub, Int.reduceAdd, Int.reduceNeg, Int.reduceMul, Bool.not_true, Bool.not_false]
  rw [m_ixOfL d1]
  have hox := ok_ths a (List.mem_of_getElem? hx)
  refine ⟨i, idx_at (nodup_ths a) (fun y hy => (ok_ths a hy).1) (by omega) hx, ?_⟩
  simp (config := {decide := true}) only [ws_cons, ty_non, ty_bl, ty_int, ty_str, ty_tup, kit_tuple_NoneType, kit_tuple_bool, kit_tuple_int, kit_tuple_str, kit_tuple_tuple, kit_tuple_list, kit_list_NoneType, kit_list_bool, kit_list_int, kit_list_str, kit_list_tuple, kit_list_list, kit_int_NoneType, kit_int_bool, kit_int_int, kit_int_str, kit_int_tuple, kit_int_list, kit_bool_NoneType, kit_bool_bool, kit_bool_int, kit_bool_str, kit_bool_tuple, kit_bool_list, kit_str_NoneType, kit_str_bool, kit_str_int, kit_str_str, kit_str_tuple, kit_str_list, non_int, non_non, non_tup, non_str, non_ref, non_bl, ws_nil, ws_asg, ws_exp, ws_retS, ws_ifs, ws_pass, ws_raise, wr_slot, wr_cst, wr_nil, wr_cons, wr_tup, wr_lst, wr_dsp, wr_bin, wr_neg, ex_int, wr_not, wr_cmp, wr_and, wr_or, wr_ite, wr_isN, wr_notN, wr_ix, wr_sl, wr_prim, wr_lrg, wr_meth, wr_isT, wr_callE, wr_c0, wr_c1, wr_ok, m_lrg, m_addI, m_subI, m_mulI, m_divI, m_modI, m_powI, m_addT, m_addS, m_ltI, m_leI, m_gtI, m_geI, m_eq, m_ne, m_in, m_nin, eq_int, m_ixT, m_ixC, m_ixD, at_0, at_1, at_2, at_3, m_lenT, m_lenC, m_intI, m_intB, m_abs, m_max, m_min, m_tupT, m_listT, m_slT, m_slC, t_bl, t_int, t_non, t_tup, a_nm, a_tp, setSlots, partM, methFor, List.getElem?_cons_zero, List.getElem?_cons_succ, List.set_cons_zero, List.set_cons_succ, Option.some.injEq, exists_eq_left', true_and, and_true, eq_str, decide_eq_true_eq, ↓reduceIte, if_true, if_false, decide_true, decide_false, Bool.false_eq_true, ok_both, ok_case, ok_either, ok_first, ok_give, ok_k, ok_kp, ok_l, ok_left, ok_let, ok_name, ok_never, ok_none, ok_odd, ok_one, ok_other, ok_p, ok_pair, ok_r, ok_right, ok_second, ok_split, ok_star, ok_w, ok_way, ok_within, ok_without, ok_wrong, ok_yes, ok_no, ok_n, ok_led, ok_lr, ok_pp, ok_ppp, List.length_cons, List.length_nil, Nat.zero_add, Int.reduceSub, Int.reduceAdd, Int.reduceNeg, Int.reduceMul, Bool.not_true, Bool.not_false]
  exact ⟨y, at_nat hy, rfl, k1⟩
end
end EK

namespace EK
open PySem PySem.Spec L2
namespace Lib
def f_count : FnI := ⟨["kind"], ["kind", "one", "other", "many", "turn"], [],
  (.cons (.ifs (.cmp .eq (.ix (.slot 0) (.cst (.int 0))) (.cst (.str "none"))) (.cons (.ret (.cst (.int 0))) .nil) .nil) (.cons (.ifs (.cmp .eq (.ix (.slot 0) (.cst (.int 0))) (.cst (.str "one"))) (.cons (.ret (.cst (.int 1))) .nil) .nil) (.cons (.asg (.nm 1) (.call "count" (.cons (.ix (.slot 0) (.cst (.int 1))) .nil))) (.cons (.asg (.nm 2) (.call "count" (.cons (.ix (.slot 0) (.cst (.int 2))) .nil))) (.cons (.ifs (.cmp .eq (.ix (.slot 0) (.cst (.int 0))) (.cst (.str "either"))) (.cons (.ret (.bin .add (.slot 1) (.slot 2))) .nil) .nil) (.cons (.ifs (.cmp .eq (.ix (.slot 0) (.cst (.int 0))) (.cst (.str "both"))) (.cons (.ret (.bin .mul (.slot 1) (.slot 2))) .nil) .nil) (.cons (.asg (.nm 3) (.cst (.int 1))) (.cons (.for (.nm 4) .range (.cons (.slot 1) .nil) (.cons (.asg (.nm 3) (.bin .mul (.slot 3) (.slot 2))) .nil)) (.cons (.ret (.slot 3)) .nil)))))))))⟩
end Lib
open Lib
/-- its count can be reckoned -/
def Kd.fit : Kd → Prop
  | .none => True
  | .one => True
  | .either a b => a.fit ∧ b.fit
  | .both a b => a.fit ∧ b.fit ∧ mulOk (a.cnt : Nat) (b.cnt : Nat) = true
  | .way a b => a.fit ∧ b.fit ∧ a.cnt ≤ 1000 ∧ b.cnt < 2 ^ 62
theorem Kd.le.fit {m : Nat} (hm : m ≤ 1000) : ∀ {k : Kd}, k.le m → k.fit
  | .none, _ => trivial
  | .one, _ => trivial
  | .either a b, h => ⟨h.2.1.fit hm, h.2.2.fit hm⟩
  | .both a b, h => ⟨h.2.1.fit hm, h.2.2.fit hm, mulOk_l (by have := h.2.1.cnt; omega)⟩
  | .way a b, h => ⟨h.2.1.fit hm, h.2.2.fit hm, by have := h.2.1.cnt; omega, by have := h.2.2.cnt; omega⟩
section
variable {T : Text} {r : Nat} {S : Store}
theorem sp_cnt (hf : T.fns.lookup ("count" : Str) = some f_count) : ∀ (k : Kd) (r : Nat) (S : Store), k.fit → k.dep ≤ r → Wr (callF T (r + 1) "count" [K k] S) (fun v S' => v = .int (k.cnt : Nat) ∧ S' = S) nE
  | .none, r, S, _, _ => by
    refine wr_call (ws := [K .none]) hf rfl rfl ?_
    show Ws (execSs (conf T r) f_count.body [some (K .none), none, none, none, none] S) _ _ _
    simp (config := {decide := true}) only [f_count, K, ws_cons, ty_non, ty_bl, ty_int, ty_str, ty_tup, kit_tuple_NoneType, kit_tuple_bool, kit_tuple_int, kit_tuple_str, kit_tuple_tuple, kit_tuple_list, kit_list_NoneType, kit_list_bool, kit_list_int, kit_list_str, kit_list_tuple, kit_list_list, kit_int_NoneType, kit_int_bool, kit_int_int, kit_int_str, kit_int_tuple, kit_int_list, kit_bool_NoneType, kit_bool_bool, kit_bool_int, kit_bool_str, kit_bool_tuple, kit_bool_list, kit_str_NoneType, kit_str_bool, kit_str_int, kit_str_str, kit_str_tuple, kit_str_list, non_int, non_non, non_tup, non_str, non_ref, non_bl, ws_nil, ws_asg, ws_exp, ws_retS, ws_ifs, ws_pass, ws_raise, wr_slot, wr_cst, wr_nil, wr_cons, wr_tup, wr_lst, wr_dsp, wr_bin, wr_neg, ex_int, wr_not, wr_cmp, wr_and, wr_or, wr_ite, wr_isN, wr_notN, wr_ix, wr_sl, wr_prim, wr_lrg, wr_meth, wr_isT, wr_callE, wr_c0, wr_c1, wr_ok, m_lrg, m_addI, m_subI, m_mulI, m_divI, m_modI, m_powI, m_addT, m_addS, m_ltI, m_leI, m_gtI, m_geI, m_eq, m_ne, m_in, m_nin, eq_int, m_ixT, m_ixC, m_ixD, at_0, at_1, at_2, at_3, m_lenT, m_lenC, m_intI, m_intB, m_abs, m_max, m_min, m_tupT, m_listT, m_slT, m_slC, t_bl, t_int, t_non, t_tup, a_nm, a_tp, setSlots, partM, methFor, List.getElem?_cons_zero, List.getElem?_cons_succ, List.set_cons_zero, List.set_cons_succ, Option.some.injEq, exists_eq_left', true_and, and_true, eq_str, decide_eq_true_eq, ↓reduceIte, if_true, if_false, decide_true, decide_false, Bool.false_eq_true, ok_both, ok_case, ok_either, ok_first, ok_give, ok_k, ok_kp, ok_l, ok_left, ok_let, ok_name, ok_never, ok_none, ok_odd, ok_one, ok_other, ok_p, ok_pair, ok_r, ok_right, ok_second, ok_split, ok_star, ok_w, ok_way, ok_within, ok_without, ok_wrong, ok_yes, ok_no, ok_n, ok_led, ok_lr, ok_pp, ok_ppp, List.length_cons, List.length_nil, Nat.zero_add, Int.reduceSub, Int.reduceAdd, Int.reduceNeg, Int.reduceMul, Bool.not_true, Bool.not_false]
    rfl
  | .one, r, S, _, _ => by
    refine wr_call (ws := [K .one]) hf rfl rfl ?_
    show Ws (execSs (conf T r) f_count.body [some (K .one), none, none, none, none] S) _ _ _
    simp (config := {decide := true}) only [f_count, K, ws_cons, ty_non, ty_bl, ty_int, ty_str, ty_tup, kit_tuple_NoneType, kit_tuple_bool, kit_tuple_int, kit_tuple_str, kit_tuple_tuple, kit_tuple_list, kit_list_NoneType, kit_list_bool, kit_list_int, kit_list_str, kit_list_tuple, kit_list_list, kit_int_NoneType, kit_int_bool, kit_int_int, kit_int_str, kit_int_tuple, kit_int_list, kit_bool_NoneType, kit_bool_bool, kit_bool_int, kit_bool_str, kit_bool_tuple, kit_bool_list, kit_str_NoneType, kit_str_bool, kit_str_int, kit_str_str, kit_str_tuple, kit_str_list, non_int, non_non, non_tup, non_str, non_ref, non_bl, ws_nil, ws_asg, ws_exp, ws_retS, ws_ifs, ws_pass, ws_raise, wr_slot, wr_cst, wr_nil, wr_cons, wr_tup, wr_lst, wr_dsp, wr_bin, wr_neg, ex_int, wr_not, wr_cmp, wr_and, wr_or, wr_ite, wr_isN, wr_notN, wr_ix, wr_sl, wr_prim, wr_lrg, wr_meth, wr_isT, wr_callE, wr_c0, wr_c1, wr_ok, m_lrg, m_addI, m_subI, m_mulI, m_divI, m_modI, m_powI, m_addT, m_addS, m_ltI, m_leI, m_gtI, m_geI, m_eq, m_ne, m_in, m_nin, eq_int, m_ixT, m_ixC, m_ixD, at_0, at_1, at_2, at_3, m_lenT, m_lenC, m_intI, m_intB, m_abs, m_max, m_min, m_tupT, m_listT, m_slT, m_slC, t_bl, t_int, t_non, t_tup, a_nm, a_tp, setSlots, partM, methFor, List.getElem?_cons_zero, List.getElem?_cons_succ, List.set_cons_zero, List.set_cons_succ, Option.some.injEq, exists_eq_left', true_and, and_true, eq_str, decide_eq_true_eq, ↓reduceIte, if_true, if_false, decide_true, decide_false, Bool.false_eq_true, ok_both, ok_case, ok_either, ok_first, ok_give, ok_k, ok_kp, ok_l, ok_left, ok_let, ok_name, ok_never, ok_none, ok_odd, ok_one, ok_other, ok_p, ok_pair, ok_r, ok_right, ok_second, ok_split, ok_star, ok_w, ok_way, ok_within, ok_without, ok_wrong, ok_yes, ok_no, ok_n, ok_led, ok_lr, ok_pp, ok_ppp, List.length_cons, List.length_nil, Nat.zero_add, Int.reduceSub, Int.reduceAdd, Int.reduceNeg, Int.reduceMul, Bool.not_true, Bool.not_false]
    rfl
  | .either a b, r + 1, S, hk, hr => by
    have hr : max a.dep b.dep + 1 ≤ r + 1 := hr
    refine wr_call (ws := [K (.either a b)]) hf rfl rfl ?_
    show Ws (execSs (conf T (r + 1)) f_count.body [some (K (.either a b)), none, none, none, none] S) _ _ _
    simp (config := {decide := true}) only [f_count, K, ws_cons, ty_non, ty_bl, ty_int, ty_str, ty_tup, kit_tuple_NoneType, kit_tuple_bool, kit_tuple_int, kit_tuple_str, kit_tuple_tuple, kit_tuple_list, kit_list_NoneType, kit_list_bool, kit_list_int, kit_list_str, kit_list_tuple, kit_list_list, kit_int_NoneType, kit_int_bool, kit_int_int, kit_int_str, kit_int_tuple, kit_int_list, kit_bool_NoneType, kit_bool_bool, kit_bool_int, kit_bool_str, kit_bool_tuple, kit_bool_list, kit_str_NoneType, kit_str_bool, kit_str_int, kit_str_str, kit_str_tuple, kit_str_list, non_int, non_non, non_tup, non_str, non_ref, non_bl, ws_nil, ws_asg, ws_exp, ws_retS, ws_ifs, ws_pass, ws_raise, wr_slot, wr_cst, wr_nil, wr_cons, wr_tup, wr_lst, wr_dsp, wr_bin, wr_neg, ex_int, wr_not, wr_cmp, wr_and, wr_or, wr_ite, wr_isN, wr_notN, wr_ix, wr_sl, wr_prim, wr_lrg, wr_meth, wr_isT, wr_callE, wr_c0, wr_c1, wr_ok, m_lrg, m_addI, m_subI, m_mulI, m_divI, m_modI, m_powI, m_addT, m_addS, m_ltI, m_leI, m_gtI, m_geI, m_eq, m_ne, m_in, m_nin, eq_int, m_ixT, m_ixC, m_ixD, at_0, at_1, at_2, at_3, m_lenT, m_lenC, m_intI, m_intB, m_abs, m_max, m_min, m_tupT, m_listT, m_slT, m_slC, t_bl, t_int, t_non, t_tup, a_nm, a_tp, setSlots, partM, methFor, List.getElem?_cons_zero, List.getElem?_cons_succ, List.set_cons_zero, List.set_cons_succ, Option.some.injEq, exists_eq_left', true_and, and_true, eq_str, decide_eq_true_eq, ↓reduceIte, if_true, if_false, decide_true, decide_false, Bool.false_eq_true, ok_both, ok_case, ok_either, ok_first, ok_give, ok_k, ok_kp, ok_l, ok_left, ok_let, ok_name, ok_never, ok_none, ok_odd, ok_one, ok_other, ok_p, ok_pair, ok_r, ok_right, ok_second, ok_split, ok_star, ok_w, ok_way, ok_within, ok_without, ok_wrong, ok_yes, ok_no, ok_n, ok_led, ok_lr, ok_pp, ok_ppp, List.length_cons, List.length_nil, Nat.zero_add, Int.reduceSub, Int.reduceAdd, Int.reduceNeg, Int.reduceMul, Bool.not_true, Bool.not_false]
    refine (sp_cnt hf a r S hk.1 (by omega)).imp ?_ fun _ _ _ z => z.elim
    rintro v S1 ⟨rfl, rfl⟩
    refine (sp_cnt hf b r S1 hk.2 (by omega)).imp ?_ fun _ _ _ z => z.elim
    rintro v S2 ⟨rfl, rfl⟩
    simp (config := {decide := true}) only [ws_cons, ty_non, ty_bl, ty_int, ty_str, ty_tup, kit_tuple_NoneType, kit_tuple_bool, kit_tuple_int, kit_tuple_str, kit_tuple_tuple, kit_tuple_list, kit_list_NoneType, kit_list_bool, kit_list_int, kit_list_str, kit_list_tuple, kit_list_list, kit_int_NoneType, kit_int_bool, kit_int_int, kit_int_str, kit_int_tuple, kit_int_list, kit_bool_NoneType, kit_bool_bool, kit_bool_int, kit_bool_str, kit_bool_tuple, kit_bool_list, kit_str_NoneType, kit_str_bool, kit_str_int, kit_str_str, kit_str_tuple, kit_str_list, non_int, non_non, non_tup, non_str, non_ref, non_bl, ws_nil, ws_asg, ws_exp, ws_retS, ws_ifs, ws_pass, ws_raise, wr_slot, wr_cst, wr_nil, wr_cons, wr_tup, wr_lst, wr_dsp, wr_bin, wr_neg, ex_int, wr_not, wr_cmp, wr_and, wr_or, wr_ite, wr_isN, wr_notN, wr_ix, wr_sl, wr_prim, wr_lrg, wr_meth, wr_isT, wr_callE, wr_c0, wr_c1, wr_ok, m_lrg, m_addI, m_subI, m_mulI, m_divI, m_modI, m_powI, m_addT, m_addS, m_ltI, m_leI, m_gtI, m_geI, m_eq, m_ne, m_in, m_nin, eq_int, m_ixT, m_ixC, m_ixD, at_0, at_1, at_2, at_3, m_lenT, m_lenC, m_intI, m_intB, m_abs, m_max, m_min, m_tupT, m_listT, m_slT, m_slC, t_bl, t_int, t_non, t_tup, a_nm, a_tp, setSlots, partM, methFor, List.getElem?_cons_zero, List.getElem?_cons_succ, List.set_cons_zero, List.set_cons_succ, Option.some.injEq, exists_eq_left', true_and, and_true, eq_str, decide_eq_true_eq, ↓reduceIte, if_true, if_false, decide_true, decide_false, Bool.false_eq_true, ok_both, ok_case, ok_either, ok_first, ok_give, ok_k, ok_kp, ok_l, ok_left, ok_let, ok_name, ok_never, ok_none, ok_odd, ok_one, ok_other, ok_p, ok_pair, ok_r, ok_right, ok_second, ok_split, ok_star, ok_w, ok_way, ok_within, ok_without, ok_wrong, ok_yes, ok_no, ok_n, ok_led, ok_lr, ok_pp, ok_ppp, List.length_cons, List.length_nil, Nat.zero_add, Int.reduceSub, Int.reduceAdd, Int.reduceNeg, Int.reduceMul, Bool.not_true, Bool.not_false]
    rfl
  | .both a b, r + 1, S, hk, hr => by
    have hr : max a.dep b.dep + 1 ≤ r + 1 := hr
    refine wr_call (ws := [K (.both a b)]) hf rfl rfl ?_
    show Ws (execSs (conf T (r + 1)) f_count.body [some (K (.both a b)), none, none, none, none] S) _ _ _
    simp (config := {decide := true}) only [f_count, K, ws_cons, ty_non, ty_bl, ty_int, ty_str, ty_tup, kit_tuple_NoneType, kit_tuple_bool, kit_tuple_int, kit_tuple_str, kit_tuple_tuple, kit_tuple_list, kit_list_NoneType, kit_list_bool, kit_list_int, kit_list_str, kit_list_tuple, kit_list_list, kit_int_NoneType, kit_int_bool, kit_int_int, kit_int_str, kit_int_tuple, kit_int_list, kit_bool_NoneType, kit_bool_bool, kit_bool_int, kit_bool_str, kit_bool_tuple, kit_bool_list, kit_str_NoneType, kit_str_bool, kit_str_int, kit_str_str, kit_str_tuple, kit_str_list, non_int, non_non, non_tup, non_str, non_ref, non_bl, ws_nil, ws_asg, ws_exp, ws_retS, ws_ifs, ws_pass, ws_raise, wr_slot, wr_cst, wr_nil, wr_cons, wr_tup, wr_lst, wr_dsp, wr_bin, wr_neg, ex_int, wr_not, wr_cmp, wr_and, wr_or, wr_ite, wr_isN, wr_notN, wr_ix, wr_sl, wr_prim, wr_lrg, wr_meth, wr_isT, wr_callE, wr_c0, wr_c1, wr_ok, m_lrg, m_addI, m_subI, m_mulI, m_divI, m_modI, m_powI, m_addT, m_addS, m_ltI, m_leI, m_gtI, m_geI, m_eq, m_ne, m_in, m_nin, eq_int, m_ixT, m_ixC, m_ixD, at_0, at_1, at_2, at_3, m_lenT, m_lenC, m_intI, m_intB, m_abs, m_max, m_min, m_tupT, m_listT, m_slT, m_slC, t_bl, t_int, t_non, t_tup, a_nm, a_tp, setSlots, partM, methFor, List.getElem?_cons_zero, List.getElem?_cons_succ, List.set_cons_zero, List.set_cons_succ, Option.some.injEq, exists_eq_left', true_and, and_true, eq_str, decide_eq_true_eq, ↓reduceIte, if_true, if_false, decide_true, decide_false, Bool.false_eq_true, ok_both, ok_case, ok_either, ok_first, ok_give, ok_k, ok_kp, ok_l, ok_left, ok_let, ok_name, ok_never, ok_none, ok_odd, ok_one, ok_other, ok_p, ok_pair, ok_r, ok_right, ok_second, ok_split, ok_star, ok_w, ok_way, ok_within, ok_without, ok_wrong, ok_yes, ok_no, ok_n, ok_led, ok_lr, ok_pp, ok_ppp, List.length_cons, List.length_nil, Nat.zero_add, Int.reduceSub, Int.reduceAdd, Int.reduceNeg, Int.reduceMul, Bool.not_true, Bool.not_false]
    refine (sp_cnt hf a r S hk.1 (by omega)).imp ?_ fun _ _ _ z => z.elim
    rintro v S1 ⟨rfl, rfl⟩
    refine (sp_cnt hf b r S1 hk.2.1 (by omega)).imp ?_ fun _ _ _ z => z.elim
    rintro v S2 ⟨rfl, rfl⟩
    simp (config := {decide := true}) only [ws_cons, ty_non, ty_bl, ty_int, ty_str, ty_tup, kit_tuple_NoneType, kit_tuple_bool, kit_tuple_int, kit_tuple_str, kit_tuple_tuple, kit_tuple_list, kit_list_NoneType, kit_list_bool, kit_list_int, kit_list_str, kit_list_tuple, kit_list_list, kit_int_NoneType, kit_int_bool, kit_int_int, kit_int_str, kit_int_tuple, kit_int_list, kit_bool_NoneType, kit_bool_bool, kit_bool_int, kit_bool_str, kit_bool_tuple, kit_bool_list, kit_str_NoneType, kit_str_bool, kit_str_int, kit_str_str, kit_str_tuple, kit_str_list, non_int, non_non, non_tup, non_str, non_ref, non_bl, ws_nil, ws_asg, ws_exp, ws_retS, ws_ifs, ws_pass, ws_raise, wr_slot, wr_cst, wr_nil, wr_cons, wr_tup, wr_lst, wr_dsp, wr_bin, wr_neg, ex_int, wr_not, wr_cmp, wr_and, wr_or, wr_ite, wr_isN, wr_notN, wr_ix, wr_sl, wr_prim, wr_lrg, wr_meth, wr_isT, wr_callE, wr_c0, wr_c1, wr_ok, m_lrg, m_addI, m_subI, m_mulI, m_divI, m_modI, m_powI, m_addT, m_addS, m_ltI, m_leI, m_gtI, m_geI, m_eq, m_ne, m_in, m_nin, eq_int, m_ixT, m_ixC, m_ixD, at_0, at_1, at_2, at_3, m_lenT, m_lenC, m_intI, m_intB, m_abs, m_max, m_min, m_tupT, m_listT, m_slT, m_slC, t_bl, t_int, t_non, t_tup, a_nm, a_tp, setSlots, partM, methFor, List.getElem?_cons_zero, List.getElem?_cons_succ, List.set_cons_zero, List.set_cons_succ, Option.some.injEq, exists_eq_left', true_and, and_true, eq_str, decide_eq_true_eq, ↓reduceIte, if_true, if_false, decide_true, decide_false, Bool.false_eq_true, ok_both, ok_case, ok_either, ok_first, ok_give, ok_k, ok_kp, ok_l, ok_left, ok_let, ok_name, ok_never, ok_none, ok_odd, ok_one, ok_other, ok_p, ok_pair, ok_r, ok_right, ok_second, ok_split, ok_star, ok_w, ok_way, ok_within, ok_without, ok_wrong, ok_yes, ok_no, ok_n, ok_led, ok_lr, ok_pp, ok_ppp, List.length_cons, List.length_nil, Nat.zero_add, Int.reduceSub, Int.reduceAdd, Int.reduceNeg, Int.reduceMul, Bool.not_true, Bool.not_false]
    exact ⟨hk.2.2, by rw [Kd.cnt, Int.natCast_mul]⟩
  | .way a b, r + 1, S, hk, hr => by
    have hr : max a.dep b.dep + 1 ≤ r + 1 := hr
    have h1 := hk.1
    have h2 := hk.2.1
    have h3 : a.cnt ≤ 1000 := hk.2.2.1
    have h4 : b.cnt < 2 ^ 62 := hk.2.2.2
    refine wr_call (ws := [K (.way a b)]) hf rfl rfl ?_
    show Ws (execSs (conf T (r + 1)) f_count.body [some (K (.way a b)), none, none, none, none] S) _ _ _
    simp (config := {decide := true}) only [f_count, K, ws_cons, ty_non, ty_bl, ty_int, ty_str, ty_tup, kit_tuple_NoneType, kit_tuple_bool, kit_tuple_int, kit_tuple_str, kit_tuple_tuple, kit_tuple_list, kit_list_NoneType, kit_list_bool, kit_list_int, kit_list_str, kit_list_tuple, kit_list_list, kit_int_NoneType, kit_int_bool, kit_int_int, kit_int_str, kit_int_tuple, kit_int_list, kit_bool_NoneType, kit_bool_bool, kit_bool_int, kit_bool_str, kit_bool_tuple, kit_bool_list, kit_str_NoneType, kit_str_bool, kit_str_int, kit_str_str, kit_str_tuple, kit_str_list, non_int, non_non, non_tup, non_str, non_ref, non_bl, ws_nil, ws_asg, ws_exp, ws_retS, ws_ifs, ws_pass, ws_raise, wr_slot, wr_cst, wr_nil, wr_cons, wr_tup, wr_lst, wr_dsp, wr_bin, wr_neg, ex_int, wr_not, wr_cmp, wr_and, wr_or, wr_ite, wr_isN, wr_notN, wr_ix, wr_sl, wr_prim, wr_lrg, wr_meth, wr_isT, wr_callE, wr_c0, wr_c1, wr_ok, m_lrg, m_addI, m_subI, m_mulI, m_divI, m_modI, m_powI, m_addT, m_addS, m_ltI, m_leI, m_gtI, m_geI, m_eq, m_ne, m_in, m_nin, eq_int, m_ixT, m_ixC, m_ixD, at_0, at_1, at_2, at_3, m_lenT, m_lenC, m_intI, m_intB, m_abs, m_max, m_min, m_tupT, m_listT, m_slT, m_slC, t_bl, t_int, t_non, t_tup, a_nm, a_tp, setSlots, partM, methFor, List.getElem?_cons_zero, List.getElem?_cons_succ, List.set_cons_zero, List.set_cons_succ, Option.some.injEq, exists_eq_left', true_and, and_true, eq_str, decide_eq_true_eq, ↓reduceIte, if_true, if_false, decide_true, decide_false, Bool.false_eq_true, ok_both, ok_case, ok_either, ok_first, ok_give, ok_k, ok_kp, ok_l, ok_left, ok_let, ok_name, ok_never, ok_none, ok_odd, ok_one, ok_other, ok_p, ok_pair, ok_r, ok_right, ok_second, ok_split, ok_star, ok_w, ok_way, ok_within, ok_without, ok_wrong, ok_yes, ok_no, ok_n, ok_led, ok_lr, ok_pp, ok_ppp, List.length_cons, List.length_nil, Nat.zero_add, Int.reduceSub, Int.reduceAdd, Int.reduceNeg, Int.reduceMul, Bool.not_true, Bool.not_false]
    refine (sp_cnt hf a r S h1 (by omega)).imp ?_ fun _ _ _ z => z.elim
    rintro v S1 ⟨rfl, rfl⟩
    refine (sp_cnt hf b r S1 h2 (by omega)).imp ?_ fun _ _ _ z => z.elim
    rintro v S2 ⟨rfl, rfl⟩
    with_unfolding_none refine ws_forI ?_
    simp (config := {decide := true}) only [ws_cons, ty_non, ty_bl, ty_int, ty_str, ty_tup, kit_tuple_NoneType, kit_tuple_bool, kit_tuple_int, kit_tuple_str, kit_tuple_tuple, kit_tuple_list, kit_list_NoneType, kit_list_bool, kit_list_int, kit_list_str, kit_list_tuple, kit_list_list, kit_int_NoneType, kit_int_bool, kit_int_int, kit_int_str, kit_int_tuple, kit_int_list, kit_bool_NoneType, kit_bool_bool, kit_bool_int, kit_bool_str, kit_bool_tuple, kit_bool_list, kit_str_NoneType, kit_str_bool, kit_str_int, kit_str_str, kit_str_tuple, kit_str_list, non_int, non_non, non_tup, non_str, non_ref, non_bl, ws_nil, ws_asg, ws_exp, ws_retS, ws_ifs, ws_pass, ws_raise, wr_slot, wr_cst, wr_nil, wr_cons, wr_tup, wr_lst, wr_dsp, wr_bin, wr_neg, ex_int, wr_not, wr_cmp, wr_and, wr_or, wr_ite, wr_isN, wr_notN, wr_ix, wr_sl, wr_prim, wr_lrg, wr_meth, wr_isT, wr_callE, wr_c0, wr_c1, wr_ok, m_lrg, m_addI, m_subI, m_mulI, m_divI, m_modI, m_powI, m_addT, m_addS, m_ltI, m_leI, m_gtI, m_geI, m_eq, m_ne, m_in, m_nin, eq_int, m_ixT, m_ixC, m_ixD, at_0, at_1, at_2, at_3, m_lenT, m_lenC, m_intI, m_intB, m_abs, m_max, m_min, m_tupT, m_listT, m_slT, m_slC, t_bl, t_int, t_non, t_tup, a_nm, a_tp, setSlots, partM, methFor, List.getElem?_cons_zero, List.getElem?_cons_succ, List.set_cons_zero, List.set_cons_succ, Option.some.injEq, exists_eq_left', true_and, and_true, eq_str, decide_eq_true_eq, ↓reduceIte, if_true, if_false, decide_true, decide_false, Bool.false_eq_true, ok_both, ok_case, ok_either, ok_first, ok_give, ok_k, ok_kp, ok_l, ok_left, ok_let, ok_name, ok_never, ok_none, ok_odd, ok_one, ok_other, ok_p, ok_pair, ok_r, ok_right, ok_second, ok_split, ok_star, ok_w, ok_way, ok_within, ok_without, ok_wrong, ok_yes, ok_no, ok_n, ok_led, ok_lr, ok_pp, ok_ppp, List.length_cons, List.length_nil, Nat.zero_add, Int.reduceSub, Int.reduceAdd, Int.reduceNeg, Int.reduceMul, Bool.not_true, Bool.not_false]
    have er := range_nat (n := a.cnt) (by omega)
    refine ⟨_, len_range er, fun pre e S3 => (∃ o, e = [some (.tup [.str "way", K a, K b]), some (.int (a.cnt : Nat)), some (.int (b.cnt : Nat)), some (.int ((b.cnt ^ pre.length : Nat))), o]) ∧ S3 = S2, ⟨⟨_, rfl⟩, rfl⟩, ?_, ?_, ?_⟩
    · rintro e S3 ⟨⟨o, rfl⟩, rfl⟩
      simp (config := {decide := true}) only [ws_cons, ty_non, ty_bl, ty_int, ty_str, ty_tup, kit_tuple_NoneType, kit_tuple_bool, kit_tuple_int, kit_tuple_str, kit_tuple_tuple, kit_tuple_list, kit_list_NoneType, kit_list_bool, kit_list_int, kit_list_str, kit_list_tuple, kit_list_list, kit_int_NoneType, kit_int_bool, kit_int_int, kit_int_str, kit_int_tuple, kit_int_list, kit_bool_NoneType, kit_bool_bool, kit_bool_int, kit_bool_str, kit_bool_tuple, kit_bool_list, kit_str_NoneType, kit_str_bool, kit_str_int, kit_str_str, kit_str_tuple, kit_str_list, non_int, non_non, non_tup, non_str, non_ref, non_bl, ws_nil, ws_asg, ws_exp, ws_retS, ws_ifs, ws_pass, ws_raise, wr_slot, wr_cst, wr_nil, wr_cons, wr_tup, wr_lst, wr_dsp, wr_bin, wr_neg, ex_int, wr_not, wr_cmp, wr_and, wr_or, wr_ite, wr_isN, wr_notN, wr_ix, wr_sl, wr_prim, wr_lrg, wr_meth, wr_isT, wr_callE, wr_c0, wr_c1, wr_ok, m_lrg, m_addI, m_subI, m_mulI, m_divI, m_modI, m_powI, m_addT, m_addS, m_ltI, m_leI, m_gtI, m_geI, m_eq, m_ne, m_in, m_nin, eq_int, m_ixT, m_ixC, m_ixD, at_0, at_1, at_2, at_3, m_lenT, m_lenC, m_intI, m_intB, m_abs, m_max, m_min, m_tupT, m_listT, m_slT, m_slC, t_bl, t_int, t_non, t_tup, a_nm, a_tp, setSlots, partM, methFor, List.getElem?_cons_zero, List.getElem?_cons_succ, List.set_cons_zero, List.set_cons_succ, Option.some.injEq, exists_eq_left', true_and, and_true, eq_str, decide_eq_true_eq, ↓reduceIte, if_true, if_false, decide_true, decide_false, Bool.false_eq_true, ok_both, ok_case, ok_either, ok_first, ok_give, ok_k, ok_kp, ok_l, ok_left, ok_let, ok_name, ok_never, ok_none, ok_odd, ok_one, ok_other, ok_p, ok_pair, ok_r, ok_right, ok_second, ok_split, ok_star, ok_w, ok_way, ok_within, ok_without, ok_wrong, ok_yes, ok_no, ok_n, ok_led, ok_lr, ok_pp, ok_ppp, List.length_cons, List.length_nil, Nat.zero_add, Int.reduceSub, Int.reduceAdd, Int.reduceNeg, Int.reduceMul, Bool.not_true, Bool.not_false, range_len]
      rfl
    · rintro pre e S3 _
      exact it_range er
    · rintro pre x suf e S3 hx ⟨⟨o, rfl⟩, rfl⟩
      refine ⟨_, rfl, ?_⟩
      simp (config := {decide := true}) only [ws_cons, ty_non, ty_bl, ty_int, ty_str, ty_tup, kit_tuple_NoneType, kit_tuple_bool, kit_tuple_int, kit_tuple_str, kit_tuple_tuple, kit_tuple_list, kit_list_NoneType, kit_list_bool, kit_list_int, kit_list_str, kit_list_tuple, kit_list_list, kit_int_NoneType, kit_int_bool, kit_int_int, kit_int_str, kit_int_tuple, kit_int_list, kit_bool_NoneType, kit_bool_bool, kit_bool_int, kit_bool_str, kit_bool_tuple, kit_bool_list, kit_str_NoneType, kit_str_bool, kit_str_int, kit_str_str, kit_str_tuple, kit_str_list, non_int, non_non, non_tup, non_str, non_ref, non_bl, ws_nil, ws_asg, ws_exp, ws_retS, ws_ifs, ws_pass, ws_raise, wr_slot, wr_cst, wr_nil, wr_cons, wr_tup, wr_lst, wr_dsp, wr_bin, wr_neg, ex_int, wr_not, wr_cmp, wr_and, wr_or, wr_ite, wr_isN, wr_notN, wr_ix, wr_sl, wr_prim, wr_lrg, wr_meth, wr_isT, wr_callE, wr_c0, wr_c1, wr_ok, m_lrg, m_addI, m_subI, m_mulI, m_divI, m_modI, m_powI, m_addT, m_addS, m_ltI, m_leI, m_gtI, m_geI, m_eq, m_ne, m_in, m_nin, eq_int, m_ixT, m_ixC, m_ixD, at_0, at_1, at_2, at_3, m_lenT, m_lenC, m_intI, m_intB, m_abs, m_max, m_min, m_tupT, m_listT, m_slT, m_slC, t_bl, t_int, t_non, t_tup, a_nm, a_tp, setSlots, partM, methFor, List.getElem?_cons_zero, List.getElem?_cons_succ, List.set_cons_zero, List.set_cons_succ, Option.some.injEq, exists_eq_left', true_and, and_true, eq_str, decide_eq_true_eq, ↓reduceIte, if_true, if_false, decide_true, decide_false, Bool.false_eq_true, ok_both, ok_case, ok_either, ok_first, ok_give, ok_k, ok_kp, ok_l, ok_left, ok_let, ok_name, ok_never, ok_none, ok_odd, ok_one, ok_other, ok_p, ok_pair, ok_r, ok_right, ok_second, ok_split, ok_star, ok_w, ok_way, ok_within, ok_without, ok_wrong, ok_yes, ok_no, ok_n, ok_led, ok_lr, ok_pp, ok_ppp, List.length_cons, List.length_nil, Nat.zero_add, Int.reduceSub, Int.reduceAdd, Int.reduceNeg, Int.reduceMul, Bool.not_true, Bool.not_false]
      refine ⟨mulOk_r (by omega), some x, ?_⟩
      rw [List.length_append, List.length_singleton, Nat.pow_succ, Int.natCast_mul]
end
end EK

namespace EK.Law
open PySem PySem.Spec PyProof.Rows L2 EK
/-! ### the terms of the defs -/
def f_count : FnI := ⟨["kind"], ["kind", "one", "other", "many", "turn"], [],
  (.cons (.ifs (.cmp .eq (.ix (.slot 0) (.cst (.int 0))) (.cst (.str "none"))) (.cons (.ret (.cst (.int 0))) .nil) .nil) (.cons (.ifs (.cmp .eq (.ix (.slot 0) (.cst (.int 0))) (.cst (.str "one"))) (.cons (.ret (.cst (.int 1))) .nil) .nil) (.cons (.asg (.nm 1) (.call "count" (.cons (.ix (.slot 0) (.cst (.int 1))) .nil))) (.cons (.asg (.nm 2) (.call "count" (.cons (.ix (.slot 0) (.cst (.int 2))) .nil))) (.cons (.ifs (.cmp .eq (.ix (.slot 0) (.cst (.int 0))) (.cst (.str "either"))) (.cons (.ret (.bin .add (.slot 1) (.slot 2))) .nil) .nil) (.cons (.ifs (.cmp .eq (.ix (.slot 0) (.cst (.int 0))) (.cst (.str "both"))) (.cons (.ret (.bin .mul (.slot 1) (.slot 2))) .nil) .nil) (.cons (.asg (.nm 3) (.cst (.int 1))) (.cons (.for (.nm 4) .range (.cons (.slot 1) .nil) (.cons (.asg (.nm 3) (.bin .mul (.slot 3) (.slot 2))) .nil)) (.cons (.ret (.slot 3)) .nil)))))))))⟩
def f_ways : FnI := ⟨["many", "things_given"], ["many", "things_given", "found", "turn"], [],
  (.cons (.asg (.nm 2) (.lst (.cons (.tup .nil) .nil))) (.cons (.for (.nm 3) .range (.cons (.slot 0) .nil) (.cons (.asg (.nm 2) (.call "longer" (.cons (.slot 2) (.cons (.slot 1) .nil)))) .nil)) (.cons (.ret (.slot 2)) .nil)))⟩
def f_longer : FnI := ⟨["rows", "some"], ["rows", "some", "found", "row", "thing"], [],
  (.cons (.asg (.nm 2) (.lst .nil)) (.cons (.for (.nm 3) .over (.cons (.slot 0) .nil) (.cons (.exp (.meth .extend (.slot 2) (.cons (.comp [4] (.nm 4) .over (.cons (.slot 1) .nil) .nil (.bin .add (.slot 3) (.tup (.cons (.slot 4) .nil)))) .nil))) .nil)) (.cons (.ret (.slot 2)) .nil)))⟩
def f_pairs : FnI := ⟨["some", "others"], ["some", "others", "found", "one", "other"], [],
  (.cons (.asg (.nm 2) (.lst .nil)) (.cons (.for (.nm 3) .over (.cons (.slot 0) .nil) (.cons (.exp (.meth .extend (.slot 2) (.cons (.comp [4] (.nm 4) .over (.cons (.slot 1) .nil) .nil (.tup (.cons (.cst (.str "p")) (.cons (.slot 3) (.cons (.slot 4) .nil))))) .nil))) .nil)) (.cons (.ret (.slot 2)) .nil)))⟩
def f_things : FnI := ⟨["kind"], ["kind", "one", "other", "thing", "row"], [],
  (.cons (.ifs (.cmp .eq (.ix (.slot 0) (.cst (.int 0))) (.cst (.str "none"))) (.cons (.ret (.lst .nil)) .nil) .nil) (.cons (.ifs (.cmp .eq (.ix (.slot 0) (.cst (.int 0))) (.cst (.str "one"))) (.cons (.ret (.lst (.cons (.tup .nil) .nil))) .nil) .nil) (.cons (.asg (.nm 1) (.call "things" (.cons (.ix (.slot 0) (.cst (.int 1))) .nil))) (.cons (.asg (.nm 2) (.call "things" (.cons (.ix (.slot 0) (.cst (.int 2))) .nil))) (.cons (.ifs (.cmp .eq (.ix (.slot 0) (.cst (.int 0))) (.cst (.str "either"))) (.cons (.ret (.bin .add (.comp [3] (.nm 3) .over (.cons (.slot 1) .nil) .nil (.tup (.cons (.cst (.str "l")) (.cons (.slot 3) .nil)))) (.comp [3] (.nm 3) .over (.cons (.slot 2) .nil) .nil (.tup (.cons (.cst (.str "r")) (.cons (.slot 3) .nil)))))) .nil) .nil) (.cons (.ifs (.cmp .eq (.ix (.slot 0) (.cst (.int 0))) (.cst (.str "both"))) (.cons (.ret (.call "pairs" (.cons (.slot 1) (.cons (.slot 2) .nil)))) .nil) .nil) (.cons (.ret (.comp [4] (.nm 4) .over (.cons (.call "ways" (.cons (.prim .len (.cons (.slot 1) .nil)) (.cons (.slot 2) .nil))) .nil) .nil (.tup (.cons (.cst (.str "w")) (.cons (.slot 4) .nil))))) .nil)))))))⟩
def f_law_mixed : FnI := ⟨["_law_cell", "_law_k"], ["_law_cell", "_law_k", "_law_number"], [],
  (.cons (.asg (.nm 2) (.bin .mod (.bin .add (.bin .add (.bin .mul (.bin .mod (.slot 0) (.cst (.int 2147483629))) (.cst (.int 48271))) (.bin .mul (.cst (.int 7919)) (.slot 1))) (.cst (.int 13))) (.cst (.int 2147483629)))) (.cons (.asg (.nm 2) (.bin .mod (.bin .add (.bin .mul (.slot 2) (.bin .add (.bin .fdiv (.slot 2) (.cst (.int 5))) (.slot 1))) (.bin .mul (.cst (.int 16807)) (.slot 1))) (.cst (.int 2147483587)))) (.cons (.ret (.bin .mod (.bin .add (.bin .mul (.slot 2) (.cst (.int 69621))) (.bin .fdiv (.slot 2) (.cst (.int 127)))) (.cst (.int 2147483647)))) .nil)))⟩
def f_law_deck : FnI := ⟨["_law_script"], ["_law_script", "_law_deck_here", "_law_k", "_law_cell", "_law_number", "_law_turn", "_law_j"], [],
  (.cons (.asg (.nm 1) (.lst .nil)) (.cons (.for (.tp [2, 3]) .enum (.cons (.sl (.slot 0) .nil (.cons (.cst (.int 63)) .nil)) .nil) (.cons (.asg (.nm 4) (.bin .mod (.prim .abs (.cons (.slot 3) .nil)) (.bin .pow (.cst (.int 2147483647)) (.cst (.int 60))))) (.cons (.ifs (.cmp .lt (.slot 4) (.bin .pow (.cst (.int 10)) (.cst (.int 18)))) (.cons (.exp (.meth .extend (.slot 1) (.cons (.comp [6] (.nm 6) .range (.cons (.cst (.int 7)) .nil) .nil (.call "_law_mixed" (.cons (.slot 4) (.cons (.bin .add (.bin .mul (.cst (.int 7)) (.slot 2)) (.slot 6)) .nil)))) .nil))) (.cons (.asg (.nm 4) (.cst (.int 0))) .nil)) .nil) (.cons (.for (.nm 5) .range (.cons (.cst (.int 60)) .nil) (.cons (.ifs (.cmp .gt (.slot 4) (.cst (.int 0))) (.cons (.exp (.meth .append (.slot 1) (.cons (.bin .mod (.slot 4) (.cst (.int 2147483647))) .nil))) (.cons (.asg (.nm 4) (.bin .fdiv (.slot 4) (.cst (.int 2147483647)))) .nil)) .nil) .nil)) .nil)))) (.cons (.for (.nm 2) .range (.cons (.prim .len (.cons (.slot 1) .nil)) (.cons (.cst (.int 150)) .nil)) (.cons (.exp (.meth .append (.slot 1) (.cons (.call "_law_mixed" (.cons (.prim .sum (.cons (.sl (.slot 0) .nil (.cons (.cst (.int 63)) .nil)) .nil)) (.cons (.slot 2) .nil))) .nil))) .nil)) (.cons (.ret (.sl (.slot 1) .nil (.cons (.cst (.int 900)) .nil))) .nil))))⟩
def f_law_next : FnI := ⟨["_law_deck_here", "_law_many"], ["_law_deck_here", "_law_many"], [],
  (.cons (.ifs (.cmp .eq (.prim .len (.cons (.slot 0) .nil)) (.cst (.int 0))) (.cons (.ret (.cst (.int 0))) .nil) .nil) (.cons (.ret (.bin .mod (.meth .pop (.slot 0) (.cons (.cst (.int 0)) .nil)) (.slot 1))) .nil))⟩
def f_law_power : FnI := ⟨["_law_number", "_law_times"], ["_law_number", "_law_times", "_law_found", "_law_turn"], [],
  (.cons (.asg (.nm 2) (.cst (.int 1))) (.cons (.for (.nm 3) .range (.cons (.slot 1) .nil) (.cons (.asg (.nm 2) (.bin .mul (.slot 2) (.slot 0))) .nil)) (.cons (.ret (.slot 2)) .nil)))⟩
def f_law_count : FnI := ⟨["_law_kind_here"], ["_law_kind_here", "_law_one", "_law_other"], [],
  (.cons (.ifs (.cmp .eq (.prim .len (.cons (.slot 0) .nil)) (.cst (.int 1))) (.cons (.ret (.prim .int (.cons (.cmp .eq (.ix (.slot 0) (.cst (.int 0))) (.cst (.str "one"))) .nil))) .nil) .nil) (.cons (.asg (.nm 1) (.call "_law_count" (.cons (.ix (.slot 0) (.cst (.int 1))) .nil))) (.cons (.asg (.nm 2) (.call "_law_count" (.cons (.ix (.slot 0) (.cst (.int 2))) .nil))) (.cons (.ret (.ix (.dsp ["either", "both", "way"] (.cons (.bin .add (.slot 1) (.slot 2)) (.cons (.bin .mul (.slot 1) (.slot 2)) (.cons (.call "_law_power" (.cons (.slot 2) (.cons (.slot 1) .nil))) .nil)))) (.ix (.slot 0) (.cst (.int 0))))) .nil))))⟩
def f_law_kind : FnI := ⟨["_law_deck_here", "_law_deep", "_law_most"], ["_law_deck_here", "_law_deep", "_law_most", "_law_way", "_law_word", "_law_one", "_law_other"], [],
  (.cons (.asg (.nm 3) (.call "_law_next" (.cons (.slot 0) (.cons (.ix (.lst (.cons (.cst (.int 1)) (.cons (.cst (.int 6)) .nil))) (.prim .int (.cons (.cmp .gt (.slot 1) (.cst (.int 0))) .nil))) .nil)))) (.cons (.ifs (.or (.cmp .eq (.slot 3) (.cst (.int 0))) (.cmp .eq (.slot 3) (.cst (.int 5)))) (.cons (.ret (.ix (.lst (.cons (.tup (.cons (.cst (.str "one")) .nil)) (.cons (.tup (.cons (.cst (.str "either")) (.cons (.tup (.cons (.cst (.str "one")) .nil)) (.cons (.tup (.cons (.cst (.str "one")) .nil)) .nil)))) .nil))) (.prim .int (.cons (.and (.cmp .eq (.slot 3) (.cst (.int 5))) (.cmp .gt (.slot 2) (.cst (.int 1)))) .nil)))) .nil) .nil) (.cons (.asg (.nm 4) (.ix (.lst (.cons (.cst (.str "either")) (.cons (.cst (.str "both")) (.cons (.cst (.str "way")) (.cons (.cst (.str "either")) .nil))))) (.bin .sub (.slot 3) (.cst (.int 1))))) (.cons (.asg (.nm 5) (.call "_law_kind" (.cons (.slot 0) (.cons (.bin .sub (.slot 1) (.cst (.int 1))) (.cons (.slot 2) .nil))))) (.cons (.asg (.nm 6) (.call "_law_kind" (.cons (.slot 0) (.cons (.bin .sub (.slot 1) (.cst (.int 1))) (.cons (.slot 2) .nil))))) (.cons (.ifs (.and (.cmp .ne (.slot 4) (.cst (.str "both"))) (.cmp .eq (.call "_law_next" (.cons (.slot 0) (.cons (.cst (.int 6)) .nil))) (.cst (.int 1)))) (.cons (.asg (.nm 5) (.tup (.cons (.cst (.str "none")) .nil))) .nil) (.cons (.ifs (.and (.cmp .eq (.slot 4) (.cst (.str "either"))) (.cmp .eq (.call "_law_next" (.cons (.slot 0) (.cons (.cst (.int 6)) .nil))) (.cst (.int 1)))) (.cons (.asg (.nm 6) (.tup (.cons (.cst (.str "none")) .nil))) .nil) .nil) .nil)) (.cons (.ifs (.and (.cmp .eq (.slot 4) (.cst (.str "way"))) (.cmp .gt (.call "_law_count" (.cons (.slot 5) .nil)) (.cst (.int 6)))) (.cons (.asg (.nm 5) (.tup (.cons (.cst (.str "one")) .nil))) .nil) .nil) (.cons (.ifs (.cmp .gt (.call "_law_count" (.cons (.tup (.cons (.slot 4) (.cons (.slot 5) (.cons (.slot 6) .nil)))) .nil)) (.slot 2)) (.cons (.ret (.tup (.cons (.cst (.str "one")) .nil))) .nil) .nil) (.cons (.ret (.tup (.cons (.slot 4) (.cons (.slot 5) (.cons (.slot 6) .nil))))) .nil)))))))))⟩
def f_law_rank : FnI := ⟨["_law_kind_here", "_law_thing"], ["_law_kind_here", "_law_thing", "_law_one", "_law_other", "_law_found"], [],
  (.cons (.ifs (.cmp .eq (.ix (.slot 0) (.cst (.int 0))) (.cst (.str "one"))) (.cons (.ret (.ix (.lst (.cons (.cst .non) (.cons (.cst (.int 0)) .nil))) (.prim .int (.cons (.cmp .eq (.slot 1) (.tup .nil)) .nil)))) .nil) .nil) (.cons (.ifs (.or (.not (.isT .tuple (.slot 1))) (.or (.cmp .lt (.prim .len (.cons (.slot 1) .nil)) (.cst (.int 2))) (.cmp .eq (.ix (.slot 0) (.cst (.int 0))) (.cst (.str "none"))))) (.cons (.ret (.cst .non)) .nil) .nil) (.cons (.ifs (.cmp .eq (.ix (.slot 0) (.cst (.int 0))) (.cst (.str "way"))) (.cons (.ret (.call "_law_row_rank" (.cons (.slot 0) (.cons (.slot 1) .nil)))) .nil) .nil) (.cons (.ifs (.and (.cmp .eq (.ix (.slot 0) (.cst (.int 0))) (.cst (.str "both"))) (.and (.cmp .eq (.prim .len (.cons (.slot 1) .nil)) (.cst (.int 3))) (.cmp .eq (.ix (.slot 1) (.cst (.int 0))) (.cst (.str "p"))))) (.cons (.asg (.nm 2) (.call "_law_rank" (.cons (.ix (.slot 0) (.cst (.int 1))) (.cons (.ix (.slot 1) (.cst (.int 1))) .nil)))) (.cons (.asg (.nm 3) (.call "_law_rank" (.cons (.ix (.slot 0) (.cst (.int 2))) (.cons (.ix (.slot 1) (.cst (.int 2))) .nil)))) (.cons (.ifs (.or (.isN (.slot 2)) (.isN (.slot 3))) (.cons (.ret (.cst .non)) .nil) .nil) (.cons (.ret (.bin .add (.bin .mul (.slot 2) (.call "_law_count" (.cons (.ix (.slot 0) (.cst (.int 2))) .nil))) (.slot 3))) .nil)))) .nil) (.cons (.ifs (.or (.cmp .ne (.ix (.slot 0) (.cst (.int 0))) (.cst (.str "either"))) (.or (.cmp .ne (.prim .len (.cons (.slot 1) .nil)) (.cst (.int 2))) (.cmp .notIn (.ix (.slot 1) (.cst (.int 0))) (.tup (.cons (.cst (.str "l")) (.cons (.cst (.str "r")) .nil)))))) (.cons (.ret (.cst .non)) .nil) .nil) (.cons (.asg (.nm 4) (.call "_law_rank" (.cons (.ix (.slot 0) (.bin .add (.cst (.int 1)) (.prim .int (.cons (.cmp .eq (.ix (.slot 1) (.cst (.int 0))) (.cst (.str "r"))) .nil)))) (.cons (.ix (.slot 1) (.cst (.int 1))) .nil)))) (.cons (.ifs (.or (.isN (.slot 4)) (.cmp .eq (.ix (.slot 1) (.cst (.int 0))) (.cst (.str "l")))) (.cons (.ret (.slot 4)) .nil) .nil) (.cons (.ret (.bin .add (.slot 4) (.call "_law_count" (.cons (.ix (.slot 0) (.cst (.int 1))) .nil)))) .nil))))))))⟩
def f_law_row_rank : FnI := ⟨["_law_kind_here", "_law_thing"], ["_law_kind_here", "_law_thing", "_law_found", "_law_one", "_law_here"], [],
  (.cons (.ifs (.or (.cmp .ne (.prim .len (.cons (.slot 1) .nil)) (.cst (.int 2))) (.or (.cmp .ne (.ix (.slot 1) (.cst (.int 0))) (.cst (.str "w"))) (.not (.isT .tuple (.ix (.slot 1) (.cst (.int 1))))))) (.cons (.ret (.cst .non)) .nil) .nil) (.cons (.ifs (.cmp .ne (.prim .len (.cons (.ix (.slot 1) (.cst (.int 1))) .nil)) (.call "_law_count" (.cons (.ix (.slot 0) (.cst (.int 1))) .nil))) (.cons (.ret (.cst .non)) .nil) .nil) (.cons (.asg (.nm 2) (.cst (.int 0))) (.cons (.for (.nm 3) .over (.cons (.ix (.slot 1) (.cst (.int 1))) .nil) (.cons (.asg (.nm 4) (.call "_law_rank" (.cons (.ix (.slot 0) (.cst (.int 2))) (.cons (.slot 3) .nil)))) (.cons (.ifs (.isN (.slot 4)) (.cons (.ret (.cst .non)) .nil) .nil) (.cons (.asg (.nm 2) (.bin .add (.bin .mul (.slot 2) (.call "_law_count" (.cons (.ix (.slot 0) (.cst (.int 2))) .nil))) (.slot 4))) .nil)))) (.cons (.ret (.slot 2)) .nil)))))⟩
def f_law_right : FnI := ⟨["_law_kind_here"], ["_law_kind_here", "_law_many", "_law_found", "_law_thing"], [],
  (.cons (.asg (.nm 1) (.call "count" (.cons (.slot 0) .nil))) (.cons (.ifs (.or (.not (.isT .int (.slot 1))) (.or (.isT .bool (.slot 1)) (.cmp .ne (.slot 1) (.call "_law_count" (.cons (.slot 0) .nil))))) (.cons (.ret (.cst (.bl false))) .nil) .nil) (.cons (.asg (.nm 2) (.call "things" (.cons (.slot 0) .nil))) (.cons (.ifs (.or (.not (.isT .list (.slot 2))) (.cmp .ne (.comp [3] (.nm 3) .over (.cons (.slot 2) .nil) .nil (.call "_law_rank" (.cons (.slot 0) (.cons (.slot 3) .nil)))) (.lrg (.cons (.slot 1) .nil)))) (.cons (.ret (.cst (.bl false))) .nil) .nil) (.cons (.exp (.meth .append (.slot 2) (.cons (.tup .nil) .nil))) (.cons (.ret (.cmp .eq (.prim .len (.cons (.call "things" (.cons (.slot 0) .nil)) .nil)) (.slot 1))) .nil))))))⟩
def f_law : FnI := ⟨["_law_script"], ["_law_script", "_law_deck_here", "_law_kind_here", "_law_none", "_law_one", "_law_many", "_law_great", "_law_due"], [],
  (.cons (.asg (.nm 1) (.call "_law_deck" (.cons (.slot 0) .nil))) (.cons (.asg (.nm 2) (.call "_law_kind" (.cons (.slot 1) (.cons (.cst (.int 4)) (.cons (.cst (.int 100)) .nil))))) (.cons (.ifs (.cmp .eq (.call "_law_next" (.cons (.slot 1) (.cons (.cst (.int 6)) .nil))) (.cst (.int 1))) (.cons (.asg (.nm 3) (.tup (.cons (.cst (.str "none")) .nil))) (.cons (.asg (.nm 2) (.ix (.lst (.cons (.slot 3) (.cons (.tup (.cons (.cst (.str "both")) (.cons (.slot 2) (.cons (.slot 3) .nil)))) (.cons (.tup (.cons (.cst (.str "both")) (.cons (.slot 3) (.cons (.slot 2) .nil)))) (.cons (.tup (.cons (.cst (.str "way")) (.cons (.slot 2) (.cons (.slot 3) .nil)))) .nil))))) (.call "_law_next" (.cons (.slot 1) (.cons (.cst (.int 4)) .nil))))) .nil)) .nil) (.cons (.for (.nm 4) .over (.cons (.bin .add (.bin .add (.tup (.cons (.slot 2) .nil)) (.sl (.slot 2) (.cons (.cst (.int 1)) .nil) .nil)) (.tup (.cons (.slot 2) .nil))) .nil) (.cons (.ifs (.not (.call "_law_right" (.cons (.slot 4) .nil))) (.cons (.ret (.cst (.bl false))) .nil) .nil) .nil)) (.cons (.asg (.nm 5) (.call "_law_count" (.cons (.slot 2) .nil))) (.cons (.asg (.nm 6) (.tup (.cons (.cst (.str "way")) (.cons (.slot 2) (.cons (.tup (.cons (.cst (.str "both")) (.cons (.slot 2) (.cons (.slot 2) .nil)))) .nil))))) (.cons (.asg (.nm 7) (.call "_law_power" (.cons (.bin .mul (.slot 5) (.slot 5)) (.cons (.slot 5) .nil)))) (.cons (.ifs (.cmp .ne (.call "count" (.cons (.slot 6) .nil)) (.slot 7)) (.cons (.ret (.cst (.bl false))) .nil) .nil) (.cons (.ret (.cmp .eq (.call "count" (.cons (.tup (.cons (.cst (.str "both")) (.cons (.slot 6) (.cons (.tup (.cons (.cst (.str "either")) (.cons (.slot 2) (.cons (.slot 6) .nil)))) .nil)))) .nil)) (.bin .mul (.slot 7) (.bin .add (.slot 5) (.slot 7))))) .nil)))))))))⟩
def T : Text := ⟨[("count", f_count),
  ("ways", f_ways),
  ("longer", f_longer),
  ("pairs", f_pairs),
  ("things", f_things),
  ("_law_mixed", f_law_mixed),
  ("_law_deck", f_law_deck),
  ("_law_next", f_law_next),
  ("_law_power", f_law_power),
  ("_law_count", f_law_count),
  ("_law_kind", f_law_kind),
  ("_law_rank", f_law_rank),
  ("_law_row_rank", f_law_row_rank),
  ("_law_right", f_law_right),
  ("law", f_law)], fun _ => none, []⟩
/-! ### the head -/
def top (i : Nat) : Stmt := PySem.Challenge.pw_evenkinds_k11_counts_and_things.main.body.getD i (.Pass ⟨0, 0, 0, 0⟩)
def dd (x : Str) (i : Nat) (dfl : List He.Dv) : He.DefD := ⟨(x, none), x, x, defArgs (top i), defBody (top i), defScope (top i), dfl, []⟩
def df_count : He.DefD := dd "count" 1 []
def df_ways : He.DefD := dd "ways" 2 []
def df_longer : He.DefD := dd "longer" 3 []
def df_pairs : He.DefD := dd "pairs" 4 []
def df_things : He.DefD := dd "things" 5 []
def df_law_mixed : He.DefD := dd "_law_mixed" 7 []
def df_law_deck : He.DefD := dd "_law_deck" 8 []
def df_law_next : He.DefD := dd "_law_next" 9 []
def df_law_power : He.DefD := dd "_law_power" 10 []
def df_law_count : He.DefD := dd "_law_count" 11 []
def df_law_kind : He.DefD := dd "_law_kind" 12 []
def df_law_rank : He.DefD := dd "_law_rank" 13 []
def df_law_row_rank : He.DefD := dd "_law_row_rank" 14 []
def df_law_right : He.DefD := dd "_law_right" 15 []
def df_law : He.DefD := dd "law" 16 []
def fn : List He.DefD := [df_count, df_ways, df_longer, df_pairs, df_things, df_law_mixed, df_law_deck, df_law_next, df_law_power, df_law_count, df_law_kind, df_law_rank, df_law_row_rank, df_law_right, df_law]
def more : List He.Fa := []
theorem chk : chkText T T.fns fn = true := by decide +kernel
theorem bf_count : BindOk df_count f_count := bind_all rfl rfl fun _ _ _ _ _ _ us hl => match us, hl with | [_], _ => rfl
theorem bf_ways : BindOk df_ways f_ways := bind_all rfl rfl fun _ _ _ _ _ _ us hl => match us, hl with | [_, _], _ => rfl
theorem bf_longer : BindOk df_longer f_longer := bind_all rfl rfl fun _ _ _ _ _ _ us hl => match us, hl with | [_, _], _ => rfl
theorem bf_pairs : BindOk df_pairs f_pairs := bind_all rfl rfl fun _ _ _ _ _ _ us hl => match us, hl with | [_, _], _ => rfl
theorem bf_things : BindOk df_things f_things := bind_all rfl rfl fun _ _ _ _ _ _ us hl => match us, hl with | [_], _ => rfl
theorem bf_law_mixed : BindOk df_law_mixed f_law_mixed := bind_all rfl rfl fun _ _ _ _ _ _ us hl => match us, hl with | [_, _], _ => rfl
theorem bf_law_deck : BindOk df_law_deck f_law_deck := bind_all rfl rfl fun _ _ _ _ _ _ us hl => match us, hl with | [_], _ => rfl
theorem bf_law_next : BindOk df_law_next f_law_next := bind_all rfl rfl fun _ _ _ _ _ _ us hl => match us, hl with | [_, _], _ => rfl
theorem bf_law_power : BindOk df_law_power f_law_power := bind_all rfl rfl fun _ _ _ _ _ _ us hl => match us, hl with | [_, _], _ => rfl
theorem bf_law_count : BindOk df_law_count f_law_count := bind_all rfl rfl fun _ _ _ _ _ _ us hl => match us, hl with | [_], _ => rfl
theorem bf_law_kind : BindOk df_law_kind f_law_kind := bind_all rfl rfl fun _ _ _ _ _ _ us hl => match us, hl with | [_, _, _], _ => rfl
theorem bf_law_rank : BindOk df_law_rank f_law_rank := bind_all rfl rfl fun _ _ _ _ _ _ us hl => match us, hl with | [_, _], _ => rfl
theorem bf_law_row_rank : BindOk df_law_row_rank f_law_row_rank := bind_all rfl rfl fun _ _ _ _ _ _ us hl => match us, hl with | [_, _], _ => rfl
theorem bf_law_right : BindOk df_law_right f_law_right := bind_all rfl rfl fun _ _ _ _ _ _ us hl => match us, hl with | [_], _ => rfl
theorem bf_law : BindOk df_law f_law := bind_all rfl rfl fun _ _ _ _ _ _ us hl => match us, hl with | [_], _ => rfl
theorem binds : BindAll T.fns fn := ⟨bf_count, bf_ways, bf_longer, bf_pairs, bf_things, bf_law_mixed, bf_law_deck, bf_law_next, bf_law_power, bf_law_count, bf_law_kind, bf_law_rank, bf_law_row_rank, bf_law_right, bf_law, trivial⟩
abbrev R : PySem.W.OpenRow := PySem.W.OpenLaw.row PySem.Challenge.rw_evenkinds_k11_counts_and_things
abbrev hk : PySem.W.Hook := He.hookD 4 (faOf T more) fn
def ob (s : PySem.W.SharedT) : He.AlD := He.obsDG 4 (faOf T more) fn (HandSHeadRun.getT s)
theorem ob_eq (s : PySem.W.SharedT) : ob s = hk.obs s.abs := He.obsDG_eq (HandSHeadRun.getT_eq s)
def loose : List Str := ["count", "ways", "longer", "pairs", "things", "_law_mixed", "_law_deck", "_law_next", "_law_power", "_law_count", "_law_kind", "_law_rank", "_law_row_rank", "_law_right"]
theorem run (w : World) : HandSHeadRun.RunEq R (PySem.W.view R.prog [16]) hk ob 2550 loose w := by
  intro os
  kernel_rfl
theorem facts {h : Heap} {w : World} {mg : Str → Option Value} (Y : hk.says w h) (G : h.Ns mainGlobals mg) : ∃ K : PySem.W.Frag, K.In h ∧ Facts T K mg w := by
  obtain ⟨K, KX, c⟩ := Y
  exact ⟨K, KX, facts_of KX G c chk binds fun x v h => by cases h⟩
end EK.Law

open PySem PySem.W PySem.Calls PyProof.Rows
theorem law_ends (hY : ∀ ns : List Int, ns.length ≤ 63 → EK.lawYes EK.Law.T 221 "law" ns) : PySem.Challenge.rw_evenkinds_k11_counts_and_things.Holds := by
  w_on; o_law
  refine HandSHeadRun.head_any (r := OpenLaw.row PySem.Challenge.rw_evenkinds_k11_counts_and_things) (q := view (OpenLaw.row PySem.Challenge.rw_evenkinds_k11_counts_and_things).prog [16]) (H := EK.Law.hk) (ob := EK.Law.ob) (M := 2550) (loose := EK.Law.loose) (d := HandSHeadRun.topDef (OpenLaw.row PySem.Challenge.rw_evenkinds_k11_counts_and_things).prog 16) (kwd := []) EK.Law.ob_eq
    (by kernel_rfl) (fun s => by kernel_rfl) EK.Law.run (by kernel_rfl) (by kernel_rfl) (by kernel_rfl) (by rfl) (by first | assumption | decide +kernel) (by decide +kernel) ⟨rfl, rfl, rfl, rfl, rfl, by decide +kernel⟩ ?hw ?hc
  case hw => w_witness2
  case hc =>
    have en : (HandSHeadRun.topDef (OpenLaw.row PySem.Challenge.rw_evenkinds_k11_counts_and_things).prog 16).name = ("law" : PySem.Str) := by kernel_rfl
    refine EK.law_walk (l := PySem.Challenge.rw_evenkinds_k11_counts_and_things) (T := EK.Law.T) (n := 63) (r := 220) (p := "_law_script") (f := EK.Law.f_law) rfl (by decide) (by kernel_rfl) (by decide) (by rw [en]; rfl) rfl rfl (fun w mg h Y G => EK.Law.facts Y G) fun ns hl => ?_
    rw [en]
    exact hY ns hl


namespace EK
open PySem PySem.Spec L2
open Lib
namespace Law
theorem hasThs : HasThs T := ⟨rfl, rfl, rfl, rfl⟩
theorem hasA : HasA T := ⟨rfl, rfl, rfl, rfl, rfl, rfl⟩
theorem flat_at {α β γ : Type} {f : α → β → γ} {bs : List β} : ∀ {as : List α} {i : Nat} {z : γ}, (as.flatMap fun x => bs.map (f x))[i]? = some z → ∃ x y, as[i / bs.length]? = some x ∧ bs[i % bs.length]? = some y ∧ z = f x y
  | [], i, z, h => by simp at h
  | a :: as, i, z, h => by
    rw [List.flatMap_cons] at h
    by_cases hi : i < bs.length
    · rw [List.getElem?_append_left (by simpa using hi), List.getElem?_map] at h
      rw [Nat.div_eq_of_lt hi, Nat.mod_eq_of_lt hi]
      cases q : bs[i]? with
      | none => rw [q] at h; cases h
      | some y => rw [q] at h; exact ⟨a, y, rfl, rfl, (Option.some.inj h).symm⟩
    · rw [List.getElem?_append_right (by simpa using hi), List.length_map] at h
      obtain ⟨x, y, h1, h2, h3⟩ := flat_at h
      have hb : 0 < bs.length := by
        have := (List.getElem?_eq_some_iff.mp h2).1
        omega
      have e1 : i / bs.length = (i - bs.length) / bs.length + 1 := by
        conv => lhs; rw [show i = (i - bs.length) + bs.length by omega, Nat.add_div_right _ hb]
      have e2 : i % bs.length = (i - bs.length) % bs.length := by
        conv => lhs; rw [show i = (i - bs.length) + bs.length by omega, Nat.add_mod_right]
      rw [e1, e2]
      exact ⟨x, y, by simpa using h1, h2, h3⟩
/-- a row's number from its digits -/
def num (m : Nat) (js : List Nat) : Nat := js.foldl (fun acc j => acc * m + j) 0
theorem num_snoc (m : Nat) (js : List Nat) (j : Nat) : num m (js ++ [j]) = num m js * m + j := by simp [num]
theorem wys_at {bs : List PV} : ∀ {n i : Nat} {x : PV}, (wys bs n)[i]? = some x → ∃ js : List Nat, js.length = n ∧ (∀ j ∈ js, j < bs.length) ∧ x = .tup (js.map fun j => bs.getD j .non) ∧ num bs.length js = i
  | 0, i, x, h => by
    have hi : i = 0 := by
      have := (List.getElem?_eq_some_iff.mp h).1
      simp [wys] at this
      exact this
    subst hi
    simp [wys] at h
    subst h
    exact ⟨[], rfl, by simp, rfl, rfl⟩
  | n + 1, i, x, h => by
    obtain ⟨u, t, h1, h2, rfl⟩ := flat_at h
    obtain ⟨js, hl, hj, rfl, hn⟩ := wys_at h1
    have ht := (List.getElem?_eq_some_iff.mp h2).1
    refine ⟨js ++ [i % bs.length], by simp [hl], fun j hm => ?_, ?_, ?_⟩
    · rcases List.mem_append.mp hm with hm | hm
      · exact hj j hm
      · simp at hm; subst hm; exact ht
    · rw [ap1, List.map_append]
      simp [List.getD_eq_getElem?_getD, h2]
    · rw [num_snoc, hn]
      exact Nat.div_add_mod' i bs.length
section
variable {S : Store} {r : Nat}
theorem getL {a b : Kd} {i : Nat} {x : PV} (h : (ths (.either a b))[i]? = some x) : (∃ y, x = .tup [.str "l", y] ∧ (ths a)[i]? = some y ∧ i < a.cnt) ∨ (∃ y, x = .tup [.str "r", y] ∧ (ths b)[i - a.cnt]? = some y ∧ a.cnt ≤ i) := by
  rw [ths] at h
  have la := ths_len a
  by_cases hi : i < a.cnt
  · rw [List.getElem?_append_left (by rw [List.length_map, la]; exact hi), List.getElem?_map] at h
    cases q : (ths a)[i]? with
    | none => rw [q] at h; cases h
    | some y => rw [q] at h; exact .inl ⟨y, (Option.some.inj h).symm, rfl, hi⟩
  · rw [List.getElem?_append_right (by rw [List.length_map, la]; omega), List.getElem?_map, List.length_map, la] at h
    cases q : (ths b)[i - a.cnt]? with
    | none => rw [q] at h; cases h
    | some y => rw [q] at h; exact .inr ⟨y, (Option.some.inj h).symm, rfl, by omega⟩
theorem sp_rank : ∀ (k : Kd) (r : Nat) (S : Store) (i : Nat) (x : PV), k.le 1000 → 2 * k.dep + 3 ≤ r → (ths k)[i]? = some x → Wr (callF T (r + 1) "_law_rank" [K k, x] S) (fun v S' => v = .int (i : Nat) ∧ Kp [] S S') nE
  | .none, r, S, i, x, _, _, h => by simp [ths] at h
  | .one, r, S, i, x, _, _, h => by
    have hi : i = 0 := by
      have := (List.getElem?_eq_some_iff.mp h).1
      simp [ths] at this
      exact this
    subst hi
    simp [ths] at h
    subst h
    refine wr_call (ws := [K .one, .tup []]) (f := f_law_rank) rfl rfl rfl ?_
    show Ws (execSs (conf T r) f_law_rank.body [some (K .one), some (.tup []), none, none, none] S) _ _ _
    simp (config := {decide := true}) only [f_law_rank, K, ws_cons, ty_non, ty_bl, ty_int, ty_str, ty_tup, kit_tuple_NoneType, kit_tuple_bool, kit_tuple_int, kit_tuple_str, kit_tuple_tuple, kit_tuple_list, kit_list_NoneType, kit_list_bool, kit_list_int, kit_list_str, kit_list_tuple, kit_list_list, kit_int_NoneType, kit_int_bool, kit_int_int, kit_int_str, kit_int_tuple, kit_int_list, kit_bool_NoneType, kit_bool_bool, kit_bool_int, kit_bool_str, kit_bool_tuple, kit_bool_list, kit_str_NoneType, kit_str_bool, kit_str_int, kit_str_str, kit_str_tuple, kit_str_list, non_int, non_non, non_tup, non_str, non_ref, non_bl, ws_nil, ws_asg, ws_exp, ws_retS, ws_ifs, ws_pass, ws_raise, wr_slot, wr_cst, wr_nil, wr_cons, wr_tup, wr_lst, wr_dsp, wr_bin, wr_neg, ex_int, wr_not, wr_cmp, wr_and, wr_or, wr_ite, wr_isN, wr_notN, wr_ix, wr_sl, wr_prim, wr_lrg, wr_meth, wr_isT, wr_callE, wr_c0, wr_c1, wr_ok, m_lrg, m_addI, m_subI, m_mulI, m_divI, m_modI, m_powI, m_addT, m_addS, m_ltI, m_leI, m_gtI, m_geI, m_eq, m_ne, m_in, m_nin, eq_int, m_ixT, m_ixC, m_ixD, at_0, at_1, at_2, at_3, m_lenT, m_lenC, m_intI, m_intB, m_abs, m_max, m_min, m_tupT, m_listT, m_slT, m_slC, t_bl, t_int, t_non, t_tup, a_nm, a_tp, setSlots, partM, methFor, List.getElem?_cons_zero, List.getElem?_cons_succ, List.set_cons_zero, List.set_cons_succ, Option.some.injEq, exists_eq_left', true_and, and_true, eq_str, decide_eq_true_eq, ↓reduceIte, if_true, if_false, decide_true, decide_false, Bool.false_eq_true, ok_both, ok_case, ok_either, ok_first, ok_give, ok_k, ok_kp, ok_l, ok_left, ok_let, ok_name, ok_never, ok_none, ok_odd, ok_one, ok_other, ok_p, ok_pair, ok_r, ok_right, ok_second, ok_split, ok_star, ok_w, ok_way, ok_within, ok_without, ok_wrong, ok_yes, ok_no, ok_n, ok_led, ok_lr, ok_pp, ok_ppp, List.length_cons, List.length_nil, Nat.zero_add, Int.reduceSub, Int.reduceAdd, Int.reduceNeg, Int.reduceMul, Bool.not_true, Bool.not_false]
    refine ⟨true, eq_same rfl (by simp [depth, depths]), ?_⟩
    try simp (config := {decide := true}) only [ws_cons, ty_non, ty_bl, ty_int, ty_str, ty_tup, kit_tuple_NoneType, kit_tuple_bool, kit_tuple_int, kit_tuple_str, kit_tuple_tuple, kit_tuple_list, kit_list_NoneType, kit_list_bool, kit_list_int, kit_list_str, kit_list_tuple, kit_list_list, kit_int_NoneType, kit_int_bool, kit_int_int, kit_int_str, kit_int_tuple, kit_int_list, kit_bool_NoneType, kit_bool_bool, kit_bool_int, kit_bool_str, kit_bool_tuple, kit_bool_list, kit_str_NoneType, kit_str_bool, kit_str_int, kit_str_str, kit_str_tuple, kit_str_list, non_int, non_non, non_tup, non_str, non_ref, non_bl, ws_nil, ws_asg, ws_exp, ws_retS, ws_ifs, ws_pass, ws_raise, wr_slot, wr_cst, wr_nil, wr_cons, wr_tup, wr_lst, wr_dsp, wr_bin, wr_neg, ex_int, wr_not, wr_cmp, wr_and, wr_or, wr_ite, wr_isN, wr_notN, wr_ix, wr_sl, wr_prim, wr_lrg, wr_meth, wr_isT, wr_callE, wr_c0, wr_c1, wr_ok, m_lrg, m_addI, m_subI, m_mulI, m_divI, m_modI, m_powI, m_addT, m_addS, m_ltI, m_leI, m_gtI, m_geI, m_eq, m_ne, m_in, m_nin, eq_int, m_ixT, m_ixC, m_ixD, at_0, at_1, at_2, at_3, m_lenT, m_lenC, m_intI, m_intB, m_abs, m_max, m_min, m_tupT, m_listT, m_slT, m_slC, t_bl, t_int, t_non, t_tup, a_nm, a_tp, setSlots, partM, methFor, List.getElem?_cons_zero, List.getElem?_cons_succ, List.set_cons_zero, List.set_cons_succ, Option.some.injEq, exists_eq_left', true_and, and_true, eq_str, decide_eq_true_eq, ↓reduceIte, if_true, if_false, decide_true, decide_false, Bool.false_eq_true, ok_both, ok_case, ok_either, ok_first, ok_give, ok_k, ok_kp, ok_l, ok_left, ok_let, ok_name, ok_never, ok_none, ok_odd, ok_one, ok_other, ok_p, ok_pair, ok_r, ok_right, ok_second, ok_split, ok_star, ok_w, ok_way, ok_within, ok_without, ok_wrong, ok_yes, ok_no, ok_n, ok_led, ok_lr, ok_pp, ok_ppp, List.length_cons, List.length_nil, Nat.zero_add, Int.reduceSub, Int.reduceAdd, Int.reduceNeg, Int.reduceMul, Bool.not_true, Bool.not_false]
    rw [m_ixL get_new]
    try simp (config := {decide := true}) only [ws_cons, ty_non, ty_bl, ty_int, ty_str, ty_tup, kit_tuple_NoneType, kit_tuple_bool, kit_tuple_int, kit_tuple_str, kit_tuple_tuple, kit_tuple_list, kit_list_NoneType, kit_list_bool, kit_list_int, kit_list_str, kit_list_tuple, kit_list_list, kit_int_NoneType, kit_int_bool, kit_int_int, kit_int_str, kit_int_tuple, kit_int_list, kit_bool_NoneType, kit_bool_bool, kit_bool_int, kit_bool_str, kit_bool_tuple, kit_bool_list, kit_str_NoneType, kit_str_bool, kit_str_int, kit_str_str, kit_str_tuple, kit_str_list, non_int, non_non, non_tup, non_str, non_ref, non_bl, ws_nil, ws_asg, ws_exp, ws_retS, ws_ifs, ws_pass, ws_raise, wr_slot, wr_cst, wr_nil, wr_cons, wr_tup, wr_lst, wr_dsp, wr_bin, wr_neg, ex_int, wr_not, wr_cmp, wr_and, wr_or, wr_ite, wr_isN, wr_notN, wr_ix, wr_sl, wr_prim, wr_lrg, wr_meth, wr_isT, wr_callE, wr_c0, wr_c1, wr_ok, m_lrg, m_addI, m_subI, m_mulI, m_divI, m_modI, m_powI, m_addT, m_addS, m_ltI, m_leI, m_gtI, m_geI, m_eq, m_ne, m_in, m_nin, eq_int, m_ixT, m_ixC, m_ixD, at_0, at_1, at_2, at_3, m_lenT, m_lenC, m_intI, m_intB, m_abs, m_max, m_min, m_tupT, m_listT, m_slT, m_slC, t_bl, t_int, t_non, t_tup, a_nm, a_tp, setSlots, partM, methFor, List.getElem?_cons_zero, List.getElem?_cons_succ, List.set_cons_zero, List.set_cons_succ, Option.some.injEq, exists_eq_left', true_and, and_true, eq_str, decide_eq_true_eq, ↓reduceIte, if_true, if_false, decide_true, decide_false, Bool.false_eq_true, ok_both, ok_case, ok_either, ok_first, ok_give, ok_k, ok_kp, ok_l, ok_left, ok_let, ok_name, ok_never, ok_none, ok_odd, ok_one, ok_other, ok_p, ok_pair, ok_r, ok_right, ok_second, ok_split, ok_star, ok_w, ok_way, ok_within, ok_without, ok_wrong, ok_yes, ok_no, ok_n, ok_led, ok_lr, ok_pp, ok_ppp, List.length_cons, List.length_nil, Nat.zero_add, Int.reduceSub, Int.reduceAdd, Int.reduceNeg, Int.reduceMul, Bool.not_true, Bool.not_false]
    exact ⟨rfl, Kp.refl.app⟩
  | .either a b, r + 1, S, i, x, hk, hr, h => by
    have hr : 2 * (max a.dep b.dep + 1) + 3 ≤ r + 1 := hr
    rcases getL h with ⟨y, rfl, hy, hi⟩ | ⟨y, rfl, hy, hi⟩
    · refine wr_call (ws := [K (.either a b), .tup [.str "l", y]]) (f := f_law_rank) rfl rfl rfl ?_
      show Ws (execSs (conf T (r + 1)) f_law_rank.body [some (K (.either a b)), some (.tup [.str "l", y]), none, none, none] S) _ _ _
      simp (config := {decide := true}) only [f_law_rank, K, ws_cons, ty_non, ty_bl, ty_int, ty_str, ty_tup, kit_tuple_NoneType, kit_tuple_bool, kit_tuple_int, kit_tuple_str, kit_tuple_tuple, kit_tuple_list, kit_list_NoneType, kit_list_bool, kit_list_int, kit_list_str, kit_list_tuple, kit_list_list, kit_int_NoneType, kit_int_bool, kit_int_int, kit_int_str, kit_int_tuple, kit_int_list, kit_bool_NoneType, kit_bool_bool, kit_bool_int, kit_bool_str, kit_bool_tuple, kit_bool_list, kit_str_NoneType, kit_str_bool, kit_str_int, kit_str_str, kit_str_tuple, kit_str_list, non_int, non_non, non_tup, non_str, non_ref, non_bl, ws_nil, ws_asg, ws_exp, ws_retS, ws_ifs, ws_pass, ws_raise, wr_slot, wr_cst, wr_nil, wr_cons, wr_tup, wr_lst, wr_dsp, wr_bin, wr_neg, ex_int, wr_not, wr_cmp, wr_and, wr_or, wr_ite, wr_isN, wr_notN, wr_ix, wr_sl, wr_prim, wr_lrg, wr_meth, wr_isT, wr_callE, wr_c0, wr_c1, wr_ok, m_lrg, m_addI, m_subI, m_mulI, m_divI, m_modI, m_powI, m_addT, m_addS, m_ltI, m_leI, m_gtI, m_geI, m_eq, m_ne, m_in, m_nin, eq_int, m_ixT, m_ixC, m_ixD, at_0, at_1, at_2, at_3, m_lenT, m_lenC, m_intI, m_intB, m_abs, m_max, m_min, m_tupT, m_listT, m_slT, m_slC, t_bl, t_int, t_non, t_tup, a_nm, a_tp, setSlots, partM, methFor, List.getElem?_cons_zero, List.getElem?_cons_succ, List.set_cons_zero, List.set_cons_succ, Option.some.injEq, exists_eq_left', true_and, and_true, eq_str, decide_eq_true_eq, ↓reduceIte, if_true, if_false, decide_true, decide_false, Bool.false_eq_true, ok_both, ok_case, ok_either, ok_first, ok_give, ok_k, ok_kp, ok_l, ok_left, ok_let, ok_name, ok_never, ok_none, ok_odd, ok_one, ok_other, ok_p, ok_pair, ok_r, ok_right, ok_second, ok_split, ok_star, ok_w, ok_way, ok_within, ok_without, ok_wrong, ok_yes, ok_no, ok_n, ok_led, ok_lr, ok_pp, ok_ppp, List.length_cons, List.length_nil, Nat.zero_add, Int.reduceSub, Int.reduceAdd, Int.reduceNeg, Int.reduceMul, Bool.not_true, Bool.not_false, in_s2, in_s3, Bool.or_false, Bool.and_self, Bool.true_and, Bool.or_true, Bool.true_or, Bool.false_or]
      refine (sp_rank a r S i y hk.2.1 (by omega) hy).imp ?_ fun _ _ _ z => z.elim
      rintro v S1 ⟨rfl, k1⟩
      try simp (config := {decide := true}) only [ws_cons, ty_non, ty_bl, ty_int, ty_str, ty_tup, kit_tuple_NoneType, kit_tuple_bool, kit_tuple_int, kit_tuple_str, kit_tuple_tuple, kit_tuple_list, kit_list_NoneType, kit_list_bool, kit_list_int, kit_list_str, kit_list_tuple, kit_list_list, kit_int_NoneType, kit_int_bool, kit_int_int, kit_int_str, kit_int_tuple, kit_int_list, kit_bool_NoneType, kit_bool_bool, kit_bool_int, kit_bool_str, kit_bool_tuple, kit_bool_list, kit_str_NoneType, kit_str_bool, kit_str_int, kit_str_str, kit_str_tuple, kit_str_list, non_int, non_non, non_tup, non_str, non_ref, non_bl, ws_nil, ws_asg, ws_exp, ws_retS, ws_ifs, ws_pass, ws_raise, wr_slot, wr_cst, wr_nil, wr_cons, wr_tup, wr_lst, wr_dsp, wr_bin, wr_neg, ex_int, wr_not, wr_cmp, wr_and, wr_or, wr_ite, wr_isN, wr_notN, wr_ix, wr_sl, wr_prim, wr_lrg, wr_meth, wr_isT, wr_callE, wr_c0, wr_c1, wr_ok, m_lrg, m_addI, m_subI, m_mulI, m_divI, m_modI, m_powI, m_addT, m_addS, m_ltI, m_leI, m_gtI, m_geI, m_eq, m_ne, m_in, m_nin, eq_int, m_ixT, m_ixC, m_ixD, at_0, at_1, at_2, at_3, m_lenT, m_lenC, m_intI, m_intB, m_abs, m_max, m_min, m_tupT, m_listT, m_slT, m_slC, t_bl, t_int, t_non, t_tup, a_nm, a_tp, setSlots, partM, methFor, List.getElem?_cons_zero, List.getElem?_cons_succ, List.set_cons_zero, List.set_cons_succ, Option.some.injEq, exists_eq_left', true_and, and_true, eq_str, decide_eq_true_eq, ↓reduceIte, if_true, if_false, decide_true, decide_false, Bool.false_eq_true, ok_both, ok_case, ok_either, ok_first, ok_give, ok_k, ok_kp, ok_l, ok_left, ok_let, ok_name, ok_never, ok_none, ok_odd, ok_one, ok_other, ok_p, ok_pair, ok_r, ok_right, ok_second, ok_split, ok_star, ok_w, ok_way, ok_within, ok_without, ok_wrong, ok_yes, ok_no, ok_n, ok_led, ok_lr, ok_pp, ok_ppp, List.length_cons, List.length_nil, Nat.zero_add, Int.reduceSub, Int.reduceAdd, Int.reduceNeg, Int.reduceMul, Bool.not_true, Bool.not_false]
      exact k1
    · refine wr_call (ws := [K (.either a b), .tup [.str "r", y]]) (f := f_law_rank) rfl rfl rfl ?_
      show Ws (execSs (conf T (r + 1)) f_law_rank.body [some (K (.either a b)), some (.tup [.str "r", y]), none, none, none] S) _ _ _
      simp (config := {decide := true}) only [f_law_rank, K, ws_cons, ty_non, ty_bl, ty_int, ty_str, ty_tup, kit_tuple_NoneType, kit_tuple_bool, kit_tuple_int, kit_tuple_str, kit_tuple_tuple, kit_tuple_list, kit_list_NoneType, kit_list_bool, kit_list_int, kit_list_str, kit_list_tuple, kit_list_list, kit_int_NoneType, kit_int_bool, kit_int_int, kit_int_str, kit_int_tuple, kit_int_list, kit_bool_NoneType, kit_bool_bool, kit_bool_int, kit_bool_str, kit_bool_tuple, kit_bool_list, kit_str_NoneType, kit_str_bool, kit_str_int, kit_str_str, kit_str_tuple, kit_str_list, non_int, non_non, non_tup, non_str, non_ref, non_bl, ws_nil, ws_asg, ws_exp, ws_retS, ws_ifs, ws_pass, ws_raise, wr_slot, wr_cst, wr_nil, wr_cons, wr_tup, wr_lst, wr_dsp, wr_bin, wr_neg, ex_int, wr_not, wr_cmp, wr_and, wr_or, wr_ite, wr_isN, wr_notN, wr_ix, wr_sl, wr_prim, wr_lrg, wr_meth, wr_isT, wr_callE, wr_c0, wr_c1, wr_ok, m_lrg, m_addI, m_subI, m_mulI, m_divI, m_modI, m_powI, m_addT, m_addS, m_ltI, m_leI, m_gtI, m_geI, m_eq, m_ne, m_in, m_nin, eq_int, m_ixT, m_ixC, m_ixD, at_0, at_1, at_2, at_3, m_lenT, m_lenC, m_intI, m_intB, m_abs, m_max, m_min, m_tupT, m_listT, m_slT, m_slC, t_bl, t_int, t_non, t_tup, a_nm, a_tp, setSlots, partM, methFor, List.getElem?_cons_zero, List.getElem?_cons_succ, List.set_cons_zero, List.set_cons_succ, Option.some.injEq, exists_eq_left', true_and, and_true, eq_str, decide_eq_true_eq, ↓reduceIte, if_true, if_false, decide_true, decide_false, Bool.false_eq_true, ok_both, ok_case, ok_either, ok_first, ok_give, ok_k, ok_kp, ok_l, ok_left, ok_let, ok_name, ok_never, ok_none, ok_odd, ok_one, ok_other, ok_p, ok_pair, ok_r, ok_right, ok_second, ok_split, ok_star, ok_w, ok_way, ok_within, ok_without, ok_wrong, ok_yes, ok_no, ok_n, ok_led, ok_lr, ok_pp, ok_ppp, List.length_cons, List.length_nil, Nat.zero_add, Int.reduceSub, Int.reduceAdd, Int.reduceNeg, Int.reduceMul, Bool.not_true, Bool.not_false, in_s2, in_s3, Bool.or_false, Bool.and_self, Bool.true_and, Bool.or_true, Bool.true_or, Bool.false_or]
      refine (sp_rank b r S (i - a.cnt) y hk.2.2 (by omega) hy).imp ?_ fun _ _ _ z => z.elim
      rintro v S1 ⟨rfl, k1⟩
      try simp (config := {decide := true}) only [ws_cons, ty_non, ty_bl, ty_int, ty_str, ty_tup, kit_tuple_NoneType, kit_tuple_bool, kit_tuple_int, kit_tuple_str, kit_tuple_tuple, kit_tuple_list, kit_list_NoneType, kit_list_bool, kit_list_int, kit_list_str, kit_list_tuple, kit_list_list, kit_int_NoneType, kit_int_bool, kit_int_int, kit_int_str, kit_int_tuple, kit_int_list, kit_bool_NoneType, kit_bool_bool, kit_bool_int, kit_bool_str, kit_bool_tuple, kit_bool_list, kit_str_NoneType, kit_str_bool, kit_str_int, kit_str_str, kit_str_tuple, kit_str_list, non_int, non_non, non_tup, non_str, non_ref, non_bl, ws_nil, ws_asg, ws_exp, ws_retS, ws_ifs, ws_pass, ws_raise, wr_slot, wr_cst, wr_nil, wr_cons, wr_tup, wr_lst, wr_dsp, wr_bin, wr_neg, ex_int, wr_not, wr_cmp, wr_and, wr_or, wr_ite, wr_isN, wr_notN, wr_ix, wr_sl, wr_prim, wr_lrg, wr_meth, wr_isT, wr_callE, wr_c0, wr_c1, wr_ok, m_lrg, m_addI, m_subI, m_mulI, m_divI, m_modI, m_powI, m_addT, m_addS, m_ltI, m_leI, m_gtI, m_geI, m_eq, m_ne, m_in, m_nin, eq_int, m_ixT, m_ixC, m_ixD, at_0, at_1, at_2, at_3, m_lenT, m_lenC, m_intI, m_intB, m_abs, m_max, m_min, m_tupT, m_listT, m_slT, m_slC, t_bl, t_int, t_non, t_tup, a_nm, a_tp, setSlots, partM, methFor, List.getElem?_cons_zero, List.getElem?_cons_succ, List.set_cons_zero, List.set_cons_succ, Option.some.injEq, exists_eq_left', true_and, and_true, eq_str, decide_eq_true_eq, ↓reduceIte, if_true, if_false, decide_true, decide_false, Bool.false_eq_true, ok_both, ok_case, ok_either, ok_first, ok_give, ok_k, ok_kp, ok_l, ok_left, ok_let, ok_name, ok_never, ok_none, ok_odd, ok_one, ok_other, ok_p, ok_pair, ok_r, ok_right, ok_second, ok_split, ok_star, ok_w, ok_way, ok_within, ok_without, ok_wrong, ok_yes, ok_no, ok_n, ok_led, ok_lr, ok_pp, ok_ppp, List.length_cons, List.length_nil, Nat.zero_add, Int.reduceSub, Int.reduceAdd, Int.reduceNeg, Int.reduceMul, Bool.not_true, Bool.not_false]
      refine (sp_count hasA a r S1 hk.2.1.sub (by omega)).imp ?_ fun _ _ _ z => z.elim
      rintro v S2 ⟨rfl, rfl⟩
      try simp (config := {decide := true}) only [ws_cons, ty_non, ty_bl, ty_int, ty_str, ty_tup, kit_tuple_NoneType, kit_tuple_bool, kit_tuple_int, kit_tuple_str, kit_tuple_tuple, kit_tuple_list, kit_list_NoneType, kit_list_bool, kit_list_int, kit_list_str, kit_list_tuple, kit_list_list, kit_int_NoneType, kit_int_bool, kit_int_int, kit_int_str, kit_int_tuple, kit_int_list, kit_bool_NoneType, kit_bool_bool, kit_bool_int, kit_bool_str, kit_bool_tuple, kit_bool_list, kit_str_NoneType, kit_str_bool, kit_str_int, kit_str_str, kit_str_tuple, kit_str_list, non_int, non_non, non_tup, non_str, non_ref, non_bl, ws_nil, ws_asg, ws_exp, ws_retS, ws_ifs, ws_pass, ws_raise, wr_slot, wr_cst, wr_nil, wr_cons, wr_tup, wr_lst, wr_dsp, wr_bin, wr_neg, ex_int, wr_not, wr_cmp, wr_and, wr_or, wr_ite, wr_isN, wr_notN, wr_ix, wr_sl, wr_prim, wr_lrg, wr_meth, wr_isT, wr_callE, wr_c0, wr_c1, wr_ok, m_lrg, m_addI, m_subI, m_mulI, m_divI, m_modI, m_powI, m_addT, m_addS, m_ltI, m_leI, m_gtI, m_geI, m_eq, m_ne, m_in, m_nin, eq_int, m_ixT, m_ixC, m_ixD, at_0, at_1, at_2, at_3, m_lenT, m_lenC, m_intI, m_intB, m_abs, m_max, m_min, m_tupT, m_listT, m_slT, m_slC, t_bl, t_int, t_non, t_tup, a_nm, a_tp, setSlots, partM, methFor, List.getElem?_cons_zero, List.getElem?_cons_succ, List.set_cons_zero, List.set_cons_succ, Option.some.injEq, exists_eq_left', true_and, and_true, eq_str, decide_eq_true_eq, ↓reduceIte, if_true, if_false, decide_true, decide_false, Bool.false_eq_true, ok_both, ok_case, ok_either, ok_first, ok_give, ok_k, ok_kp, ok_l, ok_left, ok_let, ok_name, ok_never, ok_none, ok_odd, ok_one, ok_other, ok_p, ok_pair, ok_r, ok_right, ok_second, ok_split, ok_star, ok_w, ok_way, ok_within, ok_without, ok_wrong, ok_yes, ok_no, ok_n, ok_led, ok_lr, ok_pp, ok_ppp, List.length_cons, List.length_nil, Nat.zero_add, Int.reduceSub, Int.reduceAdd, Int.reduceNeg, Int.reduceMul, Bool.not_true, Bool.not_false]
      refine ⟨?_, k1⟩
      have : ((i - a.cnt : Nat) : Int) + (a.cnt : Nat) = (i : Nat) := by omega
      rw [this]
  | .both a b, r + 1, S, i, x, hk, hr, h => by
    have hr : 2 * (max a.dep b.dep + 1) + 3 ≤ r + 1 := hr
    obtain ⟨y, z, hy, hz, rfl⟩ := flat_at (f := fun x y => PV.tup [.str "p", x, y]) h
    rw [ths_len b] at hy hz
    have cb := hk.2.2.cnt
    refine wr_call (ws := [K (.both a b), .tup [.str "p", y, z]]) (f := f_law_rank) rfl rfl rfl ?_
    show Ws (execSs (conf T (r + 1)) f_law_rank.body [some (K (.both a b)), some (.tup [.str "p", y, z]), none, none, none] S) _ _ _
    simp (config := {decide := true}) only [f_law_rank, K, ws_cons, ty_non, ty_bl, ty_int, ty_str, ty_tup, kit_tuple_NoneType, kit_tuple_bool, kit_tuple_int, kit_tuple_str, kit_tuple_tuple, kit_tuple_list, kit_list_NoneType, kit_list_bool, kit_list_int, kit_list_str, kit_list_tuple, kit_list_list, kit_int_NoneType, kit_int_bool, kit_int_int, kit_int_str, kit_int_tuple, kit_int_list, kit_bool_NoneType, kit_bool_bool, kit_bool_int, kit_bool_str, kit_bool_tuple, kit_bool_list, kit_str_NoneType, kit_str_bool, kit_str_int, kit_str_str, kit_str_tuple, kit_str_list, non_int, non_non, non_tup, non_str, non_ref, non_bl, ws_nil, ws_asg, ws_exp, ws_retS, ws_ifs, ws_pass, ws_raise, wr_slot, wr_cst, wr_nil, wr_cons, wr_tup, wr_lst, wr_dsp, wr_bin, wr_neg, ex_int, wr_not, wr_cmp, wr_and, wr_or, wr_ite, wr_isN, wr_notN, wr_ix, wr_sl, wr_prim, wr_lrg, wr_meth, wr_isT, wr_callE, wr_c0, wr_c1, wr_ok, m_lrg, m_addI, m_subI, m_mulI, m_divI, m_modI, m_powI, m_addT, m_addS, m_ltI, m_leI, m_gtI, m_geI, m_eq, m_ne, m_in, m_nin, eq_int, m_ixT, m_ixC, m_ixD, at_0, at_1, at_2, at_3, m_lenT, m_lenC, m_intI, m_intB, m_abs, m_max, m_min, m_tupT, m_listT, m_slT, m_slC, t_bl, t_int, t_non, t_tup, a_nm, a_tp, setSlots, partM, methFor, List.getElem?_cons_zero, List.getElem?_cons_succ, List.set_cons_zero, List.set_cons_succ, Option.some.injEq, exists_eq_left', true_and, and_true, eq_str, decide_eq_true_eq, ↓reduceIte, if_true, if_false, decide_true, decide_false, Bool.false_eq_true, ok_both, ok_case, ok_either, ok_first, ok_give, ok_k, ok_kp, ok_l, ok_left, ok_let, ok_name, ok_never, ok_none, ok_odd, ok_one, ok_other, ok_p, ok_pair, ok_r, ok_right, ok_second, ok_split, ok_star, ok_w, ok_way, ok_within, ok_without, ok_wrong, ok_yes, ok_no, ok_n, ok_led, ok_lr, ok_pp, ok_ppp, List.length_cons, List.length_nil, Nat.zero_add, Int.reduceSub, Int.reduceAdd, Int.reduceNeg, Int.reduceMul, Bool.not_true, Bool.not_false, in_s2, in_s3, Bool.or_false, Bool.and_self, Bool.true_and, Bool.or_true, Bool.true_or, Bool.false_or]
    refine (sp_rank a r S _ y hk.2.1 (by omega) hy).imp ?_ fun _ _ _ z => z.elim
    rintro v S1 ⟨rfl, k1⟩
    refine (sp_rank b r S1 _ z hk.2.2 (by omega) hz).imp ?_ fun _ _ _ z => z.elim
    rintro v S2 ⟨rfl, k2⟩
    try simp (config := {decide := true}) only [ws_cons, ty_non, ty_bl, ty_int, ty_str, ty_tup, kit_tuple_NoneType, kit_tuple_bool, kit_tuple_int, kit_tuple_str, kit_tuple_tuple, kit_tuple_list, kit_list_NoneType, kit_list_bool, kit_list_int, kit_list_str, kit_list_tuple, kit_list_list, kit_int_NoneType, kit_int_bool, kit_int_int, kit_int_str, kit_int_tuple, kit_int_list, kit_bool_NoneType, kit_bool_bool, kit_bool_int, kit_bool_str, kit_bool_tuple, kit_bool_list, kit_str_NoneType, kit_str_bool, kit_str_int, kit_str_str, kit_str_tuple, kit_str_list, non_int, non_non, non_tup, non_str, non_ref, non_bl, ws_nil, ws_asg, ws_exp, ws_retS, ws_ifs, ws_pass, ws_raise, wr_slot, wr_cst, wr_nil, wr_cons, wr_tup, wr_lst, wr_dsp, wr_bin, wr_neg, ex_int, wr_not, wr_cmp, wr_and, wr_or, wr_ite, wr_isN, wr_notN, wr_ix, wr_sl, wr_prim, wr_lrg, wr_meth, wr_isT, wr_callE, wr_c0, wr_c1, wr_ok, m_lrg, m_addI, m_subI, m_mulI, m_divI, m_modI, m_powI, m_addT, m_addS, m_ltI, m_leI, m_gtI, m_geI, m_eq, m_ne, m_in, m_nin, eq_int, m_ixT, m_ixC, m_ixD, at_0, at_1, at_2, at_3, m_lenT, m_lenC, m_intI, m_intB, m_abs, m_max, m_min, m_tupT, m_listT, m_slT, m_slC, t_bl, t_int, t_non, t_tup, a_nm, a_tp, setSlots, partM, methFor, List.getElem?_cons_zero, List.getElem?_cons_succ, List.set_cons_zero, List.set_cons_succ, Option.some.injEq, exists_eq_left', true_and, and_true, eq_str, decide_eq_true_eq, ↓reduceIte, if_true, if_false, decide_true, decide_false, Bool.false_eq_true, ok_both, ok_case, ok_either, ok_first, ok_give, ok_k, ok_kp, ok_l, ok_left, ok_let, ok_name, ok_never, ok_none, ok_odd, ok_one, ok_other, ok_p, ok_pair, ok_r, ok_right, ok_second, ok_split, ok_star, ok_w, ok_way, ok_within, ok_without, ok_wrong, ok_yes, ok_no, ok_n, ok_led, ok_lr, ok_pp, ok_ppp, List.length_cons, List.length_nil, Nat.zero_add, Int.reduceSub, Int.reduceAdd, Int.reduceNeg, Int.reduceMul, Bool.not_true, Bool.not_false]
    refine (sp_count hasA b r S2 hk.2.2.sub (by omega)).imp ?_ fun _ _ _ z => z.elim
    rintro v S3 ⟨rfl, rfl⟩
    try simp (config := {decide := true}) only [ws_cons, ty_non, ty_bl, ty_int, ty_str, ty_tup, kit_tuple_NoneType, kit_tuple_bool, kit_tuple_int, kit_tuple_str, kit_tuple_tuple, kit_tuple_list, kit_list_NoneType, kit_list_bool, kit_list_int, kit_list_str, kit_list_tuple, kit_list_list, kit_int_NoneType, kit_int_bool, kit_int_int, kit_int_str, kit_int_tuple, kit_int_list, kit_bool_NoneType, kit_bool_bool, kit_bool_int, kit_bool_str, kit_bool_tuple, kit_bool_list, kit_str_NoneType, kit_str_bool, kit_str_int, kit_str_str, kit_str_tuple, kit_str_list, non_int, non_non, non_tup, non_str, non_ref, non_bl, ws_nil, ws_asg, ws_exp, ws_retS, ws_ifs, ws_pass, ws_raise, wr_slot, wr_cst, wr_nil, wr_cons, wr_tup, wr_lst, wr_dsp, wr_bin, wr_neg, ex_int, wr_not, wr_cmp, wr_and, wr_or, wr_ite, wr_isN, wr_notN, wr_ix, wr_sl, wr_prim, wr_lrg, wr_meth, wr_isT, wr_callE, wr_c0, wr_c1, wr_ok, m_lrg, m_addI, m_subI, m_mulI, m_divI, m_modI, m_powI, m_addT, m_addS, m_ltI, m_leI, m_gtI, m_geI, m_eq, m_ne, m_in, m_nin, eq_int, m_ixT, m_ixC, m_ixD, at_0, at_1, at_2, at_3, m_lenT, m_lenC, m_intI, m_intB, m_abs, m_max, m_min, m_tupT, m_listT, m_slT, m_slC, t_bl, t_int, t_non, t_tup, a_nm, a_tp, setSlots, partM, methFor, List.getElem?_cons_zero, List.getElem?_cons_succ, List.set_cons_zero, List.set_cons_succ, Option.some.injEq, exists_eq_left', true_and, and_true, eq_str, decide_eq_true_eq, ↓reduceIte, if_true, if_false, decide_true, decide_false, Bool.false_eq_true, ok_both, ok_case, ok_either, ok_first, ok_give, ok_k, ok_kp, ok_l, ok_left, ok_let, ok_name, ok_never, ok_none, ok_odd, ok_one, ok_other, ok_p, ok_pair, ok_r, ok_right, ok_second, ok_split, ok_star, ok_w, ok_way, ok_within, ok_without, ok_wrong, ok_yes, ok_no, ok_n, ok_led, ok_lr, ok_pp, ok_ppp, List.length_cons, List.length_nil, Nat.zero_add, Int.reduceSub, Int.reduceAdd, Int.reduceNeg, Int.reduceMul, Bool.not_true, Bool.not_false]
    refine ⟨mulOk_r (by omega), ?_, k1.trans k2⟩
    have := Nat.div_add_mod' i b.cnt
    rw [← Int.natCast_mul, ← Int.natCast_add, this]
  | .way a b, r + 1, S, i, x, hk, hr, h => by
    have hr : 2 * (max a.dep b.dep + 1) + 3 ≤ r + 1 := hr
    obtain ⟨r, rfl⟩ : ∃ r', r = r' + 1 := ⟨r - 1, by omega⟩
    have ca := hk.2.1.cnt
    have cb := hk.2.2.cnt
    have la := ths_len a
    have lb := ths_len b
    rw [ths, List.getElem?_map] at h
    cases q : (wys (ths b) (ths a).length)[i]? with
    | none => rw [q] at h; cases h
    | some u =>
      rw [q] at h
      obtain rfl := Option.some.inj h
      obtain ⟨js, hl, hj, rfl, hn⟩ := wys_at q
      refine wr_call (ws := [K (.way a b), .tup [.str "w", .tup (js.map fun j => (ths b).getD j .non)]]) (f := f_law_rank) rfl rfl rfl ?_
      show Ws (execSs (conf T (r + 1 + 1)) f_law_rank.body [some (K (.way a b)), some (.tup [.str "w", .tup (js.map fun j => (ths b).getD j .non)]), none, none, none] S) _ _ _
      simp (config := {decide := true}) only [f_law_rank, K, ws_cons, ty_non, ty_bl, ty_int, ty_str, ty_tup, kit_tuple_NoneType, kit_tuple_bool, kit_tuple_int, kit_tuple_str, kit_tuple_tuple, kit_tuple_list, kit_list_NoneType, kit_list_bool, kit_list_int, kit_list_str, kit_list_tuple, kit_list_list, kit_int_NoneType, kit_int_bool, kit_int_int, kit_int_str, kit_int_tuple, kit_int_list, kit_bool_NoneType, kit_bool_bool, kit_bool_int, kit_bool_str, kit_bool_tuple, kit_bool_list, kit_str_NoneType, kit_str_bool, kit_str_int, kit_str_str, kit_str_tuple, kit_str_list, non_int, non_non, non_tup, non_str, non_ref, non_bl, ws_nil, ws_asg, ws_exp, ws_retS, ws_ifs, ws_pass, ws_raise, wr_slot, wr_cst, wr_nil, wr_cons, wr_tup, wr_lst, wr_dsp, wr_bin, wr_neg, ex_int, wr_not, wr_cmp, wr_and, wr_or, wr_ite, wr_isN, wr_notN, wr_ix, wr_sl, wr_prim, wr_lrg, wr_meth, wr_isT, wr_callE, wr_c0, wr_c1, wr_ok, m_lrg, m_addI, m_subI, m_mulI, m_divI, m_modI, m_powI, m_addT, m_addS, m_ltI, m_leI, m_gtI, m_geI, m_eq, m_ne, m_in, m_nin, eq_int, m_ixT, m_ixC, m_ixD, at_0, at_1, at_2, at_3, m_lenT, m_lenC, m_intI, m_intB, m_abs, m_max, m_min, m_tupT, m_listT, m_slT, m_slC, t_bl, t_int, t_non, t_tup, a_nm, a_tp, setSlots, partM, methFor, List.getElem?_cons_zero, List.getElem?_cons_succ, List.set_cons_zero, List.set_cons_succ, Option.some.injEq, exists_eq_left', true_and, and_true, eq_str, decide_eq_true_eq, ↓reduceIte, if_true, if_false, decide_true, decide_false, Bool.false_eq_true, ok_both, ok_case, ok_either, ok_first, ok_give, ok_k, ok_kp, ok_l, ok_left, ok_let, ok_name, ok_never, ok_none, ok_odd, ok_one, ok_other, ok_p, ok_pair, ok_r, ok_right, ok_second, ok_split, ok_star, ok_w, ok_way, ok_within, ok_without, ok_wrong, ok_yes, ok_no, ok_n, ok_led, ok_lr, ok_pp, ok_ppp, List.length_cons, List.length_nil, Nat.zero_add, Int.reduceSub, Int.reduceAdd, Int.reduceNeg, Int.reduceMul, Bool.not_true, Bool.not_false, in_s2, in_s3, Bool.or_false, Bool.and_self, Bool.true_and, Bool.or_true, Bool.true_or, Bool.false_or]
      refine wr_call (r := r + 1) (ws := [K (.way a b), .tup [.str "w", .tup (js.map fun j => (ths b).getD j .non)]]) (f := f_law_row_rank) rfl rfl rfl ?_
      show Ws (execSs (conf T (r + 1)) f_law_row_rank.body [some (K (.way a b)), some (.tup [.str "w", .tup (js.map fun j => (ths b).getD j .non)]), none, none, none] S) _ _ _
      simp (config := {decide := true}) only [f_law_row_rank, K, ws_cons, ty_non, ty_bl, ty_int, ty_str, ty_tup, kit_tuple_NoneType, kit_tuple_bool, kit_tuple_int, kit_tuple_str, kit_tuple_tuple, kit_tuple_list, kit_list_NoneType, kit_list_bool, kit_list_int, kit_list_str, kit_list_tuple, kit_list_list, kit_int_NoneType, kit_int_bool, kit_int_int, kit_int_str, kit_int_tuple, kit_int_list, kit_bool_NoneType, kit_bool_bool, kit_bool_int, kit_bool_str, kit_bool_tuple, kit_bool_list, kit_str_NoneType, kit_str_bool, kit_str_int, kit_str_str, kit_str_tuple, kit_str_list, non_int, non_non, non_tup, non_str, non_ref, non_bl, ws_nil, ws_asg, ws_exp, ws_retS, ws_ifs, ws_pass, ws_raise, wr_slot, wr_cst, wr_nil, wr_cons, wr_tup, wr_lst, wr_dsp, wr_bin, wr_neg, ex_int, wr_not, wr_cmp, wr_and, wr_or, wr_ite, wr_isN, wr_notN, wr_ix, wr_sl, wr_prim, wr_lrg, wr_meth, wr_isT, wr_callE, wr_c0, wr_c1, wr_ok, m_lrg, m_addI, m_subI, m_mulI, m_divI, m_modI, m_powI, m_addT, m_addS, m_ltI, m_leI, m_gtI, m_geI, m_eq, m_ne, m_in, m_nin, eq_int, m_ixT, m_ixC, m_ixD, at_0, at_1, at_2, at_3, m_lenT, m_lenC, m_intI, m_intB, m_abs, m_max, m_min, m_tupT, m_listT, m_slT, m_slC, t_bl, t_int, t_non, t_tup, a_nm, a_tp, setSlots, partM, methFor, List.getElem?_cons_zero, List.getElem?_cons_succ, List.set_cons_zero, List.set_cons_succ, Option.some.injEq, exists_eq_left', true_and, and_true, eq_str, decide_eq_true_eq, ↓reduceIte, if_true, if_false, decide_true, decide_false, Bool.false_eq_true, ok_both, ok_case, ok_either, ok_first, ok_give, ok_k, ok_kp, ok_l, ok_left, ok_let, ok_name, ok_never, ok_none, ok_odd, ok_one, ok_other, ok_p, ok_pair, ok_r, ok_right, ok_second, ok_split, ok_star, ok_w, ok_way, ok_within, ok_without, ok_wrong, ok_yes, ok_no, ok_n, ok_led, ok_lr, ok_pp, ok_ppp, List.length_cons, List.length_nil, Nat.zero_add, Int.reduceSub, Int.reduceAdd, Int.reduceNeg, Int.reduceMul, Bool.not_true, Bool.not_false, in_s2, in_s3, Bool.or_false, Bool.and_self, Bool.true_and, Bool.or_true, Bool.true_or, Bool.false_or]
      refine (sp_count hasA a r S hk.2.1.sub (by omega)).imp ?_ fun _ _ _ z => z.elim
      rintro v S1 ⟨rfl, rfl⟩
      have e1 : ((js.map fun j => (ths b).getD j .non).length : Int) = (a.cnt : Nat) := by rw [List.length_map, hl, la]
      rw [e1]
      try simp (config := {decide := true}) only [ws_cons, ty_non, ty_bl, ty_int, ty_str, ty_tup, kit_tuple_NoneType, kit_tuple_bool, kit_tuple_int, kit_tuple_str, kit_tuple_tuple, kit_tuple_list, kit_list_NoneType, kit_list_bool, kit_list_int, kit_list_str, kit_list_tuple, kit_list_list, kit_int_NoneType, kit_int_bool, kit_int_int, kit_int_str, kit_int_tuple, kit_int_list, kit_bool_NoneType, kit_bool_bool, kit_bool_int, kit_bool_str, kit_bool_tuple, kit_bool_list, kit_str_NoneType, kit_str_bool, kit_str_int, kit_str_str, kit_str_tuple, kit_str_list, non_int, non_non, non_tup, non_str, non_ref, non_bl, ws_nil, ws_asg, ws_exp, ws_retS, ws_ifs, ws_pass, ws_raise, wr_slot, wr_cst, wr_nil, wr_cons, wr_tup, wr_lst, wr_dsp, wr_bin, wr_neg, ex_int, wr_not, wr_cmp, wr_and, wr_or, wr_ite, wr_isN, wr_notN, wr_ix, wr_sl, wr_prim, wr_lrg, wr_meth, wr_isT, wr_callE, wr_c0, wr_c1, wr_ok, m_lrg, m_addI, m_subI, m_mulI, m_divI, m_modI, m_powI, m_addT, m_addS, m_ltI, m_leI, m_gtI, m_geI, m_eq, m_ne, m_in, m_nin, eq_int, m_ixT, m_ixC, m_ixD, at_0, at_1, at_2, at_3, m_lenT, m_lenC, m_intI, m_intB, m_abs, m_max, m_min, m_tupT, m_listT, m_slT, m_slC, t_bl, t_int, t_non, t_tup, a_nm, a_tp, setSlots, partM, methFor, List.getElem?_cons_zero, List.getElem?_cons_succ, List.set_cons_zero, List.set_cons_succ, Option.some.injEq, exists_eq_left', true_and, and_true, eq_str, decide_eq_true_eq, ↓reduceIte, if_true, if_false, decide_true, decide_false, Bool.false_eq_true, ok_both, ok_case, ok_either, ok_first, ok_give, ok_k, ok_kp, ok_l, ok_left, ok_let, ok_name, ok_never, ok_none, ok_odd, ok_one, ok_other, ok_p, ok_pair, ok_r, ok_right, ok_second, ok_split, ok_star, ok_w, ok_way, ok_within, ok_without, ok_wrong, ok_yes, ok_no, ok_n, ok_led, ok_lr, ok_pp, ok_ppp, List.length_cons, List.length_nil, Nat.zero_add, Int.reduceSub, Int.reduceAdd, Int.reduceNeg, Int.reduceMul, Bool.not_true, Bool.not_false]
      refine ws_forI ?_
      try simp (config := {decide := true}) only [ws_cons, ty_non, ty_bl, ty_int, ty_str, ty_tup, kit_tuple_NoneType, kit_tuple_bool, kit_tuple_int, kit_tuple_str, kit_tuple_tuple, kit_tuple_list, kit_list_NoneType, kit_list_bool, kit_list_int, kit_list_str, kit_list_tuple, kit_list_list, kit_int_NoneType, kit_int_bool, kit_int_int, kit_int_str, kit_int_tuple, kit_int_list, kit_bool_NoneType, kit_bool_bool, kit_bool_int, kit_bool_str, kit_bool_tuple, kit_bool_list, kit_str_NoneType, kit_str_bool, kit_str_int, kit_str_str, kit_str_tuple, kit_str_list, non_int, non_non, non_tup, non_str, non_ref, non_bl, ws_nil, ws_asg, ws_exp, ws_retS, ws_ifs, ws_pass, ws_raise, wr_slot, wr_cst, wr_nil, wr_cons, wr_tup, wr_lst, wr_dsp, wr_bin, wr_neg, ex_int, wr_not, wr_cmp, wr_and, wr_or, wr_ite, wr_isN, wr_notN, wr_ix, wr_sl, wr_prim, wr_lrg, wr_meth, wr_isT, wr_callE, wr_c0, wr_c1, wr_ok, m_lrg, m_addI, m_subI, m_mulI, m_divI, m_modI, m_powI, m_addT, m_addS, m_ltI, m_leI, m_gtI, m_geI, m_eq, m_ne, m_in, m_nin, eq_int, m_ixT, m_ixC, m_ixD, at_0, at_1, at_2, at_3, m_lenT, m_lenC, m_intI, m_intB, m_abs, m_max, m_min, m_tupT, m_listT, m_slT, m_slC, t_bl, t_int, t_non, t_tup, a_nm, a_tp, setSlots, partM, methFor, List.getElem?_cons_zero, List.getElem?_cons_succ, List.set_cons_zero, List.set_cons_succ, Option.some.injEq, exists_eq_left', true_and, and_true, eq_str, decide_eq_true_eq, ↓reduceIte, if_true, if_false, decide_true, decide_false, Bool.false_eq_true, ok_both, ok_case, ok_either, ok_first, ok_give, ok_k, ok_kp, ok_l, ok_left, ok_let, ok_name, ok_never, ok_none, ok_odd, ok_one, ok_other, ok_p, ok_pair, ok_r, ok_right, ok_second, ok_split, ok_star, ok_w, ok_way, ok_within, ok_without, ok_wrong, ok_yes, ok_no, ok_n, ok_led, ok_lr, ok_pp, ok_ppp, List.length_cons, List.length_nil, Nat.zero_add, Int.reduceSub, Int.reduceAdd, Int.reduceNeg, Int.reduceMul, Bool.not_true, Bool.not_false]
      refine ⟨_, len_overT, fun pre e S2 => (∃ o3 o4, e = [some (.tup [.str "way", K a, K b]), some (.tup [.str "w", .tup (js.map fun j => (ths b).getD j .non)]), some (.int ((num b.cnt (js.take pre.length) : Nat))), o3, o4]) ∧ Kp [] S1 S2,
        ⟨⟨_, _, rfl⟩, Kp.refl⟩, ?_, fun _ _ _ _ => it_overT, ?_⟩
      · rintro e S2 ⟨⟨o3, o4, rfl⟩, k2⟩
        try simp (config := {decide := true}) only [ws_cons, ty_non, ty_bl, ty_int, ty_str, ty_tup, kit_tuple_NoneType, kit_tuple_bool, kit_tuple_int, kit_tuple_str, kit_tuple_tuple, kit_tuple_list, kit_list_NoneType, kit_list_bool, kit_list_int, kit_list_str, kit_list_tuple, kit_list_list, kit_int_NoneType, kit_int_bool, kit_int_int, kit_int_str, kit_int_tuple, kit_int_list, kit_bool_NoneType, kit_bool_bool, kit_bool_int, kit_bool_str, kit_bool_tuple, kit_bool_list, kit_str_NoneType, kit_str_bool, kit_str_int, kit_str_str, kit_str_tuple, kit_str_list, non_int, non_non, non_tup, non_str, non_ref, non_bl, ws_nil, ws_asg, ws_exp, ws_retS, ws_ifs, ws_pass, ws_raise, wr_slot, wr_cst, wr_nil, wr_cons, wr_tup, wr_lst, wr_dsp, wr_bin, wr_neg, ex_int, wr_not, wr_cmp, wr_and, wr_or, wr_ite, wr_isN, wr_notN, wr_ix, wr_sl, wr_prim, wr_lrg, wr_meth, wr_isT, wr_callE, wr_c0, wr_c1, wr_ok, m_lrg, m_addI, m_subI, m_mulI, m_divI, m_modI, m_powI, m_addT, m_addS, m_ltI, m_leI, m_gtI, m_geI, m_eq, m_ne, m_in, m_nin, eq_int, m_ixT, m_ixC, m_ixD, at_0, at_1, at_2, at_3, m_lenT, m_lenC, m_intI, m_intB, m_abs, m_max, m_min, m_tupT, m_listT, m_slT, m_slC, t_bl, t_int, t_non, t_tup, a_nm, a_tp, setSlots, partM, methFor, List.getElem?_cons_zero, List.getElem?_cons_succ, List.set_cons_zero, List.set_cons_succ, Option.some.injEq, exists_eq_left', true_and, and_true, eq_str, decide_eq_true_eq, ↓reduceIte, if_true, if_false, decide_true, decide_false, Bool.false_eq_true, ok_both, ok_case, ok_either, ok_first, ok_give, ok_k, ok_kp, ok_l, ok_left, ok_let, ok_name, ok_never, ok_none, ok_odd, ok_one, ok_other, ok_p, ok_pair, ok_r, ok_right, ok_second, ok_split, ok_star, ok_w, ok_way, ok_within, ok_without, ok_wrong, ok_yes, ok_no, ok_n, ok_led, ok_lr, ok_pp, ok_ppp, List.length_cons, List.length_nil, Nat.zero_add, Int.reduceSub, Int.reduceAdd, Int.reduceNeg, Int.reduceMul, Bool.not_true, Bool.not_false]
        refine ⟨?_, k2⟩
        rw [List.length_map, List.take_length, ← lb, hn]
      · rintro pre x suf e S2 hx ⟨⟨o3, o4, rfl⟩, k2⟩
        have hp : (js.map fun j => (ths b).getD j .non)[pre.length]? = some x := by rw [hx]; simp
        rw [List.getElem?_map] at hp
        cases qj : js[pre.length]? with
        | none => rw [qj] at hp; cases hp
        | some j =>
          rw [qj] at hp
          obtain rfl := Option.some.inj hp
          have hjl := hj j (List.mem_of_getElem? qj)
          have ex : (ths b)[j]? = some ((ths b).getD j .non) := by rw [List.getD_eq_getElem?_getD, List.getElem?_eq_getElem hjl]; rfl
          refine ⟨_, rfl, ?_⟩
          try simp (config := {decide := true}) only [ws_cons, ty_non, ty_bl, ty_int, ty_str, ty_tup, kit_tuple_NoneType, kit_tuple_bool, kit_tuple_int, kit_tuple_str, kit_tuple_tuple, kit_tuple_list, kit_list_NoneType, kit_list_bool, kit_list_int, kit_list_str, kit_list_tuple, kit_list_list, kit_int_NoneType, kit_int_bool, kit_int_int, kit_int_str, kit_int_tuple, kit_int_list, kit_bool_NoneType, kit_bool_bool, kit_bool_int, kit_bool_str, kit_bool_tuple, kit_bool_list, kit_str_NoneType, kit_str_bool, kit_str_int, kit_str_str, kit_str_tuple, kit_str_list, non_int, non_non, non_tup, non_str, non_ref, non_bl, ws_nil, ws_asg, ws_exp, ws_retS, ws_ifs, ws_pass, ws_raise, wr_slot, wr_cst, wr_nil, wr_cons, wr_tup, wr_lst, wr_dsp, wr_bin, wr_neg, ex_int, wr_not, wr_cmp, wr_and, wr_or, wr_ite, wr_isN, wr_notN, wr_ix, wr_sl, wr_prim, wr_lrg, wr_meth, wr_isT, wr_callE, wr_c0, wr_c1, wr_ok, m_lrg, m_addI, m_subI, m_mulI, m_divI, m_modI, m_powI, m_addT, m_addS, m_ltI, m_leI, m_gtI, m_geI, m_eq, m_ne, m_in, m_nin, eq_int, m_ixT, m_ixC, m_ixD, at_0, at_1, at_2, at_3, m_lenT, m_lenC, m_intI, m_intB, m_abs, m_max, m_min, m_tupT, m_listT, m_slT, m_slC, t_bl, t_int, t_non, t_tup, a_nm, a_tp, setSlots, partM, methFor, List.getElem?_cons_zero, List.getElem?_cons_succ, List.set_cons_zero, List.set_cons_succ, Option.some.injEq, exists_eq_left', true_and, and_true, eq_str, decide_eq_true_eq, ↓reduceIte, if_true, if_false, decide_true, decide_false, Bool.false_eq_true, ok_both, ok_case, ok_either, ok_first, ok_give, ok_k, ok_kp, ok_l, ok_left, ok_let, ok_name, ok_never, ok_none, ok_odd, ok_one, ok_other, ok_p, ok_pair, ok_r, ok_right, ok_second, ok_split, ok_star, ok_w, ok_way, ok_within, ok_without, ok_wrong, ok_yes, ok_no, ok_n, ok_led, ok_lr, ok_pp, ok_ppp, List.length_cons, List.length_nil, Nat.zero_add, Int.reduceSub, Int.reduceAdd, Int.reduceNeg, Int.reduceMul, Bool.not_true, Bool.not_false]
          refine (sp_rank b r S2 j _ hk.2.2 (by omega) ex).imp ?_ fun _ _ _ z => z.elim
          rintro v S3 ⟨rfl, k3⟩
          try simp (config := {decide := true}) only [ws_cons, ty_non, ty_bl, ty_int, ty_str, ty_tup, kit_tuple_NoneType, kit_tuple_bool, kit_tuple_int, kit_tuple_str, kit_tuple_tuple, kit_tuple_list, kit_list_NoneType, kit_list_bool, kit_list_int, kit_list_str, kit_list_tuple, kit_list_list, kit_int_NoneType, kit_int_bool, kit_int_int, kit_int_str, kit_int_tuple, kit_int_list, kit_bool_NoneType, kit_bool_bool, kit_bool_int, kit_bool_str, kit_bool_tuple, kit_bool_list, kit_str_NoneType, kit_str_bool, kit_str_int, kit_str_str, kit_str_tuple, kit_str_list, non_int, non_non, non_tup, non_str, non_ref, non_bl, ws_nil, ws_asg, ws_exp, ws_retS, ws_ifs, ws_pass, ws_raise, wr_slot, wr_cst, wr_nil, wr_cons, wr_tup, wr_lst, wr_dsp, wr_bin, wr_neg, ex_int, wr_not, wr_cmp, wr_and, wr_or, wr_ite, wr_isN, wr_notN, wr_ix, wr_sl, wr_prim, wr_lrg, wr_meth, wr_isT, wr_callE, wr_c0, wr_c1, wr_ok, m_lrg, m_addI, m_subI, m_mulI, m_divI, m_modI, m_powI, m_addT, m_addS, m_ltI, m_leI, m_gtI, m_geI, m_eq, m_ne, m_in, m_nin, eq_int, m_ixT, m_ixC, m_ixD, at_0, at_1, at_2, at_3, m_lenT, m_lenC, m_intI, m_intB, m_abs, m_max, m_min, m_tupT, m_listT, m_slT, m_slC, t_bl, t_int, t_non, t_tup, a_nm, a_tp, setSlots, partM, methFor, List.getElem?_cons_zero, List.getElem?_cons_succ, List.set_cons_zero, List.set_cons_succ, Option.some.injEq, exists_eq_left', true_and, and_true, eq_str, decide_eq_true_eq, ↓reduceIte, if_true, if_false, decide_true, decide_false, Bool.false_eq_true, ok_both, ok_case, ok_either, ok_first, ok_give, ok_k, ok_kp, ok_l, ok_left, ok_let, ok_name, ok_never, ok_none, ok_odd, ok_one, ok_other, ok_p, ok_pair, ok_r, ok_right, ok_second, ok_split, ok_star, ok_w, ok_way, ok_within, ok_without, ok_wrong, ok_yes, ok_no, ok_n, ok_led, ok_lr, ok_pp, ok_ppp, List.length_cons, List.length_nil, Nat.zero_add, Int.reduceSub, Int.reduceAdd, Int.reduceNeg, Int.reduceMul, Bool.not_true, Bool.not_false]
          refine (sp_count hasA b r S3 hk.2.2.sub (by omega)).imp ?_ fun _ _ _ z => z.elim
          rintro v S4 ⟨rfl, rfl⟩
          try simp (config := {decide := true}) only [ws_cons, ty_non, ty_bl, ty_int, ty_str, ty_tup, kit_tuple_NoneType, kit_tuple_bool, kit_tuple_int, kit_tuple_str, kit_tuple_tuple, kit_tuple_list, kit_list_NoneType, kit_list_bool, kit_list_int, kit_list_str, kit_list_tuple, kit_list_list, kit_int_NoneType, kit_int_bool, kit_int_int, kit_int_str, kit_int_tuple, kit_int_list, kit_bool_NoneType, kit_bool_bool, kit_bool_int, kit_bool_str, kit_bool_tuple, kit_bool_list, kit_str_NoneType, kit_str_bool, kit_str_int, kit_str_str, kit_str_tuple, kit_str_list, non_int, non_non, non_tup, non_str, non_ref, non_bl, ws_nil, ws_asg, ws_exp, ws_retS, ws_ifs, ws_pass, ws_raise, wr_slot, wr_cst, wr_nil, wr_cons, wr_tup, wr_lst, wr_dsp, wr_bin, wr_neg, ex_int, wr_not, wr_cmp, wr_and, wr_or, wr_ite, wr_isN, wr_notN, wr_ix, wr_sl, wr_prim, wr_lrg, wr_meth, wr_isT, wr_callE, wr_c0, wr_c1, wr_ok, m_lrg, m_addI, m_subI, m_mulI, m_divI, m_modI, m_powI, m_addT, m_addS, m_ltI, m_leI, m_gtI, m_geI, m_eq, m_ne, m_in, m_nin, eq_int, m_ixT, m_ixC, m_ixD, at_0, at_1, at_2, at_3, m_lenT, m_lenC, m_intI, m_intB, m_abs, m_max, m_min, m_tupT, m_listT, m_slT, m_slC, t_bl, t_int, t_non, t_tup, a_nm, a_tp, setSlots, partM, methFor, List.getElem?_cons_zero, List.getElem?_cons_succ, List.set_cons_zero, List.set_cons_succ, Option.some.injEq, exists_eq_left', true_and, and_true, eq_str, decide_eq_true_eq, ↓reduceIte, if_true, if_false, decide_true, decide_false, Bool.false_eq_true, ok_both, ok_case, ok_either, ok_first, ok_give, ok_k, ok_kp, ok_l, ok_left, ok_let, ok_name, ok_never, ok_none, ok_odd, ok_one, ok_other, ok_p, ok_pair, ok_r, ok_right, ok_second, ok_split, ok_star, ok_w, ok_way, ok_within, ok_without, ok_wrong, ok_yes, ok_no, ok_n, ok_led, ok_lr, ok_pp, ok_ppp, List.length_cons, List.length_nil, Nat.zero_add, Int.reduceSub, Int.reduceAdd, Int.reduceNeg, Int.reduceMul, Bool.not_true, Bool.not_false]
          refine ⟨mulOk_r (by omega), ⟨some ((ths b).getD j .non), some (.int (j : Nat)), ?_⟩, k2.trans k3⟩
          rw [List.length_append, List.length_singleton, List.take_succ, qj, Option.toList_some, num_snoc, Int.natCast_add, Int.natCast_mul]
theorem toD_ints (n : Nat) : ∀ ms : List Int, (ms.map PV.int).mapM (toD (n + 1) S) = some (ms.map PyData.int)
  | [] => rfl
  | m :: ms => by
    rw [List.map_cons, List.mapM_cons, toD_ints n ms]
    rfl
theorem lay_ints : ∀ ms : List Int, PyData.canLayAll0 (ms.map PyData.int) = true
  | [] => rfl
  | m :: ms => by simp only [List.map_cons, PyData.canLayAll0, PyData.canLay0, lay_ints ms, Bool.and_self]
theorem eqv_ints : ∀ ms : List Int, PyData.eqvAll (ms.map PyData.int) (ms.map PyData.int) = true
  | [] => rfl
  | m :: ms => by simp only [List.map_cons, PyData.eqvAll, PyData.eqv, eqv_ints ms, beq_self_eq_true, Bool.and_self]
theorem dep_ints (ms : List Int) : (PyData.list (ms.map PyData.int)).depth ≤ 150 := by
  have : ∀ ms : List Int, PyData.depthAll (ms.map PyData.int) ≤ 1 := fun ms => by
    induction ms with
    | nil => decide
    | cons m ms ih => simp only [List.map_cons, PyData.depthAll, PyData.depth]; omega
  have := this ms
  simp only [PyData.depth]
  omega
theorem eq_lists {a b : Nat} {ms : List Int} (h1 : S[a]? = some (.lst (ms.map .int))) (h2 : S[b]? = some (.lst (ms.map .int))) : eqM S (.ref a) (.ref b) = some true := by
  have e : ∀ {a : Nat}, S[a]? = some (.lst (ms.map .int)) → toD 160 S (.ref a) = some (.list (ms.map PyData.int)) := fun {a} h => by
    show (match S[a]? with
    | some (.lst xs) => (xs.mapM (toD 159 S)).map PyData.list
    | some (.ro xs) => (xs.mapM (toD 159 S)).map PyData.list
    | _ => none) = _
    rw [h]
    simp only [toD_ints 158, Option.map_some]
  unfold eqM
  rw [if_neg (by simp [clean])]
  simp only [e h1, e h2]
  rw [if_pos]
  · simp only [PyData.eqv, eqv_ints]
  · have := dep_ints ms
    simp only [PyData.canLay0, lay_ints, Nat.min_self, this, decide_true, Bool.and_self]
theorem sp_right {k : Kd} (hk : k.le 1000) (hd : k.dep ≤ 60) (hr : 2 * k.dep + 4 ≤ r) : Wr (callF T (r + 1) "_law_right" [K k] S) (fun v S' => v = .bl true ∧ Kp [] S S') nE := by
  obtain ⟨r, rfl⟩ : ∃ r', r = r' + 1 := ⟨r - 1, by omega⟩
  have lk := ths_len k
  have ck := hk.cnt
  refine wr_call (r := r + 1) (ws := [K k]) (f := f_law_right) rfl rfl rfl ?_
  show Ws (execSs (conf T (r + 1)) f_law_right.body [some (K k), none, none, none] S) _ _ _
  simp (config := {decide := true}) only [f_law_right, ws_cons, ty_non, ty_bl, ty_int, ty_str, ty_tup, kit_tuple_NoneType, kit_tuple_bool, kit_tuple_int, kit_tuple_str, kit_tuple_tuple, kit_tuple_list, kit_list_NoneType, kit_list_bool, kit_list_int, kit_list_str, kit_list_tuple, kit_list_list, kit_int_NoneType, kit_int_bool, kit_int_int, kit_int_str, kit_int_tuple, kit_int_list, kit_bool_NoneType, kit_bool_bool, kit_bool_int, kit_bool_str, kit_bool_tuple, kit_bool_list, kit_str_NoneType, kit_str_bool, kit_str_int, kit_str_str, kit_str_tuple, kit_str_list, non_int, non_non, non_tup, non_str, non_ref, non_bl, ws_nil, ws_asg, ws_exp, ws_retS, ws_ifs, ws_pass, ws_raise, wr_slot, wr_cst, wr_nil, wr_cons, wr_tup, wr_lst, wr_dsp, wr_bin, wr_neg, ex_int, wr_not, wr_cmp, wr_and, wr_or, wr_ite, wr_isN, wr_notN, wr_ix, wr_sl, wr_prim, wr_lrg, wr_meth, wr_isT, wr_callE, wr_c0, wr_c1, wr_ok, m_lrg, m_addI, m_subI, m_mulI, m_divI, m_modI, m_powI, m_addT, m_addS, m_ltI, m_leI, m_gtI, m_geI, m_eq, m_ne, m_in, m_nin, eq_int, m_ixT, m_ixC, m_ixD, at_0, at_1, at_2, at_3, m_lenT, m_lenC, m_intI, m_intB, m_abs, m_max, m_min, m_tupT, m_listT, m_slT, m_slC, t_bl, t_int, t_non, t_tup, a_nm, a_tp, setSlots, partM, methFor, List.getElem?_cons_zero, List.getElem?_cons_succ, List.set_cons_zero, List.set_cons_succ, Option.some.injEq, exists_eq_left', true_and, and_true, eq_str, decide_eq_true_eq, ↓reduceIte, if_true, if_false, decide_true, decide_false, Bool.false_eq_true, ok_both, ok_case, ok_either, ok_first, ok_give, ok_k, ok_kp, ok_l, ok_left, ok_let, ok_name, ok_never, ok_none, ok_odd, ok_one, ok_other, ok_p, ok_pair, ok_r, ok_right, ok_second, ok_split, ok_star, ok_w, ok_way, ok_within, ok_without, ok_wrong, ok_yes, ok_no, ok_n, ok_led, ok_lr, ok_pp, ok_ppp, List.length_cons, List.length_nil, Nat.zero_add, Int.reduceSub, Int.reduceAdd, Int.reduceNeg, Int.reduceMul, Bool.not_true, Bool.not_false]
  refine (sp_cnt (T := T) rfl k r S (hk.fit (by decide)) (by omega)).imp ?_ fun _ _ _ z => z.elim
  rintro v S1 ⟨rfl, rfl⟩
  try simp (config := {decide := true}) only [ws_cons, ty_non, ty_bl, ty_int, ty_str, ty_tup, kit_tuple_NoneType, kit_tuple_bool, kit_tuple_int, kit_tuple_str, kit_tuple_tuple, kit_tuple_list, kit_list_NoneType, kit_list_bool, kit_list_int, kit_list_str, kit_list_tuple, kit_list_list, kit_int_NoneType, kit_int_bool, kit_int_int, kit_int_str, kit_int_tuple, kit_int_list, kit_bool_NoneType, kit_bool_bool, kit_bool_int, kit_bool_str, kit_bool_tuple, kit_bool_list, kit_str_NoneType, kit_str_bool, kit_str_int, kit_str_str, kit_str_tuple, kit_str_list, non_int, non_non, non_tup, non_str, non_ref, non_bl, ws_nil, ws_asg, ws_exp, ws_retS, ws_ifs, ws_pass, ws_raise, wr_slot, wr_cst, wr_nil, wr_cons, wr_tup, wr_lst, wr_dsp, wr_bin, wr_neg, ex_int, wr_not, wr_cmp, wr_and, wr_or, wr_ite, wr_isN, wr_notN, wr_ix, wr_sl, wr_prim, wr_lrg, wr_meth, wr_isT, wr_callE, wr_c0, wr_c1, wr_ok, m_lrg, m_addI, m_subI, m_mulI, m_divI, m_modI, m_powI, m_addT, m_addS, m_ltI, m_leI, m_gtI, m_geI, m_eq, m_ne, m_in, m_nin, eq_int, m_ixT, m_ixC, m_ixD, at_0, at_1, at_2, at_3, m_lenT, m_lenC, m_intI, m_intB, m_abs, m_max, m_min, m_tupT, m_listT, m_slT, m_slC, t_bl, t_int, t_non, t_tup, a_nm, a_tp, setSlots, partM, methFor, List.getElem?_cons_zero, List.getElem?_cons_succ, List.set_cons_zero, List.set_cons_succ, Option.some.injEq, exists_eq_left', true_and, and_true, eq_str, decide_eq_true_eq, ↓reduceIte, if_true, if_false, decide_true, decide_false, Bool.false_eq_true, ok_both, ok_case, ok_either, ok_first, ok_give, ok_k, ok_kp, ok_l, ok_left, ok_let, ok_name, ok_never, ok_none, ok_odd, ok_one, ok_other, ok_p, ok_pair, ok_r, ok_right, ok_second, ok_split, ok_star, ok_w, ok_way, ok_within, ok_without, ok_wrong, ok_yes, ok_no, ok_n, ok_led, ok_lr, ok_pp, ok_ppp, List.length_cons, List.length_nil, Nat.zero_add, Int.reduceSub, Int.reduceAdd, Int.reduceNeg, Int.reduceMul, Bool.not_true, Bool.not_false]
  refine (sp_count hasA k r S1 hk.sub (by omega)).imp ?_ fun _ _ _ z => z.elim
  rintro v S2 ⟨rfl, rfl⟩
  try simp (config := {decide := true}) only [ws_cons, ty_non, ty_bl, ty_int, ty_str, ty_tup, kit_tuple_NoneType, kit_tuple_bool, kit_tuple_int, kit_tuple_str, kit_tuple_tuple, kit_tuple_list, kit_list_NoneType, kit_list_bool, kit_list_int, kit_list_str, kit_list_tuple, kit_list_list, kit_int_NoneType, kit_int_bool, kit_int_int, kit_int_str, kit_int_tuple, kit_int_list, kit_bool_NoneType, kit_bool_bool, kit_bool_int, kit_bool_str, kit_bool_tuple, kit_bool_list, kit_str_NoneType, kit_str_bool, kit_str_int, kit_str_str, kit_str_tuple, kit_str_list, non_int, non_non, non_tup, non_str, non_ref, non_bl, ws_nil, ws_asg, ws_exp, ws_retS, ws_ifs, ws_pass, ws_raise, wr_slot, wr_cst, wr_nil, wr_cons, wr_tup, wr_lst, wr_dsp, wr_bin, wr_neg, ex_int, wr_not, wr_cmp, wr_and, wr_or, wr_ite, wr_isN, wr_notN, wr_ix, wr_sl, wr_prim, wr_lrg, wr_meth, wr_isT, wr_callE, wr_c0, wr_c1, wr_ok, m_lrg, m_addI, m_subI, m_mulI, m_divI, m_modI, m_powI, m_addT, m_addS, m_ltI, m_leI, m_gtI, m_geI, m_eq, m_ne, m_in, m_nin, eq_int, m_ixT, m_ixC, m_ixD, at_0, at_1, at_2, at_3, m_lenT, m_lenC, m_intI, m_intB, m_abs, m_max, m_min, m_tupT, m_listT, m_slT, m_slC, t_bl, t_int, t_non, t_tup, a_nm, a_tp, setSlots, partM, methFor, List.getElem?_cons_zero, List.getElem?_cons_succ, List.set_cons_zero, List.set_cons_succ, Option.some.injEq, exists_eq_left', true_and, and_true, eq_str, decide_eq_true_eq, ↓reduceIte, if_true, if_false, decide_true, decide_false, Bool.false_eq_true, ok_both, ok_case, ok_either, ok_first, ok_give, ok_k, ok_kp, ok_l, ok_left, ok_let, ok_name, ok_never, ok_none, ok_odd, ok_one, ok_other, ok_p, ok_pair, ok_r, ok_right, ok_second, ok_split, ok_star, ok_w, ok_way, ok_within, ok_without, ok_wrong, ok_yes, ok_no, ok_n, ok_led, ok_lr, ok_pp, ok_ppp, List.length_cons, List.length_nil, Nat.zero_add, Int.reduceSub, Int.reduceAdd, Int.reduceNeg, Int.reduceMul, Bool.not_true, Bool.not_false]
  refine (sp_things hasThs k r S2 hk (by omega)).imp ?_ fun _ _ _ z => z.elim
  rintro v S3 ⟨n3, rfl, l3, k3, d3⟩
  refine ⟨_, ty_lst d3, ?_⟩
  try simp (config := {decide := true}) only [ws_cons, ty_non, ty_bl, ty_int, ty_str, ty_tup, kit_tuple_NoneType, kit_tuple_bool, kit_tuple_int, kit_tuple_str, kit_tuple_tuple, kit_tuple_list, kit_list_NoneType, kit_list_bool, kit_list_int, kit_list_str, kit_list_tuple, kit_list_list, kit_int_NoneType, kit_int_bool, kit_int_int, kit_int_str, kit_int_tuple, kit_int_list, kit_bool_NoneType, kit_bool_bool, kit_bool_int, kit_bool_str, kit_bool_tuple, kit_bool_list, kit_str_NoneType, kit_str_bool, kit_str_int, kit_str_str, kit_str_tuple, kit_str_list, non_int, non_non, non_tup, non_str, non_ref, non_bl, ws_nil, ws_asg, ws_exp, ws_retS, ws_ifs, ws_pass, ws_raise, wr_slot, wr_cst, wr_nil, wr_cons, wr_tup, wr_lst, wr_dsp, wr_bin, wr_neg, ex_int, wr_not, wr_cmp, wr_and, wr_or, wr_ite, wr_isN, wr_notN, wr_ix, wr_sl, wr_prim, wr_lrg, wr_meth, wr_isT, wr_callE, wr_c0, wr_c1, wr_ok, m_lrg, m_addI, m_subI, m_mulI, m_divI, m_modI, m_powI, m_addT, m_addS, m_ltI, m_leI, m_gtI, m_geI, m_eq, m_ne, m_in, m_nin, eq_int, m_ixT, m_ixC, m_ixD, at_0, at_1, at_2, at_3, m_lenT, m_lenC, m_intI, m_intB, m_abs, m_max, m_min, m_tupT, m_listT, m_slT, m_slC, t_bl, t_int, t_non, t_tup, a_nm, a_tp, setSlots, partM, methFor, List.getElem?_cons_zero, List.getElem?_cons_succ, List.set_cons_zero, List.set_cons_succ, Option.some.injEq, exists_eq_left', true_and, and_true, eq_str, decide_eq_true_eq, ↓reduceIte, if_true, if_false, decide_true, decide_false, Bool.false_eq_true, ok_both, ok_case, ok_either, ok_first, ok_give, ok_k, ok_kp, ok_l, ok_left, ok_let, ok_name, ok_never, ok_none, ok_odd, ok_one, ok_other, ok_p, ok_pair, ok_r, ok_right, ok_second, ok_split, ok_star, ok_w, ok_way, ok_within, ok_without, ok_wrong, ok_yes, ok_no, ok_n, ok_led, ok_lr, ok_pp, ok_ppp, List.length_cons, List.length_nil, Nat.zero_add, Int.reduceSub, Int.reduceAdd, Int.reduceNeg, Int.reduceMul, Bool.not_true, Bool.not_false]
  refine wr_compI ?_
  try simp (config := {decide := true}) only [ws_cons, ty_non, ty_bl, ty_int, ty_str, ty_tup, kit_tuple_NoneType, kit_tuple_bool, kit_tuple_int, kit_tuple_str, kit_tuple_tuple, kit_tuple_list, kit_list_NoneType, kit_list_bool, kit_list_int, kit_list_str, kit_list_tuple, kit_list_list, kit_int_NoneType, kit_int_bool, kit_int_int, kit_int_str, kit_int_tuple, kit_int_list, kit_bool_NoneType, kit_bool_bool, kit_bool_int, kit_bool_str, kit_bool_tuple, kit_bool_list, kit_str_NoneType, kit_str_bool, kit_str_int, kit_str_str, kit_str_tuple, kit_str_list, non_int, non_non, non_tup, non_str, non_ref, non_bl, ws_nil, ws_asg, ws_exp, ws_retS, ws_ifs, ws_pass, ws_raise, wr_slot, wr_cst, wr_nil, wr_cons, wr_tup, wr_lst, wr_dsp, wr_bin, wr_neg, ex_int, wr_not, wr_cmp, wr_and, wr_or, wr_ite, wr_isN, wr_notN, wr_ix, wr_sl, wr_prim, wr_lrg, wr_meth, wr_isT, wr_callE, wr_c0, wr_c1, wr_ok, m_lrg, m_addI, m_subI, m_mulI, m_divI, m_modI, m_powI, m_addT, m_addS, m_ltI, m_leI, m_gtI, m_geI, m_eq, m_ne, m_in, m_nin, eq_int, m_ixT, m_ixC, m_ixD, at_0, at_1, at_2, at_3, m_lenT, m_lenC, m_intI, m_intB, m_abs, m_max, m_min, m_tupT, m_listT, m_slT, m_slC, t_bl, t_int, t_non, t_tup, a_nm, a_tp, setSlots, partM, methFor, List.getElem?_cons_zero, List.getElem?_cons_succ, List.set_cons_zero, List.set_cons_succ, Option.some.injEq, exists_eq_left', true_and, and_true, eq_str, decide_eq_true_eq, ↓reduceIte, if_true, if_false, decide_true, decide_false, Bool.false_eq_true, ok_both, ok_case, ok_either, ok_first, ok_give, ok_k, ok_kp, ok_l, ok_left, ok_let, ok_name, ok_never, ok_none, ok_odd, ok_one, ok_other, ok_p, ok_pair, ok_r, ok_right, ok_second, ok_split, ok_star, ok_w, ok_way, ok_within, ok_without, ok_wrong, ok_yes, ok_no, ok_n, ok_led, ok_lr, ok_pp, ok_ppp, List.length_cons, List.length_nil, Nat.zero_add, Int.reduceSub, Int.reduceAdd, Int.reduceNeg, Int.reduceMul, Bool.not_true, Bool.not_false]
  refine ⟨_, len_overL d3, big (by omega), fun pre l S4 => l = ((List.range pre.length).map fun j : Nat => (j : Int)).map PV.int ∧ Kp [] S3 S4 ∧ S4[S3.length]? = some (.lst l), ⟨rfl, Kp.refl.app, get_new⟩, ?_, ?_, ?_⟩
  · rintro l S4 ⟨rfl, k4, d4⟩
    try simp (config := {decide := true}) only [ws_cons, ty_non, ty_bl, ty_int, ty_str, ty_tup, kit_tuple_NoneType, kit_tuple_bool, kit_tuple_int, kit_tuple_str, kit_tuple_tuple, kit_tuple_list, kit_list_NoneType, kit_list_bool, kit_list_int, kit_list_str, kit_list_tuple, kit_list_list, kit_int_NoneType, kit_int_bool, kit_int_int, kit_int_str, kit_int_tuple, kit_int_list, kit_bool_NoneType, kit_bool_bool, kit_bool_int, kit_bool_str, kit_bool_tuple, kit_bool_list, kit_str_NoneType, kit_str_bool, kit_str_int, kit_str_str, kit_str_tuple, kit_str_list, non_int, non_non, non_tup, non_str, non_ref, non_bl, ws_nil, ws_asg, ws_exp, ws_retS, ws_ifs, ws_pass, ws_raise, wr_slot, wr_cst, wr_nil, wr_cons, wr_tup, wr_lst, wr_dsp, wr_bin, wr_neg, ex_int, wr_not, wr_cmp, wr_and, wr_or, wr_ite, wr_isN, wr_notN, wr_ix, wr_sl, wr_prim, wr_lrg, wr_meth, wr_isT, wr_callE, wr_c0, wr_c1, wr_ok, m_lrg, m_addI, m_subI, m_mulI, m_divI, m_modI, m_powI, m_addT, m_addS, m_ltI, m_leI, m_gtI, m_geI, m_eq, m_ne, m_in, m_nin, eq_int, m_ixT, m_ixC, m_ixD, at_0, at_1, at_2, at_3, m_lenT, m_lenC, m_intI, m_intB, m_abs, m_max, m_min, m_tupT, m_listT, m_slT, m_slC, t_bl, t_int, t_non, t_tup, a_nm, a_tp, setSlots, partM, methFor, List.getElem?_cons_zero, List.getElem?_cons_succ, List.set_cons_zero, List.set_cons_succ, Option.some.injEq, exists_eq_left', true_and, and_true, eq_str, decide_eq_true_eq, ↓reduceIte, if_true, if_false, decide_true, decide_false, Bool.false_eq_true, ok_both, ok_case, ok_either, ok_first, ok_give, ok_k, ok_kp, ok_l, ok_left, ok_let, ok_name, ok_never, ok_none, ok_odd, ok_one, ok_other, ok_p, ok_pair, ok_r, ok_right, ok_second, ok_split, ok_star, ok_w, ok_way, ok_within, ok_without, ok_wrong, ok_yes, ok_no, ok_n, ok_led, ok_lr, ok_pp, ok_ppp, List.length_cons, List.length_nil, Nat.zero_add, Int.reduceSub, Int.reduceAdd, Int.reduceNeg, Int.reduceMul, Bool.not_true, Bool.not_false]
    refine ⟨by omega, ?_⟩
    have er : rangeP 0 ((k.cnt : Nat) : Int).toNat = ((List.range (ths k).length).map fun j : Nat => (j : Int)).map PV.int := by
      rw [Int.toNat_natCast, lk]
      unfold rangeP
      rw [List.map_map]
      congr 1
      funext j
      simp
    rw [er]
    refine ⟨true, eq_lists (get_app d4) get_new, ?_⟩
    try simp (config := {decide := true}) only [ws_cons, ty_non, ty_bl, ty_int, ty_str, ty_tup, kit_tuple_NoneType, kit_tuple_bool, kit_tuple_int, kit_tuple_str, kit_tuple_tuple, kit_tuple_list, kit_list_NoneType, kit_list_bool, kit_list_int, kit_list_str, kit_list_tuple, kit_list_list, kit_int_NoneType, kit_int_bool, kit_int_int, kit_int_str, kit_int_tuple, kit_int_list, kit_bool_NoneType, kit_bool_bool, kit_bool_int, kit_bool_str, kit_bool_tuple, kit_bool_list, kit_str_NoneType, kit_str_bool, kit_str_int, kit_str_str, kit_str_tuple, kit_str_list, non_int, non_non, non_tup, non_str, non_ref, non_bl, ws_nil, ws_asg, ws_exp, ws_retS, ws_ifs, ws_pass, ws_raise, wr_slot, wr_cst, wr_nil, wr_cons, wr_tup, wr_lst, wr_dsp, wr_bin, wr_neg, ex_int, wr_not, wr_cmp, wr_and, wr_or, wr_ite, wr_isN, wr_notN, wr_ix, wr_sl, wr_prim, wr_lrg, wr_meth, wr_isT, wr_callE, wr_c0, wr_c1, wr_ok, m_lrg, m_addI, m_subI, m_mulI, m_divI, m_modI, m_powI, m_addT, m_addS, m_ltI, m_leI, m_gtI, m_geI, m_eq, m_ne, m_in, m_nin, eq_int, m_ixT, m_ixC, m_ixD, at_0, at_1, at_2, at_3, m_lenT, m_lenC, m_intI, m_intB, m_abs, m_max, m_min, m_tupT, m_listT, m_slT, m_slC, t_bl, t_int, t_non, t_tup, a_nm, a_tp, setSlots, partM, methFor, List.getElem?_cons_zero, List.getElem?_cons_succ, List.set_cons_zero, List.set_cons_succ, Option.some.injEq, exists_eq_left', true_and, and_true, eq_str, decide_eq_true_eq, ↓reduceIte, if_true, if_false, decide_true, decide_false, Bool.false_eq_true, ok_both, ok_case, ok_either, ok_first, ok_give, ok_k, ok_kp, ok_l, ok_left, ok_let, ok_name, ok_never, ok_none, ok_odd, ok_one, ok_other, ok_p, ok_pair, ok_r, ok_right, ok_second, ok_split, ok_star, ok_w, ok_way, ok_within, ok_without, ok_wrong, ok_yes, ok_no, ok_n, ok_led, ok_lr, ok_pp, ok_ppp, List.length_cons, List.length_nil, Nat.zero_add, Int.reduceSub, Int.reduceAdd, Int.reduceNeg, Int.reduceMul, Bool.not_true, Bool.not_false]
    have d3' := get_app (g := [Cell.lst (((List.range (ths k).length).map fun j : Nat => (j : Int)).map PV.int)]) (k4.get d3 (by simp))
    rw [m_app d3']
    refine ⟨big (by omega), ?_⟩
    have hn3 : n3 < S3.length := get_lt d3
    have k5 : Kp [] S2 (S4 ++ [Cell.lst (((List.range (ths k).length).map fun j : Nat => (j : Int)).map PV.int)]) := (k3.trans k4).app
    refine (sp_things hasThs k r _ hk (by omega)).imp ?_ fun _ _ _ z => z.elim
    rintro v S6 ⟨n6, rfl, l6, k6, d6⟩
    rw [m_lenL d6, lk]
    try simp (config := {decide := true}) only [ws_cons, ty_non, ty_bl, ty_int, ty_str, ty_tup, kit_tuple_NoneType, kit_tuple_bool, kit_tuple_int, kit_tuple_str, kit_tuple_tuple, kit_tuple_list, kit_list_NoneType, kit_list_bool, kit_list_int, kit_list_str, kit_list_tuple, kit_list_list, kit_int_NoneType, kit_int_bool, kit_int_int, kit_int_str, kit_int_tuple, kit_int_list, kit_bool_NoneType, kit_bool_bool, kit_bool_int, kit_bool_str, kit_bool_tuple, kit_bool_list, kit_str_NoneType, kit_str_bool, kit_str_int, kit_str_str, kit_str_tuple, kit_str_list, non_int, non_non, non_tup, non_str, non_ref, non_bl, ws_nil, ws_asg, ws_exp, ws_retS, ws_ifs, ws_pass, ws_raise, wr_slot, wr_cst, wr_nil, wr_cons, wr_tup, wr_lst, wr_dsp, wr_bin, wr_neg, ex_int, wr_not, wr_cmp, wr_and, wr_or, wr_ite, wr_isN, wr_notN, wr_ix, wr_sl, wr_prim, wr_lrg, wr_meth, wr_isT, wr_callE, wr_c0, wr_c1, wr_ok, m_lrg, m_addI, m_subI, m_mulI, m_divI, m_modI, m_powI, m_addT, m_addS, m_ltI, m_leI, m_gtI, m_geI, m_eq, m_ne, m_in, m_nin, eq_int, m_ixT, m_ixC, m_ixD, at_0, at_1, at_2, at_3, m_lenT, m_lenC, m_intI, m_intB, m_abs, m_max, m_min, m_tupT, m_listT, m_slT, m_slC, t_bl, t_int, t_non, t_tup, a_nm, a_tp, setSlots, partM, methFor, List.getElem?_cons_zero, List.getElem?_cons_succ, List.set_cons_zero, List.set_cons_succ, Option.some.injEq, exists_eq_left', true_and, and_true, eq_str, decide_eq_true_eq, ↓reduceIte, if_true, if_false, decide_true, decide_false, Bool.false_eq_true, ok_both, ok_case, ok_either, ok_first, ok_give, ok_k, ok_kp, ok_l, ok_left, ok_let, ok_name, ok_never, ok_none, ok_odd, ok_one, ok_other, ok_p, ok_pair, ok_r, ok_right, ok_second, ok_split, ok_star, ok_w, ok_way, ok_within, ok_without, ok_wrong, ok_yes, ok_no, ok_n, ok_led, ok_lr, ok_pp, ok_ppp, List.length_cons, List.length_nil, Nat.zero_add, Int.reduceSub, Int.reduceAdd, Int.reduceNeg, Int.reduceMul, Bool.not_true, Bool.not_false]
    exact (k5.set (.inr l3)).trans k6
  · rintro pre l S4 ⟨rfl, k4, d4⟩
    exact ⟨d4, it_over (k4.get d3 (by simp))⟩
  · rintro pre x suf l S4 hx ⟨rfl, k4, d4⟩
    have hp : (ths k)[pre.length]? = some x := by rw [hx]; simp
    refine ⟨_, rfl, ?_⟩
    simp (config := {decide := true}) only [ws_cons, ty_non, ty_bl, ty_int, ty_str, ty_tup, kit_tuple_NoneType, kit_tuple_bool, kit_tuple_int, kit_tuple_str, kit_tuple_tuple, kit_tuple_list, kit_list_NoneType, kit_list_bool, kit_list_int, kit_list_str, kit_list_tuple, kit_list_list, kit_int_NoneType, kit_int_bool, kit_int_int, kit_int_str, kit_int_tuple, kit_int_list, kit_bool_NoneType, kit_bool_bool, kit_bool_int, kit_bool_str, kit_bool_tuple, kit_bool_list, kit_str_NoneType, kit_str_bool, kit_str_int, kit_str_str, kit_str_tuple, kit_str_list, non_int, non_non, non_tup, non_str, non_ref, non_bl, ws_nil, ws_asg, ws_exp, ws_retS, ws_ifs, ws_pass, ws_raise, wr_slot, wr_cst, wr_nil, wr_cons, wr_tup, wr_lst, wr_dsp, wr_bin, wr_neg, ex_int, wr_not, wr_cmp, wr_and, wr_or, wr_ite, wr_isN, wr_notN, wr_ix, wr_sl, wr_prim, wr_lrg, wr_meth, wr_isT, wr_callE, wr_c0, wr_c1, wr_ok, m_lrg, m_addI, m_subI, m_mulI, m_divI, m_modI, m_powI, m_addT, m_addS, m_ltI, m_leI, m_gtI, m_geI, m_eq, m_ne, m_in, m_nin, eq_int, m_ixT, m_ixC, m_ixD, at_0, at_1, at_2, at_3, m_lenT, m_lenC, m_intI, m_intB, m_abs, m_max, m_min, m_tupT, m_listT, m_slT, m_slC, t_bl, t_int, t_non, t_tup, a_nm, a_tp, setSlots, partM, methFor, List.getElem?_cons_zero, List.getElem?_cons_succ, List.set_cons_zero, List.set_cons_succ, Option.some.injEq, exists_eq_left', true_and, and_true, eq_str, decide_eq_true_eq, ↓reduceIte, if_true, if_false, decide_true, decide_false, Bool.false_eq_true, ok_both, ok_case, ok_either, ok_first, ok_give, ok_k, ok_kp, ok_l, ok_left, ok_let, ok_name, ok_never, ok_none, ok_odd, ok_one, ok_other, ok_p, ok_pair, ok_r, ok_right, ok_second, ok_split, ok_star, ok_w, ok_way, ok_within, ok_without, ok_wrong, ok_yes, ok_no, ok_n, ok_led, ok_lr, ok_pp, ok_ppp, List.length_cons, List.length_nil, Nat.zero_add, Int.reduceSub, Int.reduceAdd, Int.reduceNeg, Int.reduceMul, Bool.not_true, Bool.not_false, wipeE]
    refine (sp_rank k r S4 pre.length x hk (by omega) hp).imp ?_ fun _ _ _ z => z.elim
    rintro v S5 ⟨rfl, k5⟩
    refine ⟨k5.get d4 (by simp), ?_, (k4.trans k5).set (.inr (Nat.le_refl _)), get_set (k5.get d4 (by simp))⟩
    rw [List.length_append, List.length_singleton, List.range_succ, List.map_append, List.map_append]
    rfl
/-- what stands below a kind's word -/
def parts : Kd → List Kd
  | .either a b => [a, b]
  | .both a b => [a, b]
  | .way a b => [a, b]
  | _ => []
theorem K_parts (k : Kd) : ∃ t, K k = .tup (t :: (parts k).map K) := by cases k <;> exact ⟨_, rfl⟩
theorem cut_1 (x : PV) (xs : List PV) : cutP (x :: xs) (some 1) none = xs := by
  unfold cutP
  have h1 : HT.sIx (x :: xs).length 0 (some 1) = 1 := by
    have := HT.sIx_nat (x :: xs).length 0 1
    rw [show (some 1 : Option Int) = some ((1 : Nat) : Int) from rfl, this, List.length_cons]
    omega
  rw [h1]
  show (xs.take (xs.length + 1 - 1)) = xs
  simp
theorem le_parts {k : Kd} {m : Nat} (h : k.le m) : ∀ p ∈ parts k, p.le m ∧ p.dep ≤ k.dep := by
  cases k <;> simp only [parts, List.mem_cons, List.not_mem_nil, or_false] <;> intro p hp
  · cases hp
  · cases hp
  · rcases hp with rfl | rfl
    · exact ⟨h.2.1, by simp only [Kd.dep]; omega⟩
    · exact ⟨h.2.2, by simp only [Kd.dep]; omega⟩
  · rcases hp with rfl | rfl
    · exact ⟨h.2.1, by simp only [Kd.dep]; omega⟩
    · exact ⟨h.2.2, by simp only [Kd.dep]; omega⟩
  · rcases hp with rfl | rfl
    · exact ⟨h.2.1, by simp only [Kd.dep]; omega⟩
    · exact ⟨h.2.2, by simp only [Kd.dep]; omega⟩
theorem mulOk_g {i j : Nat} (h : i.log2 + j.log2 < 900000) : mulOk (i : Nat) (j : Nat) = true := by
  unfold mulOk
  simp only [Int.natAbs_natCast, h, decide_true, Bool.or_true]
theorem log_lt {n k : Nat} (h : n < 2 ^ k) (hk : 0 < k) : n.log2 < k := by
  by_cases hn : n = 0
  · subst hn; simpa using hk
  · exact (Nat.log2_lt hn).mpr h
theorem great_lt {c : Nat} (hc : c ≤ 100) : (c * c) ^ c < 2 ^ 1400 := by
  have h1 : c * c ≤ 10000 := Nat.le_trans (Nat.mul_le_mul hc hc) (by decide)
  have h2 : (c * c) ^ c ≤ 10000 ^ 100 := Nat.le_trans (Nat.pow_le_pow_left h1 c) (Nat.pow_le_pow_right (by decide) hc)
  have h3 : 10000 ^ 100 < 2 ^ 1400 := by decide +kernel
  omega
def rest : Sms := match f_law.body with
  | .cons _ (.cons _ (.cons _ r)) => r
  | _ => .nil
theorem tail (ns : List Int) (k : Kd) (d : Nat) (S : Store) (o3 : Option PV) (hk : k.le 100) (hd : k.dep ≤ 5) :
    Ws (execSs (conf T 220) rest [some (.con (ns.map .int)), some (.ref d), some (K k), o3, none, none, none, none] S) (fun _ _ => False) (fun v _ => v = .bl true) nS := by
  have hk' : k.le 1000 := hk.mono (by decide)
  have hc := hk.cnt
  have hg := great_lt hc
  have hgl := log_lt hg (by decide)
  have hgl2 : (k.cnt + (k.cnt * k.cnt) ^ k.cnt).log2 < 1401 := log_lt (by
    have e : (2 : Nat) ^ 1401 = 2 ^ 1400 + 2 ^ 1400 := by decide +kernel
    rw [e]
    exact Nat.add_lt_add (Nat.lt_of_le_of_lt hc (by decide +kernel)) hg) (by decide)
  clear hg
  obtain ⟨t, et⟩ := K_parts k
  simp (config := {decide := true}) only [rest, f_law]
  simp (config := {decide := true}) only [ws_cons, ty_non, ty_bl, ty_int, ty_str, ty_tup, kit_tuple_NoneType, kit_tuple_bool, kit_tuple_int, kit_tuple_str, kit_tuple_tuple, kit_tuple_list, kit_list_NoneType, kit_list_bool, kit_list_int, kit_list_str, kit_list_tuple, kit_list_list, kit_int_NoneType, kit_int_bool, kit_int_int, kit_int_str, kit_int_tuple, kit_int_list, kit_bool_NoneType, kit_bool_bool, kit_bool_int, kit_bool_str, kit_bool_tuple, kit_bool_list, kit_str_NoneType, kit_str_bool, kit_str_int, kit_str_str, kit_str_tuple, kit_str_list, non_int, non_non, non_tup, non_str, non_ref, non_bl, ws_nil, ws_asg, ws_exp, ws_retS, ws_ifs, ws_pass, ws_raise, wr_slot, wr_cst, wr_nil, wr_cons, wr_tup, wr_lst, wr_dsp, wr_bin, wr_neg, ex_int, wr_not, wr_cmp, wr_and, wr_or, wr_ite, wr_isN, wr_notN, wr_ix, wr_sl, wr_prim, wr_lrg, wr_meth, wr_isT, wr_callE, wr_c0, wr_c1, wr_ok, m_lrg, m_addI, m_subI, m_mulI, m_divI, m_modI, m_powI, m_addT, m_addS, m_ltI, m_leI, m_gtI, m_geI, m_eq, m_ne, m_in, m_nin, eq_int, m_ixT, m_ixC, m_ixD, at_0, at_1, at_2, at_3, m_lenT, m_lenC, m_intI, m_intB, m_abs, m_max, m_min, m_tupT, m_listT, m_slT, m_slC, t_bl, t_int, t_non, t_tup, a_nm, a_tp, setSlots, partM, methFor, List.getElem?_cons_zero, List.getElem?_cons_succ, List.set_cons_zero, List.set_cons_succ, Option.some.injEq, exists_eq_left', true_and, and_true, eq_str, decide_eq_true_eq, ↓reduceIte, if_true, if_false, decide_true, decide_false, Bool.false_eq_true, ok_both, ok_case, ok_either, ok_first, ok_give, ok_k, ok_kp, ok_l, ok_left, ok_let, ok_name, ok_never, ok_none, ok_odd, ok_one, ok_other, ok_p, ok_pair, ok_r, ok_right, ok_second, ok_split, ok_star, ok_w, ok_way, ok_within, ok_without, ok_wrong, ok_yes, ok_no, ok_n, ok_led, ok_lr, ok_pp, ok_ppp, List.length_cons, List.length_nil, Nat.zero_add, Int.reduceSub, Int.reduceAdd, Int.reduceNeg, Int.reduceMul, Bool.not_true, Bool.not_false]
  refine ws_forI ?_
  simp (config := {decide := true}) only [ws_cons, ty_non, ty_bl, ty_int, ty_str, ty_tup, kit_tuple_NoneType, kit_tuple_bool, kit_tuple_int, kit_tuple_str, kit_tuple_tuple, kit_tuple_list, kit_list_NoneType, kit_list_bool, kit_list_int, kit_list_str, kit_list_tuple, kit_list_list, kit_int_NoneType, kit_int_bool, kit_int_int, kit_int_str, kit_int_tuple, kit_int_list, kit_bool_NoneType, kit_bool_bool, kit_bool_int, kit_bool_str, kit_bool_tuple, kit_bool_list, kit_str_NoneType, kit_str_bool, kit_str_int, kit_str_str, kit_str_tuple, kit_str_list, non_int, non_non, non_tup, non_str, non_ref, non_bl, ws_nil, ws_asg, ws_exp, ws_retS, ws_ifs, ws_pass, ws_raise, wr_slot, wr_cst, wr_nil, wr_cons, wr_tup, wr_lst, wr_dsp, wr_bin, wr_neg, ex_int, wr_not, wr_cmp, wr_and, wr_or, wr_ite, wr_isN, wr_notN, wr_ix, wr_sl, wr_prim, wr_lrg, wr_meth, wr_isT, wr_callE, wr_c0, wr_c1, wr_ok, m_lrg, m_addI, m_subI, m_mulI, m_divI, m_modI, m_powI, m_addT, m_addS, m_ltI, m_leI, m_gtI, m_geI, m_eq, m_ne, m_in, m_nin, eq_int, m_ixT, m_ixC, m_ixD, at_0, at_1, at_2, at_3, m_lenT, m_lenC, m_intI, m_intB, m_abs, m_max, m_min, m_tupT, m_listT, m_slT, m_slC, t_bl, t_int, t_non, t_tup, a_nm, a_tp, setSlots, partM, methFor, List.getElem?_cons_zero, List.getElem?_cons_succ, List.set_cons_zero, List.set_cons_succ, Option.some.injEq, exists_eq_left', true_and, and_true, eq_str, decide_eq_true_eq, ↓reduceIte, if_true, if_false, decide_true, decide_false, Bool.false_eq_true, ok_both, ok_case, ok_either, ok_first, ok_give, ok_k, ok_kp, ok_l, ok_left, ok_let, ok_name, ok_never, ok_none, ok_odd, ok_one, ok_other, ok_p, ok_pair, ok_r, ok_right, ok_second, ok_split, ok_star, ok_w, ok_way, ok_within, ok_without, ok_wrong, ok_yes, ok_no, ok_n, ok_led, ok_lr, ok_pp, ok_ppp, List.length_cons, List.length_nil, Nat.zero_add, Int.reduceSub, Int.reduceAdd, Int.reduceNeg, Int.reduceMul, Bool.not_true, Bool.not_false]
  rw [et]
  simp (config := {decide := true}) only [ws_cons, ty_non, ty_bl, ty_int, ty_str, ty_tup, kit_tuple_NoneType, kit_tuple_bool, kit_tuple_int, kit_tuple_str, kit_tuple_tuple, kit_tuple_list, kit_list_NoneType, kit_list_bool, kit_list_int, kit_list_str, kit_list_tuple, kit_list_list, kit_int_NoneType, kit_int_bool, kit_int_int, kit_int_str, kit_int_tuple, kit_int_list, kit_bool_NoneType, kit_bool_bool, kit_bool_int, kit_bool_str, kit_bool_tuple, kit_bool_list, kit_str_NoneType, kit_str_bool, kit_str_int, kit_str_str, kit_str_tuple, kit_str_list, non_int, non_non, non_tup, non_str, non_ref, non_bl, ws_nil, ws_asg, ws_exp, ws_retS, ws_ifs, ws_pass, ws_raise, wr_slot, wr_cst, wr_nil, wr_cons, wr_tup, wr_lst, wr_dsp, wr_bin, wr_neg, ex_int, wr_not, wr_cmp, wr_and, wr_or, wr_ite, wr_isN, wr_notN, wr_ix, wr_sl, wr_prim, wr_lrg, wr_meth, wr_isT, wr_callE, wr_c0, wr_c1, wr_ok, m_lrg, m_addI, m_subI, m_mulI, m_divI, m_modI, m_powI, m_addT, m_addS, m_ltI, m_leI, m_gtI, m_geI, m_eq, m_ne, m_in, m_nin, eq_int, m_ixT, m_ixC, m_ixD, at_0, at_1, at_2, at_3, m_lenT, m_lenC, m_intI, m_intB, m_abs, m_max, m_min, m_tupT, m_listT, m_slT, m_slC, t_bl, t_int, t_non, t_tup, a_nm, a_tp, setSlots, partM, methFor, List.getElem?_cons_zero, List.getElem?_cons_succ, List.set_cons_zero, List.set_cons_succ, Option.some.injEq, exists_eq_left', true_and, and_true, eq_str, decide_eq_true_eq, ↓reduceIte, if_true, if_false, decide_true, decide_false, Bool.false_eq_true, ok_both, ok_case, ok_either, ok_first, ok_give, ok_k, ok_kp, ok_l, ok_left, ok_let, ok_name, ok_never, ok_none, ok_odd, ok_one, ok_other, ok_p, ok_pair, ok_r, ok_right, ok_second, ok_split, ok_star, ok_w, ok_way, ok_within, ok_without, ok_wrong, ok_yes, ok_no, ok_n, ok_led, ok_lr, ok_pp, ok_ppp, List.length_cons, List.length_nil, Nat.zero_add, Int.reduceSub, Int.reduceAdd, Int.reduceNeg, Int.reduceMul, Bool.not_true, Bool.not_false]
  rw [cut_1, ← et]
  have hpl : (parts k).length ≤ 2 := by cases k <;> simp [parts]
  have hit : [K k] ++ (parts k).map K ++ [K k] = (k :: (parts k ++ [k])).map K := by simp
  try simp (config := {decide := true}) only [ws_cons, ty_non, ty_bl, ty_int, ty_str, ty_tup, kit_tuple_NoneType, kit_tuple_bool, kit_tuple_int, kit_tuple_str, kit_tuple_tuple, kit_tuple_list, kit_list_NoneType, kit_list_bool, kit_list_int, kit_list_str, kit_list_tuple, kit_list_list, kit_int_NoneType, kit_int_bool, kit_int_int, kit_int_str, kit_int_tuple, kit_int_list, kit_bool_NoneType, kit_bool_bool, kit_bool_int, kit_bool_str, kit_bool_tuple, kit_bool_list, kit_str_NoneType, kit_str_bool, kit_str_int, kit_str_str, kit_str_tuple, kit_str_list, non_int, non_non, non_tup, non_str, non_ref, non_bl, ws_nil, ws_asg, ws_exp, ws_retS, ws_ifs, ws_pass, ws_raise, wr_slot, wr_cst, wr_nil, wr_cons, wr_tup, wr_lst, wr_dsp, wr_bin, wr_neg, ex_int, wr_not, wr_cmp, wr_and, wr_or, wr_ite, wr_isN, wr_notN, wr_ix, wr_sl, wr_prim, wr_lrg, wr_meth, wr_isT, wr_callE, wr_c0, wr_c1, wr_ok, m_lrg, m_addI, m_subI, m_mulI, m_divI, m_modI, m_powI, m_addT, m_addS, m_ltI, m_leI, m_gtI, m_geI, m_eq, m_ne, m_in, m_nin, eq_int, m_ixT, m_ixC, m_ixD, at_0, at_1, at_2, at_3, m_lenT, m_lenC, m_intI, m_intB, m_abs, m_max, m_min, m_tupT, m_listT, m_slT, m_slC, t_bl, t_int, t_non, t_tup, a_nm, a_tp, setSlots, partM, methFor, List.getElem?_cons_zero, List.getElem?_cons_succ, List.set_cons_zero, List.set_cons_succ, Option.some.injEq, exists_eq_left', true_and, and_true, eq_str, decide_eq_true_eq, ↓reduceIte, if_true, if_false, decide_true, decide_false, Bool.false_eq_true, ok_both, ok_case, ok_either, ok_first, ok_give, ok_k, ok_kp, ok_l, ok_left, ok_let, ok_name, ok_never, ok_none, ok_odd, ok_one, ok_other, ok_p, ok_pair, ok_r, ok_right, ok_second, ok_split, ok_star, ok_w, ok_way, ok_within, ok_without, ok_wrong, ok_yes, ok_no, ok_n, ok_led, ok_lr, ok_pp, ok_ppp, List.length_cons, List.length_nil, Nat.zero_add, Int.reduceSub, Int.reduceAdd, Int.reduceNeg, Int.reduceMul, Bool.not_true, Bool.not_false]
  refine ⟨big (by rw [List.length_map]; omega), big (by simp only [List.length_append, List.length_map, List.length_cons, List.length_nil]; omega), ?_⟩
  rw [hit]
  refine ⟨_, len_overT, fun pre e S1 => ∃ o4, e = [some (.con (ns.map .int)), some (.ref d), some (K k), o3, o4, none, none, none], ⟨_, rfl⟩, ?_, fun _ _ _ _ => it_overT, ?_⟩
  · rintro e S1 ⟨o4, rfl⟩
    simp (config := {decide := true}) only [ws_cons, ty_non, ty_bl, ty_int, ty_str, ty_tup, kit_tuple_NoneType, kit_tuple_bool, kit_tuple_int, kit_tuple_str, kit_tuple_tuple, kit_tuple_list, kit_list_NoneType, kit_list_bool, kit_list_int, kit_list_str, kit_list_tuple, kit_list_list, kit_int_NoneType, kit_int_bool, kit_int_int, kit_int_str, kit_int_tuple, kit_int_list, kit_bool_NoneType, kit_bool_bool, kit_bool_int, kit_bool_str, kit_bool_tuple, kit_bool_list, kit_str_NoneType, kit_str_bool, kit_str_int, kit_str_str, kit_str_tuple, kit_str_list, non_int, non_non, non_tup, non_str, non_ref, non_bl, ws_nil, ws_asg, ws_exp, ws_retS, ws_ifs, ws_pass, ws_raise, wr_slot, wr_cst, wr_nil, wr_cons, wr_tup, wr_lst, wr_dsp, wr_bin, wr_neg, ex_int, wr_not, wr_cmp, wr_and, wr_or, wr_ite, wr_isN, wr_notN, wr_ix, wr_sl, wr_prim, wr_lrg, wr_meth, wr_isT, wr_callE, wr_c0, wr_c1, wr_ok, m_lrg, m_addI, m_subI, m_mulI, m_divI, m_modI, m_powI, m_addT, m_addS, m_ltI, m_leI, m_gtI, m_geI, m_eq, m_ne, m_in, m_nin, eq_int, m_ixT, m_ixC, m_ixD, at_0, at_1, at_2, at_3, m_lenT, m_lenC, m_intI, m_intB, m_abs, m_max, m_min, m_tupT, m_listT, m_slT, m_slC, t_bl, t_int, t_non, t_tup, a_nm, a_tp, setSlots, partM, methFor, List.getElem?_cons_zero, List.getElem?_cons_succ, List.set_cons_zero, List.set_cons_succ, Option.some.injEq, exists_eq_left', true_and, and_true, eq_str, decide_eq_true_eq, ↓reduceIte, if_true, if_false, decide_true, decide_false, Bool.false_eq_true, ok_both, ok_case, ok_either, ok_first, ok_give, ok_k, ok_kp, ok_l, ok_left, ok_let, ok_name, ok_never, ok_none, ok_odd, ok_one, ok_other, ok_p, ok_pair, ok_r, ok_right, ok_second, ok_split, ok_star, ok_w, ok_way, ok_within, ok_without, ok_wrong, ok_yes, ok_no, ok_n, ok_led, ok_lr, ok_pp, ok_ppp, List.length_cons, List.length_nil, Nat.zero_add, Int.reduceSub, Int.reduceAdd, Int.reduceNeg, Int.reduceMul, Bool.not_true, Bool.not_false]
    refine (sp_count hasA k 219 S1 hk'.sub (by omega)).imp ?_ fun _ _ _ z => z.elim
    rintro v S2 ⟨rfl, rfl⟩
    simp (config := {decide := true}) only [ws_cons, ty_non, ty_bl, ty_int, ty_str, ty_tup, kit_tuple_NoneType, kit_tuple_bool, kit_tuple_int, kit_tuple_str, kit_tuple_tuple, kit_tuple_list, kit_list_NoneType, kit_list_bool, kit_list_int, kit_list_str, kit_list_tuple, kit_list_list, kit_int_NoneType, kit_int_bool, kit_int_int, kit_int_str, kit_int_tuple, kit_int_list, kit_bool_NoneType, kit_bool_bool, kit_bool_int, kit_bool_str, kit_bool_tuple, kit_bool_list, kit_str_NoneType, kit_str_bool, kit_str_int, kit_str_str, kit_str_tuple, kit_str_list, non_int, non_non, non_tup, non_str, non_ref, non_bl, ws_nil, ws_asg, ws_exp, ws_retS, ws_ifs, ws_pass, ws_raise, wr_slot, wr_cst, wr_nil, wr_cons, wr_tup, wr_lst, wr_dsp, wr_bin, wr_neg, ex_int, wr_not, wr_cmp, wr_and, wr_or, wr_ite, wr_isN, wr_notN, wr_ix, wr_sl, wr_prim, wr_lrg, wr_meth, wr_isT, wr_callE, wr_c0, wr_c1, wr_ok, m_lrg, m_addI, m_subI, m_mulI, m_divI, m_modI, m_powI, m_addT, m_addS, m_ltI, m_leI, m_gtI, m_geI, m_eq, m_ne, m_in, m_nin, eq_int, m_ixT, m_ixC, m_ixD, at_0, at_1, at_2, at_3, m_lenT, m_lenC, m_intI, m_intB, m_abs, m_max, m_min, m_tupT, m_listT, m_slT, m_slC, t_bl, t_int, t_non, t_tup, a_nm, a_tp, setSlots, partM, methFor, List.getElem?_cons_zero, List.getElem?_cons_succ, List.set_cons_zero, List.set_cons_succ, Option.some.injEq, exists_eq_left', true_and, and_true, eq_str, decide_eq_true_eq, ↓reduceIte, if_true, if_false, decide_true, decide_false, Bool.false_eq_true, ok_both, ok_case, ok_either, ok_first, ok_give, ok_k, ok_kp, ok_l, ok_left, ok_let, ok_name, ok_never, ok_none, ok_odd, ok_one, ok_other, ok_p, ok_pair, ok_r, ok_right, ok_second, ok_split, ok_star, ok_w, ok_way, ok_within, ok_without, ok_wrong, ok_yes, ok_no, ok_n, ok_led, ok_lr, ok_pp, ok_ppp, List.length_cons, List.length_nil, Nat.zero_add, Int.reduceSub, Int.reduceAdd, Int.reduceNeg, Int.reduceMul, Bool.not_true, Bool.not_false]
    have hcc : k.cnt * k.cnt ≤ 10000 := Nat.le_trans (Nat.mul_le_mul hc hc) (by decide)
    refine ⟨mulOk_l (by omega), ?_⟩
    rw [← Int.natCast_mul]
    refine (sp_power hasA (by omega) (by omega)).imp ?_ fun _ _ _ z => z.elim
    rintro v S3 ⟨rfl, rfl⟩
    have fg : (Kd.way k (.both k k)).fit := ⟨hk'.fit (by decide), ⟨hk'.fit (by decide), hk'.fit (by decide), mulOk_l (by omega)⟩, by omega, by show k.cnt * k.cnt < 2 ^ 62; omega⟩
    have dg : (Kd.way k (.both k k)).dep ≤ 7 := by simp only [Kd.dep]; omega
    refine (sp_cnt (T := T) rfl (.way k (.both k k)) 219 S3 fg (by omega)).imp ?_ fun _ _ _ z => z.elim
    rintro v S4 ⟨rfl, rfl⟩
    have ec : (Kd.way k (.both k k)).cnt = (k.cnt * k.cnt) ^ k.cnt := rfl
    rw [ec]
    simp (config := {decide := true}) only [ws_cons, ty_non, ty_bl, ty_int, ty_str, ty_tup, kit_tuple_NoneType, kit_tuple_bool, kit_tuple_int, kit_tuple_str, kit_tuple_tuple, kit_tuple_list, kit_list_NoneType, kit_list_bool, kit_list_int, kit_list_str, kit_list_tuple, kit_list_list, kit_int_NoneType, kit_int_bool, kit_int_int, kit_int_str, kit_int_tuple, kit_int_list, kit_bool_NoneType, kit_bool_bool, kit_bool_int, kit_bool_str, kit_bool_tuple, kit_bool_list, kit_str_NoneType, kit_str_bool, kit_str_int, kit_str_str, kit_str_tuple, kit_str_list, non_int, non_non, non_tup, non_str, non_ref, non_bl, ws_nil, ws_asg, ws_exp, ws_retS, ws_ifs, ws_pass, ws_raise, wr_slot, wr_cst, wr_nil, wr_cons, wr_tup, wr_lst, wr_dsp, wr_bin, wr_neg, ex_int, wr_not, wr_cmp, wr_and, wr_or, wr_ite, wr_isN, wr_notN, wr_ix, wr_sl, wr_prim, wr_lrg, wr_meth, wr_isT, wr_callE, wr_c0, wr_c1, wr_ok, m_lrg, m_addI, m_subI, m_mulI, m_divI, m_modI, m_powI, m_addT, m_addS, m_ltI, m_leI, m_gtI, m_geI, m_eq, m_ne, m_in, m_nin, eq_int, m_ixT, m_ixC, m_ixD, at_0, at_1, at_2, at_3, m_lenT, m_lenC, m_intI, m_intB, m_abs, m_max, m_min, m_tupT, m_listT, m_slT, m_slC, t_bl, t_int, t_non, t_tup, a_nm, a_tp, setSlots, partM, methFor, List.getElem?_cons_zero, List.getElem?_cons_succ, List.set_cons_zero, List.set_cons_succ, Option.some.injEq, exists_eq_left', true_and, and_true, eq_str, decide_eq_true_eq, ↓reduceIte, if_true, if_false, decide_true, decide_false, Bool.false_eq_true, ok_both, ok_case, ok_either, ok_first, ok_give, ok_k, ok_kp, ok_l, ok_left, ok_let, ok_name, ok_never, ok_none, ok_odd, ok_one, ok_other, ok_p, ok_pair, ok_r, ok_right, ok_second, ok_split, ok_star, ok_w, ok_way, ok_within, ok_without, ok_wrong, ok_yes, ok_no, ok_n, ok_led, ok_lr, ok_pp, ok_ppp, List.length_cons, List.length_nil, Nat.zero_add, Int.reduceSub, Int.reduceAdd, Int.reduceNeg, Int.reduceMul, Bool.not_true, Bool.not_false]
    have ff : (Kd.both (.way k (.both k k)) (.either k (.way k (.both k k)))).fit := ⟨fg, ⟨hk'.fit (by decide), fg⟩, by
      show mulOk (((k.cnt * k.cnt) ^ k.cnt : Nat)) ((k.cnt + (k.cnt * k.cnt) ^ k.cnt : Nat)) = true
      exact mulOk_g (by omega)⟩
    have df : (Kd.both (.way k (.both k k)) (.either k (.way k (.both k k)))).dep ≤ 9 := by simp only [Kd.dep]; omega
    refine (sp_cnt (T := T) rfl (.both (.way k (.both k k)) (.either k (.way k (.both k k)))) 219 S4 ff (by omega)).imp ?_ fun _ _ _ z => z.elim
    rintro v S5 ⟨rfl, rfl⟩
    simp (config := {decide := true}) only [ws_cons, ty_non, ty_bl, ty_int, ty_str, ty_tup, kit_tuple_NoneType, kit_tuple_bool, kit_tuple_int, kit_tuple_str, kit_tuple_tuple, kit_tuple_list, kit_list_NoneType, kit_list_bool, kit_list_int, kit_list_str, kit_list_tuple, kit_list_list, kit_int_NoneType, kit_int_bool, kit_int_int, kit_int_str, kit_int_tuple, kit_int_list, kit_bool_NoneType, kit_bool_bool, kit_bool_int, kit_bool_str, kit_bool_tuple, kit_bool_list, kit_str_NoneType, kit_str_bool, kit_str_int, kit_str_str, kit_str_tuple, kit_str_list, non_int, non_non, non_tup, non_str, non_ref, non_bl, ws_nil, ws_asg, ws_exp, ws_retS, ws_ifs, ws_pass, ws_raise, wr_slot, wr_cst, wr_nil, wr_cons, wr_tup, wr_lst, wr_dsp, wr_bin, wr_neg, ex_int, wr_not, wr_cmp, wr_and, wr_or, wr_ite, wr_isN, wr_notN, wr_ix, wr_sl, wr_prim, wr_lrg, wr_meth, wr_isT, wr_callE, wr_c0, wr_c1, wr_ok, m_lrg, m_addI, m_subI, m_mulI, m_divI, m_modI, m_powI, m_addT, m_addS, m_ltI, m_leI, m_gtI, m_geI, m_eq, m_ne, m_in, m_nin, eq_int, m_ixT, m_ixC, m_ixD, at_0, at_1, at_2, at_3, m_lenT, m_lenC, m_intI, m_intB, m_abs, m_max, m_min, m_tupT, m_listT, m_slT, m_slC, t_bl, t_int, t_non, t_tup, a_nm, a_tp, setSlots, partM, methFor, List.getElem?_cons_zero, List.getElem?_cons_succ, List.set_cons_zero, List.set_cons_succ, Option.some.injEq, exists_eq_left', true_and, and_true, eq_str, decide_eq_true_eq, ↓reduceIte, if_true, if_false, decide_true, decide_false, Bool.false_eq_true, ok_both, ok_case, ok_either, ok_first, ok_give, ok_k, ok_kp, ok_l, ok_left, ok_let, ok_name, ok_never, ok_none, ok_odd, ok_one, ok_other, ok_p, ok_pair, ok_r, ok_right, ok_second, ok_split, ok_star, ok_w, ok_way, ok_within, ok_without, ok_wrong, ok_yes, ok_no, ok_n, ok_led, ok_lr, ok_pp, ok_ppp, List.length_cons, List.length_nil, Nat.zero_add, Int.reduceSub, Int.reduceAdd, Int.reduceNeg, Int.reduceMul, Bool.not_true, Bool.not_false]
    rw [← Int.natCast_add]
    refine ⟨mulOk_g (by omega), ?_⟩
    have ef : (Kd.both (.way k (.both k k)) (.either k (.way k (.both k k)))).cnt = (k.cnt * k.cnt) ^ k.cnt * (k.cnt + (k.cnt * k.cnt) ^ k.cnt) := rfl
    rw [ef, Int.natCast_mul]
    simp
  · rintro pre x suf e S1 hx ⟨o4, rfl⟩
    have hm : x ∈ (k :: (parts k ++ [k])).map K := by rw [hx]; simp
    obtain ⟨p, hp, rfl⟩ := List.mem_map.mp hm
    have hpk : p.le 100 ∧ p.dep ≤ 5 := by
      rcases List.mem_cons.mp hp with rfl | hp
      · exact ⟨hk, hd⟩
      · rcases List.mem_append.mp hp with hp | hp
        · obtain ⟨h1, h2⟩ := le_parts hk p hp
          exact ⟨h1, by omega⟩
        · simp at hp; subst hp; exact ⟨hk, hd⟩
    refine ⟨_, rfl, ?_⟩
    simp (config := {decide := true}) only [ws_cons, ty_non, ty_bl, ty_int, ty_str, ty_tup, kit_tuple_NoneType, kit_tuple_bool, kit_tuple_int, kit_tuple_str, kit_tuple_tuple, kit_tuple_list, kit_list_NoneType, kit_list_bool, kit_list_int, kit_list_str, kit_list_tuple, kit_list_list, kit_int_NoneType, kit_int_bool, kit_int_int, kit_int_str, kit_int_tuple, kit_int_list, kit_bool_NoneType, kit_bool_bool, kit_bool_int, kit_bool_str, kit_bool_tuple, kit_bool_list, kit_str_NoneType, kit_str_bool, kit_str_int, kit_str_str, kit_str_tuple, kit_str_list, non_int, non_non, non_tup, non_str, non_ref, non_bl, ws_nil, ws_asg, ws_exp, ws_retS, ws_ifs, ws_pass, ws_raise, wr_slot, wr_cst, wr_nil, wr_cons, wr_tup, wr_lst, wr_dsp, wr_bin, wr_neg, ex_int, wr_not, wr_cmp, wr_and, wr_or, wr_ite, wr_isN, wr_notN, wr_ix, wr_sl, wr_prim, wr_lrg, wr_meth, wr_isT, wr_callE, wr_c0, wr_c1, wr_ok, m_lrg, m_addI, m_subI, m_mulI, m_divI, m_modI, m_powI, m_addT, m_addS, m_ltI, m_leI, m_gtI, m_geI, m_eq, m_ne, m_in, m_nin, eq_int, m_ixT, m_ixC, m_ixD, at_0, at_1, at_2, at_3, m_lenT, m_lenC, m_intI, m_intB, m_abs, m_max, m_min, m_tupT, m_listT, m_slT, m_slC, t_bl, t_int, t_non, t_tup, a_nm, a_tp, setSlots, partM, methFor, List.getElem?_cons_zero, List.getElem?_cons_succ, List.set_cons_zero, List.set_cons_succ, Option.some.injEq, exists_eq_left', true_and, and_true, eq_str, decide_eq_true_eq, ↓reduceIte, if_true, if_false, decide_true, decide_false, Bool.false_eq_true, ok_both, ok_case, ok_either, ok_first, ok_give, ok_k, ok_kp, ok_l, ok_left, ok_let, ok_name, ok_never, ok_none, ok_odd, ok_one, ok_other, ok_p, ok_pair, ok_r, ok_right, ok_second, ok_split, ok_star, ok_w, ok_way, ok_within, ok_without, ok_wrong, ok_yes, ok_no, ok_n, ok_led, ok_lr, ok_pp, ok_ppp, List.length_cons, List.length_nil, Nat.zero_add, Int.reduceSub, Int.reduceAdd, Int.reduceNeg, Int.reduceMul, Bool.not_true, Bool.not_false]
    refine (sp_right (hpk.1.mono (by decide)) (by omega) (by omega)).imp ?_ fun _ _ _ z => z.elim
    rintro v S2 ⟨rfl, k2⟩
    simp (config := {decide := true}) only [ws_cons, ty_non, ty_bl, ty_int, ty_str, ty_tup, kit_tuple_NoneType, kit_tuple_bool, kit_tuple_int, kit_tuple_str, kit_tuple_tuple, kit_tuple_list, kit_list_NoneType, kit_list_bool, kit_list_int, kit_list_str, kit_list_tuple, kit_list_list, kit_int_NoneType, kit_int_bool, kit_int_int, kit_int_str, kit_int_tuple, kit_int_list, kit_bool_NoneType, kit_bool_bool, kit_bool_int, kit_bool_str, kit_bool_tuple, kit_bool_list, kit_str_NoneType, kit_str_bool, kit_str_int, kit_str_str, kit_str_tuple, kit_str_list, non_int, non_non, non_tup, non_str, non_ref, non_bl, ws_nil, ws_asg, ws_exp, ws_retS, ws_ifs, ws_pass, ws_raise, wr_slot, wr_cst, wr_nil, wr_cons, wr_tup, wr_lst, wr_dsp, wr_bin, wr_neg, ex_int, wr_not, wr_cmp, wr_and, wr_or, wr_ite, wr_isN, wr_notN, wr_ix, wr_sl, wr_prim, wr_lrg, wr_meth, wr_isT, wr_callE, wr_c0, wr_c1, wr_ok, m_lrg, m_addI, m_subI, m_mulI, m_divI, m_modI, m_powI, m_addT, m_addS, m_ltI, m_leI, m_gtI, m_geI, m_eq, m_ne, m_in, m_nin, eq_int, m_ixT, m_ixC, m_ixD, at_0, at_1, at_2, at_3, m_lenT, m_lenC, m_intI, m_intB, m_abs, m_max, m_min, m_tupT, m_listT, m_slT, m_slC, t_bl, t_int, t_non, t_tup, a_nm, a_tp, setSlots, partM, methFor, List.getElem?_cons_zero, List.getElem?_cons_succ, List.set_cons_zero, List.set_cons_succ, Option.some.injEq, exists_eq_left', true_and, and_true, eq_str, decide_eq_true_eq, ↓reduceIte, if_true, if_false, decide_true, decide_false, Bool.false_eq_true, ok_both, ok_case, ok_either, ok_first, ok_give, ok_k, ok_kp, ok_l, ok_left, ok_let, ok_name, ok_never, ok_none, ok_odd, ok_one, ok_other, ok_p, ok_pair, ok_r, ok_right, ok_second, ok_split, ok_star, ok_w, ok_way, ok_within, ok_without, ok_wrong, ok_yes, ok_no, ok_n, ok_led, ok_lr, ok_pp, ok_ppp, List.length_cons, List.length_nil, Nat.zero_add, Int.reduceSub, Int.reduceAdd, Int.reduceNeg, Int.reduceMul, Bool.not_true, Bool.not_false]
    exact ⟨_, rfl⟩
theorem yes (ns : List Int) (hl : ns.length ≤ 63) : lawYes T 221 "law" ns := by
  have H : Wr (callF T 221 "law" [.con (ns.map .int)] []) (fun v _ => v = .bl true) nE := by
    refine wr_call (r := 220) (ws := [.con (ns.map .int)]) (f := f_law) rfl rfl rfl ?_
    have fin : ∀ (k : Kd) (d : Nat) (S : Store) (o3 : Option PV), k.le 100 → k.dep ≤ 5 → Ws (execSs (conf T 220) rest [some (.con (ns.map .int)), some (.ref d), some (K k), o3, none, none, none, none] S) (fun _ _ => PV.non = .bl true) (fun v _ => v = .bl true) (fun c fs _ S => nE c fs S) :=
      fun k d S o3 h1 h2 => (tail ns k d S o3 h1 h2).imp (fun _ _ z => z.elim) (fun _ _ z => z) fun _ _ _ _ z => z.elim
    change Ws (execSs (conf T 220) (.cons _ (.cons _ (.cons _ rest))) [some (.con (ns.map .int)), none, none, none, none, none, none, none] []) _ _ _
    generalize hrest : rest = rst at fin ⊢
    simp (config := {decide := true}) only [ws_cons, ty_non, ty_bl, ty_int, ty_str, ty_tup, kit_tuple_NoneType, kit_tuple_bool, kit_tuple_int, kit_tuple_str, kit_tuple_tuple, kit_tuple_list, kit_list_NoneType, kit_list_bool, kit_list_int, kit_list_str, kit_list_tuple, kit_list_list, kit_int_NoneType, kit_int_bool, kit_int_int, kit_int_str, kit_int_tuple, kit_int_list, kit_bool_NoneType, kit_bool_bool, kit_bool_int, kit_bool_str, kit_bool_tuple, kit_bool_list, kit_str_NoneType, kit_str_bool, kit_str_int, kit_str_str, kit_str_tuple, kit_str_list, non_int, non_non, non_tup, non_str, non_ref, non_bl, ws_nil, ws_asg, ws_exp, ws_retS, ws_ifs, ws_pass, ws_raise, wr_slot, wr_cst, wr_nil, wr_cons, wr_tup, wr_lst, wr_dsp, wr_bin, wr_neg, ex_int, wr_not, wr_cmp, wr_and, wr_or, wr_ite, wr_isN, wr_notN, wr_ix, wr_sl, wr_prim, wr_lrg, wr_meth, wr_isT, wr_callE, wr_c0, wr_c1, wr_ok, m_lrg, m_addI, m_subI, m_mulI, m_divI, m_modI, m_powI, m_addT, m_addS, m_ltI, m_leI, m_gtI, m_geI, m_eq, m_ne, m_in, m_nin, eq_int, m_ixT, m_ixC, m_ixD, at_0, at_1, at_2, at_3, m_lenT, m_lenC, m_intI, m_intB, m_abs, m_max, m_min, m_tupT, m_listT, m_slT, m_slC, t_bl, t_int, t_non, t_tup, a_nm, a_tp, setSlots, partM, methFor, List.getElem?_cons_zero, List.getElem?_cons_succ, List.set_cons_zero, List.set_cons_succ, Option.some.injEq, exists_eq_left', true_and, and_true, eq_str, decide_eq_true_eq, ↓reduceIte, if_true, if_false, decide_true, decide_false, Bool.false_eq_true, ok_both, ok_case, ok_either, ok_first, ok_give, ok_k, ok_kp, ok_l, ok_left, ok_let, ok_name, ok_never, ok_none, ok_odd, ok_one, ok_other, ok_p, ok_pair, ok_r, ok_right, ok_second, ok_split, ok_star, ok_w, ok_way, ok_within, ok_without, ok_wrong, ok_yes, ok_no, ok_n, ok_led, ok_lr, ok_pp, ok_ppp, List.length_cons, List.length_nil, Nat.zero_add, Int.reduceSub, Int.reduceAdd, Int.reduceNeg, Int.reduceMul, Bool.not_true, Bool.not_false]
    refine (sp_deck (r := 218) hasA hl).imp ?_ fun _ _ _ z => z.elim
    rintro v S1 ⟨d, rfl, l1, k1, hd1⟩
    refine (sp_kind hasA (m := 100) (by decide) (by decide) 4 4 219 S1 rfl (by decide) hd1).imp ?_ fun _ _ _ z => z.elim
    rintro v S2 ⟨a, rfl, la, da, ca, hd2⟩
    refine (sp_next hasA hd2.2 (by decide)).imp ?_ fun _ _ _ z => z.elim
    rintro v S3 ⟨i, rfl, _, _, hd3⟩
    simp (config := {decide := true}) only [ws_cons, ty_non, ty_bl, ty_int, ty_str, ty_tup, kit_tuple_NoneType, kit_tuple_bool, kit_tuple_int, kit_tuple_str, kit_tuple_tuple, kit_tuple_list, kit_list_NoneType, kit_list_bool, kit_list_int, kit_list_str, kit_list_tuple, kit_list_list, kit_int_NoneType, kit_int_bool, kit_int_int, kit_int_str, kit_int_tuple, kit_int_list, kit_bool_NoneType, kit_bool_bool, kit_bool_int, kit_bool_str, kit_bool_tuple, kit_bool_list, kit_str_NoneType, kit_str_bool, kit_str_int, kit_str_str, kit_str_tuple, kit_str_list, non_int, non_non, non_tup, non_str, non_ref, non_bl, ws_nil, ws_asg, ws_exp, ws_retS, ws_ifs, ws_pass, ws_raise, wr_slot, wr_cst, wr_nil, wr_cons, wr_tup, wr_lst, wr_dsp, wr_bin, wr_neg, ex_int, wr_not, wr_cmp, wr_and, wr_or, wr_ite, wr_isN, wr_notN, wr_ix, wr_sl, wr_prim, wr_lrg, wr_meth, wr_isT, wr_callE, wr_c0, wr_c1, wr_ok, m_lrg, m_addI, m_subI, m_mulI, m_divI, m_modI, m_powI, m_addT, m_addS, m_ltI, m_leI, m_gtI, m_geI, m_eq, m_ne, m_in, m_nin, eq_int, m_ixT, m_ixC, m_ixD, at_0, at_1, at_2, at_3, m_lenT, m_lenC, m_intI, m_intB, m_abs, m_max, m_min, m_tupT, m_listT, m_slT, m_slC, t_bl, t_int, t_non, t_tup, a_nm, a_tp, setSlots, partM, methFor, List.getElem?_cons_zero, List.getElem?_cons_succ, List.set_cons_zero, List.set_cons_succ, Option.some.injEq, exists_eq_left', true_and, and_true, eq_str, decide_eq_true_eq, ↓reduceIte, if_true, if_false, decide_true, decide_false, Bool.false_eq_true, ok_both, ok_case, ok_either, ok_first, ok_give, ok_k, ok_kp, ok_l, ok_left, ok_let, ok_name, ok_never, ok_none, ok_odd, ok_one, ok_other, ok_p, ok_pair, ok_r, ok_right, ok_second, ok_split, ok_star, ok_w, ok_way, ok_within, ok_without, ok_wrong, ok_yes, ok_no, ok_n, ok_led, ok_lr, ok_pp, ok_ppp, List.length_cons, List.length_nil, Nat.zero_add, Int.reduceSub, Int.reduceAdd, Int.reduceNeg, Int.reduceMul, Bool.not_true, Bool.not_false]
    by_cases hi : i = 1
    · simp (config := {decide := true}) only [hi, ws_cons, ty_non, ty_bl, ty_int, ty_str, ty_tup, kit_tuple_NoneType, kit_tuple_bool, kit_tuple_int, kit_tuple_str, kit_tuple_tuple, kit_tuple_list, kit_list_NoneType, kit_list_bool, kit_list_int, kit_list_str, kit_list_tuple, kit_list_list, kit_int_NoneType, kit_int_bool, kit_int_int, kit_int_str, kit_int_tuple, kit_int_list, kit_bool_NoneType, kit_bool_bool, kit_bool_int, kit_bool_str, kit_bool_tuple, kit_bool_list, kit_str_NoneType, kit_str_bool, kit_str_int, kit_str_str, kit_str_tuple, kit_str_list, non_int, non_non, non_tup, non_str, non_ref, non_bl, ws_nil, ws_asg, ws_exp, ws_retS, ws_ifs, ws_pass, ws_raise, wr_slot, wr_cst, wr_nil, wr_cons, wr_tup, wr_lst, wr_dsp, wr_bin, wr_neg, ex_int, wr_not, wr_cmp, wr_and, wr_or, wr_ite, wr_isN, wr_notN, wr_ix, wr_sl, wr_prim, wr_lrg, wr_meth, wr_isT, wr_callE, wr_c0, wr_c1, wr_ok, m_lrg, m_addI, m_subI, m_mulI, m_divI, m_modI, m_powI, m_addT, m_addS, m_ltI, m_leI, m_gtI, m_geI, m_eq, m_ne, m_in, m_nin, eq_int, m_ixT, m_ixC, m_ixD, at_0, at_1, at_2, at_3, m_lenT, m_lenC, m_intI, m_intB, m_abs, m_max, m_min, m_tupT, m_listT, m_slT, m_slC, t_bl, t_int, t_non, t_tup, a_nm, a_tp, setSlots, partM, methFor, List.getElem?_cons_zero, List.getElem?_cons_succ, List.set_cons_zero, List.set_cons_succ, Option.some.injEq, exists_eq_left', true_and, and_true, eq_str, decide_eq_true_eq, ↓reduceIte, if_true, if_false, decide_true, decide_false, Bool.false_eq_true, ok_both, ok_case, ok_either, ok_first, ok_give, ok_k, ok_kp, ok_l, ok_left, ok_let, ok_name, ok_never, ok_none, ok_odd, ok_one, ok_other, ok_p, ok_pair, ok_r, ok_right, ok_second, ok_split, ok_star, ok_w, ok_way, ok_within, ok_without, ok_wrong, ok_yes, ok_no, ok_n, ok_led, ok_lr, ok_pp, ok_ppp, List.length_cons, List.length_nil, Nat.zero_add, Int.reduceSub, Int.reduceAdd, Int.reduceNeg, Int.reduceMul, Bool.not_true, Bool.not_false]
      have hS3 : S3.length ∉ [d] := by
        obtain ⟨_, q⟩ := hd3.2
        have := get_lt q
        simp; omega
      refine (sp_next hasA hd3.2.app (by decide)).imp ?_ fun _ _ _ z => z.elim
      rintro v S4 ⟨j, rfl, _, _, hd4⟩
      rw [m_ixL (hd4.1.get get_new hS3)]
      have hj : j = 0 ∨ j = 1 ∨ j = 2 ∨ j = 3 := by omega
      have c0 : 0 ^ a.cnt ≤ 100 := by rw [Nat.zero_pow (by omega)]; decide
      rcases hj with rfl | rfl | rfl | rfl
      · simp (config := {decide := true}) only [ws_cons, ty_non, ty_bl, ty_int, ty_str, ty_tup, kit_tuple_NoneType, kit_tuple_bool, kit_tuple_int, kit_tuple_str, kit_tuple_tuple, kit_tuple_list, kit_list_NoneType, kit_list_bool, kit_list_int, kit_list_str, kit_list_tuple, kit_list_list, kit_int_NoneType, kit_int_bool, kit_int_int, kit_int_str, kit_int_tuple, kit_int_list, kit_bool_NoneType, kit_bool_bool, kit_bool_int, kit_bool_str, kit_bool_tuple, kit_bool_list, kit_str_NoneType, kit_str_bool, kit_str_int, kit_str_str, kit_str_tuple, kit_str_list, non_int, non_non, non_tup, non_str, non_ref, non_bl, ws_nil, ws_asg, ws_exp, ws_retS, ws_ifs, ws_pass, ws_raise, wr_slot, wr_cst, wr_nil, wr_cons, wr_tup, wr_lst, wr_dsp, wr_bin, wr_neg, ex_int, wr_not, wr_cmp, wr_and, wr_or, wr_ite, wr_isN, wr_notN, wr_ix, wr_sl, wr_prim, wr_lrg, wr_meth, wr_isT, wr_callE, wr_c0, wr_c1, wr_ok, m_lrg, m_addI, m_subI, m_mulI, m_divI, m_modI, m_powI, m_addT, m_addS, m_ltI, m_leI, m_gtI, m_geI, m_eq, m_ne, m_in, m_nin, eq_int, m_ixT, m_ixC, m_ixD, at_0, at_1, at_2, at_3, m_lenT, m_lenC, m_intI, m_intB, m_abs, m_max, m_min, m_tupT, m_listT, m_slT, m_slC, t_bl, t_int, t_non, t_tup, a_nm, a_tp, setSlots, partM, methFor, List.getElem?_cons_zero, List.getElem?_cons_succ, List.set_cons_zero, List.set_cons_succ, Option.some.injEq, exists_eq_left', true_and, and_true, eq_str, decide_eq_true_eq, ↓reduceIte, if_true, if_false, decide_true, decide_false, Bool.false_eq_true, ok_both, ok_case, ok_either, ok_first, ok_give, ok_k, ok_kp, ok_l, ok_left, ok_let, ok_name, ok_never, ok_none, ok_odd, ok_one, ok_other, ok_p, ok_pair, ok_r, ok_right, ok_second, ok_split, ok_star, ok_w, ok_way, ok_within, ok_without, ok_wrong, ok_yes, ok_no, ok_n, ok_led, ok_lr, ok_pp, ok_ppp, List.length_cons, List.length_nil, Nat.zero_add, Int.reduceSub, Int.reduceAdd, Int.reduceNeg, Int.reduceMul, Bool.not_true, Bool.not_false]
        exact fin .none d S4 _ trivial (by decide)
      · simp (config := {decide := true}) only [ws_cons, ty_non, ty_bl, ty_int, ty_str, ty_tup, kit_tuple_NoneType, kit_tuple_bool, kit_tuple_int, kit_tuple_str, kit_tuple_tuple, kit_tuple_list, kit_list_NoneType, kit_list_bool, kit_list_int, kit_list_str, kit_list_tuple, kit_list_list, kit_int_NoneType, kit_int_bool, kit_int_int, kit_int_str, kit_int_tuple, kit_int_list, kit_bool_NoneType, kit_bool_bool, kit_bool_int, kit_bool_str, kit_bool_tuple, kit_bool_list, kit_str_NoneType, kit_str_bool, kit_str_int, kit_str_str, kit_str_tuple, kit_str_list, non_int, non_non, non_tup, non_str, non_ref, non_bl, ws_nil, ws_asg, ws_exp, ws_retS, ws_ifs, ws_pass, ws_raise, wr_slot, wr_cst, wr_nil, wr_cons, wr_tup, wr_lst, wr_dsp, wr_bin, wr_neg, ex_int, wr_not, wr_cmp, wr_and, wr_or, wr_ite, wr_isN, wr_notN, wr_ix, wr_sl, wr_prim, wr_lrg, wr_meth, wr_isT, wr_callE, wr_c0, wr_c1, wr_ok, m_lrg, m_addI, m_subI, m_mulI, m_divI, m_modI, m_powI, m_addT, m_addS, m_ltI, m_leI, m_gtI, m_geI, m_eq, m_ne, m_in, m_nin, eq_int, m_ixT, m_ixC, m_ixD, at_0, at_1, at_2, at_3, m_lenT, m_lenC, m_intI, m_intB, m_abs, m_max, m_min, m_tupT, m_listT, m_slT, m_slC, t_bl, t_int, t_non, t_tup, a_nm, a_tp, setSlots, partM, methFor, List.getElem?_cons_zero, List.getElem?_cons_succ, List.set_cons_zero, List.set_cons_succ, Option.some.injEq, exists_eq_left', true_and, and_true, eq_str, decide_eq_true_eq, ↓reduceIte, if_true, if_false, decide_true, decide_false, Bool.false_eq_true, ok_both, ok_case, ok_either, ok_first, ok_give, ok_k, ok_kp, ok_l, ok_left, ok_let, ok_name, ok_never, ok_none, ok_odd, ok_one, ok_other, ok_p, ok_pair, ok_r, ok_right, ok_second, ok_split, ok_star, ok_w, ok_way, ok_within, ok_without, ok_wrong, ok_yes, ok_no, ok_n, ok_led, ok_lr, ok_pp, ok_ppp, List.length_cons, List.length_nil, Nat.zero_add, Int.reduceSub, Int.reduceAdd, Int.reduceNeg, Int.reduceMul, Bool.not_true, Bool.not_false]
        exact fin (.both a .none) d S4 _ ⟨by show a.cnt * 0 ≤ 100; omega, la, trivial⟩ (by simp only [Kd.dep]; omega)
      · simp (config := {decide := true}) only [ws_cons, ty_non, ty_bl, ty_int, ty_str, ty_tup, kit_tuple_NoneType, kit_tuple_bool, kit_tuple_int, kit_tuple_str, kit_tuple_tuple, kit_tuple_list, kit_list_NoneType, kit_list_bool, kit_list_int, kit_list_str, kit_list_tuple, kit_list_list, kit_int_NoneType, kit_int_bool, kit_int_int, kit_int_str, kit_int_tuple, kit_int_list, kit_bool_NoneType, kit_bool_bool, kit_bool_int, kit_bool_str, kit_bool_tuple, kit_bool_list, kit_str_NoneType, kit_str_bool, kit_str_int, kit_str_str, kit_str_tuple, kit_str_list, non_int, non_non, non_tup, non_str, non_ref, non_bl, ws_nil, ws_asg, ws_exp, ws_retS, ws_ifs, ws_pass, ws_raise, wr_slot, wr_cst, wr_nil, wr_cons, wr_tup, wr_lst, wr_dsp, wr_bin, wr_neg, ex_int, wr_not, wr_cmp, wr_and, wr_or, wr_ite, wr_isN, wr_notN, wr_ix, wr_sl, wr_prim, wr_lrg, wr_meth, wr_isT, wr_callE, wr_c0, wr_c1, wr_ok, m_lrg, m_addI, m_subI, m_mulI, m_divI, m_modI, m_powI, m_addT, m_addS, m_ltI, m_leI, m_gtI, m_geI, m_eq, m_ne, m_in, m_nin, eq_int, m_ixT, m_ixC, m_ixD, at_0, at_1, at_2, at_3, m_lenT, m_lenC, m_intI, m_intB, m_abs, m_max, m_min, m_tupT, m_listT, m_slT, m_slC, t_bl, t_int, t_non, t_tup, a_nm, a_tp, setSlots, partM, methFor, List.getElem?_cons_zero, List.getElem?_cons_succ, List.set_cons_zero, List.set_cons_succ, Option.some.injEq, exists_eq_left', true_and, and_true, eq_str, decide_eq_true_eq, ↓reduceIte, if_true, if_false, decide_true, decide_false, Bool.false_eq_true, ok_both, ok_case, ok_either, ok_first, ok_give, ok_k, ok_kp, ok_l, ok_left, ok_let, ok_name, ok_never, ok_none, ok_odd, ok_one, ok_other, ok_p, ok_pair, ok_r, ok_right, ok_second, ok_split, ok_star, ok_w, ok_way, ok_within, ok_without, ok_wrong, ok_yes, ok_no, ok_n, ok_led, ok_lr, ok_pp, ok_ppp, List.length_cons, List.length_nil, Nat.zero_add, Int.reduceSub, Int.reduceAdd, Int.reduceNeg, Int.reduceMul, Bool.not_true, Bool.not_false]
        exact fin (.both .none a) d S4 _ ⟨by show 0 * a.cnt ≤ 100; omega, trivial, la⟩ (by simp only [Kd.dep]; omega)
      · simp (config := {decide := true}) only [ws_cons, ty_non, ty_bl, ty_int, ty_str, ty_tup, kit_tuple_NoneType, kit_tuple_bool, kit_tuple_int, kit_tuple_str, kit_tuple_tuple, kit_tuple_list, kit_list_NoneType, kit_list_bool, kit_list_int, kit_list_str, kit_list_tuple, kit_list_list, kit_int_NoneType, kit_int_bool, kit_int_int, kit_int_str, kit_int_tuple, kit_int_list, kit_bool_NoneType, kit_bool_bool, kit_bool_int, kit_bool_str, kit_bool_tuple, kit_bool_list, kit_str_NoneType, kit_str_bool, kit_str_int, kit_str_str, kit_str_tuple, kit_str_list, non_int, non_non, non_tup, non_str, non_ref, non_bl, ws_nil, ws_asg, ws_exp, ws_retS, ws_ifs, ws_pass, ws_raise, wr_slot, wr_cst, wr_nil, wr_cons, wr_tup, wr_lst, wr_dsp, wr_bin, wr_neg, ex_int, wr_not, wr_cmp, wr_and, wr_or, wr_ite, wr_isN, wr_notN, wr_ix, wr_sl, wr_prim, wr_lrg, wr_meth, wr_isT, wr_callE, wr_c0, wr_c1, wr_ok, m_lrg, m_addI, m_subI, m_mulI, m_divI, m_modI, m_powI, m_addT, m_addS, m_ltI, m_leI, m_gtI, m_geI, m_eq, m_ne, m_in, m_nin, eq_int, m_ixT, m_ixC, m_ixD, at_0, at_1, at_2, at_3, m_lenT, m_lenC, m_intI, m_intB, m_abs, m_max, m_min, m_tupT, m_listT, m_slT, m_slC, t_bl, t_int, t_non, t_tup, a_nm, a_tp, setSlots, partM, methFor, List.getElem?_cons_zero, List.getElem?_cons_succ, List.set_cons_zero, List.set_cons_succ, Option.some.injEq, exists_eq_left', true_and, and_true, eq_str, decide_eq_true_eq, ↓reduceIte, if_true, if_false, decide_true, decide_false, Bool.false_eq_true, ok_both, ok_case, ok_either, ok_first, ok_give, ok_k, ok_kp, ok_l, ok_left, ok_let, ok_name, ok_never, ok_none, ok_odd, ok_one, ok_other, ok_p, ok_pair, ok_r, ok_right, ok_second, ok_split, ok_star, ok_w, ok_way, ok_within, ok_without, ok_wrong, ok_yes, ok_no, ok_n, ok_led, ok_lr, ok_pp, ok_ppp, List.length_cons, List.length_nil, Nat.zero_add, Int.reduceSub, Int.reduceAdd, Int.reduceNeg, Int.reduceMul, Bool.not_true, Bool.not_false]
        exact fin (.way a .none) d S4 _ ⟨c0, la, trivial⟩ (by simp only [Kd.dep]; omega)
    · simp (config := {decide := true}) only [hi, ws_cons, ty_non, ty_bl, ty_int, ty_str, ty_tup, kit_tuple_NoneType, kit_tuple_bool, kit_tuple_int, kit_tuple_str, kit_tuple_tuple, kit_tuple_list, kit_list_NoneType, kit_list_bool, kit_list_int, kit_list_str, kit_list_tuple, kit_list_list, kit_int_NoneType, kit_int_bool, kit_int_int, kit_int_str, kit_int_tuple, kit_int_list, kit_bool_NoneType, kit_bool_bool, kit_bool_int, kit_bool_str, kit_bool_tuple, kit_bool_list, kit_str_NoneType, kit_str_bool, kit_str_int, kit_str_str, kit_str_tuple, kit_str_list, non_int, non_non, non_tup, non_str, non_ref, non_bl, ws_nil, ws_asg, ws_exp, ws_retS, ws_ifs, ws_pass, ws_raise, wr_slot, wr_cst, wr_nil, wr_cons, wr_tup, wr_lst, wr_dsp, wr_bin, wr_neg, ex_int, wr_not, wr_cmp, wr_and, wr_or, wr_ite, wr_isN, wr_notN, wr_ix, wr_sl, wr_prim, wr_lrg, wr_meth, wr_isT, wr_callE, wr_c0, wr_c1, wr_ok, m_lrg, m_addI, m_subI, m_mulI, m_divI, m_modI, m_powI, m_addT, m_addS, m_ltI, m_leI, m_gtI, m_geI, m_eq, m_ne, m_in, m_nin, eq_int, m_ixT, m_ixC, m_ixD, at_0, at_1, at_2, at_3, m_lenT, m_lenC, m_intI, m_intB, m_abs, m_max, m_min, m_tupT, m_listT, m_slT, m_slC, t_bl, t_int, t_non, t_tup, a_nm, a_tp, setSlots, partM, methFor, List.getElem?_cons_zero, List.getElem?_cons_succ, List.set_cons_zero, List.set_cons_succ, Option.some.injEq, exists_eq_left', true_and, and_true, eq_str, decide_eq_true_eq, ↓reduceIte, if_true, if_false, decide_true, decide_false, Bool.false_eq_true, ok_both, ok_case, ok_either, ok_first, ok_give, ok_k, ok_kp, ok_l, ok_left, ok_let, ok_name, ok_never, ok_none, ok_odd, ok_one, ok_other, ok_p, ok_pair, ok_r, ok_right, ok_second, ok_split, ok_star, ok_w, ok_way, ok_within, ok_without, ok_wrong, ok_yes, ok_no, ok_n, ok_led, ok_lr, ok_pp, ok_ppp, List.length_cons, List.length_nil, Nat.zero_add, Int.reduceSub, Int.reduceAdd, Int.reduceNeg, Int.reduceMul, Bool.not_true, Bool.not_false]
      exact fin a d S3 none la (by omega)
  obtain ⟨v, S', e, rfl⟩ := H.get
  exact ⟨S', e⟩
end
end Law
end EK

theorem PySem.Challenge.cw_evenkinds_k11_counts_and_things_holds : PySem.Challenge.rw_evenkinds_k11_counts_and_things.Holds := by
  exact law_ends EK.Law.yes
