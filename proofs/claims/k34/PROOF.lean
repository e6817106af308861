import PyProof.Rows.All
import Wide.All
import OpenK.AllK
import Wide.FinOn
import HandS.ForMost
import HandS.Exc
import HandS.TryOnly
import HandS.ExcOwn
import HandS.WordsExc
import HandS.Wide
import HandS.TupAny
import HandS.TupMul
import HandS.Flow
import HandS.Zip
import HandS.Rev
import HandS.Conv
import HandS.IsInst
import HandS.Deep
import HandS.Defaults
import HandS.CallRecv
import HandS.CallSlots
import HandS.Small
import HandS.More
import HandS.Head2
import HandS.HeadEnd
import HandS.HeadHook4
import HandS.WrittenGet
import HandS.Walk
import HandS.Nested
import HandS.Strs
import KE.GoesEnum
import HandS.TupLe
import HandS.NestedK
import HandS.New0
import HandS.HeadWalk
import PyProof.ExcBaseAll.ValueError
import HandS.Ends
import PyProof.Rows.Walk
import PySem.Challenge.RW_evenkinds_k34_rows_and_tables
set_option Elab.async false
set_option autoImplicit false
set_option linter.all false
set_option maxRecDepth 100000
set_option maxHeartbeats 0
namespace EK
noncomputable section
open PySem PySem.Spec PyProof.Rows L2

/-- a value: what the evaluator reckons with; ref: a place of the store -/
inductive PV where
  | non | bl (b : Bool) | int (i : Int) | str (s : Str) | tup (xs : List PV) | ref (n : Nat)
  | dct (ks : List Str) (vs : List PV) | con (xs : List PV) | wt (xs : List PV) | clo (f : Str) (caps : List PV)
  | vl (xs : List PV) | obj (c : Str)
  deriving Inhabited

inductive Cell where
  | lst (xs : List PV) | ro (xs : List PV) | ins (c : Str) (fs : List (Str × PV)) | tab (x : Str)
  deriving Inhabited
abbrev Store := List Cell

inductive Res (α : Type) where
  | ok (a : α) (S : Store) | exc (c : Str) (fs : List PV) (S : Store) | bad

def Res.bind {α β : Type} (m : Res α) (f : α → Store → Res β) : Res β := match m with
  | .ok a S => f a S
  | .exc c fs S => .exc c fs S
  | .bad => .bad

abbrev Env := List (Option PV)

inductive BOp where | add | sub | mul | fdiv | mod | pow
inductive COp where | eq | ne | lt | le | gt | ge | isIn | notIn
inductive Prim where | len | int | abs | min2 | max2 | min1 | max1 | sum | tuple | list | str | any | all | sorted
inductive Mth where | append | extend | pop | index | get | clear | join
inductive IK where | over | range | enum | zip | rev
inductive TN where | tuple | list | int | bool | str
inductive Tgt where | nm (i : Nat) | tp (ts : List Nat)

mutual
inductive Ex where
  | slot (i : Nat) | cst (v : PV) | glo (x : Str)
  | tup (es : Exs) | lst (es : Exs) | dsp (ks : List Str) (es : Exs)
  | bin (op : BOp) (a b : Ex) | neg (a : Ex) | not (a : Ex)
  | cmp (op : COp) (a b : Ex) | chn (a b c : Ex)
  | and (a b : Ex) | or (a b : Ex) | ite (c a b : Ex)
  | isN (a : Ex) | notN (a : Ex)
  | ix (a b : Ex) | sl (a : Ex) (lo hi : Exs)
  | call (f : Str) (es : Exs) | lrg (es : Exs) | prim (p : Prim) (es : Exs) | meth (m : Mth) (o : Ex) (es : Exs)
  | isT (t : TN) (a : Ex)
  /-- x is True; xs[::-1]; dict(enumerate(a)).get(b) -/
  | isTru (a : Ex) | revL (a : Ex) | enGet (a b : Ex)
  /-- C(), C without parts; its methods -/
  | new (c : Str) | mcall (m : Str) (o : Ex) (es : Exs)
  /-- g(.., f), f a def that the i-th name holds; f(..) -/
  | callc (g : Str) (es : Exs) (i : Nat) | callv (i : Nat) (es : Exs)
  /-- the same; over values, an argument that becomes a cell -/
  | cel (a : Ex)
  | comp (own : List Nat) (tg : Tgt) (k : IK) (src : Exs) (cond : Exs) (elt : Ex)
inductive Exs where
  | nil | cons (e : Ex) (es : Exs)
end

mutual
inductive Sm where
  | asg (t : Tgt) (e : Ex)
  | asgIx (o i e : Ex)
  /-- a name's store; over values, of a new cell -/
  | asgC (i : Nat) (e : Ex)
  | exp (e : Ex) | ret (e : Ex)
  | ifs (c : Ex) (a b : Sms)
  | for (t : Tgt) (k : IK) (src : Exs) (body : Sms)
  | while (c : Ex) (body : Sms)
  | raise (c : Str)
  /-- never reached -/
  | nev
  /-- try: body; except c: i = None -/
  | tryN (body : Sms) (c : Str) (i : Nat)
  /-- a def of its own, captured names js, handed to g behind es; what g tells -/
  | cloRet (x g : Str) (es : Exs) (js : List Nat) (i : Nat)
  | pass
inductive Sms where
  | nil | cons (s : Sm) (ss : Sms)
end

/-! ### equality -/
mutual
def beqPV : PV → PV → Bool
  | .non, .non => true
  | .bl a, .bl b => a == b
  | .int a, .int b => decide (a = b)
  | .str a, .str b => decide (a = b)
  | .tup xs, .tup ys => beqPVs xs ys
  | .vl xs, .vl ys => beqPVs xs ys
  | _, _ => false
def beqPVs : List PV → List PV → Bool
  | [], [] => true
  | x :: xs, y :: ys => beqPV x y && beqPVs xs ys
  | _, _ => false
end
/-- the texts that lie in the model's line -/
def strOkB (x : Str) : Bool := x.cps.all (· < 0x110000)
mutual
/-- plain data: none, ints, texts, tuples of these -/
def clean : PV → Bool
  | .non => true
  | .int _ => true
  | .str x => strOkB x
  | .tup xs => cleans xs
  | .vl xs => cleans xs
  | _ => false
def cleans : List PV → Bool
  | [] => true
  | x :: xs => clean x && cleans xs
end
mutual
def depth : PV → Nat
  | .tup xs => depths xs + 1
  | .vl xs => depths xs + 1
  | _ => 0
def depths : List PV → Nat
  | [] => 0
  | x :: xs => max (depth x) (depths xs)
end
/-- with lists looked at -/
def toD : Nat → Store → PV → Option PyData
  | 0, _, _ => none
  | _ + 1, _, .non => some .none
  | _ + 1, _, .bl b => some (.bool b)
  | _ + 1, _, .int i => some (.int i)
  | _ + 1, _, .str x => some (.str x)
  | n + 1, S, .tup xs => (xs.mapM (toD n S)).map .tuple
  | n + 1, S, .ref i => match S[i]? with
    | some (.lst xs) => (xs.mapM (toD n S)).map .list
    | some (.ro xs) => (xs.mapM (toD n S)).map .list
    | _ => none
  | _ + 1, _, _ => none
def eqM (S : Store) (x y : PV) : Option Bool :=
  if clean x && clean y && (decide (depth x ≤ 150) || decide (depth y ≤ 150)) then some (beqPV x y) else
  match toD 160 S x, toD 160 S y with
  | some d, some e => if d.canLay0 && e.canLay0 && (decide (min d.depth e.depth ≤ 150)) then some (PyData.eqv d e) else none
  | _, _ => none

/-! ### the single deeds -/
def isClo : PV → Bool
  | .clo _ _ => true
  | _ => false
def isTab (x : Str) : Cell → Bool
  | .tab y => decide (y = x)
  | _ => false
/-- what the names js hold -/
def capsM (env : Env) : List Nat → Option (List PV)
  | [] => some []
  | j :: js => match env[j]? with
    | some (some v) => if isClo v then none else (capsM env js).map (v :: ·)
    | _ => none
def isNonP : PV → Bool
  | .non => true
  | _ => false
def truthM (S : Store) : PV → Option Bool
  | .non => some false
  | .bl b => some b
  | .int i => some (i != 0)
  | .str x => if x.length ≤ sizeLine then some (x.length != 0) else none
  | .tup xs => some (!xs.isEmpty)
  | .ref n => match S[n]? with
    | some (.lst xs) => some (!xs.isEmpty)
    | some (.ro xs) => some (!xs.isEmpty)
    | _ => none
  | _ => none
def mulOk (i j : Int) : Bool := decide (i.natAbs < 2 ^ 63) || decide (j.natAbs < 2 ^ 63) || decide (i.natAbs.log2 + j.natAbs.log2 < 900000)
def addM (x y : PV) (S : Store) : Res PV :=
  match x, y with
  | .int i, .int j => .ok (.int (i + j)) S
  | .str i, .str j => if i.length + j.length ≤ sizeLine then .ok (.str (i ++ j)) S else .bad
  | .tup xs, .tup ys => if xs.length + ys.length ≤ sizeLine then .ok (.tup (xs ++ ys)) S else .bad
  | .ref m, .ref n => match S[m]?, S[n]? with
    | some (.lst xs), some (.lst ys) => if xs.length + ys.length ≤ sizeLine then .ok (.ref S.length) (S ++ [.lst (xs ++ ys)]) else .bad
    | _, _ => .bad
  | _, _ => .bad
def mulM (x y : PV) (S : Store) : Res PV :=
  match x, y with
  | .int i, .int j => if mulOk i j then .ok (.int (i * j)) S else .bad
  | _, _ => .bad
def intM (f : Int → Int → Option Int) (x y : PV) (S : Store) : Res PV :=
  match x, y with
  | .int i, .int j => match f i j with
    | some k => .ok (.int k) S
    | none => .bad
  | _, _ => .bad
def binM (op : BOp) (x y : PV) (S : Store) : Res PV :=
  match op with
  | .add => addM x y S
  | .sub => intM (fun i j => some (i - j)) x y S
  | .mul => mulM x y S
  | .fdiv => intM (fun i j => if decide (0 < j) && decide (j.natAbs < 2 ^ 200) then some (i / j) else none) x y S
  | .mod => intM (fun i j => if 0 < j then some (i % j) else none) x y S
  | .pow => intM (fun i j => if decide (0 ≤ j) && decide (j ≤ 1000000) && decide (i.natAbs < 2 ^ 64) then some (i ^ j.toNat) else none) x y S
/-- x in xs, by == -/
def anyEq (S : Store) (x : PV) (xs : List PV) : Option Bool :=
  if clean x && cleans xs && decide (depth x ≤ 150) then some (xs.any fun y => beqPV y x) else
  match toD 160 S x, xs.mapM (toD 160 S) with
  | some d, some ds => if d.canLay0 && PyData.canLayAll0 ds && decide (d.depth ≤ 150) then some (ds.any fun e => PyData.eqv e d) else none
  | _, _ => none
def inM (S : Store) (x y : PV) : Option Bool := match y with
  | .tup xs => anyEq S x xs
  | .ref n => match S[n]? with
    | some (.lst xs) => anyEq S x xs
    | some (.ro xs) => anyEq S x xs
    | _ => none
  | .dct ks _ => match x with
    | .str k => some (ks.contains k)
    | _ => none
  | .str z => match x with
    | .str c => if c.cps.size = 1 then some (decide (c.cps.getD 0 0 ∈ z.cps.toList)) else none
    | _ => none
  | _ => none
def okB (S : Store) (b : Option Bool) : Res PV := match b with
  | some b => .ok (.bl b) S
  | none => .bad
def cmpM (op : COp) (x y : PV) (S : Store) : Res PV :=
  match op with
  | .eq => okB S (eqM S x y)
  | .ne => okB S ((eqM S x y).map (!·))
  | .isIn => okB S (inM S x y)
  | .notIn => okB S ((inM S x y).map (!·))
  | _ => match x, y with
    | .int i, .int j => .ok (.bl (match op with
      | .lt => decide (i < j)
      | .le => decide (i ≤ j)
      | .gt => decide (j < i)
      | _ => decide (j ≤ i))) S
    | _, _ => .bad
def lookD (k : Str) : List Str → List PV → Option PV
  | q :: ks, v :: vs => if k = q then some v else lookD k ks vs
  | _, _ => none
def ixM (x y : PV) (S : Store) : Res PV :=
  match x, y with
  | .tup xs, .int i => match atI xs i with
    | some v => .ok v S
    | none => .bad
  | .ref n, .int i => match S[n]? with
    | some (.lst xs) => match atI xs i with
      | some v => .ok v S
      | none => .bad
    | some (.ro xs) => match atI xs i with
      | some v => .ok v S
      | none => .bad
    | _ => .bad
  | .con xs, .int i => match atI xs i with
    | some v => .ok v S
    | none => .bad
  | .str z, .int i => if z.length ≤ sizeLine then match atI z.cps.toList i with
      | some c => .ok (.str ⟨#[c]⟩) S
      | none => .bad
    else .bad
  | .dct ks vs, .str k => match lookD k ks vs with
    | some v => .ok v S
    | none => .bad
  | _, _ => .bad
def cutP (xs : List PV) (lo hi : Option Int) : List PV := (xs.drop (HT.sIx xs.length 0 lo)).take (HT.sIx xs.length xs.length hi - HT.sIx xs.length 0 lo)
def partM : List PV → Option (Option Int)
  | [] => some none
  | [.int i] => some (some i)
  | _ => none
def partR (m : Res (List PV)) : Res (Option Int) := m.bind fun vs S => match partM vs with
  | some o => .ok o S
  | none => .bad
def slM (x : PV) (l h : Option Int) (S : Store) : Res PV :=
  match x with
    | .tup xs => .ok (.tup (cutP xs l h)) S
    | .ref n => match S[n]? with
      | some (.lst xs) => .ok (.ref S.length) (S ++ [.lst (cutP xs l h)])
      | some (.ro xs) => .ok (.ref S.length) (S ++ [.lst (cutP xs l h)])
      | _ => .bad
    | .con xs => .ok (.ref S.length) (S ++ [.lst (cutP xs l h)])
    | .str z => if z.length ≤ sizeLine then .ok (.str (cutS z l h)) S else .bad
    | _ => .bad
def cellL (S : Store) (n : Nat) : Option (List PV) := match S[n]? with
  | some (.lst xs) => some xs
  | some (.ro xs) => some xs
  | _ => none
def seqL (S : Store) : PV → Option (List PV)
  | .tup xs => some xs
  | .ref n => cellL S n
  | _ => none
def intsP : List PV → Option (List Int)
  | [] => some []
  | .int i :: xs => (intsP xs).map (i :: ·)
  | _ => none
def blsP : List PV → Option (List Bool)
  | [] => some []
  | .bl i :: xs => (blsP xs).map (i :: ·)
  | _ => none
def maxI : List Int → Int
  | [] => 0
  | [a] => a
  | a :: r => max a (maxI r)
def minI : List Int → Int
  | [] => 0
  | [a] => a
  | a :: r => min a (minI r)
/-- two texts in their order -/
def srt2 (a b : Str) : Option (List PV) :=
  if sortedS [a, b] && !sortedS [b, a] then some [.str a, .str b] else if sortedS [b, a] && !sortedS [a, b] then some [.str b, .str a] else if a = b then some [.str a, .str b] else none
def primM (p : Prim) (vs : List PV) (S : Store) : Res PV :=
  match p, vs with
  | .len, [.str z] => if z.length ≤ sizeLine then .ok (.int z.length) S else .bad
  | .len, [.con xs] => .ok (.int xs.length) S
  | .len, [v] => match seqL S v with
    | some xs => .ok (.int xs.length) S
    | none => .bad
  | .int, [.int i] => .ok (.int i) S
  | .int, [.bl b] => .ok (.int (if b then 1 else 0)) S
  | .int, [.str z] => if z.length ≤ 640 then match intText? z with
      | some n => .ok (.int n) S
      | none => .bad
    else .bad
  | .abs, [.int i] => .ok (.int (if i < 0 then -i else i)) S
  | .max2, [.int i, .int j] => .ok (.int (if j > i then j else i)) S
  | .min2, [.int i, .int j] => .ok (.int (if j < i then j else i)) S
  | .max1, [.ref n] => match (cellL S n).bind intsP with
    | some (a :: r) => .ok (.int (maxI (a :: r))) S
    | _ => .bad
  | .min1, [.ref n] => match (cellL S n).bind intsP with
    | some (a :: r) => .ok (.int (minI (a :: r))) S
    | _ => .bad
  | .sum, [.ref n] => match (cellL S n).bind intsP with
    | some xs => .ok (.int xs.sum) S
    | none => .bad
  | .any, [.ref n] => match (cellL S n).bind blsP with
    | some xs => .ok (.bl (xs.any id)) S
    | none => .bad
  | .all, [.ref n] => match (cellL S n).bind blsP with
    | some xs => .ok (.bl (xs.all id)) S
    | none => .bad
  | .tuple, [.tup xs] => .ok (.tup xs) S
  | .tuple, [.ref n] => match cellL S n with
    | some xs => .ok (.tup xs) S
    | none => .bad
  | .list, [v] => match seqL S v with
    | some xs => .ok (.ref S.length) (S ++ [.lst xs])
    | none => .bad
  | .str, [.int i] => if i.natAbs < 2 ^ 64 then .ok (.str (toString i)) S else .bad
  | .sorted, [.ref n] => match cellL S n with
    | some [.str a, .str b] => match srt2 a b with
      | some l => .ok (.ref S.length) (S ++ [.lst l])
      | none => .bad
    | _ => .bad
  | _, _ => .bad
def rangeP (lo : Int) (n : Nat) : List PV := (List.range n).map fun k => .int (lo + (k : Nat))
/-- list(range(..)) -/
noncomputable def fitsLX : { f : Int → Bool // ∀ j, f j = (decide (0 ≤ j) && decide (j ≤ 16777216)) } := Classical.choice ⟨⟨_, fun _ => rfl⟩⟩
noncomputable def fitsL (j : Int) : Bool := fitsLX.1 j
theorem fitsL_iff {j : Int} : fitsL j = true ↔ 0 ≤ j ∧ j ≤ 16777216 := by
  unfold fitsL
  rw [fitsLX.2]
  simp only [Bool.and_eq_true, decide_eq_true_eq]
def listRg (vs : List PV) (S : Store) : Res PV := match vs with
  | [.int j] => if fitsL j then .ok (.ref S.length) (S ++ [.lst (rangeP 0 j.toNat)]) else .bad
  | _ => .bad
/-- the first place of an equal one -/
def idxEq (S : Store) (x : PV) (xs : List PV) : Option Nat :=
  if clean x && cleans xs && decide (depth x ≤ 150) then xs.findIdx? (fun y => beqPV y x) else
  match toD 160 S x, xs.mapM (toD 160 S) with
  | some d, some ds => if d.canLay0 && PyData.canLayAll0 ds && decide (d.depth ≤ 150) then ds.findIdx? (fun e => PyData.eqv e d) else none
  | _, _ => none
def strsP : List PV → Option (List Str)
  | [] => some []
  | .str i :: xs => (strsP xs).map (i :: ·)
  | _ => none
/-- the receivers that have it -/
def methFor (m : Mth) (o : PV) : Bool := match m, o with
  | .append, .ref _ => true | .extend, .ref _ => true | .pop, .ref _ => true | .clear, .ref _ => true
  | .index, .ref _ => true
  | .index, .tup _ => true
  | .get, .dct _ _ => true
  | _, _ => false
/-- a place of the store is a list -/
def lstB (S : Store) : PV → Bool
  | .ref n => match S[n]? with
    | some (.lst _) => true
    | some (.ro _) => true
    | _ => false
  | _ => true
theorem lstB_of {S : Store} {n : Nat} {xs : List PV} (h : cellL S n = some xs) : lstB S (.ref n) = true := by
  unfold cellL at h
  split at h
  · rename_i e; simp only [lstB, e]
  · rename_i e; simp only [lstB, e]
  · cases h
theorem lstB_map {S : Store} {n : Nat} {α : Type} {f : List PV → α} {m : α} (h : (cellL S n).map f = some m) : lstB S (.ref n) = true := by
  cases e : cellL S n with
  | none => rw [e] at h; cases h
  | some xs => exact lstB_of e
def appM (o : PV) (vs : List PV) (S : Store) : Res PV := match o, vs with
  | .ref n, [v] => match S[n]? with
    | some (.lst xs) => if xs.length < sizeLine then .ok .non (S.set n (.lst (xs ++ [v]))) else .bad
    | _ => .bad
  | _, _ => .bad
def extM (o : PV) (vs : List PV) (S : Store) : Res PV := match o, vs with
  | .ref n, [.ref k] => match S[n]?, S[k]? with
    | some (.lst xs), some (.lst ys) => if xs.length + ys.length ≤ sizeLine then .ok .non (S.set n (.lst (xs ++ ys))) else .bad
    | _, _ => .bad
  | _, _ => .bad
def popM (o : PV) (vs : List PV) (S : Store) : Res PV := match o, vs with
  | .ref n, [] => match S[n]? with
    | some (.lst xs) => match xs[xs.length - 1]? with
      | some v => .ok v (S.set n (.lst xs.dropLast))
      | none => .bad
    | _ => .bad
  | .ref n, [.int 0] => match S[n]? with
    | some (.lst (v :: xs)) => .ok v (S.set n (.lst xs))
    | _ => .bad
  | _, _ => .bad
def clrM (o : PV) (vs : List PV) (S : Store) : Res PV := match o, vs with
  | .ref n, [] => match S[n]? with
    | some (.lst _) => .ok .non (S.set n (.lst []))
    | _ => .bad
  | _, _ => .bad
def idxM (o : PV) (vs : List PV) (S : Store) : Res PV := match vs with
  | [x] => match seqL S o with
    | some xs => match idxEq S x xs with
      | some k => .ok (.int k) S
      | none => .bad
    | none => .bad
  | _ => .bad
def getM (o : PV) (vs : List PV) (S : Store) : Res PV := match o, vs with
  | .dct ks ws, [.str k] => .ok ((lookD k ks ws).getD .non) S
  | .dct ks ws, [.str k, d] => .ok ((lookD k ks ws).getD d) S
  | _, _ => .bad
def methM (m : Mth) (o : PV) (vs : List PV) (S : Store) : Res PV :=
  match m with
  | .append => appM o vs S
  | .extend => extM o vs S
  | .pop => popM o vs S
  | .clear => clrM o vs S
  | .index => idxM o vs S
  | .get => getM o vs S
  | .join => .bad
def tyS : PV → Store → Option String
  | .non, _ => some "NoneType"
  | .bl _, _ => some "bool"
  | .int _, _ => some "int"
  | .str _, _ => some "str"
  | .tup _, _ => some "tuple"
  | .ref n, S => match S[n]? with
    | some (.lst _) => some "list"
    | _ => none
  | _, _ => none
def kitS (t : TN) (s : String) : Bool := match t with
  | .tuple => s == "tuple" | .list => s == "list" | .int => s == "int" || s == "bool" | .bool => s == "bool" | .str => s == "str"
def isTM (t : TN) (v : PV) (S : Store) : Res PV := match tyS v S with
  | some s => .ok (.bl (kitS t s)) S
  | none => .bad

/-! ### targets, iterables -/
def setSlots (env : Env) : List Nat → List PV → Option Env
  | [], [] => some env
  | i :: is, v :: vs => setSlots (env.set i (some v)) is vs
  | _, _ => none
def asgM (t : Tgt) (v : PV) (env : Env) : Option Env := match t with
  | .nm i => some (env.set i (some v))
  | .tp is => match v with
    | .tup vs => setSlots env is vs
    | .wt vs => setSlots env is vs
    | _ => none
def wipeE (env : Env) : List Nat → Env
  | [] => env
  | v :: vs => (wipeE env vs).set v none
/-- what is walked: a list of the store (by place), or items that stand -/
inductive Walk where
  | cells (ns : List Nat) (k : IK) | items (xs : List PV)
def rangeD (hi : Int) (n : Nat) : List PV := (List.range n).map fun k => .int (hi + (k : Nat) * (-1))
/-- small enough for a range -/
noncomputable def fitsX : { f : Int → Bool // ∀ i, f i = (decide (-(2 ^ 62) ≤ i) && decide (i < 2 ^ 62)) } := Classical.choice ⟨⟨_, fun _ => rfl⟩⟩
noncomputable def fits (i : Int) : Bool := fitsX.1 i
theorem fits_iff {i : Int} : fits i = true ↔ -(2 ^ 62) ≤ i ∧ i < 2 ^ 62 := by
  unfold fits
  rw [fitsX.2]
  simp only [Bool.and_eq_true, decide_eq_true_eq]
def rangeM (vs : List PV) : Option (List PV) := match vs with
  | [.int j] => if fits j then some (rangeP 0 j.toNat) else none
  | [.int i, .int j] => if fits i && fits j then some (rangeP i (j - i).toNat) else none
  | [.int i, .int j, .int k] => if decide (k = -1) && fits i && fits j then some (rangeD i (i - j).toNat) else none
  | _ => none
def zipP : List PV → List PV → List PV
  | x :: xs, y :: ys => .wt [x, y] :: zipP xs ys
  | _, _ => []
def enumP : Nat → List PV → List PV
  | _, [] => []
  | k, x :: xs => .wt [.int k, x] :: enumP (k + 1) xs
end
end EK

namespace EK
noncomputable section
open PySem PySem.Spec PyProof.Rows L2

/-- how a statement ends -/
inductive SRes where
  | nx (env : Env) (S : Store) | ret (v : PV) (S : Store) | brk (env : Env) (S : Store) | ct (env : Env) (S : Store)
  | exc (c : Str) (fs : List PV) (env : Env) (S : Store) | bad

def Res.sbind (env : Env) (m : Res PV) (f : PV → Store → SRes) : SRes := match m with
  | .ok a S => f a S
  | .exc c fs S => .exc c fs env S
  | .bad => .bad
/-- without what it raises -/
def Res.calm {α : Type} (m : Res α) : Res α := match m with
  | .ok a S => .ok a S
  | _ => .bad
def Res.sbindL (env : Env) (m : Res (List PV)) (f : List PV → Store → SRes) : SRes := match m with
  | .ok a S => f a S
  | .exc c fs S => .exc c fs env S
  | .bad => .bad
def SRes.thn (m : SRes) (f : Env → Store → SRes) : SRes := match m with
  | .nx env S => f env S
  | r => r

/-- what the program's names stand for; what a call tells -/
structure Conf where
  glob : Str → Option PV
  call : Str → List PV → Store → Res PV
  /-- whether calls are served at all -/
  can : Bool
  clo : Str → List PV → List PV → Store → Res PV
  mth : Str → Str → List PV → Store → Res PV
  mks : Str → Bool
  hasM : Str → Str → Bool

/-- the next item of what is walked -/
inductive Stp where
  | bad | stop | item (v : PV)
def itemAt (f : PV → PV) (xs : Option (List PV)) (i : Nat) : Stp := match xs with
  | none => .bad
  | some xs => match xs[i]? with
    | some x => .item (f x)
    | none => .stop
def zipAt (xs ys : List PV) (i : Nat) : Stp := match xs[i]?, ys[i]? with
  | some x, some y => .item (.wt [x, y])
  | _, _ => .stop
def stepM (k : IK) (src : List PV) (n0 : Nat) (i : Nat) (S : Store) : Stp :=
  match k, src with
  | .over, [v] => itemAt id (seqL S v) i
  | .enum, [.ref n] => itemAt (fun x => .wt [.int i, x]) (cellL S n) i
  | .enum, [.tup xs] => itemAt (fun x => .wt [.int i, x]) (some xs) i
  | .zip, [.ref m, .ref n] => match cellL S m, cellL S n with
    | some xs, some ys => zipAt xs ys i
    | _, _ => .bad
  | .zip, [.tup xs, .tup ys] => zipAt xs ys i
  | .rev, [.ref n] => if n0 ≤ i then .stop else match cellL S n with
    | some xs => match xs[n0 - 1 - i]? with
      | some x => .item x
      | none => .bad
    | none => .bad
  | .range, vs => match rangeM vs with
    | some xs => itemAt id (some xs) i
    | none => .bad
  | _, _ => .bad
/-- how many items there are as the walk begins -/
def lenM (k : IK) (src : List PV) (S : Store) : Option Nat :=
  match k, src with
  | .over, [v] => (seqL S v).map List.length
  | .enum, [.ref n] => (cellL S n).map List.length
  | .enum, [.tup xs] => some xs.length
  | .zip, [.ref m, .ref n] => match cellL S m, cellL S n with
    | some xs, some ys => some (min xs.length ys.length)
    | _, _ => none
  | .zip, [.tup xs, .tup ys] => some (min xs.length ys.length)
  | .rev, [.ref n] => (cellL S n).map List.length
  | .range, vs => (rangeM vs).map List.length
  | _, _ => none

def forLoop (stp : Nat → Store → Stp) (asg : PV → Env → Option Env) (body : Env → Store → SRes) : Nat → Nat → Env → Store → SRes
  | 0, _, _, _ => .bad
  | f + 1, i, env, S => match stp i S with
    | .bad => .bad
    | .stop => .nx env S
    | .item v => match asg v env with
      | none => .bad
      | some e1 => match body e1 S with
        | .nx e2 S2 => forLoop stp asg body f (i + 1) e2 S2
        | .ct e2 S2 => forLoop stp asg body f (i + 1) e2 S2
        | .brk e2 S2 => .nx e2 S2
        | r => r
/-- a comprehension's turns: the list grows at the place d -/
def compLoop (stp : Nat → Store → Stp) (turn : PV → Store → Res (Option PV)) (d : Nat) : Nat → Nat → Store → Res PV
  | 0, _, _ => .bad
  | f + 1, i, S => match stp i S with
    | .bad => .bad
    | .stop => .ok (.ref d) S
    | .item v => match turn v S with
      | .ok none S2 => compLoop stp turn d f (i + 1) S2
      | .ok (some y) S2 => match S2[d]? with
        | some (.lst acc) => if acc.length < sizeLine then compLoop stp turn d f (i + 1) (S2.set d (.lst (acc ++ [y]))) else .bad
        | _ => .bad
      | _ => .bad
def whileLoop (test : Env → Store → Res Bool) (body : Env → Store → SRes) : Nat → Env → Store → SRes
  | 0, _, _ => .bad
  | f + 1, env, S => match test env S with
    | .ok false S1 => .nx env S1
    | .ok true S1 => match body env S1 with
      | .nx e2 S2 => whileLoop test body f e2 S2
      | .ct e2 S2 => whileLoop test body f e2 S2
      | .brk e2 S2 => .nx e2 S2
      | r => r
    | .exc c fs S1 => .exc c fs env S1
    | .bad => .bad

def truB (m : Res PV) : Res Bool := m.bind fun v S => match truthM S v with
  | some b => .ok b S
  | none => .bad

mutual
def evalE (G : Conf) : Ex → Env → Store → Res PV
  | .slot i, env, S => match env[i]? with
    | some (some v) => if isClo v then .bad else .ok v S
    | _ => .bad
  | .cst v, _, S => .ok v S
  | .glo x, _, S => match G.glob x with
    | some v => .ok v S
    | none => .bad
  | .tup es, env, S => (evalEs G es env S).bind fun vs S1 => if vs.length ≤ sizeLine then .ok (.tup vs) S1 else .bad
  | .lst es, env, S => (evalEs G es env S).bind fun vs S1 => if vs.length ≤ sizeLine then .ok (.ref S1.length) (S1 ++ [.lst vs]) else .bad
  | .dsp ks es, env, S => (evalEs G es env S).bind fun vs S1 => if vs.length = ks.length then .ok (.dct ks vs) S1 else .bad
  | .bin op a b, env, S => (evalE G a env S).bind fun x S1 => (evalE G b env S1).bind fun y S2 => binM op x y S2
  | .neg a, env, S => (evalE G a env S).bind fun x S1 => match x with
    | .int i => .ok (.int (-i)) S1
    | _ => .bad
  | .not a, env, S => (truB (evalE G a env S)).bind fun b S1 => .ok (.bl (!b)) S1
  | .cmp op a b, env, S => (evalE G a env S).bind fun x S1 => (evalE G b env S1).bind fun y S2 => cmpM op x y S2
  | .chn a b c, env, S => (evalE G a env S).bind fun x S1 => (evalE G b env S1).bind fun y S2 => match x, y with
    | .int i, .int j => if i < j then (evalE G c env S2).bind fun z S3 => match z with
        | .int k => .ok (.bl (decide (j < k))) S3
        | _ => .bad
      else .ok (.bl false) S2
    | _, _ => .bad
  | .and a b, env, S => (evalE G a env S).bind fun x S1 => match truthM S1 x with
    | some true => evalE G b env S1
    | some false => .ok x S1
    | none => .bad
  | .or a b, env, S => (evalE G a env S).bind fun x S1 => match truthM S1 x with
    | some true => .ok x S1
    | some false => evalE G b env S1
    | none => .bad
  | .ite c a b, env, S => (truB (evalE G c env S)).bind fun t S1 => if t then evalE G a env S1 else evalE G b env S1
  | .isN a, env, S => (evalE G a env S).bind fun x S1 => .ok (.bl (isNonP x)) S1
  | .notN a, env, S => (evalE G a env S).bind fun x S1 => .ok (.bl (!isNonP x)) S1
  | .ix a b, env, S => (evalE G a env S).bind fun x S1 => (evalE G b env S1).bind fun y S2 => ixM x y S2
  | .sl a lo hi, env, S => (evalE G a env S).bind fun x S1 => (partR (evalEs G lo env S1)).bind fun l S2 => (partR (evalEs G hi env S2)).bind fun h S3 => slM x l h S3
  | .call f es, env, S => if G.can then (evalEs G es env S).bind fun vs S1 => G.call f vs S1 else .bad
  | .isTru a, env, S => (evalE G a env S).bind fun x S1 => match x with
    | .bl b => .ok (.bl b) S1
    | _ => .bad
  | .revL a, env, S => (evalE G a env S).bind fun x S1 => match x with
    | .ref n => match S1[n]? with
      | some (.lst xs) => .ok (.ref S1.length) (S1 ++ [.lst xs.reverse])
      | _ => .bad
    | _ => .bad
  | .enGet a b, env, S => (evalE G a env S).bind fun x S1 => (evalE G b env S1).bind fun y S2 => match x, y with
    | .tup xs, .int i => .ok (if 0 ≤ i then (xs[i.toNat]?).getD .non else .non) S2
    | _, _ => .bad
  | .new c, _, S => if G.mks c then .ok (.obj c) S else .bad
  | .mcall m o es, env, S => if G.can then match evalE G o env S with
    | .ok (.obj c) S1 => if G.hasM c m then (evalEs G es env S1).bind fun vs S2 => (G.mth c m (.obj c :: vs) S2).calm else .bad
    | _ => .bad
    else .bad
  | .callc g es i, env, S => if G.can then match env[i]? with
    | some (some (.clo x caps)) => (evalEs G es env S).bind fun vs S1 => G.call g (vs ++ [.clo x caps]) S1
    | _ => .bad
    else .bad
  | .callv i es, env, S => if G.can then match env[i]? with
    | some (some (.clo x caps)) => (evalEs G es env S).bind fun vs S1 => (G.clo x caps vs S1).calm
    | _ => .bad
    else .bad
  | .prim p es, env, S => (evalEs G es env S).bind fun vs S1 => primM p vs S1
  | .lrg es, env, S => (evalEs G es env S).bind fun vs S1 => listRg vs S1
  | .meth m o es, env, S => (evalE G o env S).bind fun x S1 => if methFor m x && lstB S1 x then (evalEs G es env S1).bind fun vs S2 => methM m x vs S2 else .bad
  | .isT t a, env, S => (evalE G a env S).bind fun x S1 => isTM t x S1
  | .cel a, env, S => evalE G a env S
  | .comp own tg k src cond elt, env, S => (evalEs G src env S).bind fun vs S1 => match lenM k vs S1 with
    | none => .bad
    | some n0 => compLoop (stepM k vs n0) (fun v S2 => match asgM tg v (wipeE env own) with
      | none => .bad
      | some e1 => (evalC G cond e1 S2).bind fun b S3 => if b then (evalE G elt e1 S3).bind fun y S4 => .ok (some y) S4 else .ok none S3)
        S1.length (n0 + 1) 0 (S1 ++ [.lst []])
def evalEs (G : Conf) : Exs → Env → Store → Res (List PV)
  | .nil, _, S => .ok [] S
  | .cons e es, env, S => (evalE G e env S).bind fun v S1 => (evalEs G es env S1).bind fun vs S2 => .ok (v :: vs) S2
/-- a comprehension's tests: none or one -/
def evalC (G : Conf) : Exs → Env → Store → Res Bool
  | .nil, _, S => .ok true S
  | .cons e es, env, S => match es with
    | .nil => truB (evalE G e env S)
    | _ => .bad
end
/-- turns of a while that are looked at -/
def whileMost : Nat := 1000000
def setIxM (o i v : PV) (S : Store) : Option Store := match o, i with
  | .ref n, .int k => match S[n]? with
    | some (.lst xs) => match ixN xs.length k with
      | some j => some (S.set n (.lst (xs.set j v)))
      | none => none
    | _ => none
  | _, _ => none
mutual
def execS (G : Conf) : Sm → Env → Store → SRes
  | .asg t e, env, S => (evalE G e env S).sbind env fun v S1 => match asgM t v env with
    | some e1 => .nx e1 S1
    | none => .bad
  | .asgIx o i e, env, S => (evalE G e env S).sbind env fun v S1 => (evalE G o env S1).sbind env fun x S2 => (evalE G i env S2).sbind env fun y S3 => match setIxM x y v S3 with
    | some S4 => .nx env S4
    | none => .bad
  | .asgC i e, env, S => (evalE G e env S).sbind env fun v S1 => match asgM (.nm i) v env with
    | some e1 => .nx e1 S1
    | none => .bad
  | .exp e, env, S => (evalE G e env S).sbind env fun _ S1 => .nx env S1
  | .ret e, env, S => (evalE G e env S).sbind env fun v S1 => .ret v S1
  | .ifs c a b, env, S => match truB (evalE G c env S) with
    | .ok true S1 => execSs G a env S1
    | .ok false S1 => execSs G b env S1
    | .exc c fs S1 => .exc c fs env S1
    | .bad => .bad
  | .for t k src body, env, S => match evalEs G src env S with
    | .ok vs S1 => match lenM k vs S1 with
      | none => .bad
      | some n0 => forLoop (stepM k vs n0) (asgM t) (execSs G body) (n0 + 1) 0 env S1
    | .exc c fs S1 => .exc c fs env S1
    | .bad => .bad
  | .while c body, env, S => whileLoop (fun env S => truB (evalE G c env S)) (execSs G body) whileMost env S
  | .raise c, env, S => .exc c [] env S
  | .nev, _, _ => .bad
  | .tryN body c i, env, S => match execSs G body env S with
    | .exc c' fs env' S' => if c' = c ∧ fs = [] then .nx (env'.set i (some .non)) S' else .bad
    | r => r
  | .cloRet x g es js i, env, S => if G.can && S.any (isTab x) then match capsM (env.set i none) js with
    | some caps => (evalEs G es (env.set i none) S).sbindL (env.set i none) fun vs S1 => match (G.call g (vs ++ [.clo x caps]) S1).calm with
      | .ok v S2 => .ret v S2
      | _ => .bad
    | none => .bad
    else .bad
  | .pass, env, S => .nx env S
def execSs (G : Conf) : Sms → Env → Store → SRes
  | .nil, env, S => .nx env S
  | .cons s ss, env, S => (execS G s env S).thn (execSs G ss)
end
/-- a def: how many parameters, how many slots in all, the defaults of the last parameters, the body -/
structure FnI where
  params : List Str
  slots : List Str
  dfl : List PV
  body : Sms
def callBodyX (G : Conf) (f : FnI) (caps vs : List PV) (S : Store) : Res PV :=
  if vs.length = f.params.length then match execSs G f.body (vs.map some ++ (caps.map some ++ List.replicate (f.slots.length - vs.length - caps.length) none)) S with
    | .ret v S1 => .ok v S1
    | .nx _ S1 => .ok .non S1
    | .exc c fs _ S1 => .exc c fs S1
    | _ => .bad
  else .bad
def callBody (G : Conf) (f : FnI) (vs : List PV) (S : Store) : Res PV :=
  if vs.length = f.params.length then match execSs G f.body (vs.map some ++ List.replicate (f.slots.length - vs.length) none) S with
    | .ret v S1 => .ok v S1
    | .nx _ S1 => .ok .non S1
    | .exc c fs _ S1 => .exc c fs S1
    | _ => .bad
  else .bad
/-- the text: its defs by name, its constants -/
structure Text where
  fns : List (Str × FnI)
  glob : Str → Option PV
  /-- the own exception classes, without parts -/
  excs : List Str := []
  /-- the classes without parts that are made; their methods, by class and name -/
  cls : List Str := []
  mths : List ((Str × Str) × FnI) := []
  /-- the defs within defs: by the outer one's name; how many names each captures -/
  clos : List (Str × FnI × Nat) := []
inductive CK where
  | fn (x : Str) | mt (c m : Str) | clo (x : Str)
/-- calls at most r deep -/
def callT (T : Text) : Nat → CK → List PV → List PV → Store → Res PV
  | 0, _, _, _, _ => .bad
  | r + 1, k, caps, vs, S =>
    let G : Conf := ⟨T.glob, fun x => callT T r (.fn x) [], r != 0, fun x caps => callT T r (.clo x) caps, fun c m => callT T r (.mt c m) [], fun c => T.cls.contains c, fun c m => (T.mths.lookup (c, m)).isSome⟩
    match k with
    | .fn x => match T.fns.lookup x with
      | some f => callBody G f (vs ++ f.dfl.drop (f.dfl.length - (f.params.length - vs.length))) S
      | none => .bad
    | .mt c m => match T.mths.lookup (c, m) with
      | some f => callBody G f vs S
      | none => .bad
    | .clo x => match T.clos.lookup x with
      | some (f, n) => if caps.length = n then callBodyX G f caps vs S else .bad
      | none => .bad
abbrev callF (T : Text) (r : Nat) (x : Str) (vs : List PV) (S : Store) : Res PV := callT T r (.fn x) [] vs S
abbrev conf (T : Text) (r : Nat) : Conf := ⟨T.glob, fun x => callT T r (.fn x) [], r != 0, fun x caps => callT T r (.clo x) caps, fun c m => callT T r (.mt c m) [], fun c => T.cls.contains c, fun c m => (T.mths.lookup (c, m)).isSome⟩
theorem callT_fn {T : Text} {r : Nat} {x : Str} {caps vs : List PV} {S : Store} {f : FnI} (h : T.fns.lookup x = some f) : callT T (r + 1) (.fn x) caps vs S = callBody (conf T r) f (vs ++ f.dfl.drop (f.dfl.length - (f.params.length - vs.length))) S := by
  simp only [callT, h]
theorem callT_mt {T : Text} {r : Nat} {c m : Str} {caps vs : List PV} {S : Store} {f : FnI} (h : T.mths.lookup (c, m) = some f) : callT T (r + 1) (.mt c m) caps vs S = callBody (conf T r) f vs S := by
  simp only [callT, h]
theorem callT_clo {T : Text} {r : Nat} {x : Str} {caps vs : List PV} {S : Store} {f : FnI} {n : Nat} (h : T.clos.lookup x = some (f, n)) : callT T (r + 1) (.clo x) caps vs S = if caps.length = n then callBodyX (conf T r) f caps vs S else .bad := by
  simp only [callT, h]
end
end EK

namespace EK
open PySem PySem.Spec PyProof.Rows L2

/-! ### how the heap bears the store -/
/-- what stays as it is as long as it is tracked -/
def Fixed : HO → Prop
  | .tup _ => True
  | .frz _ (.own _) => False
  | .frz _ _ => True
  | .dK kvs => kvs ≠ []
  | .ext _ => True
  | .ins _ _ fs => fs = []
  | _ => False
/-- a dict that stands: made (tracked), or of the text's top -/
def DctAt (K : PySem.W.Frag) (w : World) (H : Hp) (a : Addr) (ks : List Str) (vs : List V) : Prop :=
  (∃ kvs, H a = some (.dK kvs) ∧ kvs ≠ [] ∧ kvs.map (·.1) = ks.map Sum.inr ∧ kvs.map (·.2) = vs ∧ ks.Nodup) ∨
  ((∃ es n, KDict K w a es n) ∧ ks.length = vs.length ∧ (∀ k, k ∉ ks → PySem.W.nsIn K a k = some none) ∧ ∀ (i : Nat) (k : Str) (v : V), ks[i]? = some k → vs[i]? = some v → ∃ u, PySem.W.nsIn K a k = some (some u) ∧ RelV v u)
/-- a tuple whose dict is none -/
def SqN (K : PySem.W.Frag) (H : Hp) (a : Addr) (vs : List V) : Prop := (∃ o : Obj, H a = some (.frz o (.tup vs)) ∧ o.cls = .type "tuple" ∧ o.dict = none) ∨
  ∃ (o : Obj) (its : Array Value) (n : Nat), K.lookup a = some o ∧ o.cls = .type "tuple" ∧ o.dict = none ∧ o.data = .seq its n ∧ its.size ≤ sizeLine ∧ Vals vs its.toList
theorem SqN.t {K : PySem.W.Frag} {H : Hp} {a : Addr} {vs : List V} (h : SqN K H a vs) : SqT K H a vs := by
  rcases h with ⟨o, h, _⟩ | ⟨o, its, n, h1, h2, _, h3, h4, h5⟩
  · exact .inl (.inr ⟨o, h⟩)
  · exact .inr ⟨o, its, n, h1, h2, h3, h4, h5⟩
/-- a list that never changes: the law's script -/
def ConL (K : PySem.W.Frag) (H : Hp) (a : Addr) (vs : List V) : Prop := (∃ o, H a = some (.frz o (.lst vs))) ∨
  ∃ (o : Obj) (its : Array Value) (n : Nat), K.lookup a = some o ∧ o.cls = .type "list" ∧ o.dict = none ∧ o.data = .seq its n ∧ its.size ≤ sizeLine ∧ Vals vs its.toList
/-- the def within the def x, its names, the names that it captures -/
def nestIn (K : PySem.W.Frag) (x : Str) : Option Stmt := match K.lookup (He.ga K x) with
  | some ⟨_, _, .func fd, _⟩ => (match fd.body with
    | .stmts b => b.find? fun s => match s with
      | .FunctionDef .. => true
      | _ => false
    | _ => none)
  | _ => none
def nestNm : Stmt → Str
  | .FunctionDef n _ _ _ _ _ _ _ _ _ => n
  | _ => ""
def nestQ (K : PySem.W.Frag) (x : Str) (st : Stmt) : Str := match K.lookup (He.ga K x) with
  | some ⟨_, _, .func fd, _⟩ => (fd.qualname ++ ".<locals>.") ++ nestNm st
  | _ => ""
def frOf (st : Stmt) : List Str := ((C8.fnScope st).names.filter fun y => match y.2 with
  | .free => true
  | _ => false).map (·.1)
mutual
def Rep (K : PySem.W.Frag) (w : World) (ι : List Addr) (H : Hp) : PV → V → Prop
  | .non, v => v = .non
  | .bl b, v => v = .bl b
  | .int i, v => v = .int i
  | .str s, v => v = .str s
  | .tup xs, v => ∃ a vs, v = .ref a ∧ SqN K H a vs ∧ Reps K w ι H xs vs
  | .wt xs, v => ∃ a vs, v = .ref a ∧ SqT K H a vs ∧ Reps K w ι H xs vs
  | .ref n, v => ∃ a, v = .ref a ∧ ι[n]? = some a
  | .dct ks xs, v => ∃ a vs, v = .ref a ∧ DctAt K w H a ks vs ∧ Reps K w ι H xs vs
  | .con xs, v => ∃ a vs, v = .ref a ∧ ConL K H a vs ∧ Reps K w ι H xs vs
  | .clo _ _, _ => False
  | .vl _, _ => False
  | .obj c, v => ∃ a dx, v = .ref a ∧ H a = some (.ins (He.ga K c) dx [])
def Reps (K : PySem.W.Frag) (w : World) (ι : List Addr) (H : Hp) : List PV → List V → Prop
  | [], vs => vs = []
  | x :: xs, vs => ∃ v r, vs = v :: r ∧ Rep K w ι H x v ∧ Reps K w ι H xs r
end
def CellOk (K : PySem.W.Frag) (w : World) (ι : List Addr) (H : Hp) (a : Addr) : Cell → Prop
  | .lst xs => ∃ vs, H a = some (.lst vs) ∧ Reps K w ι H xs vs
  | .ro xs => ∃ vs o, H a = some (.frz o (.lst vs)) ∧ Reps K w ι H xs vs
  | .ins _ _ => False
  | .tab x => a = (He.cT K (x, none)).2 ∧ ∃ st, nestIn K x = some st ∧ NdefX.TabN H a (fun _ _ => nestQ K x st)
structure Sim (K : PySem.W.Frag) (w : World) (ι : List Addr) (S : Store) (H : Hp) : Prop where
  len : ι.length = S.length
  nd : ι.Nodup
  cell : ∀ (i : Nat) (c : Cell), S[i]? = some c → ∃ a : Addr, ι[i]? = some a ∧ CellOk K w ι H a c
structure Ext (ι : List Addr) (H : Hp) (ι' : List Addr) (H' : Hp) : Prop where
  pre : ι <+: ι'
  kept : ∀ a o, H a = some o → Fixed o → H' a = some o
/-- what an evaluation does: it lays new things, it changes the store's lists -/
structure Grow (ι : List Addr) (H : Hp) (ι' : List Addr) (H' : Hp) : Prop extends Ext ι H ι' H' where
  all : ∀ a o, H a = some o → a ∉ ι → (∀ ps, o ≠ .tbl ps) → H' a = some o
  new : ∀ a, a ∈ ι' → a ∉ ι → H a = none
  gone : ∀ a, H' a = none → H a = none
/-- a def within the def x, what it captured -/
def CloRep (K : PySem.W.Frag) (w : World) (ι : List Addr) (H : Hp) (x : Str) (caps : List PV) (v : V) : Prop :=
  ∃ (f : Addr) (st : Stmt) (cl : List (Str × Addr)) (c' : Addr), v = .ref f ∧ nestIn K x = some st ∧ H f = some (NdefX.FnO f (NdefX.NF.of st (nestNm st) (nestQ K x st) cl c')) ∧ H c' = some (LamX.CodeO c' (nestQ K x st)) ∧
    f ∉ ι ∧ c' ∉ ι ∧ (∀ y z c, cl.lookup y = some c → cl.lookup z = some c → y = z) ∧
    (∀ y c, cl.lookup y = some c → c ∉ ι ∧ ∃ oc u, H c = some (.frz oc (.own c)) ∧ oc.data = .cell u) ∧
    ∃ cs : List V, Reps K w ι H caps cs ∧ cs.length = (frOf st).length ∧
      ∀ (i : Nat) (y : Str), (frOf st)[i]? = some y → ∃ c, cl.lookup y = some c ∧ ∀ v', cs[i]? = some v' → ∃ oc u, H c = some (.frz oc (.own c)) ∧ oc.data = .cell (some u) ∧ RelV v' u
def RepX (K : PySem.W.Frag) (w : World) (ι : List Addr) (H : Hp) (x : PV) (v : V) : Prop := match x with
  | .clo x caps => CloRep K w ι H x caps v
  | x => Rep K w ι H x v
def RepsX (K : PySem.W.Frag) (w : World) (ι : List Addr) (H : Hp) : List PV → List V → Prop
  | [], vs => vs = []
  | x :: xs, vs => ∃ v r, vs = v :: r ∧ RepX K w ι H x v ∧ RepsX K w ι H xs r
def EnvR (K : PySem.W.Frag) (w : World) (ι : List Addr) (H : Hp) (env : Env) (σ : L2.St) : Prop :=
  env.length = σ.length ∧ ∀ (i : Nat) x, env[i]? = some (some x) → ∃ v, σ[i]? = some (some v) ∧ RepX K w ι H x v

section
variable {K : PySem.W.Frag} {w : World} {ι ι' ι'' : List Addr} {H H' H'' : Hp} {S : Store} {env : Env} {σ : L2.St}
theorem Grow.refl : Grow ι H ι H := ⟨⟨List.prefix_rfl, fun _ _ h _ => h⟩, fun _ _ h _ _ => h, fun _ h h' => absurd h h', fun _ h => h⟩
theorem Grow.trans (a : Grow ι H ι' H') (b : Grow ι' H' ι'' H'') : Grow ι H ι'' H'' :=
  ⟨⟨a.pre.trans b.pre, fun x o h f => b.kept x o (a.kept x o h f) f⟩, fun x o h hx nt => b.all x o (a.all x o h hx nt) (fun hx' => (by
    have hn := a.new x hx' hx
    rw [hn] at h; cases h)) nt, fun x h1 h2 => by
    by_cases h3 : x ∈ ι'
    · exact a.new x h3 h2
    · exact a.gone x (b.new x h1 h3), fun x h => a.gone x (b.gone x h)⟩
theorem Ext.get (g : Ext ι H ι' H') {n : Nat} {a : Addr} (h : ι[n]? = some a) : ι'[n]? = some a := by
  obtain ⟨t, rfl⟩ := g.pre
  rw [List.getElem?_append_left (List.getElem?_eq_some_iff.mp h).1]
  exact h
theorem Grow.get (g : Grow ι H ι' H') {n : Nat} {a : Addr} (h : ι[n]? = some a) : ι'[n]? = some a := g.toExt.get h
theorem SqT.ext {a : Addr} {xs : List V} (g : Ext ι H ι' H') (h : SqT K H a xs) : SqT K H' a xs := by
  rcases h with (h | ⟨o, h⟩) | h
  · exact .inl (.inl (g.kept _ _ h trivial))
  · exact .inl (.inr ⟨o, g.kept _ _ h trivial⟩)
  · exact .inr h
theorem DctAt.ext {a : Addr} {ks : List Str} {vs : List V} (g : Ext ι H ι' H') (h : DctAt K w H a ks vs) : DctAt K w H' a ks vs := by
  rcases h with ⟨kvs, h, hn, e⟩ | h
  · exact .inl ⟨kvs, g.kept _ _ h hn, hn, e⟩
  · exact .inr h
mutual
theorem Rep.ext (g : Ext ι H ι' H') : ∀ {x : PV} {v : V}, Rep K w ι H x v → Rep K w ι' H' x v
  | .non, _, h => by unfold Rep at h ⊢; exact h
  | .bl b, _, h => by unfold Rep at h ⊢; exact h
  | .int i, _, h => by unfold Rep at h ⊢; exact h
  | .str s, _, h => by unfold Rep at h ⊢; exact h
  | .tup xs, _, h => by
    unfold Rep at h ⊢
    obtain ⟨a, vs, e, hs, hr⟩ := h
    exact ⟨a, vs, e, hs.imp (fun ⟨o, q, z⟩ => ⟨o, g.kept _ _ q trivial, z⟩) id, Reps.ext g hr⟩
  | .wt xs, _, h => by
    unfold Rep at h ⊢
    obtain ⟨a, vs, e, hs, hr⟩ := h
    exact ⟨a, vs, e, SqT.ext g hs, Reps.ext g hr⟩
  | .ref n, _, h => by
    unfold Rep at h ⊢
    obtain ⟨a, e, hn⟩ := h
    exact ⟨a, e, g.get hn⟩
  | .dct ks xs, _, h => by
    unfold Rep at h ⊢
    obtain ⟨a, vs, e, hs, hr⟩ := h
    exact ⟨a, vs, e, DctAt.ext g hs, Reps.ext g hr⟩
  | .con xs, _, h => by
    unfold Rep at h ⊢
    obtain ⟨a, vs, e, hs, hr⟩ := h
    exact ⟨a, vs, e, hs.imp (fun ⟨o, q⟩ => ⟨o, g.kept _ _ q trivial⟩) id, Reps.ext g hr⟩
  | .clo _ _, _, h => by unfold Rep at h; exact h.elim
  | .vl _, _, h => by unfold Rep at h; exact h.elim
  | .obj _, _, h => by
    unfold Rep at h ⊢
    obtain ⟨a, dx, e, hs⟩ := h
    exact ⟨a, dx, e, g.kept _ _ hs rfl⟩
theorem Reps.ext (g : Ext ι H ι' H') : ∀ {xs : List PV} {vs : List V}, Reps K w ι H xs vs → Reps K w ι' H' xs vs
  | [], _, h => by unfold Reps at h ⊢; exact h
  | x :: xs, _, h => by
    unfold Reps at h ⊢
    obtain ⟨v, r, e, h1, h2⟩ := h
    exact ⟨v, r, e, Rep.ext g h1, Reps.ext g h2⟩
end
theorem Rep.grow {x : PV} {v : V} (g : Grow ι H ι' H') (h : Rep K w ι H x v) : Rep K w ι' H' x v := h.ext g.toExt
theorem Reps.grow {xs : List PV} {vs : List V} (g : Grow ι H ι' H') (h : Reps K w ι H xs vs) : Reps K w ι' H' xs vs := h.ext g.toExt
theorem Reps.length : ∀ {xs : List PV} {vs : List V}, Reps K w ι H xs vs → vs.length = xs.length
  | [], _, h => by unfold Reps at h; subst h; rfl
  | x :: xs, _, h => by
    unfold Reps at h
    obtain ⟨v, r, rfl, _, h2⟩ := h
    rw [List.length_cons, List.length_cons, Reps.length h2]
theorem Reps.get : ∀ {xs : List PV} {vs : List V} {i : Nat} {x : PV}, Reps K w ι H xs vs → xs[i]? = some x → ∃ v, vs[i]? = some v ∧ Rep K w ι H x v
  | [], _, _, _, _, e => by simp at e
  | x :: xs, _, i, y, h, e => by
    unfold Reps at h
    obtain ⟨v, r, rfl, h1, h2⟩ := h
    cases i with
    | zero => simp at e; subst e; exact ⟨v, rfl, h1⟩
    | succ i => exact Reps.get (i := i) h2 (by simpa using e)
theorem Reps.nil : Reps K w ι H [] [] := by unfold Reps; rfl
theorem Reps.cons {x : PV} {v : V} {xs : List PV} {vs : List V} (a : Rep K w ι H x v) (b : Reps K w ι H xs vs) : Reps K w ι H (x :: xs) (v :: vs) := by unfold Reps; exact ⟨v, vs, rfl, a, b⟩
theorem Reps.append : ∀ {xs ys : List PV} {vs ws : List V}, Reps K w ι H xs vs → Reps K w ι H ys ws → Reps K w ι H (xs ++ ys) (vs ++ ws)
  | [], _, _, _, h, k => by unfold Reps at h; subst h; exact k
  | x :: xs, _, _, _, h, k => by
    unfold Reps at h
    obtain ⟨v, r, rfl, h1, h2⟩ := h
    exact Reps.cons h1 (Reps.append h2 k)
theorem Reps.drop : ∀ {xs : List PV} {vs : List V} (n : Nat), Reps K w ι H xs vs → Reps K w ι H (xs.drop n) (vs.drop n)
  | _, _, 0, h => h
  | [], _, n + 1, h => by unfold Reps at h; subst h; exact Reps.nil
  | x :: xs, _, n + 1, h => by
    unfold Reps at h
    obtain ⟨v, r, rfl, h1, h2⟩ := h
    exact Reps.drop n h2
theorem Reps.take : ∀ {xs : List PV} {vs : List V} (n : Nat), Reps K w ι H xs vs → Reps K w ι H (xs.take n) (vs.take n)
  | _, _, 0, h => Reps.nil
  | [], _, n + 1, h => by unfold Reps at h; subst h; exact Reps.nil
  | x :: xs, _, n + 1, h => by
    unfold Reps at h
    obtain ⟨v, r, rfl, h1, h2⟩ := h
    exact Reps.cons h1 (Reps.take n h2)
theorem Reps.set : ∀ {xs : List PV} {vs : List V} {x : PV} {v : V} (n : Nat), Rep K w ι H x v → Reps K w ι H xs vs → Reps K w ι H (xs.set n x) (vs.set n v)
  | [], _, _, _, _, _, h => by unfold Reps at h; subst h; exact Reps.nil
  | y :: xs, _, x, v, 0, a, h => by
    unfold Reps at h
    obtain ⟨u, r, rfl, h1, h2⟩ := h
    exact Reps.cons a h2
  | y :: xs, _, x, v, n + 1, a, h => by
    unfold Reps at h
    obtain ⟨u, r, rfl, h1, h2⟩ := h
    exact Reps.cons h1 (Reps.set n a h2)
theorem Reps.rep {xs : List PV} {vs : List V} (h : Reps K w ι H xs vs) : ∀ k : Nat, Reps K w ι H (List.replicate k xs).flatten (List.replicate k vs).flatten
  | 0 => Reps.nil
  | k + 1 => by
    rw [List.replicate_succ, List.replicate_succ, List.flatten_cons, List.flatten_cons]
    exact Reps.append h (Reps.rep h k)
theorem Reps.isEmpty {xs : List PV} {vs : List V} (h : Reps K w ι H xs vs) : vs.isEmpty = xs.isEmpty := by
  have e := h.length
  cases xs <;> cases vs <;> simp at e <;> rfl
theorem Reps.ne_nil {xs : List PV} {vs : List V} (h : Reps K w ι H xs vs) : vs ≠ [] ↔ xs ≠ [] := by
  have e := h.length
  cases xs <;> cases vs <;> simp at e <;> simp
theorem CellOk.grow {a : Addr} {c : Cell} (g : Ext ι H ι' H') (hl : ∀ vs, H a = some (.lst vs) → H' a = some (.lst vs)) (ht : ∀ q, NdefX.TabN H a q → NdefX.TabN H' a q) (h : CellOk K w ι H a c) : CellOk K w ι' H' a c := by
  cases c with
  | lst xs => obtain ⟨vs, e, r⟩ := h; exact ⟨vs, hl _ e, r.ext g⟩
  | ro xs => obtain ⟨vs, o, e, r⟩ := h; exact ⟨vs, o, g.kept _ _ e trivial, r.ext g⟩
  | ins _ _ => exact h.elim
  | tab x => obtain ⟨e, st, hs, t⟩ := h; exact ⟨e, st, hs, ht _ t⟩
theorem CellOk.there {a : Addr} {c : Cell} (h : CellOk K w ι H a c) : ∃ o, H a = some o := by
  cases c with
  | lst xs => obtain ⟨vs, e, r⟩ := h; exact ⟨_, e⟩
  | ro xs => obtain ⟨vs, o, e, r⟩ := h; exact ⟨_, e⟩
  | ins _ _ => exact h.elim
  | tab x => obtain ⟨_, _, _, ps, e, _⟩ := h; exact ⟨_, e⟩
theorem CloRep.grow {x : Str} {caps : List PV} {v : V} (g : Grow ι H ι' H') (h : CloRep K w ι H x caps v) : CloRep K w ι' H' x caps v := by
  obtain ⟨f, st, cl, c', e, hs, hf, hc, nf, nc, hi, hcl, cs, hr, hl, hv⟩ := h
  have out : ∀ a o, H a = some o → a ∉ ι → a ∉ ι' := fun a o e n z => by
    have := g.new a z n
    rw [e] at this; cases this
  refine ⟨f, st, cl, c', e, hs, g.all _ _ hf nf fun ps => NdefX.fnO_ne ps, g.all _ _ hc nc fun ps => LamX.codeO_ne ps, out _ _ hf nf, out _ _ hc nc, hi, fun y c q => ?_, cs, hr.grow g, hl, fun i y e1 => ?_⟩
  · obtain ⟨n, oc, u, h1, h2⟩ := hcl y c q
    exact ⟨out _ _ h1 n, oc, u, g.all _ _ h1 n (fun ps z => nomatch z), h2⟩
  · obtain ⟨c, q1, h0⟩ := hv i y e1
    refine ⟨c, q1, fun v' e2 => ?_⟩
    obtain ⟨oc, u, h1, h2, h3⟩ := h0 v' e2
    exact ⟨oc, u, g.all _ _ h1 (hcl y c q1).1 (fun ps z => nomatch z), h2, h3⟩
theorem RepX.grow {x : PV} {v : V} (g : Grow ι H ι' H') (h : RepX K w ι H x v) : RepX K w ι' H' x v := by
  cases x with
  | clo x caps => exact CloRep.grow g h
  | _ => exact Rep.grow g h
theorem RepX.of {x : PV} {v : V} (h : Rep K w ι H x v) : RepX K w ι H x v := by
  cases x with
  | clo x caps => unfold Rep at h; exact h.elim
  | _ => exact h
theorem RepX.to {x : PV} {v : V} (h : RepX K w ι H x v) (n : isClo x = false) : Rep K w ι H x v := by
  cases x with
  | clo x caps => cases n
  | _ => exact h
theorem RepsX.of : ∀ {xs : List PV} {vs : List V}, Reps K w ι H xs vs → RepsX K w ι H xs vs
  | [], _, h => by unfold Reps at h; exact h
  | x :: xs, _, h => by
    unfold Reps at h
    obtain ⟨v, r, e, h1, h2⟩ := h
    exact ⟨v, r, e, .of h1, RepsX.of h2⟩
theorem RepsX.grow (g : Grow ι H ι' H') : ∀ {xs : List PV} {vs : List V}, RepsX K w ι H xs vs → RepsX K w ι' H' xs vs
  | [], _, h => h
  | x :: xs, _, ⟨v, r, e, h1, h2⟩ => ⟨v, r, e, h1.grow g, RepsX.grow g h2⟩
theorem RepsX.length : ∀ {xs : List PV} {vs : List V}, RepsX K w ι H xs vs → vs.length = xs.length
  | [], _, h => by cases h; rfl
  | x :: xs, _, ⟨v, r, e, _, h2⟩ => by subst e; rw [List.length_cons, List.length_cons, RepsX.length h2]
theorem RepsX.get : ∀ {xs : List PV} {vs : List V} {i : Nat} {x : PV}, RepsX K w ι H xs vs → xs[i]? = some x → ∃ v, vs[i]? = some v ∧ RepX K w ι H x v
  | [], _, _, _, _, e => by simp at e
  | x :: xs, _, i, y, ⟨v, r, e0, h1, h2⟩, e => by
    subst e0
    cases i with
    | zero => simp at e; subst e; exact ⟨v, rfl, h1⟩
    | succ i => exact RepsX.get (i := i) h2 (by simpa using e)
theorem RepsX.append : ∀ {xs ys : List PV} {vs ws : List V}, RepsX K w ι H xs vs → RepsX K w ι H ys ws → RepsX K w ι H (xs ++ ys) (vs ++ ws)
  | [], _, _, _, h, k => by cases h; exact k
  | x :: xs, _, _, _, ⟨v, r, e, h1, h2⟩, k => by subst e; exact ⟨v, _, rfl, h1, RepsX.append h2 k⟩
theorem RepsX.one {x : PV} {v : V} (h : RepX K w ι H x v) : RepsX K w ι H [x] [v] := ⟨v, [], rfl, h, rfl⟩
/-- a table stays where no table, no code object changes -/
theorem TabN.upd {p a : Addr} {o u : HO} {q : Nat → Nat → Str} (hp : H p = some o) (ho : ∀ ps, o ≠ .tbl ps) (hx : ∀ φ, o ≠ .ext φ) (h : NdefX.TabN H a q) : NdefX.TabN (upd H p u) a q := by
  obtain ⟨ps, h1, h2, h3⟩ := h
  refine ⟨ps, ?_, h2, fun pos cv hc => ?_⟩
  · rw [upd_ne (ne_of h1 hp fun z => ho _ z.symm)]; exact h1
  · obtain ⟨c, e, h4⟩ := h3 pos cv hc
    exact ⟨c, e, by rw [upd_ne (ne_of h4 hp fun z => hx _ z.symm)]; exact h4⟩
theorem TabN.laid {p a : Addr} {u : HO} {q : Nat → Nat → Str} (hp : H p = none) (h : NdefX.TabN H a q) : NdefX.TabN (L2.upd H p u) a q := h.ext fun b o e => by rw [upd_ne (ne_of_none e hp)]; exact e
theorem EnvR.grow (g : Grow ι H ι' H') (h : EnvR K w ι H env σ) : EnvR K w ι' H' env σ :=
  ⟨h.1, fun i x e => by
    obtain ⟨v, e2, r⟩ := h.2 i x e
    exact ⟨v, e2, r.grow g⟩⟩
theorem upd_gone {H : Hp} {p a : Addr} {o : HO} (h : L2.upd H p o a = none) : H a = none := by
  unfold L2.upd at h
  split at h
  · cases h
  · exact h
/-- a new thing is laid -/
theorem Grow.laid {p : Addr} {o : HO} (hp : H p = none) : Grow ι H ι (upd H p o) :=
  ⟨⟨List.prefix_rfl, fun a u e _ => by rw [upd_ne (ne_of_none e hp)]; exact e⟩, fun a u e _ _ => by rw [upd_ne (ne_of_none e hp)]; exact e, fun _ h h' => absurd h h', fun a => upd_gone⟩
/-- a new cell -/
theorem Grow.cell {p : Addr} {o : HO} (hp : H p = none) : Grow ι H (ι ++ [p]) (upd H p o) :=
  ⟨⟨List.prefix_append _ _, fun a u e _ => by rw [upd_ne (ne_of_none e hp)]; exact e⟩, fun a u e _ _ => by rw [upd_ne (ne_of_none e hp)]; exact e, fun a h h' => by
    rcases List.mem_append.mp h with h | h
    · exact absurd h h'
    · rw [List.mem_singleton.mp h]; exact hp, fun a => upd_gone⟩
/-- a list changes -/
theorem Grow.write {p : Addr} {vs : List V} {o : HO} {n : Nat} (hi : ι[n]? = some p) (hp : H p = some (.lst vs)) : Grow ι H ι (upd H p o) :=
  ⟨⟨List.prefix_rfl, fun a u e f => by
    by_cases h : a = p
    · subst h; rw [hp] at e; cases e; exact f.elim
    · rw [upd_ne h]; exact e⟩, fun a u e ha _ => by
    have : a ≠ p := fun z => ha (z ▸ List.mem_of_getElem? hi)
    rw [upd_ne this]; exact e, fun _ h h' => absurd h h', fun a => upd_gone⟩
/-- what is no cell and no fixed thing changes -/
theorem Ext.other {p : Addr} {o u : HO} (hp : H p = some o) (hf : ¬ Fixed o) : Ext ι H ι (upd H p u) :=
  ⟨List.prefix_rfl, fun a z e f => by
    by_cases h : a = p
    · subst h; rw [hp] at e; cases e; exact absurd f hf
    · rw [upd_ne h]; exact e⟩
theorem Sim.other {p : Addr} {o u : HO} (s : Sim K w ι S H) (hp : H p = some o) (hf : ¬ Fixed o) (hl : ∀ vs, o ≠ .lst vs) (ht : ∀ ps, o ≠ .tbl ps) : Sim K w ι S (upd H p u) :=
  ⟨s.len, s.nd, fun i c e => by
    obtain ⟨a, ea, ca⟩ := s.cell i c e
    refine ⟨a, ea, ca.grow (.other hp hf) (fun vs h => ?_) fun q h => TabN.upd hp ht (fun φ z => hf (by rw [z]; trivial)) h⟩
    have : a ≠ p := fun z => by subst z; rw [hp] at h; exact hl vs (Option.some.inj h)
    rw [upd_ne this]; exact h⟩
theorem Sim.there (s : Sim K w ι S H) {i : Nat} {a : Addr} (h : ι[i]? = some a) : ∃ o, H a = some o := by
  have hi := (List.getElem?_eq_some_iff.mp h).1
  rw [s.len] at hi
  obtain ⟨b, e, c⟩ := s.cell i _ (List.getElem?_eq_getElem hi)
  rw [h] at e; cases e
  exact c.there
/-- a new thing that is no cell -/
theorem Sim.laid {p : Addr} {o : HO} (s : Sim K w ι S H) (hp : H p = none) : Sim K w ι S (upd H p o) :=
  ⟨s.len, s.nd, fun i c e => by
    obtain ⟨a, ea, ca⟩ := s.cell i c e
    refine ⟨a, ea, ca.grow (Grow.laid hp).toExt (fun vs h => ?_) fun q h => TabN.laid hp h⟩
    rw [upd_ne (ne_of_none h hp)]; exact h⟩
/-- a new list, a cell -/
theorem Sim.new {p : Addr} {xs : List PV} {vs : List V} (s : Sim K w ι S H) (hp : H p = none) (r : Reps K w ι H xs vs) : Sim K w (ι ++ [p]) (S ++ [.lst xs]) (upd H p (.lst vs)) := by
  have g : Grow ι H (ι ++ [p]) (upd H p (.lst vs)) := .cell hp
  refine ⟨by rw [List.length_append, List.length_append, s.len]; rfl, ?_, fun i c e => ?_⟩
  · refine List.nodup_append.mpr ⟨s.nd, by simp, fun a ha b hb => ?_⟩
    rw [List.mem_singleton] at hb
    subst hb
    obtain ⟨i, hi, e⟩ := List.mem_iff_getElem.mp ha
    obtain ⟨o, q⟩ := s.there (i := i) (a := a) (by rw [List.getElem?_eq_getElem hi, e])
    exact ne_of_none q hp
  · by_cases hi : i < S.length
    · rw [List.getElem?_append_left hi] at e
      obtain ⟨a, ea, ca⟩ := s.cell i c e
      refine ⟨a, g.get ea, ca.grow g.toExt (fun us h => ?_) fun q h => TabN.laid hp h⟩
      rw [upd_ne (ne_of_none h hp)]; exact h
    · rw [List.getElem?_append_right (by omega)] at e
      obtain ⟨h1, h2⟩ := List.getElem?_eq_some_iff.mp e
      have : i = S.length := by simp at h1; omega
      subst this
      simp at h2
      subst h2
      refine ⟨p, ?_, ⟨vs, upd_same, r.grow g⟩⟩
      rw [← s.len]; simp
/-- a list, a cell, changes -/
theorem Sim.write {n : Nat} {a : Addr} {ys : List PV} {us vs : List V} (s : Sim K w ι S H) (ea : ι[n]? = some a) (ha : H a = some (.lst us)) (r : Reps K w ι H ys vs) (hn : n < S.length) : Sim K w ι (S.set n (.lst ys)) (upd H a (.lst vs)) := by
  have g : Grow ι H ι (upd H a (.lst vs)) := .write ea ha
  refine ⟨by rw [List.length_set]; exact s.len, s.nd, fun i c e => ?_⟩
  by_cases hi : i = n
  · subst hi
    rw [List.getElem?_set_self hn] at e
    cases e
    exact ⟨a, ea, vs, upd_same, r.grow g⟩
  · rw [List.getElem?_set_ne (fun z => hi z.symm)] at e
    obtain ⟨b, eb, cb⟩ := s.cell i c e
    have hab : b ≠ a := fun z => by
      subst z
      have h1 := List.getElem?_eq_some_iff.mp ea
      have h2 := List.getElem?_eq_some_iff.mp eb
      exact hi ((List.getElem_inj s.nd).mp (h2.2.trans h1.2.symm))
    refine ⟨b, eb, cb.grow g.toExt (fun us h => ?_) fun q h => TabN.upd ha (fun _ z => by cases z) (fun _ z => by cases z) h⟩
    rw [upd_ne hab]; exact h
theorem Sim.lst {n : Nat} {xs : List PV} (s : Sim K w ι S H) (e : S[n]? = some (.lst xs)) : ∃ a vs, ι[n]? = some a ∧ H a = some (.lst vs) ∧ Reps K w ι H xs vs := by
  obtain ⟨a, ea, vs, h, r⟩ := s.cell n _ e
  exact ⟨a, vs, ea, h, r⟩
theorem Sim.ro {n : Nat} {xs : List PV} (s : Sim K w ι S H) (e : S[n]? = some (.ro xs)) : ∃ a vs o, ι[n]? = some a ∧ H a = some (.frz o (.lst vs)) ∧ Reps K w ι H xs vs := by
  obtain ⟨a, ea, vs, o, h, r⟩ := s.cell n _ e
  exact ⟨a, vs, o, ea, h, r⟩
theorem Sim.sq {n : Nat} {xs : List PV} (s : Sim K w ι S H) (e : cellL S n = some xs) : ∃ a vs, ι[n]? = some a ∧ SqL K H a vs ∧ Reps K w ι H xs vs := by
  unfold cellL at e
  split at e
  · rename_i ys q
    cases e
    obtain ⟨a, vs, ea, h, r⟩ := s.lst q
    exact ⟨a, vs, ea, .inl (.inl h), r⟩
  · rename_i ys q
    cases e
    obtain ⟨a, vs, o, ea, h, r⟩ := s.ro q
    exact ⟨a, vs, ea, .inl (.inr ⟨o, h⟩), r⟩
  · cases e
end

/-! ### ends -/
/-- an evaluation's end: what is wanted of its value; EX of what it raises -/
def FinG {α : Type} (K : PySem.W.Frag) (w : World) (mg : Str → Option Value) (EX : XK) (ι : List Addr) (H : Hp) (m : Res α) (k : α → Store → List Addr → Hp → Prop) : Prop := match m with
  | .ok v S => ∀ ι' H', Grow ι H ι' H' → Sim K w ι' S H' → k v S ι' H'
  | .exc c fs S => fs = [] ∧ ∀ ι' H' cls, Grow ι H ι' H' → Sim K w ι' S H' → mg c = some cls → EX cls none H'
  | .bad => False
section
variable {α β : Type} {K : PySem.W.Frag} {w : World} {mg : Str → Option Value} {EX : XK} {ι ι' : List Addr} {H H' : Hp}
theorem FinG.grow {m : Res α} {k : α → Store → List Addr → Hp → Prop} (g : Grow ι H ι' H') (h : FinG K w mg EX ι H m k) : FinG K w mg EX ι' H' m k := by
  cases m with
  | ok v S => exact fun i2 H2 g2 s2 => h i2 H2 (g.trans g2) s2
  | exc c fs S => exact ⟨h.1, fun i2 H2 cls g2 s2 => h.2 i2 H2 cls (g.trans g2) s2⟩
  | bad => exact h
theorem FinG.bind {m : Res α} {f : α → Store → Res β} {k : β → Store → List Addr → Hp → Prop} (h : FinG K w mg EX ι H (m.bind f) k) :
    FinG K w mg EX ι H m fun v S i2 H2 => FinG K w mg EX i2 H2 (f v S) k := by
  cases m with
  | ok v S => exact fun i2 H2 g2 s2 => FinG.grow g2 h
  | exc c fs S => exact h
  | bad => exact h
theorem FinG.imp {m : Res α} {k k' : α → Store → List Addr → Hp → Prop} (h : FinG K w mg EX ι H m k) (hk : ∀ v S i2 H2, Grow ι H i2 H2 → Sim K w i2 S H2 → k v S i2 H2 → k' v S i2 H2) : FinG K w mg EX ι H m k' := by
  cases m with
  | ok v S => exact fun i2 H2 g2 s2 => hk _ _ _ _ g2 s2 (h i2 H2 g2 s2)
  | exc c fs S => exact h
  | bad => exact h
end
abbrev Sem1 := Env → Store → Res PV
/-- the reading of an expression that reckons m -/
def tM (K : PySem.W.Frag) (w : World) (mg : Str → Option Value) (W : WX) (m : Sem1) : TE := fun σ H Q => ∃ ι S env, Sim K w ι S H ∧ EnvR K w ι H env σ ∧
  FinG K w mg (WE W σ) ι H (m env S) fun v _ ι' H' => ∀ v', Rep K w ι' H' v v' → Q v' H'
def tMs (K : PySem.W.Frag) (w : World) (mg : Str → Option Value) (W : WX) (m : Env → Store → Res (List PV)) : TA := fun σ H Q => ∃ ι S env, Sim K w ι S H ∧ EnvR K w ι H env σ ∧
  FinG K w mg (WE W σ) ι H (m env S) fun v _ ι' H' => ∀ v', Reps K w ι' H' v v' → Q v' H'
def tMt (K : PySem.W.Frag) (w : World) (mg : Str → Option Value) (W : WX) (m : Env → Store → Res Bool) : TT := fun σ H Q => ∃ ι S env, Sim K w ι S H ∧ EnvR K w ι H env σ ∧
  FinG K w mg (WE W σ) ι H (m env S) fun b _ _ H' => Q b H'
theorem PE.imp {X : Cx} {e : Expr} {t t' : TE} (h : PE X e t) (i : ∀ σ H Q, t' σ H Q → t σ H Q) : PE X e t' := ⟨fun pins s σ H Q I hw => h.run pins s σ H Q I (i _ _ _ hw)⟩
theorem PT.imp {X : Cx} {e : Expr} {t t' : TT} (h : PT X e t) (i : ∀ σ H Q, t' σ H Q → t σ H Q) : PT X e t' := ⟨fun pins s σ H Q I hw => h.run pins s σ H Q I (i _ _ _ hw)⟩
theorem PA.imp {X : Cx} {e : List Expr} {t t' : TA} (h : PA X e t) (i : ∀ σ H Q, t' σ H Q → t σ H Q) : PA X e t' := ⟨fun pos pins s σ H Q I hw => h.run pos pins s σ H Q I (i _ _ _ hw)⟩
theorem PS.imp {X : Cx} {e : Stmt} {t t' : TS} (h : PS X e t) (i : ∀ D σ H, t' D σ H → t D σ H) : PS X e t' := ⟨fun pins s σ H D I hw => h.run pins s σ H D I (i _ _ _ hw)⟩
theorem PSs.imp {X : Cx} {e : List Stmt} {t t' : TS} (h : PSs X e t) (i : ∀ D σ H, t' D σ H → t D σ H) : PSs X e t' := ⟨fun pins s σ H D I hw => h.run pins s σ H D I (i _ _ _ hw)⟩
end EK

namespace EK
open PySem PySem.Spec PyProof.Rows L2

/-! ### plain data as the library's data -/
mutual
def cD : PV → PyData
  | .non => .none
  | .bl b => .bool b
  | .int i => .int i
  | .str x => .str x
  | .tup xs => .tuple (cDs xs)
  | .vl xs => .list (cDs xs)
  | _ => .none
def cDs : List PV → List PyData
  | [] => []
  | x :: xs => cD x :: cDs xs
end
mutual
theorem cD_lay : ∀ x : PV, clean x = true → (cD x).canLay0 = true
  | .non, _ => rfl
  | .int i, _ => rfl
  | .str x, h => by
    simp only [clean] at h
    simp only [cD, PyData.canLay0]
    exact h
  | .tup xs, h => by
    simp only [clean] at h
    simp only [cD, PyData.canLay0]
    exact cDs_lay xs h
  | .vl xs, h => by
    simp only [clean] at h
    simp only [cD, PyData.canLay0]
    exact cDs_lay xs h
  | .bl _, h => by simp [clean] at h
  | .ref _, h => by simp [clean] at h
  | .dct _ _, h => by simp [clean] at h
  | .con _, h => by simp [clean] at h
  | .wt _, h => by simp [clean] at h
  | .clo _ _, h => by simp [clean] at h
  | .obj _, h => by simp [clean] at h
theorem cDs_lay : ∀ xs : List PV, cleans xs = true → PyData.canLayAll0 (cDs xs) = true
  | [], _ => rfl
  | x :: xs, h => by
    simp only [cleans, Bool.and_eq_true] at h
    simp only [cDs, PyData.canLayAll0, Bool.and_eq_true]
    exact ⟨cD_lay x h.1, cDs_lay xs h.2⟩
end
mutual
theorem cD_depth : ∀ x : PV, (cD x).depth = depth x
  | .non => by simp [cD, PyData.depth, depth]
  | .int i => by simp [cD, PyData.depth, depth]
  | .str x => by simp [cD, PyData.depth, depth]
  | .tup xs => by
    simp only [cD, PyData.depth, depth]
    rw [cDs_depth xs]
  | .vl xs => by
    simp only [cD, PyData.depth, depth]
    rw [cDs_depth xs]
  | .bl _ => by simp [cD, PyData.depth, depth]
  | .ref _ => by simp [cD, PyData.depth, depth]
  | .dct _ _ => by simp [cD, PyData.depth, depth]
  | .con _ => by simp [cD, PyData.depth, depth]
  | .wt _ => by simp [cD, PyData.depth, depth]
  | .clo _ _ => by simp [cD, PyData.depth, depth]
  | .obj _ => by simp [cD, PyData.depth, depth]
theorem cDs_depth : ∀ xs : List PV, PyData.depthAll (cDs xs) = depths xs
  | [] => by simp [cDs, PyData.depthAll, depths]
  | x :: xs => by
    simp only [cDs, PyData.depthAll, depths]
    rw [cD_depth x, cDs_depth xs]
end
theorem str_beq_dec (a b : Str) : (a == b) = decide (a = b) := by
  by_cases h : a = b
  · subst h; simp
  · rw [decide_eq_false h]; exact beq_eq_false_iff_ne.mpr h
mutual
theorem cD_eqv : ∀ x y : PV, clean x = true → clean y = true → PyData.eqv (cD x) (cD y) = beqPV x y
  | .non, y, _, hy => by cases y <;> simp_all [clean, cD, PyData.eqv, beqPV]
  | .int i, y, _, hy => by
    cases y <;> simp_all [clean, cD, PyData.eqv, beqPV]
    rw [Bool.beq_eq_decide_eq]
  | .str x, y, _, hy => by
    cases y <;> simp_all [clean, cD, PyData.eqv, beqPV]
    exact str_beq_dec _ _
  | .tup xs, .tup ys, hx, hy => by
    simp only [clean] at hx hy
    simp only [cD, PyData.eqv, beqPV]
    exact cDs_eqv xs ys hx hy
  | .tup xs, .non, _, _ => by simp [cD, PyData.eqv, beqPV]
  | .tup xs, .int _, _, _ => by simp [cD, PyData.eqv, beqPV]
  | .tup xs, .str _, _, _ => by simp [cD, PyData.eqv, beqPV]
  | .tup xs, .bl _, _, h => by simp [clean] at h
  | .tup xs, .ref _, _, h => by simp [clean] at h
  | .tup xs, .dct _ _, _, h => by simp [clean] at h
  | .tup xs, .con _, _, h => by simp [clean] at h
  | .tup xs, .wt _, _, h => by simp [clean] at h
  | .tup xs, .clo _ _, _, h => by simp [clean] at h
  | .tup xs, .obj _, _, h => by simp [clean] at h
  | .tup xs, .vl _, _, _ => by simp [cD, PyData.eqv, beqPV]
  | .vl xs, .vl ys, hx, hy => by
    simp only [clean] at hx hy
    simp only [cD, PyData.eqv, beqPV]
    exact cDs_eqv xs ys hx hy
  | .vl xs, .non, _, _ => by simp [cD, PyData.eqv, beqPV]
  | .vl xs, .int _, _, _ => by simp [cD, PyData.eqv, beqPV]
  | .vl xs, .str _, _, _ => by simp [cD, PyData.eqv, beqPV]
  | .vl xs, .tup _, _, _ => by simp [cD, PyData.eqv, beqPV]
  | .vl xs, .bl _, _, h => by simp [clean] at h
  | .vl xs, .ref _, _, h => by simp [clean] at h
  | .vl xs, .dct _ _, _, h => by simp [clean] at h
  | .vl xs, .con _, _, h => by simp [clean] at h
  | .vl xs, .wt _, _, h => by simp [clean] at h
  | .vl xs, .clo _ _, _, h => by simp [clean] at h
  | .vl xs, .obj _, _, h => by simp [clean] at h
  | .bl _, _, h, _ => by simp [clean] at h
  | .ref _, _, h, _ => by simp [clean] at h
  | .dct _ _, _, h, _ => by simp [clean] at h
  | .con _, _, h, _ => by simp [clean] at h
  | .wt _, _, h, _ => by simp [clean] at h
  | .clo _ _, _, h, _ => by simp [clean] at h
  | .obj _, _, h, _ => by simp [clean] at h
theorem cDs_eqv : ∀ xs ys : List PV, cleans xs = true → cleans ys = true → PyData.eqvAll (cDs xs) (cDs ys) = beqPVs xs ys
  | [], [], _, _ => by simp [cDs, PyData.eqvAll, beqPVs]
  | [], _ :: _, _, _ => by simp [cDs, PyData.eqvAll, beqPVs]
  | _ :: _, [], _, _ => by simp [cDs, PyData.eqvAll, beqPVs]
  | x :: xs, y :: ys, hx, hy => by
    simp only [cleans, Bool.and_eq_true] at hx hy
    simp only [cDs, PyData.eqvAll, beqPVs]
    rw [cD_eqv x y hx.1 hy.1, cDs_eqv xs ys hx.2 hy.2]
end

section
variable {K : PySem.W.Frag} {w : World} {ι : List Addr} {H : Hp} {S : Store}
mutual
theorem Rep.dp : ∀ {x : PV} {v : V}, clean x = true → Rep K w ι H x v → Dp K H v (cD x)
  | .non, _, _, h => by unfold Rep at h; subst h; exact .non
  | .int i, _, _, h => by unfold Rep at h; subst h; exact .int i
  | .str x, _, _, h => by unfold Rep at h; subst h; exact .str x
  | .tup xs, _, hc, h => by
    unfold Rep at h
    obtain ⟨a, vs, rfl, hs, hr⟩ := h
    simp only [clean] at hc
    simp only [cD]
    exact .tup hs.t (Reps.dp hc hr)
  | .bl _, _, h, _ => by simp [clean] at h
  | .ref _, _, h, _ => by simp [clean] at h
  | .dct _ _, _, h, _ => by simp [clean] at h
  | .con _, _, h, _ => by simp [clean] at h
  | .wt _, _, h, _ => by simp [clean] at h
  | .clo _ _, _, h, _ => by simp [clean] at h
  | .obj _, _, h, _ => by simp [clean] at h
  | .vl _, _, _, h => by unfold Rep at h; exact h.elim
theorem Reps.dp : ∀ {xs : List PV} {vs : List V}, cleans xs = true → Reps K w ι H xs vs → DpAll K H vs (cDs xs)
  | [], _, _, h => by unfold Reps at h; subst h; exact .nil
  | x :: xs, _, hc, h => by
    unfold Reps at h
    obtain ⟨v, r, rfl, h1, h2⟩ := h
    simp only [cleans, Bool.and_eq_true] at hc
    exact .cons (Rep.dp hc.1 h1) (Reps.dp hc.2 h2)
end
theorem mapM_dp {f : PV → Option PyData} (hf : ∀ x v d, f x = some d → Rep K w ι H x v → Dp K H v d) : ∀ {xs : List PV} {vs : List V} {ds : List PyData}, xs.mapM f = some ds → Reps K w ι H xs vs → DpAll K H vs ds
  | [], _, ds, e, h => by
    unfold Reps at h; subst h
    simp at e; subst e; exact .nil
  | x :: xs, _, ds, e, h => by
    unfold Reps at h
    obtain ⟨v, r, rfl, h1, h2⟩ := h
    rw [List.mapM_cons] at e
    cases q : f x with
    | none => simp [q] at e
    | some d =>
      cases q2 : xs.mapM f with
      | none => simp [q, q2] at e
      | some ds' =>
        simp [q, q2] at e
        subst e
        exact .cons (hf x v d q h1) (mapM_dp hf q2 h2)
theorem toD_dp (s : Sim K w ι S H) : ∀ (n : Nat) (x : PV) (v : V) (d : PyData), toD n S x = some d → Rep K w ι H x v → Dp K H v d
  | 0, _, _, _, e, _ => by simp [toD] at e
  | n + 1, .non, _, _, e, h => by unfold Rep at h; subst h; simp [toD] at e; subst e; exact .non
  | n + 1, .bl b, _, _, e, h => by unfold Rep at h; subst h; simp [toD] at e; subst e; exact .bl b
  | n + 1, .int i, _, _, e, h => by unfold Rep at h; subst h; simp [toD] at e; subst e; exact .int i
  | n + 1, .str x, _, _, e, h => by unfold Rep at h; subst h; simp [toD] at e; subst e; exact .str x
  | n + 1, .tup xs, _, _, e, h => by
    unfold Rep at h
    obtain ⟨a, vs, rfl, hs, hr⟩ := h
    simp only [toD] at e
    cases q : xs.mapM (toD n S) with
    | none => simp [q] at e
    | some ds =>
      simp [q] at e; subst e
      exact .tup hs.t (mapM_dp (fun x v d => toD_dp s n x v d) q hr)
  | n + 1, .ref i, _, _, e, h => by
    unfold Rep at h
    obtain ⟨a, rfl, ha⟩ := h
    simp only [toD] at e
    split at e
    · rename_i xs q
      obtain ⟨b, vs, eb, hb, hr⟩ := s.lst q
      rw [ha] at eb; cases eb
      cases q2 : xs.mapM (toD n S) with
      | none => simp [q2] at e
      | some ds =>
        simp [q2] at e; subst e
        exact .lst (.inl (.inl hb)) (mapM_dp (fun x v d => toD_dp s n x v d) q2 hr)
    · rename_i xs q
      obtain ⟨b, vs, o, eb, hb, hr⟩ := s.ro q
      rw [ha] at eb; cases eb
      cases q2 : xs.mapM (toD n S) with
      | none => simp [q2] at e
      | some ds =>
        simp [q2] at e; subst e
        exact .lst (.inl (.inr ⟨o, hb⟩)) (mapM_dp (fun x v d => toD_dp s n x v d) q2 hr)
    · cases e
  | n + 1, .dct _ _, _, _, e, _ => by simp [toD] at e
  | n + 1, .con _, _, _, e, _ => by simp [toD] at e
  | n + 1, .wt _, _, _, e, _ => by simp [toD] at e
  | n + 1, .clo _ _, _, _, e, _ => by simp [toD] at e
  | n + 1, .vl _, _, _, e, _ => by simp [toD] at e
  | n + 1, .obj _, _, _, e, _ => by simp [toD] at e
/-- what eqM tells is the data's == -/
theorem eqM_dp {x y : PV} {u v : V} {b : Bool} (s : Sim K w ι S H) (e : eqM S x y = some b) (rx : Rep K w ι H x u) (ry : Rep K w ι H y v) :
    ∃ d d', Dp K H u d ∧ Dp K H v d' ∧ d.canLay0 = true ∧ d'.canLay0 = true ∧ min d.depth d'.depth ≤ 150 ∧ PyData.eqv d d' = b := by
  unfold eqM at e
  split at e
  · rename_i h
    simp only [Bool.and_eq_true, Bool.or_eq_true, decide_eq_true_eq] at h
    cases e
    refine ⟨_, _, Rep.dp h.1.1 rx, Rep.dp h.1.2 ry, cD_lay _ h.1.1, cD_lay _ h.1.2, ?_, cD_eqv _ _ h.1.1 h.1.2⟩
    rw [cD_depth, cD_depth]
    rcases h.2 with h | h <;> omega
  · split at e
    · rename_i d d' h1 h2
      split at e
      · rename_i h
        simp only [Bool.and_eq_true, decide_eq_true_eq] at h
        cases e
        exact ⟨d, d', toD_dp s _ _ _ _ h1 rx, toD_dp s _ _ _ _ h2 ry, h.1.1, h.1.2, h.2, rfl⟩
      · cases e
    · cases e
end
section
variable {X : Cx}
def rEqA (K : PySem.W.Frag) (f : Bool → Bool) : R2 := fun x y H Q => ∃ d e, Dp K H x d ∧ Dp K H y e ∧ d.canLay0 = true ∧ e.canLay0 = true ∧ min d.depth e.depth ≤ 150 ∧ Q (.bl (f (PyData.eqv d e))) H
theorem op_eqA (hu : X.A.units + 200 < cLine) : OpR X (compareOp .Eq) (rEqA X.K id) := by
  intro pins s σ H x y v u Q I rx ry h
  obtain ⟨d, e, hd, he, sd, se, hm, q⟩ := h
  obtain ⟨as, r1⟩ := Dp.reads I d x v hd rx
  obtain ⟨bs, r2⟩ := Dp.reads I e y u he ry
  exact SeqAt.compareEq_reads r1 r2 sd se (by omega) ⟨.bl _, H, I, rfl, q⟩
theorem op_neA (hu : X.A.units + 200 < cLine) : OpR X (compareOp .NotEq) (rEqA X.K (!·)) := by
  intro pins s σ H x y v u Q I rx ry h
  obtain ⟨d, e, hd, he, sd, se, hm, q⟩ := h
  obtain ⟨as, r1⟩ := Dp.reads I d x v hd rx
  obtain ⟨bs, r2⟩ := Dp.reads I e y u he ry
  exact SeqAt.compareNe_reads r1 r2 sd se (by omega) ⟨.bl _, H, I, rfl, q⟩
theorem any_cDs : ∀ {xs : List PV} {x : PV}, cleans xs = true → clean x = true → ((cDs xs).any fun e => PyData.eqv e (cD x)) = xs.any fun y => beqPV y x
  | [], _, _, _ => rfl
  | y :: ys, x, h, hx => by
    simp only [cleans, Bool.and_eq_true] at h
    simp only [cDs, List.any_cons]
    rw [cD_eqv y x h.1 hx, any_cDs h.2 hx]
theorem anyEq_dp {K : PySem.W.Frag} {w : World} {ι : List Addr} {H : Hp} {S : Store} {x : PV} {u : V} {xs : List PV} {vs : List V} {b : Bool} (s : Sim K w ι S H) (rx : Rep K w ι H x u) (rs : Reps K w ι H xs vs) (e : anyEq S x xs = some b) :
    ∃ d ds, Dp K H u d ∧ DpAll K H vs ds ∧ d.canLay0 = true ∧ PyData.canLayAll0 ds = true ∧ d.depth ≤ 150 ∧ (ds.any fun z => PyData.eqv z d) = b := by
  unfold anyEq at e
  split at e
  · rename_i h
    simp only [Bool.and_eq_true, decide_eq_true_eq] at h
    cases e
    exact ⟨_, _, Rep.dp h.1.1 rx, Reps.dp h.1.2 rs, cD_lay _ h.1.1, cDs_lay _ h.1.2, by rw [cD_depth]; exact h.2, any_cDs h.1.2 h.1.1⟩
  · split at e
    · rename_i d ds h1 h2
      split at e
      · rename_i h
        simp only [Bool.and_eq_true, decide_eq_true_eq] at h
        cases e
        exact ⟨d, ds, toD_dp s _ _ _ _ h1 rx, mapM_dp (fun x v d => toD_dp s _ x v d) h2 rs, h.1.1, h.1.2, h.2, rfl⟩
      · cases e
    · cases e
def rInA (K : PySem.W.Frag) (f : Bool → Bool) : R2 := fun x y H Q => ∃ d ds a vs, y = .ref a ∧ (SqL K H a vs ∨ SqT K H a vs) ∧ Dp K H x d ∧ DpAll K H vs ds ∧ d.canLay0 = true ∧ PyData.canLayAll0 ds = true ∧ d.depth ≤ 150 ∧ Q (.bl (f (ds.any fun z => PyData.eqv z d))) H
theorem op_inA (hu : X.A.units + 200 < cLine) : OpR X (compareOp .In) (rInA X.K id) := by
  intro pins s σ H x y v u Q I rx ry h
  obtain ⟨d, ds, a, vs, rfl, hs, hd, hds, sd, sds, hm, q⟩ := h
  obtain ⟨as, r1⟩ := Dp.reads I d x v hd rx
  rcases hs with hs | hs
  · obtain ⟨bs, r2⟩ := Dp.reads I (.list ds) (.ref a) u (.lst hs hds) ry
    exact SeqAt.in_list_reads r2 r1 sds sd (by omega) ⟨.bl _, H, I, rfl, q⟩
  · obtain ⟨bs, r2⟩ := Dp.reads I (.tuple ds) (.ref a) u (.tup hs hds) ry
    exact SeqAt.in_tuple_reads r2 r1 sds sd (by omega) ⟨.bl _, H, I, rfl, q⟩
theorem op_notInA (hu : X.A.units + 200 < cLine) : OpR X (compareOp .NotIn) (rInA X.K (!·)) := by
  intro pins s σ H x y v u Q I rx ry h
  obtain ⟨d, ds, a, vs, rfl, hs, hd, hds, sd, sds, hm, q⟩ := h
  obtain ⟨as, r1⟩ := Dp.reads I d x v hd rx
  rcases hs with hs | hs
  · obtain ⟨bs, r2⟩ := Dp.reads I (.list ds) (.ref a) u (.lst hs hds) ry
    exact SeqAt.notIn_list_reads r2 r1 sds sd (by omega) ⟨.bl _, H, I, rfl, q⟩
  · obtain ⟨bs, r2⟩ := Dp.reads I (.tuple ds) (.ref a) u (.tup hs hds) ry
    exact SeqAt.notIn_tuple_reads r2 r1 sds sd (by omega) ⟨.bl _, H, I, rfl, q⟩
end
end EK

namespace EK
open PySem PySem.Spec PyProof.Rows L2
/-! ### tuples whose dict is known: none -/
/-- a plain tuple object -/
abbrev plainT (o : Obj) : Prop := o.cls = .type "tuple" ∧ o.dict = none
section
variable {X : Cx} {pins : List (Addr × Obj)} {σ : L2.St} {H : Hp} {s : Shared} {es : List Expr} {t : TA} {pos : Pos}
theorem lay_tup {us : List Value} {xs : List V} {tk : Nat} (I : Inv X pins σ H s) (z : xs.length ≤ sizeLine) (r : Vals xs us) :
    Inv X pins σ (upd H s.heap.objs.size (.frz { cls := .type "tuple", data := .seq us.toArray } (.tup xs))) { s with heap := s.heap.push { cls := .type "tuple", data := .seq us.toArray }, toks := tk } :=
  I.laid (fun b u e => Heap.get?_push_of_some _ e) (Nat.le_refl _) ⟨Heap.get?_push_size _ rfl, z, us, r, IsTup.new _ _⟩
/-- a tuple's display -/
def tTupN (t : TA) : TE := fun σ H Q => t σ H fun xs H1 => xs.length ≤ sizeLine ∧ ∀ p o, H1 p = none → plainT o → Q (.ref p) (upd H1 p (.frz o (.tup xs)))
theorem pe_tupN {k : Nat} (h : PA X es t) : PE X (.Tuple es k pos) (tTupN t) := by
  refine ⟨fun pins s σ H Q I hq => wpAny_Tuple_spliced (thn (h.run pos pins s σ H _ I hq) fun us s1 ⟨xs, H1, I1, r, z, q⟩ => ⟨r.length ▸ z, ?_⟩)⟩
  exact ⟨.ref s1.heap.objs.size, _, lay_tup (tk := s1.toks) I1 z r, rfl, q _ _ (I1.hok.fresh (Nat.le_refl _)) ⟨rfl, rfl⟩⟩
/-- t + u -/
def rCatN (K : PySem.W.Frag) : R2 := fun x y H Q => ∃ a b xs ys, x = .ref a ∧ y = .ref b ∧ SqT K H a xs ∧ SqT K H b ys ∧ xs.length + ys.length ≤ sizeLine ∧
  (xs = [] → Q (.ref b) H) ∧ (xs ≠ [] → ys = [] → Q (.ref a) H) ∧ (xs ≠ [] → ys ≠ [] → ∀ p o, H p = none → plainT o → Q (.ref p) (upd H p (.frz o (.tup (xs ++ ys)))))
theorem op_catN : OpR X (binaryOp .Add) (rCatN X.K) := fun pins s σ H x y v u Q I rx ry h => by
  obtain ⟨a, b, xs, ys, rfl, rfl, ha, hb, hz, q0, q1, q2⟩ := h
  by_cases hx : xs = []
  · exact op_catA pins s σ H _ _ v u Q I rx ry ⟨a, b, xs, ys, rfl, rfl, ha, hb, hz, q0, q1, fun z => absurd hx z⟩
  · by_cases hy : ys = []
    · exact op_catA pins s σ H _ _ v u Q I rx ry ⟨a, b, xs, ys, rfl, rfl, ha, hb, hz, q0, q1, fun _ z => absurd hy z⟩
    · cases rx
      cases ry
      obtain ⟨its, r1, p1, _⟩ := I.tuple ha
      obtain ⟨its2, r2, p2, _⟩ := I.tuple hb
      refine HT.cat_tup p1 p2 (fun z => hx (r1.nil_iff.mp z)) (fun z => absurd (r2.nil_iff.mp z) hy) (fun _ => ?_) (by rw [← r1.length, ← r2.length]; exact hz)
      exact ⟨.ref s.heap.objs.size, _, lay_tup (tk := s.toks) I (by rw [List.length_append]; exact hz) (r1.append r2), rfl, q2 hx hy _ _ (I.hok.fresh (Nat.le_refl _)) ⟨rfl, rfl⟩⟩
/-- t[lo:hi] -/
def rSlN (K : PySem.W.Frag) : V → Option Int → Option Int → Hp → VK → Prop := fun x lo hi H Q => ∃ a xs, x = .ref a ∧ SqT K H a xs ∧
  (HT.sIx xs.length 0 lo = 0 ∧ HT.sIx xs.length xs.length hi = xs.length → Q (.ref a) H) ∧ (¬ (HT.sIx xs.length 0 lo = 0 ∧ HT.sIx xs.length xs.length hi = xs.length) → ∀ p o, H p = none → plainT o → Q (.ref p) (upd H p (.frz o (.tup (cutV xs lo hi)))))
theorem sl_tupN : SlR X (rSlN X.K) := fun pins s σ H x v vl vu lo hi sl Q I rx hs pl pu h => by
  obtain ⟨a, xs, rfl, hx, q1, q2⟩ := h
  by_cases hw : HT.sIx xs.length 0 lo = 0 ∧ HT.sIx xs.length xs.length hi = xs.length
  · exact sl_tupA pins s σ H _ v vl vu lo hi sl Q I rx hs pl pu ⟨a, xs, rfl, hx, q1, fun z => absurd hw z⟩
  · cases rx
    obtain ⟨its, r, ht, hz⟩ := I.tuple hx
    have hlen : its.toArray.size = xs.length := by rw [List.size_toArray, r.length]
    refine ⟨"tuple", _, PyProof.Rows.slot_tuple_getitem.lookup, ht.typeIs, HT.getItem_tuple_cut ht hs pl pu (by rw [hlen]; exact hw) ?_ (by rw [hlen]; exact hz)⟩
    rw [hlen]
    exact ⟨.ref s.heap.objs.size, _, lay_tup (tk := s.toks) I (Nat.le_trans (cutV_length xs lo hi) hz) ((r.drop (HT.sIx xs.length 0 lo)).take (HT.sIx xs.length xs.length hi - HT.sIx xs.length 0 lo)), rfl, q2 hw _ _ (I.hok.fresh (Nat.le_refl _)) ⟨rfl, rfl⟩⟩
/-- tuple(xs) -/
theorem call_tupN : CallR X (.type "tuple") (fun xs H Q => ∃ p ys, xs = [.ref p] ∧ ((SqL X.K H p ys ∧ ∀ l o, H l = none → plainT o → Q (.ref l) (upd H l (.frz o (.tup ys)))) ∨ (SqT X.K H p ys ∧ Q (.ref p) H))) := fun pins s σ H xs us Q I r h => by
  obtain ⟨p, ys, rfl, ⟨hq, q⟩ | ⟨hq, q⟩⟩ := h
  · obtain ⟨u, rfl, rx⟩ := vals1 r
    cases rx
    obtain ⟨its, r', pl, hz⟩ := I.list hq
    have hlen := r'.length
    refine call_tuple_list pl.isList (fun h' kp => ?_) (by simp only [List.size_toArray] <;> omega)
    have I1 : Inv X pins σ H { s with heap := h' } := I.kept (t' := s.toks) kp
    exact ⟨.ref h'.objs.size, _, lay_tup (tk := s.toks) I1 hz r', rfl, q _ _ (I1.hok.fresh (Nat.le_refl _)) ⟨rfl, rfl⟩⟩
  · exact call_tuple_of pins s σ H _ us Q I r ⟨p, ys, rfl, .inr ⟨hq, q⟩⟩
end
end EK

namespace EK
open PySem PySem.Spec PyProof.Rows L2

/-! ### the text's forms looked at -/
def notStar : Expr → Bool
  | .Starred _ _ => false
  | _ => true
theorem star_cons {e : Expr} {es : List Expr} {env : PySem.Env} (h : notStar e = true) : starEach (e :: es) env = (false, eval e env) :: starEach es env := by
  cases e <;> first | rfl | (simp [notStar] at h)
theorem star_plain {pos : Pos} {env : PySem.Env} : ∀ {es : List Expr}, es.all notStar = true → (backTo pos (starEach es env)).any (·.1) = false
  | [], _ => rfl
  | e :: es, h => by
    simp only [List.all_cons, Bool.and_eq_true] at h
    rw [star_cons h.1]
    show (false || (backTo pos (starEach es env)).any (·.1)) = false
    rw [star_plain h.2]; rfl
theorem star_plain2 {pos : Pos} {env : PySem.Env} : ∀ {es : List Expr}, es.all notStar = true → (backTo pos (starEach es env)).all (fun x => !x.1) = true
  | [], _ => rfl
  | e :: es, h => by
    simp only [List.all_cons, Bool.and_eq_true] at h
    rw [star_cons h.1]
    show (true && (backTo pos (starEach es env)).all (fun x => !x.1)) = true
    rw [star_plain2 h.2]; rfl
def notComp : Expr → Bool
  | .ListComp .. => false
  | .SetComp .. => false
  | .DictComp .. => false
  | _ => true
theorem swaps_no {e : Expr} {t : Option Expr} {l : Nat} {env : PySem.Env} (h : notComp e = true) : swapsWith e t l env = pure false := by
  cases e <;> first | rfl | (simp [notComp] at h)
def notSlice : Expr → Bool
  | .Slice .. => false
  | _ => true
theorem plain_ix {b : Expr} (h : notSlice b = true) : PlainIx b := fun o i => by
  cases b <;> first | rfl | (simp [notSlice] at h)
/-- what isTrue takes as its value's truth -/
def plainTest : Expr → Bool
  | .UnaryOp .Not _ _ => false
  | .BoolOp .. => false
  | .IfExp .. => false
  | .Compare .. => false
  | _ => true
theorem test_plain {a : Expr} {env : PySem.Env} (h : plainTest a = true) : ∀ whole, isTrue a env whole = (do let v ← whole; standAt a.pos; holding [v] (truthy v)) := fun whole => by
  cases a with
  | UnaryOp op x pos => cases op <;> first | rfl | (simp [plainTest] at h)
  | _ => first | rfl | (simp [plainTest] at h)
def plainBase : Expr → Bool
  | .Call (.Name x _) [] [] _ => !(x == ("super" : Str))
  | _ => true
theorem base_plain {o : Expr} {attr : Str} {env : PySem.Env} (h : plainBase o = true) : attributeBase o attr env (eval o env) = eval o env := by
  unfold attributeBase
  split
  · rename_i x p1 p
    simp only [plainBase, Bool.not_eq_true'] at h
    have h : (x != ("super" : Str)) = true := by simp [bne, h]
    simp only [h, Bool.true_or, if_true, bind_pure]
  · simp only [bind_pure]

/-- what is looked at in a def: its slots, its scope's names, the module's constants -/
structure Chk where
  N : List Str
  names : List (Str × NameKind)
  line : Bool := true
  me : Str := ""
def isVis (c : Chk) (x : Str) : Bool := match c.names.lookup x with
  | some .local => true
  | some .cell => true
  | some .free => true
  | _ => false
def isLoc (c : Chk) (x : Str) : Bool := match c.names.lookup x with
  | some .local => true
  | _ => false
def isTg (c : Chk) (x : Str) : Bool := match c.names.lookup x with
  | some .local => true
  | some .cell => true
  | _ => false
def isGl (c : Chk) (x : Str) : Bool := match c.names.lookup x with
  | some .globalImplicit => true
  | _ => false
def dbg (x : Str) : Bool := x == ("__debug__" : Str)
def dbg2 (x : Str) : Bool := x == ("__classdict__" : Str)
def bltNames : List Str := ["len", "int", "abs", "max", "min", "sum", "tuple", "list", "str", "any", "all", "range", "enumerate", "zip", "reversed", "isinstance", "bool", "dict", "sorted"]

def primNm : Prim → String × Nat
  | .len => ("len", 1) | .int => ("int", 1) | .abs => ("abs", 1) | .min2 => ("min", 2) | .max2 => ("max", 2) | .min1 => ("min", 1) | .max1 => ("max", 1)
  | .sum => ("sum", 1) | .tuple => ("tuple", 1) | .list => ("list", 1) | .str => ("str", 1) | .any => ("any", 1) | .all => ("all", 1) | .sorted => ("sorted", 1)
def tnNm : TN → String
  | .tuple => "tuple" | .list => "list" | .int => "int" | .bool => "bool" | .str => "str"
def opNm : BOp → Operator
  | .add => .Add | .sub => .Sub | .mul => .Mult | .fdiv => .FloorDiv | .mod => .Mod | .pow => .Pow
def cmpNm : COp → CmpOp
  | .eq => .Eq | .ne => .NotEq | .lt => .Lt | .le => .LtE | .gt => .Gt | .ge => .GtE | .isIn => .In | .notIn => .NotIn
def mthNm : Mth → String
  | .append => "append" | .extend => "extend" | .pop => "pop" | .index => "index" | .get => "get" | .clear => "clear" | .join => "join"

def chkEs (f : Expr → Ex → Bool) : List Expr → Exs → Bool
  | [], .nil => true
  | e :: es, .cons x xs => notStar e && f e x && chkEs f es xs
  | _, _ => false
def chkKs : List (Option Expr) → List Str → Bool
  | [], [] => true
  | some (.Constant (.str k) _ _) :: ks, q :: qs => decide (k = q) && chkKs ks qs
  | _, _ => false
def lenXs : Exs → Nat
  | .nil => 0
  | .cons _ xs => lenXs xs + 1
def scal : PV → Bool
  | .non => true | .bl _ => true | .int _ => true | .str _ => true
  | _ => false
def constIs : Const → PV → Bool
  | .none, .non => true
  | .bool a, .bl b => a == b
  | .int a, .int b => decide (a = b)
  | .str a, .str b => decide (a = b)
  | _, _ => false
/-- slots of names in order -/
def chkIs (c : Chk) : List Expr → List Nat → Bool
  | [], [] => true
  | .Name x _ :: es, i :: is => decide (c.N[i]? = some x) && isTg c x && chkIs c es is
  | _, _ => false
def chkTg (c : Chk) : Expr → Tgt → Bool
  | .Name x _, .nm i => decide (c.N[i]? = some x) && isTg c x
  | .Tuple es _ _, .tp is => chkIs c es is
  | _, _ => false
def inOwn (own : List Nat) : Tgt → Bool
  | .nm i => own.contains i
  | .tp is => is.all own.contains
def isTup : Expr → Bool
  | .Tuple .. => true
  | _ => false
/-- the source of a walk: f looks at its expressions -/
def callIt (c : Chk) (f : Expr → Ex → Bool) (iter : Expr) (nm : Str) (src : Exs) : Bool := match iter with
  | .Call (.Name n _) es [] _ => isGl c n && decide (n = nm) && chkEs f es src
  | _ => false
def chkIt (c : Chk) (f : Expr → Ex → Bool) (iter tg : Expr) (k : IK) (src : Exs) : Bool := match k with
  | .over => match src with
    | .cons x .nil => f iter x
    | _ => false
  | .range => callIt c f iter "range" src && decide (1 ≤ lenXs src) && decide (lenXs src ≤ 3)
  | .enum => callIt c f iter "enumerate" src && decide (lenXs src = 1) && isTup tg
  | .zip => callIt c f iter "zip" src && decide (lenXs src = 2) && isTup tg
  | .rev => callIt c f iter "reversed" src && decide (lenXs src = 1)
/-- a test: f looks at its expressions -/
def chkT (f : Expr → Ex → Bool) : Ex → Expr → Bool
  | .and x y, e => match e with
    | .BoolOp .And [a, b] _ => chkT f x a && chkT f y b
    | .BoolOp .And (a :: b :: d :: rest) pos => chkT f x a && chkT f y (.BoolOp .And (b :: d :: rest) pos)
    | _ => false
  | .or x y, e => match e with
    | .BoolOp .Or [a, b] _ => chkT f x a && chkT f y b
    | .BoolOp .Or (a :: b :: d :: rest) pos => chkT f x a && chkT f y (.BoolOp .Or (b :: d :: rest) pos)
    | _ => false
  | .not x, e => match e with
    | .UnaryOp .Not a _ => chkT f x a
    | _ => false
  | .cmp op x y, e => match e with
    | .Compare a [o] [b] _ => decide (o = cmpNm op) && f a x && f b y && !behindInMarks o b
    | _ => false
  | .chn x y z, e => match e with
    | .Compare a [.Lt, .Lt] [b, d] _ => f a x && f b y && f d z
    | _ => false
  | .isN x, e => match e with
    | .Compare a [.Is] [.Constant .none _ _] _ => f a x
    | _ => false
  | .notN x, e => match e with
    | .Compare a [.IsNot] [.Constant .none _ _] _ => f a x
    | _ => false
  | x, e => plainTest e && f e x
def chkCs (f : Expr → Ex → Bool) : List Expr → Exs → Bool
  | [], .nil => true
  | [e], .cons x .nil => chkT f x e
  | _, _ => false
def notSet : Expr → Bool
  | .Set .. => false
  | _ => true
/-- arguments with a def's name behind them -/
def chkEsC (c : Chk) (f : Expr → Ex → Bool) : List Expr → Exs → Nat → Bool
  | [], _, _ => false
  | e :: es, .nil, i => es.isEmpty && (match e with
    | .Name z _ => decide (c.N[i]? = some z) && isVis c z && !dbg z && !dbg2 z
    | _ => false)
  | e :: es, .cons x xs, i => notStar e && f e x && chkEsC c f es xs i
def chkE (T : Text) : Nat → Chk → Expr → Ex → Bool
  | 0, _, _, _ => false
  | n + 1, c, e, x => match x with
    | .slot i => match e with
      | .Name y _ => decide (c.N[i]? = some y) && isVis c y && !dbg y && !dbg2 y
      | _ => false
    | .cst v => match e with
      | .Constant k _ _ => constIs k v
      | _ => false
    | .glo z => match e with
      | .Name y _ => decide (y = z) && isGl c y && !dbg y
      | _ => false
    | .tup xs => match e with
      | .Tuple es _ _ => chkEs (chkE T n c) es xs
      | _ => false
    | .lst xs => match e with
      | .List es _ => chkEs (chkE T n c) es xs
      | _ => false
    | .dsp ks xs => match e with
      | .Dict keys es _ => chkKs keys ks && chkEs (chkE T n c) es xs && decide (ks.length = lenXs xs) && decide (1 ≤ ks.length) && decide (ks.length ≤ 15) && decide ks.Nodup
      | _ => false
    | .bin op x y => match e with
      | .BinOp a o b _ => decide (o = opNm op) && chkE T n c a x && chkE T n c b y
      | _ => false
    | .neg x => match e with
      | .UnaryOp .USub a _ => chkE T n c a x
      | _ => false
    | .not x => match e with
      | .UnaryOp .Not a _ => chkE T n c a x
      | _ => false
    | .cmp op x y => match e with
      | .Compare a [o] [b] _ => decide (o = cmpNm op) && chkE T n c a x && chkE T n c b y && !behindInMarks o b
      | _ => false
    | .chn x y z => match e with
      | .Compare a [.Lt, .Lt] [b, d] _ => chkE T n c a x && chkE T n c b y && chkE T n c d z
      | _ => false
    | .and x y => match e with
      | .BoolOp .And [a, b] _ => chkE T n c a x && chkE T n c b y
      | .BoolOp .And (a :: b :: d :: rest) pos => chkE T n c a x && chkE T n c (.BoolOp .And (b :: d :: rest) pos) y
      | _ => false
    | .or x y => match e with
      | .BoolOp .Or [a, b] _ => chkE T n c a x && chkE T n c b y
      | .BoolOp .Or (a :: b :: d :: rest) pos => chkE T n c a x && chkE T n c (.BoolOp .Or (b :: d :: rest) pos) y
      | _ => false
    | .ite x y z => match e with
      | .IfExp t a b _ => chkT (chkE T n c) x t && chkE T n c a y && chkE T n c b z
      | _ => false
    | .isN x => match e with
      | .Compare a [.Is] [.Constant .none _ _] _ => chkE T n c a x
      | _ => false
    | .notN x => match e with
      | .Compare a [.IsNot] [.Constant .none _ _] _ => chkE T n c a x
      | _ => false
    | .ix x y => match e with
      | .Subscript a b _ => notSlice b && chkE T n c a x && chkE T n c b y
      | _ => false
    | .sl x lo hi => match e with
      | .Subscript a (.Slice l h none _) _ => chkE T n c a x && (match l, lo with
        | none, .nil => true
        | some l, .cons y .nil => chkE T n c l y
        | _, _ => false) && (match h, hi with
        | none, .nil => true
        | some h, .cons y .nil => chkE T n c h y
        | _, _ => false)
      | _ => false
    | .call f xs => match e with
      | .Call (.Name y _) es [] _ => decide (y = f) && isGl c y && !dbg y && chkEs (chkE T n c) es xs && (match T.fns.lookup f with
        | some fi => decide (lenXs xs ≤ fi.params.length) && decide (fi.params.length - lenXs xs ≤ fi.dfl.length)
        | none => false)
      | _ => false
    | .isTru x => match e with
      | .Compare a [.Is] [.Constant (.bool true) _ _] _ => chkE T n c a x
      | _ => false
    | .revL _ => false
    | .enGet _ _ => false
    | .new z => match e with
      | .Call (.Name y _) [] [] _ => decide (y = z) && isGl c y && !dbg y
      | _ => false
    | .mcall m x xs => match e with
      | .Call (.Attribute o nm apos) es [] cpos => decide (nm = m) && plainBase o && (apos.endLine == cpos.line) && chkE T n c o x && chkEs (chkE T n c) es xs && decide (lenXs xs < 20)
      | _ => false
    | .callc g xs i => match e with
      | .Call (.Name y _) es [] _ => decide (y = g) && isGl c y && !dbg y && chkEsC c (chkE T n c) es xs i && (match T.fns.lookup g with
        | some fi => decide (lenXs xs + 1 = fi.params.length)
        | none => false)
      | _ => false
    | .callv i xs => match e with
      | .Call (.Name y _) es [] _ => decide (c.N[i]? = some y) && isVis c y && !dbg y && !dbg2 y && chkEs (chkE T n c) es xs && decide (1 ≤ lenXs xs)
      | _ => false
    | .prim p xs => match e with
      | .Call (.Name y _) es [] _ => decide (y = ((primNm p).1 : String)) && isGl c y && chkEs (chkE T n c) es xs && decide (lenXs xs = (primNm p).2)
      | _ => false
    | .lrg xs => match e with
      | .Call (.Name y _) [.Call (.Name z _) [a] [] _] [] _ => decide (y = "list") && isGl c y && decide (z = "range") && isGl c z && chkEs (chkE T n c) [a] xs
      | _ => false
    | .meth m x xs => match e with
      | .Call (.Attribute o nm apos) es [] cpos => decide (nm = (mthNm m : String)) && plainBase o && (apos.endLine == cpos.line) && chkE T n c o x && chkEs (chkE T n c) es xs && decide (lenXs xs < 20)
      | _ => false
    | .cel x => notComp e && chkE T n c e x
    | .isT t x => match e with
      | .Call (.Name y _) [a, .Name z _] [] _ => decide (y = "isinstance") && isGl c y && notStar a && chkE T n c a x && decide (z = (tnNm t : String)) && isGl c z
      | _ => false
    | .comp own tg k src cond elt => match e with
      | .ListComp el [⟨tge, iter, ifs, 0⟩] scope _ => chkIt c (chkE T n c) iter tge k src && chkTg { c with names := scope.names } tge tg && inOwn own tg &&
          chkCs (chkE T n { c with names := scope.names }) ifs cond && chkE T n { c with names := scope.names } el elt &&
          notSet iter &&
          (match scope.kind with
            | .function => true
            | _ => false) && (scope.names.all fun y => decide (scope.names.lookup y.1 = some y.2)) && (scope.names.all fun y => match y.2 with
              | .free => (match c.names.lookup y.1 with
                | some .cell => true
                | some .free => true
                | _ => false)
              | .local => (own.any fun i => decide (c.N[i]? = some y.1)) || decide (y.1 ∉ c.N)
              | .cell => (own.any fun i => decide (c.N[i]? = some y.1)) || decide (y.1 ∉ c.N)
              | _ => true) && own.all fun i => decide (i < c.N.length)
      | _ => false
end EK

namespace EK
open PySem PySem.Spec PyProof.Rows L2

/-! ### where one stands -/
def scV : PV → V
  | .non => .non
  | .bl b => .bl b
  | .int i => .int i
  | .str x => .str x
  | _ => .non
/-- what a def of the text promises, calls at most r deep -/
def spF (T : Text) (K : PySem.W.Frag) (w : World) (mg : Str → Option Value) (r : Nat) (f : FnI) : Sp := fun vs H Q E => ∃ ι S args, Sim K w ι S H ∧ RepsX K w ι H args vs ∧ vs.length = f.params.length ∧
  FinG K w mg E ι H (callBody (conf T r) f args S) fun v _ ι' H' => ∀ v', Rep K w ι' H' v v' → Q v' H'
/-- .. a def within a def, whose names hold ws -/
def spC (T : Text) (K : PySem.W.Frag) (w : World) (mg : Str → Option Value) (r : Nat) (f : FnI) (ws : List (Option V)) : Sp := fun vs H Q E => ∃ ι S args caps cs, Sim K w ι S H ∧ Reps K w ι H args vs ∧ ws = cs.map some ∧ Reps K w ι H caps cs ∧ vs.length = f.params.length ∧
  FinG K w mg E ι H (callBodyX (conf T r) f caps args S) fun v _ ι' H' => ∀ v', Rep K w ι' H' v v' → Q v' H'
structure MtAt (T : Text) (P : Program) (w : World) (K : PySem.W.Frag) (mg : Str → Option Value) (base : Heap) (r : Nat) (c m : Str) (f : FnI) : Prop where
  cls : Cls K (He.ga K c)
  meth : Meth K (He.ga K c) m (He.ma K (He.ga K c) m)
  at_ : ∃ fd : FuncData, Binds K fd f.params [] ∧ FnOk P w K mg base (L2.CX P w) (r + 1) (He.ma K (He.ga K c) m) fd f.params (spF T K w mg r f)
structure ClAt (T : Text) (P : Program) (w : World) (K : PySem.W.Frag) (mg : Str → Option Value) (base : Heap) (r : Nat) (x : Str) (f : FnI) (n : Nat) : Prop where
  at_ : ∃ st, nestIn K x = some st ∧ n = (frOf st).length ∧ ∀ fa cl c', NdefX.NOk P w K mg base (L2.CX P w) (r + 1) fa (NdefX.NF.of st (nestNm st) (nestQ K x st) cl c') f.params (frOf st) (spC T K w mg r f)
/-- a class without parts and without its own __init__ -/
structure ClsAt (K : PySem.W.Frag) (mg : Str → Option Value) (c : Str) : Prop where
  mg : mg c = some (.ref (He.ga K c))
  makes : PySem.W.makesIn K (He.ga K c) = true
  init : PySem.W.findIn K (.ref (He.ga K c)) "__init__" = some (some (.builtin "object.__init__"))
  kp : PySem.W.keepIn K (.ref (He.ga K c)) = true
structure FnAt (T : Text) (P : Program) (w : World) (K : PySem.W.Frag) (mg : Str → Option Value) (base : Heap) (r : Nat) (x : Str) (f : FnI) : Prop where
  at_ : ∃ (a : Addr) (fd : FuncData), mg x = some (.ref a) ∧ PySem.W.keepIn K (.ref a) = true ∧
    (∀ j, j ≤ f.dfl.length → ∃ ds, Binds K fd f.params ds ∧ Vals ((f.dfl.drop (f.dfl.length - j)).map scV) ds) ∧ FnOk P w K mg base (L2.CX P w) (r + 1) a fd f.params (spF T K w mg r f)
  scal : f.dfl.all scal = true
structure FnsOk (T : Text) (P : Program) (w : World) (K : PySem.W.Frag) (mg : Str → Option Value) (base : Heap) (r : Nat) : Prop where
  fn : ∀ r', r = r' + 1 → ∀ x f, T.fns.lookup x = some f → FnAt T P w K mg base r' x f
  mt : ∀ r', r = r' + 1 → ∀ c m f, T.mths.lookup (c, m) = some f → MtAt T P w K mg base r' c m f
  clo : ∀ r', r = r' + 1 → ∀ x f n, T.clos.lookup x = some (f, n) → ClAt T P w K mg base r' x f n
/-- an own exception class without parts -/
def ExcAt (K : PySem.W.Frag) (mg : Str → Option Value) (x : Str) : Prop := ∃ C, mg x = some (.ref C) ∧ PySem.W.excIn K C He.veBase "ValueError.__new__" = true ∧ PySem.W.keepIn K (.ref C) = true ∧ PySem.W.subIn K (.ref C) (.type "BaseException") = some true ∧
  PySem.W.typeIn K (.ref C) = some (.type "type") ∧ PySem.W.exmOne K (.ref C) (.ref C) = some true
structure Ctx (T : Text) (c : Chk) (X : Cx) (W : WX) (r : Nat) : Prop where
  hN : X.N = c.N
  nd : X.N.Nodup
  vis : ∀ x, isVis c x = true → Vis X.env.scope x
  loc : ∀ x, isLoc c x = true → X.env.scope.names.lookup x = some .local
  tg : ∀ x, isTg c x = true → Loc X.env.scope x ∧ (X.fn x = true ∨ X.env.scope.names.lookup x = some .local)
  gl : ∀ x, isGl c x = true → Gl X x
  fre : ∀ x, c.names.lookup x = some .cell ∨ c.names.lookup x = some .free → X.env.scope.names.lookup x = some .cell ∨ X.env.scope.names.lookup x = some .free
  cel : ∀ x, c.names.lookup x = some .cell → X.env.scope.names.lookup x = some .cell
  calm : X.calm = true
  room : Room r X.A
  tk : Takes X W
  fns : FnsOk T X.prog X.w X.K X.mg X.base r
  free : ∀ x ∈ bltNames, X.mg x = none
  exc : ∀ x ∈ T.excs, ExcAt X.K X.mg x
  cls : ∀ x ∈ T.cls, ClsAt X.K X.mg x
  glob : ∀ x v, T.glob x = some v → ∃ v' u, X.mg x = some u ∧ RelV v' u ∧ ∀ ι H, Rep X.K X.w ι H v v'
theorem Ctx.un {T : Text} {c : Chk} {X : Cx} {W : WX} {r : Nat} (C : Ctx T c X W r) : X.A.units + 200 < cLine := by
  have := C.room.un
  omega
theorem Ctx.name {T : Text} {c : Chk} {X : Cx} {W : WX} {r : Nat} (C : Ctx T c X W r) {i : Nat} {x : Str} (h : c.N[i]? = some x) : X.N[i]? = some x := by rw [C.hN]; exact h
abbrev SE (T : Text) (X : Cx) (W : WX) (r : Nat) (x : Ex) : TE := tM X.K X.w X.mg W (evalE (conf T r) x)
abbrev SEs (T : Text) (X : Cx) (W : WX) (r : Nat) (x : Exs) : TA := tMs X.K X.w X.mg W (evalEs (conf T r) x)

section
variable {T : Text} {c : Chk} {X : Cx} {W : WX} {r : Nat}
theorem rep_scal {K : PySem.W.Frag} {w : World} {ι : List Addr} {H : Hp} {v : PV} (h : scal v = true) : Rep K w ι H v (scV v) := by
  cases v <;> first | (unfold Rep scV; rfl) | (simp [scal] at h)
theorem reps_scal {K : PySem.W.Frag} {w : World} {ι : List Addr} {H : Hp} : ∀ {vs : List PV}, vs.all scal = true → Reps K w ι H vs (vs.map scV)
  | [], _ => Reps.nil
  | v :: vs, h => by
    simp only [List.all_cons, Bool.and_eq_true] at h
    exact Reps.cons (rep_scal h.1) (reps_scal h.2)
theorem FinG.ok {α : Type} {K : PySem.W.Frag} {w : World} {mg : Str → Option Value} {EX : XK} {ι : List Addr} {H : Hp} {v : α} {S : Store} {k : α → Store → List Addr → Hp → Prop} (h : FinG K w mg EX ι H (.ok v S) k) (s : Sim K w ι S H) : k v S ι H := h ι H .refl s
theorem FinG.at {α : Type} {K : PySem.W.Frag} {w : World} {mg : Str → Option Value} {EX : XK} {ι ι' : List Addr} {H H' : Hp} {v : α} {S : Store} {k : α → Store → List Addr → Hp → Prop} (h : FinG K w mg EX ι H (.ok v S) k) (g : Grow ι H ι' H') (s : Sim K w ι' S H') : k v S ι' H' := h ι' H' g s

theorem snd_slot (C : Ctx T c X W r) {i : Nat} {y : Str} {p : Pos} (h1 : c.N[i]? = some y) (h2 : isVis c y = true) (h3 : dbg y = false) (h4 : dbg2 y = false) : PE X (.Name y p) (SE T X W r (.slot i)) := by
  refine PE.imp (pe_var (C.name h1) (C.vis y h2) h3 h4) fun σ H Q ⟨ι, S, env, s, er, f⟩ => ?_
  simp only [evalE] at f
  split at f
  · rename_i v q
    obtain ⟨v', e, rv⟩ := er.2 i v q
    split at f
    · exact f.elim
    · rename_i hn
      exact ⟨v', e, f.ok s v' (rv.to (by simpa using hn))⟩
  · exact f.elim
theorem snd_cst (C : Ctx T c X W r) {k : Const} {v : PV} {j : Nat} {p : Pos} (h : constIs k v = true) : PE X (.Constant k j p) (SE T X W r (.cst v)) := by
  have sv : scal v = true := by cases k <;> cases v <;> first | rfl | (simp [constIs] at h)
  have key : PE X (.Constant k j p) (tC (scV v)) := by
    cases k <;> cases v <;> first
      | (simp [constIs] at h; done)
      | exact pe_non
      | (simp only [constIs, beq_iff_eq, decide_eq_true_eq] at h; subst h; first | exact pe_bl | exact pe_int | exact pe_str)
  exact PE.imp key fun σ H Q ⟨ι, S, env, s, er, f⟩ => FinG.ok (v := v) (S := S) f s _ (rep_scal sv)
theorem snd_glo (C : Ctx T c X W r) {y : Str} {p : Pos} (h2 : isGl c y = true) (h3 : dbg y = false) : PE X (.Name y p) (SE T X W r (.glo y)) := by
  cases hg : T.glob y with
  | none =>
    have : PE X (.Name y p) (fun _ _ _ => False) := ⟨fun _ _ _ _ _ _ h => h.elim⟩
    refine PE.imp this fun σ H Q ⟨ι, S, env, s, er, f⟩ => ?_
    simp only [evalE, hg] at f
    exact f
  | some v =>
    obtain ⟨v', u, hm, rv, rep⟩ := C.glob y v hg
    refine PE.imp (pe_glob (C.gl y h2) hm rv h3) fun σ H Q ⟨ι, S, env, s, er, f⟩ => ?_
    simp only [evalE, hg] at f
    exact f.ok s v' (rep ι H)
/-! argument lists -/
theorem snd_es (C : Ctx T c X W r) {f : Expr → Ex → Bool} (hf : ∀ e x, f e x = true → PE X e (SE T X W r x)) : ∀ {es : List Expr} {xs : Exs}, chkEs f es xs = true → PA X es (SEs T X W r xs) ∧ es.all notStar = true
  | [], .nil, _ => ⟨PA.imp pa_nil fun σ H Q ⟨ι, S, env, s, er, g⟩ => by
      simp only [evalEs] at g
      exact g.ok s [] Reps.nil, rfl⟩
  | e :: es, .cons x xs, h => by
    simp only [chkEs, Bool.and_eq_true] at h
    obtain ⟨⟨h1, h2⟩, h3⟩ := h
    obtain ⟨i1, i2⟩ := snd_es C hf h3
    refine ⟨PA.imp (pa_cons (hf e x h2) i1 (star_cons h1)) fun σ H Q ⟨ι, S, env, s, er, g⟩ => ?_, by simp [h1, i2]⟩
    simp only [evalEs] at g
    refine ⟨ι, S, env, s, er, g.bind.imp fun v S1 ι1 H1 g1 s1 k1 v' rv => ?_⟩
    refine ⟨ι1, S1, env, s1, er.grow g1, k1.bind.imp fun vs S2 ι2 H2 g2 s2 k2 vs' rvs => ?_⟩
    exact k2.ok s2 _ (Reps.cons (rv.grow g2) rvs)
  | [], .cons _ _, h => by simp [chkEs] at h
  | _ :: _, .nil, h => by simp [chkEs] at h
theorem evalEs_len {G : Conf} : ∀ {xs : Exs} {env : Env} {S S' : Store} {vs : List PV}, evalEs G xs env S = .ok vs S' → vs.length = lenXs xs
  | .nil, _, _, _, _, h => by simp only [evalEs, Res.ok.injEq] at h; rw [← h.1]; rfl
  | .cons x xs, env, S, S', vs, h => by
    simp only [evalEs] at h
    cases q : evalE G x env S with
    | ok v S1 =>
      rw [q] at h
      simp only [Res.bind] at h
      cases q2 : evalEs G xs env S1 with
      | ok ws S2 =>
        rw [q2] at h
        simp only [Res.ok.injEq] at h
        rw [← h.1, List.length_cons, evalEs_len q2]; rfl
      | exc _ _ _ => rw [q2] at h; cases h
      | bad => rw [q2] at h; cases h
    | exc _ _ _ => rw [q] at h; cases h
    | bad => rw [q] at h; cases h
theorem snd_tup (C : Ctx T c X W r) {es : List Expr} {xs : Exs} {k : Nat} {p : Pos} (h : PA X es (SEs T X W r xs)) : PE X (.Tuple es k p) (SE T X W r (.tup xs)) := by
  refine PE.imp (pe_tupN h) fun σ H Q ⟨ι, S, env, s, er, f⟩ => ?_
  simp only [evalE] at f
  refine ⟨ι, S, env, s, er, f.bind.imp fun vs S1 ι1 H1 g1 s1 k1 vs' rvs => ?_⟩
  split at k1
  · rename_i hl
    refine ⟨by rw [rvs.length]; exact hl, fun p o hp ho => ?_⟩
    refine k1.at (.laid hp) (s1.laid hp) _ ?_
    unfold Rep
    exact ⟨p, vs', rfl, .inl ⟨o, upd_same, ho⟩, rvs.grow (.laid hp)⟩
  · exact k1.elim
theorem snd_lst (C : Ctx T c X W r) {es : List Expr} {xs : Exs} {p : Pos} (h : PA X es (SEs T X W r xs)) : PE X (.List es p) (SE T X W r (.lst xs)) := by
  refine PE.imp (pe_lst h) fun σ H Q ⟨ι, S, env, s, er, f⟩ => ?_
  simp only [evalE] at f
  refine ⟨ι, S, env, s, er, f.bind.imp fun vs S1 ι1 H1 g1 s1 k1 vs' rvs => ?_⟩
  split at k1
  · rename_i hl
    refine ⟨by rw [rvs.length]; exact hl, fun p hp => ?_⟩
    refine k1.at (.cell hp) (s1.new hp rvs) _ ?_
    unfold Rep
    exact ⟨p, rfl, by rw [← s1.len]; simp⟩
  · exact k1.elim
/-- two in a row -/
theorem two {f : PV → PV → Store → Res PV} {a b : Ex} {σ : L2.St} {H : Hp} {Q : VK} {R : R2} {ι : List Addr} {S : Store} {env : Env} (s : Sim X.K X.w ι S H) (er : EnvR X.K X.w ι H env σ)
    (g : FinG X.K X.w X.mg (WE W σ) ι H ((evalE (conf T r) a env S).bind fun x S1 => (evalE (conf T r) b env S1).bind fun y S2 => f x y S2) fun v _ ι' H' => ∀ v', Rep X.K X.w ι' H' v v' → Q v' H')
    (hR : ∀ (x y : PV) (S : Store) (ι : List Addr) (H : Hp) (x' y' : V), Sim X.K X.w ι S H → Rep X.K X.w ι H x x' → Rep X.K X.w ι H y y' →
      FinG X.K X.w X.mg (WE W σ) ι H (f x y S) (fun v _ ι' H' => ∀ v', Rep X.K X.w ι' H' v v' → Q v' H') → R x' y' H Q) :
    tOp R (SE T X W r a) (SE T X W r b) σ H Q := by
  refine ⟨ι, S, env, s, er, g.bind.imp fun x S1 ι1 H1 g1 s1 k1 x' rx => ?_⟩
  refine ⟨ι1, S1, env, s1, er.grow g1, k1.bind.imp fun y S2 ι2 H2 g2 s2 k2 y' ry => ?_⟩
  exact hR x y S2 ι2 H2 x' y' s2 (rx.grow g2) ry k2
theorem Rep.intE {K : PySem.W.Frag} {w : World} {ι : List Addr} {H : Hp} {i : Int} {v : V} (h : Rep K w ι H (.int i) v) : v = .int i := by unfold Rep at h; exact h
theorem Rep.strE {K : PySem.W.Frag} {w : World} {ι : List Addr} {H : Hp} {i : Str} {v : V} (h : Rep K w ι H (.str i) v) : v = .str i := by unfold Rep at h; exact h
theorem Rep.blE {K : PySem.W.Frag} {w : World} {ι : List Addr} {H : Hp} {i : Bool} {v : V} (h : Rep K w ι H (.bl i) v) : v = .bl i := by unfold Rep at h; exact h
theorem Rep.tupE {K : PySem.W.Frag} {w : World} {ι : List Addr} {H : Hp} {xs : List PV} {v : V} (h : Rep K w ι H (.tup xs) v) : ∃ a vs, v = .ref a ∧ SqT K H a vs ∧ Reps K w ι H xs vs := by
  unfold Rep at h
  obtain ⟨a, vs, e, hs, hr⟩ := h
  exact ⟨a, vs, e, hs.t, hr⟩
theorem Rep.tupN {K : PySem.W.Frag} {w : World} {ι : List Addr} {H : Hp} {xs : List PV} {v : V} (h : Rep K w ι H (.tup xs) v) : ∃ a vs, v = .ref a ∧ SqN K H a vs ∧ Reps K w ι H xs vs := by unfold Rep at h; exact h
theorem Rep.wtE {K : PySem.W.Frag} {w : World} {ι : List Addr} {H : Hp} {xs : List PV} {v : V} (h : Rep K w ι H (.wt xs) v) : ∃ a vs, v = .ref a ∧ SqT K H a vs ∧ Reps K w ι H xs vs := by unfold Rep at h; exact h
theorem Rep.ofWt {K : PySem.W.Frag} {w : World} {ι : List Addr} {H : Hp} {a : Addr} {vs : List V} {xs : List PV} (h : SqT K H a vs) (q : Reps K w ι H xs vs) : Rep K w ι H (.wt xs) (.ref a) := by unfold Rep; exact ⟨a, vs, rfl, h, q⟩
theorem Rep.refE {K : PySem.W.Frag} {w : World} {ι : List Addr} {H : Hp} {n : Nat} {v : V} (h : Rep K w ι H (.ref n) v) : ∃ a, v = .ref a ∧ ι[n]? = some a := by unfold Rep at h; exact h
theorem Rep.dctE {K : PySem.W.Frag} {w : World} {ι : List Addr} {H : Hp} {ks : List Str} {xs : List PV} {v : V} (h : Rep K w ι H (.dct ks xs) v) : ∃ a vs, v = .ref a ∧ DctAt K w H a ks vs ∧ Reps K w ι H xs vs := by unfold Rep at h; exact h
theorem Rep.conE {K : PySem.W.Frag} {w : World} {ι : List Addr} {H : Hp} {xs : List PV} {v : V} (h : Rep K w ι H (.con xs) v) : ∃ a vs, v = .ref a ∧ ConL K H a vs ∧ Reps K w ι H xs vs := by unfold Rep at h; exact h
theorem ConL.sq {K : PySem.W.Frag} {H : Hp} {a : Addr} {vs : List V} (h : ConL K H a vs) : SqL K H a vs := h.imp (fun ⟨o, q⟩ => .inr ⟨o, q⟩) id
theorem Rep.ofInt {K : PySem.W.Frag} {w : World} {ι : List Addr} {H : Hp} {i : Int} : Rep K w ι H (.int i) (.int i) := by unfold Rep; rfl
theorem Rep.ofBl {K : PySem.W.Frag} {w : World} {ι : List Addr} {H : Hp} {i : Bool} : Rep K w ι H (.bl i) (.bl i) := by unfold Rep; rfl
theorem Rep.ofStr {K : PySem.W.Frag} {w : World} {ι : List Addr} {H : Hp} {i : Str} : Rep K w ι H (.str i) (.str i) := by unfold Rep; rfl
theorem Rep.ofNon {K : PySem.W.Frag} {w : World} {ι : List Addr} {H : Hp} : Rep K w ι H .non .non := by unfold Rep; rfl
theorem Rep.ofTup {K : PySem.W.Frag} {w : World} {ι : List Addr} {H : Hp} {a : Addr} {vs : List V} {xs : List PV} (h : SqN K H a vs) (q : Reps K w ι H xs vs) : Rep K w ι H (.tup xs) (.ref a) := by unfold Rep; exact ⟨a, vs, rfl, h, q⟩
theorem Rep.ofRef {K : PySem.W.Frag} {w : World} {ι : List Addr} {H : Hp} {a : Addr} {n : Nat} (h : ι[n]? = some a) : Rep K w ι H (.ref n) (.ref a) := by unfold Rep; exact ⟨a, rfl, h⟩
theorem newIx {S : Store} {ι : List Addr} {p : Addr} (h : ι.length = S.length) : (ι ++ [p])[S.length]? = some p := by rw [← h]; simp
theorem mulOk_c {i j : Int} (h : mulOk i j = true) : CMul i j ∨ CMulW i j := by
  unfold mulOk at h
  simp only [Bool.or_eq_true, decide_eq_true_eq] at h
  rcases h with (h | h) | h
  · refine .inl (.inl ⟨?_, ?_⟩) <;> omega
  · refine .inl (.inr ⟨?_, ?_⟩) <;> omega
  · right; unfold CMulW; omega
theorem Reps.nilR {K : PySem.W.Frag} {w : World} {ι : List Addr} {H : Hp} {xs : List PV} (h : Reps K w ι H xs []) : xs = [] := by
  have := h.length
  cases xs
  · rfl
  · simp at this
theorem add_ok {u v : PV} {S : Store} {ι : List Addr} {H : Hp} {u' v' : V} {EX : XK} {Q : VK} (s : Sim X.K X.w ι S H) (ru : Rep X.K X.w ι H u u') (rv : Rep X.K X.w ι H v v')
    (k : FinG X.K X.w X.mg EX ι H (addM u v S) fun v _ ι' H' => ∀ v', Rep X.K X.w ι' H' v v' → Q v' H') :
    rI0 (fun i j => .int (i + j)) u' v' H Q ∨ (∃ i j, u' = .str i ∧ v' = .str j ∧ i.length + j.length ≤ sizeLine ∧ Q (.str (i ++ j)) H) ∨ rCatN X.K u' v' H Q ∨ rCat u' v' H Q := by
  unfold addM at k
  split at k
  · cases ru.intE; cases rv.intE
    exact .inl ⟨_, _, rfl, rfl, k.ok s _ .ofInt⟩
  · cases ru.strE; cases rv.strE
    split at k
    · rename_i hl
      exact .inr (.inl ⟨_, _, rfl, rfl, hl, k.ok s _ .ofStr⟩)
    · exact k.elim
  · rename_i xs ys
    obtain ⟨a1, us, rfl, h1, r1⟩ := ru.tupN
    obtain ⟨a2, vs, rfl, h2, r2⟩ := rv.tupN
    split at k
    · rename_i hl
      refine .inr (.inr (.inl ⟨a1, a2, us, vs, rfl, rfl, h1.t, h2.t, by rw [r1.length, r2.length]; exact hl, fun e => ?_, fun e1 e2 => ?_, fun e1 e2 p o hp ho => ?_⟩))
      · subst e
        have e2 := r1.nilR
        subst e2
        exact k.ok s _ (.ofTup h2 r2)
      · subst e2
        have e2 := r2.nilR
        subst e2
        rw [List.append_nil] at k
        exact k.ok s _ (.ofTup h1 r1)
      · refine k.at (.laid hp) (s.laid hp) _ (.ofTup (.inl ⟨o, upd_same, ho⟩) ((r1.append r2).grow (.laid hp)))
    · exact k.elim
  · obtain ⟨a1, rfl, h1⟩ := ru.refE
    obtain ⟨a2, rfl, h2⟩ := rv.refE
    split at k
    · rename_i xs ys q1 q2
      obtain ⟨b1, us, e1, k1, r1⟩ := s.lst q1
      obtain ⟨b2, vs, e2, k2, r2⟩ := s.lst q2
      rw [h1] at e1; cases e1
      rw [h2] at e2; cases e2
      split at k
      · rename_i hl
        refine .inr (.inr (.inr ⟨a1, a2, us, vs, rfl, rfl, k1, k2, by rw [r1.length, r2.length]; exact hl, fun p hp => ?_⟩))
        exact k.at (.cell hp) (s.new hp (r1.append r2)) _ (.ofRef (newIx s.len))
      · exact k.elim
    · exact k.elim
  · exact k.elim
theorem int_ok {f : Int → Int → Option Int} {u v : PV} {S : Store} {ι : List Addr} {H : Hp} {u' v' : V} {EX : XK} {Q : VK} (s : Sim X.K X.w ι S H) (ru : Rep X.K X.w ι H u u') (rv : Rep X.K X.w ι H v v')
    (k : FinG X.K X.w X.mg EX ι H (intM f u v S) fun v _ ι' H' => ∀ v', Rep X.K X.w ι' H' v v' → Q v' H') : ∃ i j n, u' = .int i ∧ v' = .int j ∧ f i j = some n ∧ Q (.int n) H := by
  unfold intM at k
  split at k
  · cases ru.intE; cases rv.intE
    split at k
    · rename_i q
      exact ⟨_, _, _, rfl, rfl, q, k.ok s _ .ofInt⟩
    · exact k.elim
  · exact k.elim
theorem snd_bin (C : Ctx T c X W r) {op : BOp} {a b : Expr} {x y : Ex} {p : Pos} (ha : PE X a (SE T X W r x)) (hb : PE X b (SE T X W r y)) : PE X (.BinOp a (opNm op) b p) (SE T X W r (.bin op x y)) := by
  cases op with
  | add =>
    refine PE.imp (pe_op (op_add.or (op_add_str.or (op_catN.or op_cat))) ha hb) fun σ H Q ⟨ι, S, env, s, er, f⟩ => ?_
    exact two s er f fun u v S ι H u' v' s ru rv k => add_ok s ru rv k
  | sub =>
    refine PE.imp (pe_op op_sub ha hb) fun σ H Q ⟨ι, S, env, s, er, f⟩ => ?_
    refine two s er f fun u v S ι H u' v' s ru rv k => ?_
    obtain ⟨i, j, n, rfl, rfl, e, q⟩ := int_ok (f := fun i j => some (i - j)) s ru rv k
    cases e
    exact ⟨_, _, rfl, rfl, q⟩
  | mul =>
    refine PE.imp (pe_op (op_mul.or (op_mulW.or op_repT)) ha hb) fun σ H Q ⟨ι, S, env, s, er, f⟩ => ?_
    refine two s er f fun u v S ι H u' v' s ru rv k => ?_
    replace k : FinG X.K X.w X.mg (WE W σ) ι H (mulM u v S) fun v _ ι' H' => ∀ v', Rep X.K X.w ι' H' v v' → Q v' H' := k
    unfold mulM at k
    split at k
    · cases ru.intE; cases rv.intE
      split at k
      · rename_i hm
        rcases mulOk_c hm with hm | hm
        · exact .inl ⟨_, _, rfl, rfl, hm, k.ok s _ .ofInt⟩
        · exact .inr (.inl ⟨_, _, rfl, rfl, hm, k.ok s _ .ofInt⟩)
      · exact k.elim
    · exact k.elim
  | fdiv =>
    refine PE.imp (pe_op op_fdivW ha hb) fun σ H Q ⟨ι, S, env, s, er, f⟩ => ?_
    refine two s er f fun u v S ι H u' v' s ru rv k => ?_
    obtain ⟨i, j, n, rfl, rfl, e, q⟩ := int_ok s ru rv k
    split at e
    · rename_i hm
      simp only [Bool.and_eq_true, decide_eq_true_eq] at hm
      cases e
      exact ⟨_, _, rfl, rfl, wide_div (b := 200) hm.1 hm.2 (by decide) (by decide), q⟩
    · cases e
  | mod =>
    refine PE.imp (pe_op op_mod ha hb) fun σ H Q ⟨ι, S, env, s, er, f⟩ => ?_
    refine two s er f fun u v S ι H u' v' s ru rv k => ?_
    obtain ⟨i, j, n, rfl, rfl, e, q⟩ := int_ok s ru rv k
    split at e
    · rename_i hm
      cases e
      exact ⟨_, _, rfl, rfl, hm, q⟩
    · cases e
  | pow =>
    refine PE.imp (pe_op op_pow ha hb) fun σ H Q ⟨ι, S, env, s, er, f⟩ => ?_
    refine two s er f fun u v S ι H u' v' s ru rv k => ?_
    obtain ⟨i, j, n, rfl, rfl, e, q⟩ := int_ok s ru rv k
    split at e
    · rename_i hm
      simp only [Bool.and_eq_true, decide_eq_true_eq] at hm
      cases e
      exact ⟨_, _, rfl, rfl, ⟨hm.1.1, hm.1.2, hm.2⟩, q⟩
    · cases e
end
end EK

namespace EK
open PySem PySem.Spec PyProof.Rows L2
abbrev wantV (K : PySem.W.Frag) (w : World) (Q : VK) : PV → Store → List Addr → Hp → Prop := fun v _ ι' H' => ∀ v', Rep K w ι' H' v v' → Q v' H'
section
variable {T : Text} {c : Chk} {X : Cx} {W : WX} {r : Nat}

/-! ### truth -/
theorem tru_of {K : PySem.W.Frag} {w : World} {ι : List Addr} {S : Store} {H : Hp} {v : PV} {v' : V} {b : Bool} (s : Sim K w ι S H) (rv : Rep K w ι H v v') (e : truthM S v = some b) : TruV K v' H b := by
  cases v with
  | non => unfold Rep at rv; subst rv; cases e; rfl
  | bl k => cases rv.blE; cases e; rfl
  | int i => cases rv.intE; cases e; rfl
  | str x =>
    cases rv.strE
    simp only [truthM] at e
    split at e
    · rename_i hl
      cases e
      refine ⟨hl, ?_⟩
      by_cases h : x.length = 0
      · rw [h]; rfl
      · have h1 : (x.length != 0) = true := by simpa using h
        rw [h1]
        have h2 : ((x.length : Int) != 0) = true := by
          have : (x.length : Int) ≠ 0 := by omega
          simpa using this
        exact h2.symm
    · cases e
  | tup xs =>
    obtain ⟨a, vs, rfl, hs, hr⟩ := rv.tupE
    cases e
    exact .inr (.inl ⟨vs, hs, by rw [hr.isEmpty]⟩)
  | ref n =>
    obtain ⟨a, rfl, ha⟩ := rv.refE
    simp only [truthM] at e
    split at e
    · rename_i xs q
      obtain ⟨b, vs, eb, hb, hr⟩ := s.lst q
      rw [ha] at eb; cases eb; cases e
      exact .inl ⟨vs, .inl (.inl hb), by rw [hr.isEmpty]⟩
    · rename_i xs q
      obtain ⟨b, vs, o, eb, hb, hr⟩ := s.ro q
      rw [ha] at eb; cases eb; cases e
      exact .inl ⟨vs, .inl (.inr ⟨o, hb⟩), by rw [hr.isEmpty]⟩
    · cases e
  | dct _ _ => cases e
  | con _ => cases e
  | wt _ => cases e
  | clo _ _ => cases e
  | vl _ => cases e
  | obj _ => cases e
/-- a test as a value's truth -/
theorem truB_fin {EX : XK} {ι : List Addr} {H : Hp} {m : Res PV} {k : Bool → Store → List Addr → Hp → Prop} (h : FinG X.K X.w X.mg EX ι H (truB m) k) :
    FinG X.K X.w X.mg EX ι H m fun v S ι' H' => ∃ b, truthM S v = some b ∧ FinG X.K X.w X.mg EX ι' H' (.ok b S) k := by
  refine h.bind.imp fun v S ι1 H1 g1 s1 q => ?_
  split at q
  · rename_i b e
    exact ⟨b, e, q⟩
  · exact q.elim
theorem snd_neg (C : Ctx T c X W r) {a : Expr} {x : Ex} {p : Pos} (ha : PE X a (SE T X W r x)) : PE X (.UnaryOp .USub a p) (SE T X W r (.neg x)) := by
  refine PE.imp (pe_un un_neg ha) fun σ H Q ⟨ι, S, env, s, er, f⟩ => ?_
  refine ⟨ι, S, env, s, er, (FinG.bind (by simp only [evalE] at f; exact f)).imp fun v S1 ι1 H1 g1 s1 k v' rv => ?_⟩
  split at k
  · cases rv.intE
    exact ⟨_, rfl, k.ok s1 _ .ofInt⟩
  · exact k.elim
theorem snd_not (C : Ctx T c X W r) {a : Expr} {x : Ex} {p : Pos} (ha : PE X a (SE T X W r x)) : PE X (.UnaryOp .Not a p) (SE T X W r (.not x)) := by
  refine PE.imp (pe_notT ha) fun σ H Q ⟨ι, S, env, s, er, f⟩ => ?_
  simp only [evalE] at f
  refine ⟨ι, S, env, s, er, (truB_fin f.bind).imp fun v S1 ι1 H1 g1 s1 ⟨b, e, k⟩ v' rv => ?_⟩
  exact ⟨b, tru_of s1 rv e, (k.ok s1).ok s1 _ .ofBl⟩
theorem cmp_eq {u v : PV} {S : Store} {ι : List Addr} {H : Hp} {u' v' : V} {EX : XK} {Q : VK} {f : Bool → Bool} (s : Sim X.K X.w ι S H) (ru : Rep X.K X.w ι H u u') (rv : Rep X.K X.w ι H v v')
    (k : FinG X.K X.w X.mg EX ι H (okB S ((eqM S u v).map f)) (wantV X.K X.w Q)) : rEqA X.K f u' v' H Q := by
  cases e : eqM S u v with
  | none => rw [e] at k; exact k.elim
  | some b =>
    rw [e] at k
    obtain ⟨d, d', h1, h2, h3, h4, h5, rfl⟩ := eqM_dp s e ru rv
    exact ⟨d, d', h1, h2, h3, h4, h5, FinG.ok (v := PV.bl (f (PyData.eqv d d'))) k s _ .ofBl⟩
def rInD (K : PySem.W.Frag) (w : World) (f : Bool → Bool) : R2 := fun x y H Q => ∃ z a ks vs, x = .str z ∧ y = .ref a ∧ DctAt K w H a ks vs ∧ Q (.bl (f (ks.contains z))) H
theorem find_any {κ α : Type} [DecidableEq κ] (k : κ) : ∀ kvs : List (κ × α), ((kvs.find? fun kv => decide (kv.1 = k)).map (·.2)).isSome = true ↔ k ∈ kvs.map (·.1)
  | [] => by simp
  | (a, b) :: r => by
    rw [List.find?_cons, List.map_cons]
    by_cases h : a = k
    · subst h; simp
    · have ih := find_any k r
      have h3 : ¬ k = a := fun e => h e.symm
      simp only [h, decide_false, List.mem_cons, h3, false_or]
      exact ih
theorem inr_mem (z : Str) (ks : List Str) : (Sum.inr z : Key) ∈ ks.map (Sum.inr : Str → Key) ↔ z ∈ ks :=
  ⟨fun hm => by
    obtain ⟨q, h1, h2⟩ := List.mem_map.mp hm
    exact Sum.inr.inj h2 ▸ h1, fun h => List.mem_map.mpr ⟨z, h, rfl⟩⟩
theorem val_some {kvs : List (Key × V)} {ks : List Str} {z : Str} (h3 : kvs.map (·.1) = ks.map Sum.inr) : (valV kvs (Sum.inr z : Key)).isSome = ks.contains z := by
  rw [Bool.eq_iff_iff]
  unfold valV
  rw [find_any, h3, inr_mem, List.contains_iff_mem]
theorem op_inD (hu : X.A.units + 1 < cLine) : OpR X (compareOp .In) (rInD X.K X.w id) := by
  intro pins s σ H x y v u Q I rx ry h
  obtain ⟨z, a, ks, vs, rfl, rfl, hd, q⟩ := h
  rcases hd with ⟨kvs, h1, h2, h3, h4, h5⟩ | ⟨⟨es, n, D⟩, h2, h3, h4⟩
  · obtain rfl : u = Value.ref a := ry
    refine d_in hu I (DGet.k (k := Sum.inr z) h1) rx fun s' I' => ⟨.bl _, H, I', rfl, ?_⟩
    rw [val_some h3]; exact q
  · cases hk : ks.contains z with
    | false =>
      have hn : z ∉ ks := fun hm => by simp [hm] at hk
      refine op_in_kd D pins s σ H _ _ v u Q I rx ry ⟨z, none, rfl, rfl, h3 z hn, ?_⟩
      rw [hk] at q; exact q
    | true =>
      have hm : z ∈ ks := by simpa using hk
      obtain ⟨i, hi, e⟩ := List.mem_iff_getElem.mp hm
      have hv : i < vs.length := by omega
      obtain ⟨w0, e0, _⟩ := h4 i z vs[i] (by rw [List.getElem?_eq_getElem hi, e]) (List.getElem?_eq_getElem hv)
      refine op_in_kd D pins s σ H _ _ v u Q I rx ry ⟨z, some w0, rfl, rfl, e0, ?_⟩
      rw [hk] at q; exact q
theorem op_notInD (hu : X.A.units + 1 < cLine) : OpR X (compareOp .NotIn) (rInD X.K X.w (!·)) := by
  intro pins s σ H x y v u Q I rx ry h
  obtain ⟨z, a, ks, vs, rfl, rfl, hd, q⟩ := h
  rcases hd with ⟨kvs, h1, h2, h3, h4, h5⟩ | ⟨⟨es, n, D⟩, h2, h3, h4⟩
  · obtain rfl : u = Value.ref a := ry
    refine d_notIn hu I (DGet.k (k := Sum.inr z) h1) rx fun s' I' => ⟨.bl _, H, I', rfl, ?_⟩
    rw [val_some h3]; exact q
  · cases hk : ks.contains z with
    | false =>
      have hn : z ∉ ks := fun hm => by simp [hm] at hk
      refine op_notIn_kd D pins s σ H _ _ v u Q I rx ry ⟨z, none, rfl, rfl, h3 z hn, ?_⟩
      rw [hk] at q; exact q
    | true =>
      have hm : z ∈ ks := by simpa using hk
      obtain ⟨i, hi, e⟩ := List.mem_iff_getElem.mp hm
      have hv : i < vs.length := by omega
      obtain ⟨w0, e0, _⟩ := h4 i z vs[i] (by rw [List.getElem?_eq_getElem hi, e]) (List.getElem?_eq_getElem hv)
      refine op_notIn_kd D pins s σ H _ _ v u Q I rx ry ⟨z, some w0, rfl, rfl, e0, ?_⟩
      rw [hk] at q; exact q
def rIn3 (K : PySem.W.Frag) (w : World) (f : Bool → Bool) : R2 := fun x y H Q => rInA K f x y H Q ∨ rInD K w f x y H Q ∨ ∃ (c : Nat) (z : Str), x = .str ⟨#[c]⟩ ∧ y = .str z ∧ Q (.bl (f (decide (c ∈ z.cps.toList)))) H
theorem one_sign {x : Str} (h : x.cps.size = 1) : x = ⟨#[x.cps.getD 0 0]⟩ := by
  obtain ⟨a⟩ := x
  have h : a.size = 1 := h
  congr 1
  apply Array.ext
  · simp [h]
  · intro i h1 h2
    have : i = 0 := by omega
    subst this
    simp [Array.getD, h]
theorem cmp_in {u v : PV} {S : Store} {ι : List Addr} {H : Hp} {u' v' : V} {EX : XK} {Q : VK} {f : Bool → Bool} (s : Sim X.K X.w ι S H) (ru : Rep X.K X.w ι H u u') (rv : Rep X.K X.w ι H v v')
    (k : FinG X.K X.w X.mg EX ι H (okB S ((inM S u v).map f)) (wantV X.K X.w Q)) : rIn3 X.K X.w f u' v' H Q := by
  cases e : inM S u v with
  | none => rw [e] at k; exact k.elim
  | some b =>
    rw [e] at k
    have q : Q (.bl (f b)) H := FinG.ok (v := PV.bl (f b)) k s _ .ofBl
    cases v with
    | tup xs =>
      obtain ⟨a, vs, rfl, hs, hr⟩ := rv.tupE
      obtain ⟨d, ds, h1, h2, h3, h4, h5, rfl⟩ := anyEq_dp s ru hr e
      exact .inl ⟨d, ds, a, vs, rfl, .inr hs, h1, h2, h3, h4, h5, q⟩
    | ref n =>
      obtain ⟨a, rfl, ha⟩ := rv.refE
      simp only [inM] at e
      split at e
      · rename_i xs q1
        obtain ⟨b1, vs, eb, hb, hr⟩ := s.lst q1
        rw [ha] at eb; cases eb
        obtain ⟨d, ds, h1, h2, h3, h4, h5, rfl⟩ := anyEq_dp s ru hr e
        exact .inl ⟨d, ds, a, vs, rfl, .inl (.inl (.inl hb)), h1, h2, h3, h4, h5, q⟩
      · rename_i xs q1
        obtain ⟨b1, vs, o, eb, hb, hr⟩ := s.ro q1
        rw [ha] at eb; cases eb
        obtain ⟨d, ds, h1, h2, h3, h4, h5, rfl⟩ := anyEq_dp s ru hr e
        exact .inl ⟨d, ds, a, vs, rfl, .inl (.inl (.inr ⟨o, hb⟩)), h1, h2, h3, h4, h5, q⟩
      · cases e
    | dct ks ws =>
      obtain ⟨a, vs, rfl, hd, hr⟩ := rv.dctE
      cases u with
      | str z =>
        cases ru.strE
        simp only [inM] at e
        cases e
        exact .inr (.inl ⟨z, a, ks, vs, rfl, rfl, hd, q⟩)
      | _ => simp [inM] at e
    | str z =>
      cases rv.strE
      cases u with
      | str x =>
        cases ru.strE
        simp only [inM] at e
        split at e
        · rename_i h
          cases e
          exact .inr (.inr ⟨_, z, by rw [← one_sign h], rfl, q⟩)
        · cases e
      | _ => simp [inM] at e
    | _ => simp [inM] at e
theorem cmp_int {g : Int → Int → Bool} {op : COp} {u v : PV} {S : Store} {ι : List Addr} {H : Hp} {u' v' : V} {EX : XK} {Q : VK} (hop : ∀ u v S, cmpM op u v S = match u, v with
      | .int i, .int j => .ok (.bl (g i j)) S
      | _, _ => .bad) (s : Sim X.K X.w ι S H) (ru : Rep X.K X.w ι H u u') (rv : Rep X.K X.w ι H v v')
    (k : FinG X.K X.w X.mg EX ι H (cmpM op u v S) (wantV X.K X.w Q)) : rI0 (fun i j => .bl (g i j)) u' v' H Q := by
  rw [hop] at k
  split at k
  · cases ru.intE; cases rv.intE
    exact ⟨_, _, rfl, rfl, k.ok s _ .ofBl⟩
  · exact k.elim
theorem okB_id {S : Store} {b : Option Bool} : okB S b = okB S (b.map id) := by cases b <;> rfl
/-- the operator's reading -/
def rCmp (K : PySem.W.Frag) (w : World) : COp → R2
  | .eq => rEqA K id
  | .ne => rEqA K (!·)
  | .lt => rI0 fun i j => .bl (decide (i < j))
  | .le => rI0 fun i j => .bl (decide (i ≤ j))
  | .gt => rI0 fun i j => .bl (decide (j < i))
  | .ge => rI0 fun i j => .bl (decide (j ≤ i))
  | .isIn => rIn3 K w id
  | .notIn => rIn3 K w (!·)
theorem op_cmp (C : Ctx T c X W r) (op : COp) : OpR X (compareOp (cmpNm op)) (rCmp X.K X.w op) := by
  have hu := C.un
  have hu1 : X.A.units + 1 < cLine := by omega
  cases op with
  | eq => exact op_eqA hu
  | ne => exact op_neA hu
  | lt => exact op_lt
  | le => exact op_le
  | gt => exact op_gt
  | ge => exact op_ge
  | isIn => exact (op_inA hu).or ((op_inD hu1).or op_in_sign)
  | notIn => exact (op_notInA hu).or ((op_notInD hu1).or op_notIn_sign)
theorem cmp_ok {op : COp} {u v : PV} {S : Store} {ι : List Addr} {H : Hp} {u' v' : V} {EX : XK} {Q : VK} (s : Sim X.K X.w ι S H) (ru : Rep X.K X.w ι H u u') (rv : Rep X.K X.w ι H v v')
    (k : FinG X.K X.w X.mg EX ι H (cmpM op u v S) (wantV X.K X.w Q)) : rCmp X.K X.w op u' v' H Q := by
  cases op with
  | eq => exact cmp_eq s ru rv (okB_id ▸ (show FinG X.K X.w X.mg EX ι H (okB S (eqM S u v)) (wantV X.K X.w Q) from k))
  | ne => exact cmp_eq s ru rv k
  | lt => exact cmp_int (g := fun i j => decide (i < j)) (fun _ _ _ => rfl) s ru rv k
  | le => exact cmp_int (g := fun i j => decide (i ≤ j)) (fun _ _ _ => rfl) s ru rv k
  | gt => exact cmp_int (g := fun i j => decide (j < i)) (fun _ _ _ => rfl) s ru rv k
  | ge => exact cmp_int (g := fun i j => decide (j ≤ i)) (fun _ _ _ => rfl) s ru rv k
  | isIn => exact cmp_in s ru rv (okB_id ▸ (show FinG X.K X.w X.mg EX ι H (okB S (inM S u v)) (wantV X.K X.w Q) from k))
  | notIn => exact cmp_in s ru rv k
theorem snd_cmp (C : Ctx T c X W r) {op : COp} {a b : Expr} {x y : Ex} {p : Pos} (ha : PE X a (SE T X W r x)) (hb : PE X b (SE T X W r y)) (hm : behindInMarks (cmpNm op) b = false) :
    PE X (.Compare a [cmpNm op] [b] p) (SE T X W r (.cmp op x y)) := by
  refine PE.imp (pe_cmpR (op_cmp C op) ha hb hm) fun σ H Q ⟨ι, S, env, s, er, f⟩ => ?_
  exact two s er f fun u v S ι H u' v' s ru rv k => cmp_ok s ru rv k
theorem cmp_bl {op : COp} {u v : PV} {S : Store} : ∀ {z : PV} {S' : Store}, cmpM op u v S = .ok z S' → ∃ b, z = .bl b := by
  have okb : ∀ {o : Option Bool} {z : PV} {S' : Store}, okB S o = .ok z S' → ∃ b, z = .bl b := fun {o z S'} h => by
    cases o with
    | none => cases h
    | some b => exact ⟨b, by cases h; rfl⟩
  intro z S' h
  cases op with
  | eq => exact okb h
  | ne => exact okb h
  | isIn => exact okb h
  | notIn => exact okb h
  | _ =>
    simp only [cmpM] at h
    split at h
    · cases h; exact ⟨_, rfl⟩
    · cases h
theorem fin_with {α : Type} {K : PySem.W.Frag} {w : World} {mg : Str → Option Value} {EX : XK} {ι : List Addr} {H : Hp} {m : Res α} {k : α → Store → List Addr → Hp → Prop} {P : α → Prop} (h : FinG K w mg EX ι H m k) (hp : ∀ v S, m = .ok v S → P v) :
    FinG K w mg EX ι H m fun v S i2 H2 => P v ∧ k v S i2 H2 := by
  cases m with
  | ok v S => exact fun i2 H2 g2 s2 => ⟨hp v S rfl, h i2 H2 g2 s2⟩
  | exc c fs S => exact h
  | bad => exact h
theorem bind_ok {α β : Type} {m : Res α} {f : α → Store → Res β} {v : β} {S : Store} (h : m.bind f = .ok v S) : ∃ a S1, m = .ok a S1 ∧ f a S1 = .ok v S := by
  cases m with
  | ok a S1 => exact ⟨a, S1, rfl, h⟩
  | exc c fs S => cases h
  | bad => cases h
/-- the test's reading from one that tells a Bool -/
theorem bl_test {e : Ex} {σ : L2.St} {H : Hp} {Q : Bool → Hp → Prop} {ι : List Addr} {S : Store} {env : Env}
    (f : FinG X.K X.w X.mg (WE W σ) ι H (truB (evalE (conf T r) e env S)) fun b _ _ H' => Q b H') (hp : ∀ v S', evalE (conf T r) e env S = .ok v S' → ∃ b, v = .bl b) :
    FinG X.K X.w X.mg (WE W σ) ι H (evalE (conf T r) e env S) (wantV X.K X.w fun z H' => ∃ k, z = V.bl k ∧ Q k H') := by
  refine (fin_with (truB_fin f) hp).imp fun v S1 ι1 H1 g1 s1 ⟨⟨z, hz⟩, b, e, k⟩ v' rv => ?_
  subst hz
  cases rv.blE
  cases e
  exact ⟨z, rfl, k.ok s1⟩
/-- as a test -/
theorem snd_cmpT (C : Ctx T c X W r) {op : COp} {a b : Expr} {x y : Ex} {p : Pos} (ha : PE X a (SE T X W r x)) (hb : PE X b (SE T X W r y)) (hm : behindInMarks (cmpNm op) b = false) :
    PT X (.Compare a [cmpNm op] [b] p) (tMt X.K X.w X.mg W fun env S => truB (evalE (conf T r) (.cmp op x y) env S)) := by
  refine PT.imp (pt_cmpR (op_cmp C op) ha hb hm) fun σ H Q ⟨ι, S, env, s, er, f⟩ => ?_
  refine two (Q := fun z H' => ∃ k, z = V.bl k ∧ Q k H') s er (bl_test f fun v S' h => ?_) fun u v S ι H u' v' s ru rv k => cmp_ok s ru rv k
  simp only [evalE] at h
  obtain ⟨u, S1, _, h⟩ := bind_ok h
  obtain ⟨v, S2, _, h⟩ := bind_ok h
  exact cmp_bl h
theorem chn_read {a b d : Ex} {σ : L2.St} {H : Hp} {Q : VK} {ι : List Addr} {S : Store} {env : Env} (s : Sim X.K X.w ι S H) (er : EnvR X.K X.w ι H env σ)
    (f : FinG X.K X.w X.mg (WE W σ) ι H (evalE (conf T r) (.chn a b d) env S) (wantV X.K X.w Q)) :
    tChain (rI0 fun i j => .bl (decide (i < j))) (rI0 fun i j => .bl (decide (i < j))) (SE T X W r a) (SE T X W r b) (SE T X W r d) σ H Q := by
  simp only [evalE] at f
  refine ⟨ι, S, env, s, er, f.bind.imp fun u S1 ι1 H1 g1 s1 k1 u' ru => ?_⟩
  refine ⟨ι1, S1, env, s1, er.grow g1, k1.bind.imp fun v S2 ι2 H2 g2 s2 k2 v' rv => ?_⟩
  split at k2
  · rename_i i j
    cases (ru.grow g2).intE
    cases rv.intE
    refine ⟨i, j, rfl, rfl, _, rfl, ?_⟩
    by_cases h : i < j
    · rw [decide_eq_true h]
      rw [if_pos h] at k2
      rw [if_pos rfl]
      refine ⟨ι2, S2, env, s2, (er.grow g1).grow g2, k2.bind.imp fun z S3 ι3 H3 g3 s3 k3 z' rz => ?_⟩
      split at k3
      · cases rz.intE
        exact ⟨j, _, rfl, rfl, k3.ok s3 _ .ofBl⟩
      · exact k3.elim
    · rw [decide_eq_false h]
      rw [if_neg h] at k2
      rw [if_neg Bool.false_ne_true]
      exact k2.ok s2 _ .ofBl
  · exact k2.elim
theorem chn_bl {a b d : Ex} {G : Conf} {S S' : Store} {env : Env} {v : PV} (h : evalE G (.chn a b d) env S = .ok v S') : ∃ b, v = .bl b := by
  simp only [evalE] at h
  obtain ⟨u, S1, _, h⟩ := bind_ok h
  obtain ⟨w, S2, _, h⟩ := bind_ok h
  split at h
  · split at h
    · obtain ⟨z, S3, _, h⟩ := bind_ok h
      split at h
      · cases h; exact ⟨_, rfl⟩
      · cases h
    · cases h; exact ⟨_, rfl⟩
  · cases h
theorem snd_chn (C : Ctx T c X W r) {a b d : Expr} {x y z : Ex} {p : Pos} (ha : PE X a (SE T X W r x)) (hb : PE X b (SE T X W r y)) (hd : PE X d (SE T X W r z)) : PE X (.Compare a [.Lt, .Lt] [b, d] p) (SE T X W r (.chn x y z)) :=
  PE.imp (pe_chain op_lt op_lt ha hb hd (nomark d)) fun σ H Q ⟨ι, S, env, s, er, f⟩ => chn_read s er f
theorem snd_chnT (C : Ctx T c X W r) {a b d : Expr} {x y z : Ex} {p : Pos} (ha : PE X a (SE T X W r x)) (hb : PE X b (SE T X W r y)) (hd : PE X d (SE T X W r z)) :
    PT X (.Compare a [.Lt, .Lt] [b, d] p) (tMt X.K X.w X.mg W fun env S => truB (evalE (conf T r) (.chn x y z) env S)) := by
  refine PT.imp (pt_chain op_lt op_lt ha hb hd (nomark d)) fun σ H Q ⟨ι, S, env, s, er, f⟩ => ?_
  exact chn_read s er (bl_test f fun v S' h => chn_bl h)
end
end EK

namespace EK
open PySem PySem.Spec PyProof.Rows L2
section
variable {T : Text} {c : Chk} {X : Cx} {W : WX} {r : Nat}

/-! ### and, or, if -/
theorem snd_and (C : Ctx T c X W r) {a b : Expr} {rest : List Expr} {x y : Ex} {p : Pos} (ha : PE X a (SE T X W r x)) (hb : PE X (.BoolOp .And (b :: rest) p) (SE T X W r y)) : PE X (.BoolOp .And (a :: b :: rest) p) (SE T X W r (.and x y)) := by
  refine PE.imp (pe_andT ha hb) fun σ H Q ⟨ι, S, env, s, er, f⟩ => ?_
  simp only [evalE] at f
  refine ⟨ι, S, env, s, er, f.bind.imp fun v S1 ι1 H1 g1 s1 k v' rv => ?_⟩
  split at k
  · rename_i e
    refine ⟨true, tru_of s1 rv e, ?_⟩
    rw [if_pos rfl]
    exact ⟨ι1, S1, env, s1, er.grow g1, k⟩
  · rename_i e
    refine ⟨false, tru_of s1 rv e, ?_⟩
    rw [if_neg Bool.false_ne_true]
    exact k.ok s1 _ rv
  · exact k.elim
theorem snd_or (C : Ctx T c X W r) {a b : Expr} {rest : List Expr} {x y : Ex} {p : Pos} (ha : PE X a (SE T X W r x)) (hb : PE X (.BoolOp .Or (b :: rest) p) (SE T X W r y)) : PE X (.BoolOp .Or (a :: b :: rest) p) (SE T X W r (.or x y)) := by
  refine PE.imp (pe_orT ha hb) fun σ H Q ⟨ι, S, env, s, er, f⟩ => ?_
  simp only [evalE] at f
  refine ⟨ι, S, env, s, er, f.bind.imp fun v S1 ι1 H1 g1 s1 k v' rv => ?_⟩
  split at k
  · rename_i e
    refine ⟨true, tru_of s1 rv e, ?_⟩
    rw [if_pos rfl]
    exact k.ok s1 _ rv
  · rename_i e
    refine ⟨false, tru_of s1 rv e, ?_⟩
    rw [if_neg Bool.false_ne_true]
    exact ⟨ι1, S1, env, s1, er.grow g1, k⟩
  · exact k.elim
abbrev ST (T : Text) (X : Cx) (W : WX) (r : Nat) (x : Ex) : TT := tMt X.K X.w X.mg W fun env S => truB (evalE (conf T r) x env S)
theorem truB_ok {S : Store} {v : PV} : truB (.ok v S) = match truthM S v with
  | some b => .ok b S
  | none => .bad := rfl
theorem and_test {EX : XK} {ι : List Addr} {H : Hp} {A : Res PV} {B : Store → Res PV} {k : Bool → Store → List Addr → Hp → Prop}
    (h : FinG X.K X.w X.mg EX ι H (truB (A.bind fun x S1 => match truthM S1 x with
      | some true => B S1
      | some false => .ok x S1
      | none => .bad)) k) :
    FinG X.K X.w X.mg EX ι H (truB A) fun t S1 ι1 H1 => if t = true then FinG X.K X.w X.mg EX ι1 H1 (truB (B S1)) k else FinG X.K X.w X.mg EX ι1 H1 (.ok false S1) k := by
  cases A with
  | ok v S =>
    rw [truB_ok]
    simp only [Res.bind] at h
    cases e : truthM S v with
    | none => simp only [e] at h; exact h.elim
    | some b =>
      cases b with
      | true => simp only [e] at h; exact fun i2 H2 g2 s2 => FinG.grow g2 h
      | false =>
        simp only [e] at h
        rw [truB_ok] at h
        simp only [e] at h
        exact fun i2 H2 g2 s2 => FinG.grow g2 h
  | exc c fs S => exact h
  | bad => exact h
theorem or_test {EX : XK} {ι : List Addr} {H : Hp} {A : Res PV} {B : Store → Res PV} {k : Bool → Store → List Addr → Hp → Prop}
    (h : FinG X.K X.w X.mg EX ι H (truB (A.bind fun x S1 => match truthM S1 x with
      | some true => .ok x S1
      | some false => B S1
      | none => .bad)) k) :
    FinG X.K X.w X.mg EX ι H (truB A) fun t S1 ι1 H1 => if t = true then FinG X.K X.w X.mg EX ι1 H1 (.ok true S1) k else FinG X.K X.w X.mg EX ι1 H1 (truB (B S1)) k := by
  cases A with
  | ok v S =>
    rw [truB_ok]
    simp only [Res.bind] at h
    cases e : truthM S v with
    | none => simp only [e] at h; exact h.elim
    | some b =>
      cases b with
      | false => simp only [e] at h; exact fun i2 H2 g2 s2 => FinG.grow g2 h
      | true =>
        simp only [e] at h
        rw [truB_ok] at h
        simp only [e] at h
        exact fun i2 H2 g2 s2 => FinG.grow g2 h
  | exc c fs S => exact h
  | bad => exact h
theorem PW.imp {X : Cx} {e : Expr} {t t' : TT} (h : PW X e t) (i : ∀ σ H Q, t' σ H Q → t σ H Q) : PW X e t' := ⟨fun wh pins s σ H Q I hw => h.run wh pins s σ H Q I (i _ _ _ hw)⟩
theorem snd_andT (C : Ctx T c X W r) {a b : Expr} {rest : List Expr} {x y : Ex} {p : Pos} (ha : PT X a (ST T X W r x)) (hb : PW X (.BoolOp .And (b :: rest) p) (ST T X W r y)) : PW X (.BoolOp .And (a :: b :: rest) p) (ST T X W r (.and x y)) := by
  refine PW.imp (pw_and ha hb) fun σ H Q ⟨ι, S, env, s, er, f⟩ => ?_
  simp only [evalE] at f
  refine ⟨ι, S, env, s, er, (and_test f).imp fun t S1 ι1 H1 g1 s1 k => ?_⟩
  cases t with
  | true =>
    rw [if_pos rfl] at k ⊢
    exact ⟨ι1, S1, env, s1, er.grow g1, k⟩
  | false =>
    rw [if_neg Bool.false_ne_true] at k ⊢
    exact k.ok s1
theorem snd_orT (C : Ctx T c X W r) {a b : Expr} {rest : List Expr} {x y : Ex} {p : Pos} (ha : PT X a (ST T X W r x)) (hb : PW X (.BoolOp .Or (b :: rest) p) (ST T X W r y)) : PW X (.BoolOp .Or (a :: b :: rest) p) (ST T X W r (.or x y)) := by
  refine PW.imp (pw_or ha hb) fun σ H Q ⟨ι, S, env, s, er, f⟩ => ?_
  simp only [evalE] at f
  refine ⟨ι, S, env, s, er, (or_test f).imp fun t S1 ι1 H1 g1 s1 k => ?_⟩
  cases t with
  | false =>
    rw [if_neg Bool.false_ne_true] at k ⊢
    exact ⟨ι1, S1, env, s1, er.grow g1, k⟩
  | true =>
    rw [if_pos rfl] at k ⊢
    exact k.ok s1
theorem truB_not {A : Res PV} : truB ((truB A).bind fun b S1 => .ok (.bl (!b)) S1) = (truB A).bind fun b S1 => .ok (!b) S1 := by
  cases A with
  | ok v S =>
    rw [truB_ok]
    cases truthM S v <;> rfl
  | exc c fs S => rfl
  | bad => rfl
theorem snd_notT (C : Ctx T c X W r) {a : Expr} {x : Ex} {p : Pos} (ha : PT X a (ST T X W r x)) : PT X (.UnaryOp .Not a p) (ST T X W r (.not x)) := by
  refine PT.imp (pt_not ha) fun σ H Q ⟨ι, S, env, s, er, f⟩ => ?_
  simp only [evalE, truB_not] at f
  exact ⟨ι, S, env, s, er, f.bind.imp fun t S1 ι1 H1 g1 s1 k => k.ok s1⟩
theorem snd_plainT (C : Ctx T c X W r) {a : Expr} {x : Ex} (hp : plainTest a = true) (ha : PE X a (SE T X W r x)) : PT X a (ST T X W r x) := by
  refine PT.imp (pt_truth ha (test_plain hp)) fun σ H Q ⟨ι, S, env, s, er, f⟩ => ?_
  refine ⟨ι, S, env, s, er, (truB_fin f).imp fun v S1 ι1 H1 g1 s1 ⟨b, e, k⟩ v' rv => ⟨b, tru_of s1 rv e, k.ok s1⟩⟩
theorem snd_ite (C : Ctx T c X W r) {t a b : Expr} {x y z : Ex} {p : Pos} (ht : PT X t (ST T X W r x)) (ha : PE X a (SE T X W r y)) (hb : PE X b (SE T X W r z)) : PE X (.IfExp t a b p) (SE T X W r (.ite x y z)) := by
  refine PE.imp (pe_ifExp ht ha hb) fun σ H Q ⟨ι, S, env, s, er, f⟩ => ?_
  simp only [evalE] at f
  refine ⟨ι, S, env, s, er, f.bind.imp fun t S1 ι1 H1 g1 s1 k => ?_⟩
  cases t with
  | true => rw [if_pos rfl] at k ⊢; exact ⟨ι1, S1, env, s1, er.grow g1, k⟩
  | false => rw [if_neg Bool.false_ne_true] at k ⊢; exact ⟨ι1, S1, env, s1, er.grow g1, k⟩
theorem rep_non {K : PySem.W.Frag} {w : World} {ι : List Addr} {H : Hp} {v : PV} {v' : V} (h : Rep K w ι H v v') : decide (v' = .non) = isNonP v := by
  cases v with
  | non => unfold Rep at h; subst h; rfl
  | bl b => cases h.blE; rfl
  | int b => cases h.intE; rfl
  | str b => cases h.strE; rfl
  | tup b => obtain ⟨a, vs, rfl, _⟩ := h.tupE; rfl
  | ref b => obtain ⟨a, rfl, _⟩ := h.refE; rfl
  | dct b d => obtain ⟨a, vs, rfl, _⟩ := h.dctE; rfl
  | con _ => obtain ⟨a, vs, rfl, _⟩ := h.conE; rfl
  | wt _ => obtain ⟨a, vs, rfl, _⟩ := h.wtE; rfl
  | clo _ _ => unfold Rep at h; exact h.elim
  | vl _ => unfold Rep at h; exact h.elim
  | obj _ => unfold Rep at h; obtain ⟨a, dx, rfl, _⟩ := h; rfl
theorem isN_read {x : Ex} {σ : L2.St} {H : Hp} {Q : VK} {ι : List Addr} {S : Store} {env : Env} (s : Sim X.K X.w ι S H) (er : EnvR X.K X.w ι H env σ)
    (f : FinG X.K X.w X.mg (WE W σ) ι H (evalE (conf T r) (.isN x) env S) (wantV X.K X.w Q)) :
    tOp (fun x y H Q => y = .non ∧ Q (.bl (decide (x = .non))) H) (SE T X W r x) (tC .non) σ H Q := by
  simp only [evalE] at f
  refine ⟨ι, S, env, s, er, f.bind.imp fun v S1 ι1 H1 g1 s1 k v' rv => ⟨rfl, ?_⟩⟩
  rw [rep_non rv]
  exact k.ok s1 _ .ofBl
theorem notN_read {x : Ex} {σ : L2.St} {H : Hp} {Q : VK} {ι : List Addr} {S : Store} {env : Env} (s : Sim X.K X.w ι S H) (er : EnvR X.K X.w ι H env σ)
    (f : FinG X.K X.w X.mg (WE W σ) ι H (evalE (conf T r) (.notN x) env S) (wantV X.K X.w Q)) :
    tOp (fun x y H Q => y = .non ∧ Q (.bl (!decide (x = .non))) H) (SE T X W r x) (tC .non) σ H Q := by
  simp only [evalE] at f
  refine ⟨ι, S, env, s, er, f.bind.imp fun v S1 ι1 H1 g1 s1 k v' rv => ⟨rfl, ?_⟩⟩
  rw [rep_non rv]
  exact k.ok s1 _ .ofBl
theorem snd_isN (C : Ctx T c X W r) {a : Expr} {x : Ex} {p p2 : Pos} {j : Nat} (ha : PE X a (SE T X W r x)) : PE X (.Compare a [.Is] [.Constant .none j p2] p) (SE T X W r (.isN x)) :=
  PE.imp (pe_cmpR op_isN ha pe_non (nomark _)) fun σ H Q ⟨ι, S, env, s, er, f⟩ => isN_read s er f
theorem snd_notN (C : Ctx T c X W r) {a : Expr} {x : Ex} {p p2 : Pos} {j : Nat} (ha : PE X a (SE T X W r x)) : PE X (.Compare a [.IsNot] [.Constant .none j p2] p) (SE T X W r (.notN x)) :=
  PE.imp (pe_cmpR op_notN ha pe_non (nomark _)) fun σ H Q ⟨ι, S, env, s, er, f⟩ => notN_read s er f
theorem snd_isNT (C : Ctx T c X W r) {a : Expr} {x : Ex} {p p2 : Pos} {j : Nat} (ha : PE X a (SE T X W r x)) : PT X (.Compare a [.Is] [.Constant .none j p2] p) (ST T X W r (.isN x)) :=
  PT.imp (pt_cmpR op_isN ha pe_non (nomark _)) fun σ H Q ⟨ι, S, env, s, er, f⟩ => isN_read s er (bl_test f fun v S' h => by
    simp only [evalE] at h
    obtain ⟨u, S1, _, h⟩ := bind_ok h
    cases h; exact ⟨_, rfl⟩)
theorem snd_notNT (C : Ctx T c X W r) {a : Expr} {x : Ex} {p p2 : Pos} {j : Nat} (ha : PE X a (SE T X W r x)) : PT X (.Compare a [.IsNot] [.Constant .none j p2] p) (ST T X W r (.notN x)) :=
  PT.imp (pt_cmpR op_notN ha pe_non (nomark _)) fun σ H Q ⟨ι, S, env, s, er, f⟩ => notN_read s er (bl_test f fun v S' h => by
    simp only [evalE] at h
    obtain ⟨u, S1, _, h⟩ := bind_ok h
    cases h; exact ⟨_, rfl⟩)

/-! ### subscripts -/
theorem look_get : ∀ {ks : List Str} {vs : List PV} {k : Str} {v : PV}, lookD k ks vs = some v → ∃ i : Nat, ks[i]? = some k ∧ vs[i]? = some v ∧ ∀ j : Nat, j < i → ks[j]? ≠ some k
  | [], _, _, _, h => by simp [lookD] at h
  | _ :: _, [], _, _, h => by simp [lookD] at h
  | q :: ks, u :: vs, k, v, h => by
    simp only [lookD] at h
    split at h
    · rename_i e
      cases h
      exact ⟨0, by simp [e], rfl, fun j hj => by omega⟩
    · rename_i e
      obtain ⟨i, h1, h2, h3⟩ := look_get h
      refine ⟨i + 1, by simpa using h1, by simpa using h2, fun j hj => ?_⟩
      cases j with
      | zero => intro z; simp at z; exact e z.symm
      | succ j => simpa using h3 j (by omega)
theorem look_none : ∀ {ks : List Str} {vs : List PV} {k : Str}, ks.length = vs.length → lookD k ks vs = none → k ∉ ks
  | [], _, _, _, _ => by simp
  | q :: ks, [], _, h, _ => by simp at h
  | q :: ks, u :: vs, k, hl, h => by
    simp only [lookD] at h
    split at h
    · cases h
    · rename_i e
      have := look_none (by simpa using hl) h
      simp [e, this]
theorem valV_get {kvs : List (Key × V)} : ∀ {ks : List Str} {i : Nat} {k : Str} {v : V}, kvs.map (·.1) = ks.map Sum.inr → (kvs.map (·.2))[i]? = some v → ks[i]? = some k → (∀ j : Nat, j < i → ks[j]? ≠ some k) → valV kvs (Sum.inr k : Key) = some v := by
  induction kvs with
  | nil => intro ks i k v _ h; simp at h
  | cons kv kvs ih =>
    intro ks i k v h1 h2 h3 h4
    obtain ⟨a, b⟩ := kv
    cases ks with
    | nil => simp at h1
    | cons q ks =>
      simp only [List.map_cons, List.cons.injEq] at h1
      obtain ⟨e1, h1⟩ := h1
      unfold valV
      rw [List.find?_cons]
      cases i with
      | zero =>
        simp at h3 h2
        subst h3 h2
        simp [e1]
      | succ i =>
        have hne : ¬ a = Sum.inr k := fun z => by
          rw [e1] at z
          exact h4 0 (by omega) (by simp [Sum.inr.inj z])
        simp only [hne, decide_false]
        exact ih h1 (by simpa using h2) (by simpa using h3) fun j hj => by simpa using h4 (j + 1) (by omega)
/-- d[k], of a dict that stands -/
def rIxDc (K : PySem.W.Frag) (w : World) : R2 := fun x y H Q => ∃ a ks vs i k v, x = .ref a ∧ y = .str k ∧ DctAt K w H a ks vs ∧ ks[(i : Nat)]? = some k ∧ vs[i]? = some v ∧ (∀ j : Nat, j < i → ks[j]? ≠ some k) ∧ Q v H
theorem ix_dc (hu : X.A.units + 1 < cLine) : IxR X (rIxDc X.K X.w) := by
  intro value slice pins s σ H x y v u Q I rx ry h hs
  obtain ⟨a, ks, vs, i, k, v0, rfl, rfl, hd, h1, h2, h3, q⟩ := h
  rcases hd with ⟨kvs, e, e1, e2, e3, e4⟩ | ⟨⟨es, n, D⟩, e1, e2, e3⟩
  · obtain rfl : v = Value.ref a := rx
    subst e3
    have g : DGet H a (.str k) (some v0) := by
      have := DGet.k (k := Sum.inr k) e
      rw [valV_get e2 h2 h1 h3] at this
      exact this
    exact tail_any (dict_typeIs I g) slot_dict_getitem.lookup (d_getItem hu I g ry fun w' s' I' rw' => ⟨v0, H, I', rw', q⟩) hs
  · obtain ⟨u0, hn, ru⟩ := e3 i k v0 h1 h2
    exact ix_kdict value slice pins s σ H _ _ v u Q I rx ry ⟨a, k, v0, rfl, rfl, ⟨es, n, u0, D.at_, D.lit, hn, ru⟩, q⟩ hs
theorem atI_rep {K : PySem.W.Frag} {w : World} {ι : List Addr} {H : Hp} {xs : List PV} {vs : List V} {i : Int} {v : PV} (r : Reps K w ι H xs vs) (h : atI xs i = some v) : ∃ v', atI vs i = some v' ∧ Rep K w ι H v v' := by
  unfold atI at h ⊢
  rw [r.length]
  cases q : ixN xs.length i with
  | none => rw [q] at h; cases h
  | some j =>
    rw [q] at h
    obtain ⟨v', e, rv⟩ := r.get h
    exact ⟨v', e, rv⟩
theorem ix_ok {u v : PV} {S : Store} {ι : List Addr} {H : Hp} {u' v' : V} {EX : XK} {Q : VK} (s : Sim X.K X.w ι S H) (ru : Rep X.K X.w ι H u u') (rv : Rep X.K X.w ι H v v')
    (k : FinG X.K X.w X.mg EX ι H (ixM u v S) (wantV X.K X.w Q)) : rIx X.K u' v' H Q ∨ rIxDc X.K X.w u' v' H Q := by
  unfold ixM at k
  split at k
  · obtain ⟨a, vs, rfl, hs, hr⟩ := ru.tupE
    cases rv.intE
    split at k
    · rename_i z e
      obtain ⟨z', e', rz⟩ := atI_rep hr e
      exact .inl (.inr (.inl ⟨a, vs, _, z', rfl, rfl, hs, e', k.ok s _ rz⟩))
    · exact k.elim
  · obtain ⟨a, rfl, ha⟩ := ru.refE
    cases rv.intE
    split at k
    · rename_i xs q
      obtain ⟨b, vs, eb, hb, hr⟩ := s.lst q
      rw [ha] at eb; cases eb
      split at k
      · rename_i z e
        obtain ⟨z', e', rz⟩ := atI_rep hr e
        exact .inl (.inl ⟨a, vs, _, z', rfl, rfl, .inl (.inl hb), e', k.ok s _ rz⟩)
      · exact k.elim
    · rename_i xs q
      obtain ⟨b, vs, o, eb, hb, hr⟩ := s.ro q
      rw [ha] at eb; cases eb
      split at k
      · rename_i z e
        obtain ⟨z', e', rz⟩ := atI_rep hr e
        exact .inl (.inl ⟨a, vs, _, z', rfl, rfl, .inl (.inr ⟨o, hb⟩), e', k.ok s _ rz⟩)
      · exact k.elim
    · exact k.elim
  · obtain ⟨a, vs, rfl, hs, hr⟩ := ru.conE
    cases rv.intE
    split at k
    · rename_i z e
      obtain ⟨z', e', rz⟩ := atI_rep hr e
      exact .inl (.inl ⟨a, vs, _, z', rfl, rfl, hs.sq, e', k.ok s _ rz⟩)
    · exact k.elim
  · cases ru.strE; cases rv.intE
    split at k
    · rename_i hl
      split at k
      · rename_i e
        exact .inl (.inr (.inr ⟨_, _, _, rfl, rfl, hl, e, k.ok s _ .ofStr⟩))
      · exact k.elim
    · exact k.elim
  · obtain ⟨a, vs, rfl, hd, hr⟩ := ru.dctE
    cases rv.strE
    split at k
    · rename_i e
      obtain ⟨i, h1, h2, h3⟩ := look_get e
      obtain ⟨z', e', rz⟩ := hr.get h2
      exact .inr ⟨a, _, vs, i, _, z', rfl, rfl, hd, h1, e', h3, k.ok s _ rz⟩
    · exact k.elim
  · exact k.elim
theorem snd_ix (C : Ctx T c X W r) {a b : Expr} {x y : Ex} {p : Pos} (ha : PE X a (SE T X W r x)) (hb : PE X b (SE T X W r y)) (hs : notSlice b = true) : PE X (.Subscript a b p) (SE T X W r (.ix x y)) := by
  have hu := C.un
  refine PE.imp (pe_ix (ix_seq.or (ix_dc (by omega))) ha hb (plain_ix hs)) fun σ H Q ⟨ι, S, env, s, er, f⟩ => ?_
  exact two s er f fun u v S ι H u' v' s ru rv k => ix_ok s ru rv k
/-! ### slices -/
def tPt (K : PySem.W.Frag) (w : World) (mg : Str → Option Value) (W : WX) (m : Env → Store → Res (Option Int)) : TO := fun σ H Q => ∃ ι S env, Sim K w ι S H ∧ EnvR K w ι H env σ ∧
  FinG K w mg (WE W σ) ι H (m env S) fun o _ _ H' => Q o H'
theorem PO.imp {X : Cx} {e : Option Expr} {t t' : TO} (h : PO X e t) (i : ∀ σ H Q, t' σ H Q → t σ H Q) : PO X e t' := ⟨fun pins s σ H Q I hw => h.run pins s σ H Q I (i _ _ _ hw)⟩
abbrev SP (T : Text) (X : Cx) (W : WX) (r : Nat) (x : Exs) : TO := tPt X.K X.w X.mg W fun env S => partR (evalEs (conf T r) x env S)
theorem snd_po0 : PO X none (SP T X W r .nil) := PO.imp po_none fun σ H Q ⟨ι, S, env, s, er, f⟩ => by
  have f2 : FinG X.K X.w X.mg (WE W σ) ι H (Res.ok (none : Option Int) S) (fun o _ _ H' => Q o H') := by
    simp only [evalEs] at f
    exact f
  exact f2.ok s
theorem snd_po1 {e : Expr} {x : Ex} (h : PE X e (SE T X W r x)) : PO X (some e) (SP T X W r (.cons x .nil)) := PO.imp (po_some h) fun σ H Q ⟨ι, S, env, s, er, f⟩ => by
  refine ⟨ι, S, env, s, er, ?_⟩
  simp only [evalEs] at f
  cases q : evalE (conf T r) x env S with
  | ok v S1 =>
    rw [q] at f
    simp only [Res.bind, partR] at f
    intro i2 H2 g2 s2 v' rv
    cases v with
    | int i =>
      cases rv.intE
      exact ⟨i, rfl, FinG.at (v := some i) (S := S1) f g2 s2⟩
    | _ => exact False.elim f
  | exc c fs S1 => rw [q] at f; exact f
  | bad => rw [q] at f; exact f
def rSlAll (K : PySem.W.Frag) : V → Option Int → Option Int → Hp → VK → Prop := fun x lo hi H Q => rSlN K x lo hi H Q ∨ rSlL K x lo hi H Q ∨ rSlS x lo hi H Q
theorem cut_rep {K : PySem.W.Frag} {w : World} {ι : List Addr} {H : Hp} {xs : List PV} {vs : List V} {l h : Option Int} (r : Reps K w ι H xs vs) : Reps K w ι H (cutP xs l h) (cutV vs l h) := by
  unfold cutP cutV
  rw [r.length]
  exact (r.drop _).take _
theorem cut_whole {xs : List PV} {l h : Option Int} (e : HT.sIx xs.length 0 l = 0 ∧ HT.sIx xs.length xs.length h = xs.length) : cutP xs l h = xs := by
  unfold cutP
  rw [e.1, e.2]
  simp
theorem sl_ok {u : PV} {l h : Option Int} {S : Store} {ι : List Addr} {H : Hp} {u' : V} {EX : XK} {Q : VK} (s : Sim X.K X.w ι S H) (ru : Rep X.K X.w ι H u u')
    (k : FinG X.K X.w X.mg EX ι H (slM u l h S) (wantV X.K X.w Q)) : rSlAll X.K u' l h H Q := by
  unfold slM at k
  split at k
  · obtain ⟨a, vs, rfl, hs, hr⟩ := ru.tupN
    refine .inl ⟨a, vs, rfl, hs.t, fun e => ?_, fun e p o hp ho => ?_⟩
    · rw [hr.length] at e
      rw [cut_whole e] at k
      exact k.ok s _ (.ofTup hs hr)
    · exact k.at (.laid hp) (s.laid hp) _ (.ofTup (.inl ⟨o, upd_same, ho⟩) ((cut_rep hr).grow (.laid hp)))
  · obtain ⟨a, rfl, ha⟩ := ru.refE
    split at k
    · rename_i xs q
      obtain ⟨b, vs, eb, hb, hr⟩ := s.lst q
      rw [ha] at eb; cases eb
      exact .inr (.inl ⟨a, vs, rfl, .inl (.inl hb), fun p hp => k.at (.cell hp) (s.new hp (cut_rep hr)) _ (.ofRef (newIx s.len))⟩)
    · rename_i xs q
      obtain ⟨b, vs, o, eb, hb, hr⟩ := s.ro q
      rw [ha] at eb; cases eb
      exact .inr (.inl ⟨a, vs, rfl, .inl (.inr ⟨o, hb⟩), fun p hp => k.at (.cell hp) (s.new hp (cut_rep hr)) _ (.ofRef (newIx s.len))⟩)
    · exact k.elim
  · obtain ⟨a, vs, rfl, hs, hr⟩ := ru.conE
    exact .inr (.inl ⟨a, vs, rfl, hs.sq, fun p hp => k.at (.cell hp) (s.new hp (cut_rep hr)) _ (.ofRef (newIx s.len))⟩)
  · cases ru.strE
    split at k
    · rename_i hl
      exact .inr (.inr ⟨_, rfl, hl, k.ok s _ .ofStr⟩)
    · exact k.elim
  · exact k.elim
theorem snd_sl (C : Ctx T c X W r) {a : Expr} {lo hi : Option Expr} {x : Ex} {l h : Exs} {p p2 : Pos} (ha : PE X a (SE T X W r x)) (hl : PO X lo (SP T X W r l)) (hh : PO X hi (SP T X W r h)) :
    PE X (.Subscript a (.Slice lo hi none p2) p) (SE T X W r (.sl x l h)) := by
  refine PE.imp (pe_slice (sl_tupN.or (sl_list.or sl_str)) ha hl hh) fun σ H Q ⟨ι, S, env, s, er, f⟩ => ?_
  simp only [evalE] at f
  refine ⟨ι, S, env, s, er, f.bind.imp fun u S1 ι1 H1 g1 s1 k1 u' ru => ?_⟩
  refine ⟨ι1, S1, env, s1, er.grow g1, k1.bind.imp fun lv S2 ι2 H2 g2 s2 k2 => ?_⟩
  refine ⟨ι2, S2, env, s2, (er.grow g1).grow g2, k2.bind.imp fun hv S3 ι3 H3 g3 s3 k3 => ?_⟩
  exact sl_ok s3 ((ru.grow g2).grow g3) k3
end
end EK

namespace EK
open PySem PySem.Spec PyProof.Rows L2
section
variable {T : Text} {c : Chk} {X : Cx} {W : WX} {r : Nat}

/-! ### a dict's display -/
def trsOf (f : Ex → TE) : List Str → Exs → List (TE × TE)
  | k :: ks, .cons x xs => (tC (.str k), f x) :: trsOf f ks xs
  | _, _ => []
theorem snd_pps (C : Ctx T c X W r) {f : Expr → Ex → Bool} (hf : ∀ e x, f e x = true → PE X e (SE T X W r x)) {pos : Pos} : ∀ {keys : List (Option Expr)} {es : List Expr} {ks : List Str} {xs : Exs}, chkKs keys ks = true → chkEs f es xs = true → ks.length = lenXs xs →
    PPs X pos keys es (trsOf (SE T X W r) ks xs) ∧ keys.all (·.isSome) = true ∧ keys.length = es.length
  | [], [], [], .nil, _, _, _ => ⟨pps_nil, rfl, rfl⟩
  | some (.Constant (.str k) j p) :: keys, e :: es, q :: ks, .cons x xs, h1, h2, hl => by
    simp only [chkKs, Bool.and_eq_true, decide_eq_true_eq] at h1
    simp only [chkEs, Bool.and_eq_true] at h2
    obtain ⟨rfl, h1⟩ := h1
    obtain ⟨⟨_, h2⟩, h3⟩ := h2
    obtain ⟨i1, i2, i3⟩ := snd_pps C hf (pos := pos) h1 h3 (by simpa [lenXs] using hl)
    exact ⟨pps_cons pe_str (hf e x h2) i1, by simpa using i2, by simpa using i3⟩
  | [], _ :: _, [], .nil, _, h, _ => by simp [chkEs] at h
  | [], _, [], .cons _ _, _, h, hl => by simp [lenXs] at hl
  | [], _, _ :: _, _, h, _, _ => by simp [chkKs] at h
  | some e :: _, _, [], _, h, _, _ => by simp [chkKs] at h
  | none :: _, _, _, _, h, _, _ => by simp [chkKs] at h
  | some _ :: _, [], _ :: _, .cons _ _, _, h, _ => by simp [chkEs] at h
  | some _ :: _, _, _ :: _, .nil, _, _, h => by simp [lenXs] at h
  | some (.BoolOp ..) :: _, _, _ :: _, _, h, _, _ => by simp [chkKs] at h
  | some (.NamedExpr ..) :: _, _, _ :: _, _, h, _, _ => by simp [chkKs] at h
  | some (.BinOp ..) :: _, _, _ :: _, _, h, _, _ => by simp [chkKs] at h
  | some (.UnaryOp ..) :: _, _, _ :: _, _, h, _, _ => by simp [chkKs] at h
  | some (.Lambda ..) :: _, _, _ :: _, _, h, _, _ => by simp [chkKs] at h
  | some (.IfExp ..) :: _, _, _ :: _, _, h, _, _ => by simp [chkKs] at h
  | some (.Dict ..) :: _, _, _ :: _, _, h, _, _ => by simp [chkKs] at h
  | some (.Set ..) :: _, _, _ :: _, _, h, _, _ => by simp [chkKs] at h
  | some (.ListComp ..) :: _, _, _ :: _, _, h, _, _ => by simp [chkKs] at h
  | some (.SetComp ..) :: _, _, _ :: _, _, h, _, _ => by simp [chkKs] at h
  | some (.DictComp ..) :: _, _, _ :: _, _, h, _, _ => by simp [chkKs] at h
  | some (.GeneratorExp ..) :: _, _, _ :: _, _, h, _, _ => by simp [chkKs] at h
  | some (.Await ..) :: _, _, _ :: _, _, h, _, _ => by simp [chkKs] at h
  | some (.Yield ..) :: _, _, _ :: _, _, h, _, _ => by simp [chkKs] at h
  | some (.YieldFrom ..) :: _, _, _ :: _, _, h, _, _ => by simp [chkKs] at h
  | some (.Compare ..) :: _, _, _ :: _, _, h, _, _ => by simp [chkKs] at h
  | some (.Call ..) :: _, _, _ :: _, _, h, _, _ => by simp [chkKs] at h
  | some (.FormattedValue ..) :: _, _, _ :: _, _, h, _, _ => by simp [chkKs] at h
  | some (.JoinedStr ..) :: _, _, _ :: _, _, h, _, _ => by simp [chkKs] at h
  | some (.Attribute ..) :: _, _, _ :: _, _, h, _, _ => by simp [chkKs] at h
  | some (.Subscript ..) :: _, _, _ :: _, _, h, _, _ => by simp [chkKs] at h
  | some (.Starred ..) :: _, _, _ :: _, _, h, _, _ => by simp [chkKs] at h
  | some (.Name ..) :: _, _, _ :: _, _, h, _, _ => by simp [chkKs] at h
  | some (.List ..) :: _, _, _ :: _, _, h, _, _ => by simp [chkKs] at h
  | some (.Tuple ..) :: _, _, _ :: _, _, h, _, _ => by simp [chkKs] at h
  | some (.Slice ..) :: _, _, _ :: _, _, h, _, _ => by simp [chkKs] at h
  | some (.Constant .none _ _) :: _, _, _ :: _, _, h, _, _ => by simp [chkKs] at h
  | some (.Constant (.bool _) _ _) :: _, _, _ :: _, _, h, _, _ => by simp [chkKs] at h
  | some (.Constant (.int _) _ _) :: _, _, _ :: _, _, h, _, _ => by simp [chkKs] at h
  | some (.Constant (.float _) _ _) :: _, _, _ :: _, _, h, _, _ => by simp [chkKs] at h
  | some (.Constant (.complex _ _) _ _) :: _, _, _ :: _, _, h, _, _ => by simp [chkKs] at h
  | some (.Constant (.bytes _) _ _) :: _, _, _ :: _, _, h, _, _ => by simp [chkKs] at h
  | some (.Constant .ellipsis _ _) :: _, _, _ :: _, _, h, _, _ => by simp [chkKs] at h
theorem pairs_read : ∀ {ks : List Str} {xs : Exs} {σ : L2.St} {H : Hp} {ι : List Addr} {S : Store} {env : Env} {Q : List (V × V) → Hp → Prop}, ks.length = lenXs xs → Sim X.K X.w ι S H → EnvR X.K X.w ι H env σ →
    FinG X.K X.w X.mg (WE W σ) ι H (evalEs (conf T r) xs env S) (fun vs _ ι' H' => ∀ vs', Reps X.K X.w ι' H' vs vs' → Q ((ks.map V.str).zip vs') H') → tPairs (trsOf (SE T X W r) ks xs) σ H Q
  | [], .nil, σ, H, ι, S, env, Q, _, s, er, f => by
    simp only [evalEs] at f
    exact f.ok s [] Reps.nil
  | k :: ks, .cons x xs, σ, H, ι, S, env, Q, hl, s, er, f => by
    simp only [evalEs] at f
    refine ⟨ι, S, env, s, er, f.bind.imp fun v S1 ι1 H1 g1 s1 k1 v' rv => ?_⟩
    refine pairs_read (by simpa [lenXs] using hl) s1 (er.grow g1) (k1.bind.imp fun vs S2 ι2 H2 g2 s2 k2 vs' rvs => ?_)
    exact k2.ok s2 _ (Reps.cons (rv.grow g2) rvs)
  | [], .cons _ _, _, _, _, _, _, _, h, _, _, _ => by simp [lenXs] at h
  | _ :: _, .nil, _, _, _, _, _, _, h, _, _, _ => by simp [lenXs] at h
theorem Grow.around {ι ι' : List Addr} {H H' : Hp} {p : Addr} {o u : HO} (hp : H p = none) (g : Grow ι (upd H p o) ι' H') : Grow ι H ι' (upd H' p u) := by
  have key : ∀ a z, H a = some z → (upd H p o) a = some z ∧ a ≠ p := fun a z e => by
    have := ne_of_none e hp
    exact ⟨by rw [upd_ne this]; exact e, this⟩
  refine ⟨⟨g.pre, fun a z e f => ?_⟩, fun a z e ha nt => ?_, fun a h1 h2 => ?_, fun a h => ?_⟩
  · obtain ⟨k1, k2⟩ := key a z e
    rw [upd_ne k2]; exact g.kept a z k1 f
  · obtain ⟨k1, k2⟩ := key a z e
    rw [upd_ne k2]; exact g.all a z k1 ha nt
  · have := g.new a h1 h2
    by_cases e : a = p
    · subst e; rw [upd_same] at this; cases this
    · rw [upd_ne e] at this; exact this
  · exact upd_gone (g.gone a (upd_gone h))
theorem merge_nodup : ∀ (kvs acc : List (Key × V)), ((acc ++ kvs).map (·.1)).Nodup → mergeK acc kvs = acc ++ kvs
  | [], acc, _ => by simp [mergeK]
  | (k, v) :: kvs, acc, h => by
    have hk : (acc.any fun kv => decide (kv.1 = k)) = false := by
      rw [List.any_eq_false]
      intro q hq
      simp only [decide_eq_true_eq]
      intro e
      rw [List.map_append] at h
      have h2 := (List.nodup_append.mp h).2.2
      exact h2 q.1 (List.mem_map.mpr ⟨q, hq, rfl⟩) k (by simp) e
    have e1 : mergeK acc ((k, v) :: kvs) = mergeK (acc ++ [(k, v)]) kvs := by
      unfold mergeK
      rw [List.foldl_cons]
      congr 1
      unfold putK
      simp [hk]
    rw [e1, merge_nodup kvs (acc ++ [(k, v)]) (by simpa [List.append_assoc] using h)]
    simp
theorem zip_keys : ∀ {ks : List Str} {vs : List V}, ks.length = vs.length → ∃ kvs : List (Key × V), (ks.map V.str).zip vs = kvs.map (fun kv => (kV kv.1, kv.2)) ∧ kvs.map (·.1) = ks.map Sum.inr ∧ kvs.map (·.2) = vs ∧ kvs.length = ks.length
  | [], [], _ => ⟨[], rfl, rfl, rfl, rfl⟩
  | k :: ks, v :: vs, h => by
    obtain ⟨kvs, h1, h2, h3, h4⟩ := zip_keys (ks := ks) (vs := vs) (by simpa using h)
    exact ⟨(Sum.inr k, v) :: kvs, by simp [h1, kV], by simp [h2], by simp [h3], by simp [h4]⟩
  | [], _ :: _, h => by simp at h
  | _ :: _, [], h => by simp at h
theorem snd_dsp (C : Ctx T c X W r) {keys : List (Option Expr)} {es : List Expr} {ks : List Str} {xs : Exs} {p : Pos} (hp : PPs X p keys es (trsOf (SE T X W r) ks xs)) (ha : keys.all (·.isSome) = true) (hl : keys.length = es.length) (hk : keys.length = ks.length)
    (hx : ks.length = lenXs xs) (h1 : 1 ≤ ks.length) (h2 : ks.length ≤ 15) (hn : ks.Nodup) : PE X (.Dict keys es p) (SE T X W r (.dsp ks xs)) := by
  refine PE.imp (pe_disp hp ha hl (by intro e; rw [e] at hk; simp at hk; omega) (by omega)) fun σ H Q ⟨ι, S, env, s, er, f⟩ => ?_
  simp only [evalE] at f
  intro q hq
  have g0 : Grow ι H ι (upd H q (.dK [])) := .laid hq
  refine pairs_read hx (s.laid hq) (er.grow g0) ?_
  have f2 := f.bind
  cases ev : evalEs (conf T r) xs env S with
  | bad => rw [ev] at f2; exact f2
  | exc cc fs S1 =>
    rw [ev] at f2
    exact FinG.grow g0 f2
  | ok vs S1 =>
    rw [ev] at f2
    intro ι' H' g' s' vs' rvs
    have hlen := evalEs_len ev
    have hql : q ∉ ι := fun hm => by
      obtain ⟨i, hi, e⟩ := List.mem_iff_getElem.mp hm
      obtain ⟨o, z⟩ := s.there (i := i) (a := q) (by rw [List.getElem?_eq_getElem hi, e])
      rw [hq] at z; cases z
    have hq' : H' q = some (.dK []) := g'.all q _ upd_same hql (fun _ z => nomatch z)
    refine ⟨hq', ?_⟩
    have hvl : ks.length = vs'.length := by rw [rvs.length, hlen]; exact hx
    obtain ⟨kvs, e1, e2, e3, e4⟩ := zip_keys hvl
    refine ⟨kvs, e1, by omega, ?_⟩
    have hnd : (kvs.map (·.1)).Nodup := by
      rw [e2]
      exact List.Pairwise.map _ (fun a b (h : a ≠ b) e => h (Sum.inr.inj e)) hn
    have em : mergeK [] kvs = kvs := by
      have := merge_nodup kvs [] (by simpa using hnd)
      simpa using this
    rw [em]
    have hne : kvs ≠ [] := fun e => by subst e; simp at e4; omega
    have nf : ¬ Fixed (HO.dK []) := fun z => z rfl
    have gx : Ext ι' H' ι' (upd H' q (.dK kvs)) := .other hq' nf
    have k := FinG.at f2 (ι' := ι') (H' := upd H' q (.dK kvs)) (Grow.around hq g') (s'.other hq' nf (fun _ z => nomatch z) fun _ z => nomatch z)
    rw [if_pos (by rw [hlen]; exact hx.symm)] at k
    refine k.ok (s'.other hq' nf (fun _ z => nomatch z) fun _ z => nomatch z) _ ?_
    unfold Rep
    exact ⟨q, vs', rfl, .inl ⟨kvs, upd_same, hne, e2, e3, hn⟩, rvs.ext gx⟩

/-! ### calls of the text's defs -/
theorem pe_call0SD {CX : CXT} {k : Nat} {f : Addr} {fd : FuncData} {ps : List Str} {sp : Sp} {dvs : List V} {ds : List Value} {E : L2.St → XK} {x : Str} {p pos : Pos} (F : FnOk X.prog X.w X.K X.mg X.base CX k f fd ps sp) (hr : Room k X.A) (hg : Gl X x) (hm : X.mg x = some (.ref f)) (hk : PySem.W.keepIn X.K (.ref f) = true) (hb : Binds X.K fd ps ds) (hd : Vals dvs ds) (hx : ∀ σ, PassesAt CX X σ (E σ))
    (hdb : (x == ("__debug__" : Str)) = false) : PE X (.Call (.Name x p) [] [] pos) (tCallSD sp dvs E tNil) := by
  refine ⟨fun pins s σ H Q I h => ?_⟩
  refine wpAny_Call_Name_kw (ld_glob I hg hm ?_ hdb)
  exact PySem.W.callWith_K0 I.kIn hk (run_fnSD (us := []) F hr hb hd (hx σ) I .nil h)
theorem call_read {f : FnI} {fx : Str} {r' : Nat} {xs : Exs} {σ : L2.St} {H : Hp} {Q : VK} {ι : List Addr} {S : Store} {env : Env} (hr : r = r' + 1) (hf : T.fns.lookup fx = some f) (hs : f.dfl.all scal = true) (hj : lenXs xs ≤ f.params.length) (hd : f.params.length - lenXs xs ≤ f.dfl.length)
    (s : Sim X.K X.w ι S H) (er : EnvR X.K X.w ι H env σ) (g : FinG X.K X.w X.mg (WE W σ) ι H (evalE (conf T r) (.call fx xs) env S) (wantV X.K X.w Q)) :
    tCallSD (spF T X.K X.w X.mg r' f) ((f.dfl.drop (f.dfl.length - (f.params.length - lenXs xs))).map scV) (WE W) (SEs T X W r xs) σ H Q := by
  subst hr
  simp only [evalE] at g
  refine ⟨ι, S, env, s, er, ?_⟩
  rw [if_pos (by rfl)] at g
  have g2 := g.bind
  refine (fin_with (P := fun vs => vs.length = lenXs xs) g2 fun v S h => evalEs_len h).imp fun vs S1 ι1 H1 g1 s1 ⟨hl, k⟩ vs' rvs => ?_
  have e : callT T (r' + 1) (.fn fx) [] vs S1 = callBody (conf T r') f (vs ++ f.dfl.drop (f.dfl.length - (f.params.length - vs.length))) S1 := callT_fn hf
  rw [e, hl] at k
  refine ⟨ι1, S1, _, s1, RepsX.of <| rvs.append (reps_scal (List.all_eq_true.mpr fun z hz => List.all_eq_true.mp hs z (List.mem_of_mem_drop hz))), ?_, k⟩
  rw [List.length_append, List.length_map, List.length_drop, rvs.length, hl]
  omega
theorem snd_call (C : Ctx T c X W r) {fx : Str} {es : List Expr} {xs : Exs} {f : FnI} {p p2 : Pos} (ha : PA X es (SEs T X W r xs)) (hst : es.all notStar = true) (hn : es.length = lenXs xs) (hg : isGl c fx = true) (hdb : dbg fx = false)
    (hf : T.fns.lookup fx = some f) (h1 : lenXs xs ≤ f.params.length) (h2 : f.params.length - lenXs xs ≤ f.dfl.length) :
    PE X (.Call (.Name fx p) es [] p2) (SE T X W r (.call fx xs)) := by
  cases r with
  | zero =>
    have : PE X (.Call (.Name fx p) es [] p2) (fun _ _ _ => False) := ⟨fun _ _ _ _ _ _ h => h.elim⟩
    refine PE.imp this fun σ H Q ⟨ι, S, env, s, er, g⟩ => ?_
    simp only [evalE] at g
    exact g
  | succ r' =>
    obtain ⟨⟨a, fd, hm, hk, hb, ok⟩, hs⟩ := C.fns.fn r' rfl fx f hf
    obtain ⟨ds, b, hd⟩ := hb _ h2
    cases es with
    | nil =>
      cases xs with
      | cons _ _ => simp [lenXs] at hn
      | nil =>
        refine PE.imp (pe_call0SD ok C.room (C.gl fx hg) hm hk b hd (fun σ => passAt C.tk σ) hdb) fun σ H Q ⟨ι, S, env, s, er, g⟩ => ?_
        obtain ⟨ι', S', env', s', er', g'⟩ := call_read rfl hf hs h1 h2 s er g
        simp only [evalEs] at g'
        exact g'.ok s' [] Reps.nil
    | cons e es =>
      simp only [List.all_cons, Bool.and_eq_true] at hst
      refine PE.imp (pe_callSD ok C.room (C.gl fx hg) hm hk b hd (fun σ => passAt C.tk σ) ha hdb (star_cons hst.1) (star_plain hst.2)) fun σ H Q ⟨ι, S, env, s, er, g⟩ => ?_
      exact call_read rfl hf hs h1 h2 s er g
end
end EK

namespace EK
open PySem PySem.Spec PyProof.Rows L2
section
variable {T : Text} {c : Chk} {X : Cx} {W : WX} {r : Nat}

/-! ### built-in calls -/
theorem Reps.one {K : PySem.W.Frag} {w : World} {ι : List Addr} {H : Hp} {x : PV} {vs : List V} (h : Reps K w ι H [x] vs) : ∃ v, vs = [v] ∧ Rep K w ι H x v := by
  unfold Reps at h
  obtain ⟨v, r, rfl, h1, h2⟩ := h
  unfold Reps at h2
  subst h2
  exact ⟨v, rfl, h1⟩
theorem Reps.two {K : PySem.W.Frag} {w : World} {ι : List Addr} {H : Hp} {x y : PV} {vs : List V} (h : Reps K w ι H [x, y] vs) : ∃ v u, vs = [v, u] ∧ Rep K w ι H x v ∧ Rep K w ι H y u := by
  unfold Reps at h
  obtain ⟨v, r, rfl, h1, h2⟩ := h
  obtain ⟨u, rfl, h3⟩ := h2.one
  exact ⟨v, u, rfl, h1, h3⟩
theorem seq_of {K : PySem.W.Frag} {w : World} {ι : List Addr} {S : Store} {H : Hp} {v : PV} {v' : V} {xs : List PV} (s : Sim K w ι S H) (rv : Rep K w ι H v v') (e : seqL S v = some xs) :
    ∃ a vs, v' = .ref a ∧ (SqL K H a vs ∨ SqT K H a vs) ∧ Reps K w ι H xs vs := by
  unfold seqL at e
  split at e
  · cases e
    obtain ⟨a, vs, rfl, hs, hr⟩ := rv.tupE
    exact ⟨a, vs, rfl, .inr hs, hr⟩
  · obtain ⟨a, rfl, ha⟩ := rv.refE
    obtain ⟨b, vs, eb, hs, hr⟩ := s.sq e
    rw [ha] at eb; cases eb
    exact ⟨a, vs, rfl, .inl hs, hr⟩
  · cases e
theorem cell_of {K : PySem.W.Frag} {w : World} {ι : List Addr} {S : Store} {H : Hp} {n : Nat} {v' : V} {xs : List PV} (s : Sim K w ι S H) (rv : Rep K w ι H (.ref n) v') (e : cellL S n = some xs) :
    ∃ a vs, v' = .ref a ∧ SqL K H a vs ∧ Reps K w ι H xs vs := by
  obtain ⟨a, rfl, ha⟩ := rv.refE
  obtain ⟨b, vs, eb, hs, hr⟩ := s.sq e
  rw [ha] at eb; cases eb
  exact ⟨a, vs, rfl, hs, hr⟩
theorem ints_of {K : PySem.W.Frag} {w : World} {ι : List Addr} {H : Hp} : ∀ {xs : List PV} {vs : List V} {ns : List Int}, intsP xs = some ns → Reps K w ι H xs vs → vs = ns.map V.int
  | [], _, ns, e, h => by unfold Reps at h; subst h; cases e; rfl
  | x :: xs, _, ns, e, h => by
    unfold Reps at h
    obtain ⟨v, r, rfl, h1, h2⟩ := h
    cases x with
    | int i =>
      simp only [intsP] at e
      cases q : intsP xs with
      | none => rw [q] at e; cases e
      | some ms =>
        rw [q] at e
        cases e
        cases h1.intE
        rw [ints_of q h2]; rfl
    | _ => simp [intsP] at e
theorem bls_of {K : PySem.W.Frag} {w : World} {ι : List Addr} {H : Hp} : ∀ {xs : List PV} {vs : List V} {ns : List Bool}, blsP xs = some ns → Reps K w ι H xs vs → vs = ns.map V.bl
  | [], _, ns, e, h => by unfold Reps at h; subst h; cases e; rfl
  | x :: xs, _, ns, e, h => by
    unfold Reps at h
    obtain ⟨v, r, rfl, h1, h2⟩ := h
    cases x with
    | bl i =>
      simp only [blsP] at e
      cases q : blsP xs with
      | none => rw [q] at e; cases e
      | some ms =>
        rw [q] at e
        cases e
        cases h1.blE
        rw [bls_of q h2]; rfl
    | _ => simp [blsP] at e
theorem maxI_is : ∀ {a : Int} {r : List Int} {m : Int}, m ∈ a :: r → (∀ y, y ∈ a :: r → y ≤ m) → m = maxI (a :: r)
  | a, [], m, h1, h2 => by simpa [maxI] using h1
  | a, b :: r, m, h1, h2 => by
    simp only [maxI]
    have hb : ∀ y, y ∈ b :: r → y ≤ m := fun y hy => h2 y (List.mem_cons_of_mem _ hy)
    have ha : a ≤ m := h2 a List.mem_cons_self
    have hle : maxI (b :: r) ≤ m := by
      have key : ∀ (r : List Int) (b : Int), maxI (b :: r) ∈ b :: r := fun r => by
        induction r with
        | nil => intro b; simp [maxI]
        | cons d r ih =>
          intro b
          simp only [maxI]
          rcases Int.le_total b (maxI (d :: r)) with h | h
          · rw [Int.max_eq_right h]; exact List.mem_cons_of_mem _ (ih d)
          · rw [Int.max_eq_left h]; exact List.mem_cons_self
      exact hb _ (key r b)
    rcases List.mem_cons.mp h1 with h | h
    · rw [h] at hle ⊢; exact (Int.max_eq_left hle).symm
    · have := maxI_is h hb
      rw [← this]; exact (Int.max_eq_right ha).symm
theorem minI_is : ∀ {a : Int} {r : List Int} {m : Int}, m ∈ a :: r → (∀ y, y ∈ a :: r → m ≤ y) → m = minI (a :: r)
  | a, [], m, h1, h2 => by simpa [minI] using h1
  | a, b :: r, m, h1, h2 => by
    simp only [minI]
    have hb : ∀ y, y ∈ b :: r → m ≤ y := fun y hy => h2 y (List.mem_cons_of_mem _ hy)
    have ha : m ≤ a := h2 a List.mem_cons_self
    have hle : m ≤ minI (b :: r) := by
      have key : ∀ (r : List Int) (b : Int), minI (b :: r) ∈ b :: r := fun r => by
        induction r with
        | nil => intro b; simp [minI]
        | cons d r ih =>
          intro b
          simp only [minI]
          rcases Int.le_total b (minI (d :: r)) with h | h
          · rw [Int.min_eq_left h]; exact List.mem_cons_self
          · rw [Int.min_eq_right h]; exact List.mem_cons_of_mem _ (ih d)
      exact hb _ (key r b)
    rcases List.mem_cons.mp h1 with h | h
    · rw [h] at hle ⊢; exact (Int.min_eq_left hle).symm
    · have := minI_is h hb
      rw [← this]; exact (Int.min_eq_right ha).symm
/-- the reading of a built-in by values -/
abbrev RL := List V → Hp → VK → Prop
def rPrim (K : PySem.W.Frag) : Prim → RL
  | .len => fun xs H Q => ∃ x n, xs = [x] ∧ LenV K x H n ∧ Q (.int n) H
  | .int => fun xs H Q => ((∃ i, xs = [.int i] ∧ Q (.int i) H) ∨ ∃ k, xs = [.bl k] ∧ Q (.int (if k then 1 else 0)) H) ∨ ∃ a n, xs = [.str a] ∧ PySem.intText? a = some n ∧ a.length ≤ 640 ∧ Q (.int n) H
  | .abs => fun xs H Q => ∃ i, xs = [.int i] ∧ Q (.int (if i < 0 then -i else i)) H
  | .max2 => fun xs H Q => ∃ i j, xs = [.int i, .int j] ∧ Q (.int (if j > i then j else i)) H
  | .min2 => fun xs H Q => ∃ i j, xs = [.int i, .int j] ∧ Q (.int (if j < i then j else i)) H
  | .max1 => rMax K
  | .min1 => rMin K
  | .sum => rSum K
  | .any => rAny K
  | .all => rAll K
  | .tuple => fun xs H Q => ∃ p ys, xs = [.ref p] ∧ ((SqL K H p ys ∧ ∀ l o, H l = none → plainT o → Q (.ref l) (upd H l (.frz o (.tup ys)))) ∨ (SqT K H p ys ∧ Q (.ref p) H))
  | .list => fun xs H Q => ∃ p ys, xs = [.ref p] ∧ (SqL K H p ys ∨ SqT K H p ys) ∧ ∀ l, H l = none → Q (.ref l) (upd H l (.lst ys))
  | .str => fun xs H Q => ∃ i, xs = [.int i] ∧ i.natAbs.log2 < 1920 ∧ Q (.str (toString i)) H
  | .sorted => rSortedS K
theorem perm2 {α : Type} {a b : α} {ys : List α} (h : ys.Perm [a, b]) : ys = [a, b] ∨ ys = [b, a] := by
  have hl := h.length_eq
  match ys, hl with
  | [u, v], _ =>
    have hu : u ∈ [a, b] := h.mem_iff.mp (by simp)
    simp only [List.mem_cons, List.not_mem_nil, or_false] at hu
    rcases hu with rfl | rfl
    · have := List.Perm.cons_inv h
      exact .inl (by rw [List.perm_singleton.mp this])
    · have h2 : [u, v].Perm [u, a] := h.trans (List.Perm.swap _ _ _)
      have := List.Perm.cons_inv h2
      exact .inr (by rw [List.perm_singleton.mp this])
theorem srt2_of {a b : Str} {l : List PV} {ys : List Str} (e : srt2 a b = some l) (hp : ys.Perm [a, b]) (hs : sortedS ys = true) : l = ys.map PV.str := by
  unfold srt2 at e
  rcases perm2 hp with rfl | rfl
  · rw [hs] at e
    simp only [Bool.true_and, Bool.not_true, Bool.and_false, Bool.false_eq_true, if_false] at e
    split at e
    · cases e; rfl
    · split at e
      · rename_i h; cases e; rfl
      · cases e
  · rw [hs] at e
    simp only [Bool.true_and, Bool.not_true, Bool.and_false, Bool.false_eq_true, if_false] at e
    split at e
    · cases e; rfl
    · split at e
      · rename_i h; cases e; subst h; rfl
      · cases e
theorem reps_strs {K : PySem.W.Frag} {w : World} {ι : List Addr} {H : Hp} : ∀ ys : List Str, Reps K w ι H (ys.map PV.str) (ys.map V.str)
  | [] => Reps.nil
  | y :: ys => Reps.cons .ofStr (reps_strs ys)
theorem prim_ok {p : Prim} {us : List PV} {S : Store} {ι : List Addr} {H : Hp} {us' : List V} {EX : XK} {Q : VK} (s : Sim X.K X.w ι S H) (ru : Reps X.K X.w ι H us us')
    (k : FinG X.K X.w X.mg EX ι H (primM p us S) (wantV X.K X.w Q)) : rPrim X.K p us' H Q := by
  cases p with
  | len =>
    unfold primM at k
    split at k <;> rename_i heq <;> try (first | exact k.elim | (cases heq; done))
    · obtain ⟨v, rfl, rv⟩ := ru.one
      cases rv.strE
      split at k
      · rename_i hl
        exact ⟨_, _, rfl, ⟨hl, rfl⟩, k.ok s _ .ofInt⟩
      · exact k.elim
    · obtain ⟨v, rfl, rv⟩ := ru.one
      obtain ⟨a, vs, rfl, hs, hr⟩ := rv.conE
      refine ⟨.ref a, vs.length, rfl, .inl ⟨vs, hs.sq, rfl⟩, ?_⟩
      rw [hr.length]; exact k.ok s _ .ofInt
    · obtain ⟨v, rfl, rv⟩ := ru.one
      split at k
      · rename_i xs e
        obtain ⟨a, vs, rfl, hs, hr⟩ := seq_of s rv e
        refine ⟨.ref a, vs.length, rfl, ?_, ?_⟩
        · rcases hs with hs | hs
          · exact .inl ⟨vs, hs, rfl⟩
          · exact .inr ⟨vs, hs, rfl⟩
        · rw [hr.length]; exact k.ok s _ .ofInt
      · exact k.elim
  | int =>
    unfold primM at k
    split at k <;> rename_i heq <;> try (first | exact k.elim | (cases heq; done))
    · obtain ⟨v, rfl, rv⟩ := ru.one
      cases rv.intE
      exact .inl (.inl ⟨_, rfl, k.ok s _ .ofInt⟩)
    · obtain ⟨v, rfl, rv⟩ := ru.one
      cases rv.blE
      exact .inl (.inr ⟨_, rfl, k.ok s _ .ofInt⟩)
    · obtain ⟨v, rfl, rv⟩ := ru.one
      cases rv.strE
      split at k
      · rename_i hl
        split at k
        · rename_i n e
          exact .inr ⟨_, n, rfl, e, hl, k.ok s _ .ofInt⟩
        · exact k.elim
      · exact k.elim
  | abs =>
    unfold primM at k
    split at k <;> rename_i heq <;> try (first | exact k.elim | (cases heq; done))
    obtain ⟨v, rfl, rv⟩ := ru.one
    cases rv.intE
    exact ⟨_, rfl, k.ok s _ .ofInt⟩
  | max2 =>
    unfold primM at k
    split at k <;> rename_i heq <;> try (first | exact k.elim | (cases heq; done))
    obtain ⟨v, u, rfl, rv, ru2⟩ := ru.two
    cases rv.intE; cases ru2.intE
    exact ⟨_, _, rfl, k.ok s _ .ofInt⟩
  | min2 =>
    unfold primM at k
    split at k <;> rename_i heq <;> try (first | exact k.elim | (cases heq; done))
    obtain ⟨v, u, rfl, rv, ru2⟩ := ru.two
    cases rv.intE; cases ru2.intE
    exact ⟨_, _, rfl, k.ok s _ .ofInt⟩
  | max1 =>
    unfold primM at k
    split at k <;> rename_i heq <;> try (first | exact k.elim | (cases heq; done))
    obtain ⟨v, rfl, rv⟩ := ru.one
    split at k
    · rename_i a rr e
      obtain ⟨xs, e1, e2⟩ := Option.bind_eq_some_iff.mp e
      obtain ⟨b, vs, rfl, hs, hr⟩ := cell_of s rv e1
      have := ints_of e2 hr
      subst this
      refine ⟨b, a :: rr, rfl, hs, by simp, fun m h1 h2 => ?_⟩
      rw [maxI_is h1 h2]
      exact k.ok s _ .ofInt
    · exact k.elim
  | min1 =>
    unfold primM at k
    split at k <;> rename_i heq <;> try (first | exact k.elim | (cases heq; done))
    obtain ⟨v, rfl, rv⟩ := ru.one
    split at k
    · rename_i a rr e
      obtain ⟨xs, e1, e2⟩ := Option.bind_eq_some_iff.mp e
      obtain ⟨b, vs, rfl, hs, hr⟩ := cell_of s rv e1
      have := ints_of e2 hr
      subst this
      refine ⟨b, a :: rr, rfl, hs, by simp, fun m h1 h2 => ?_⟩
      rw [minI_is h1 h2]
      exact k.ok s _ .ofInt
    · exact k.elim
  | sum =>
    unfold primM at k
    split at k <;> rename_i heq <;> try (first | exact k.elim | (cases heq; done))
    obtain ⟨v, rfl, rv⟩ := ru.one
    split at k
    · rename_i ns e
      obtain ⟨xs, e1, e2⟩ := Option.bind_eq_some_iff.mp e
      obtain ⟨b, vs, rfl, hs, hr⟩ := cell_of s rv e1
      have := ints_of e2 hr
      subst this
      exact ⟨b, ns, rfl, hs, k.ok s _ .ofInt⟩
    · exact k.elim
  | any =>
    unfold primM at k
    split at k <;> rename_i heq <;> try (first | exact k.elim | (cases heq; done))
    obtain ⟨v, rfl, rv⟩ := ru.one
    split at k
    · rename_i ns e
      obtain ⟨xs, e1, e2⟩ := Option.bind_eq_some_iff.mp e
      obtain ⟨b, vs, rfl, hs, hr⟩ := cell_of s rv e1
      have := bls_of e2 hr
      subst this
      exact ⟨b, ns, rfl, hs, k.ok s _ .ofBl⟩
    · exact k.elim
  | all =>
    unfold primM at k
    split at k <;> rename_i heq <;> try (first | exact k.elim | (cases heq; done))
    obtain ⟨v, rfl, rv⟩ := ru.one
    split at k
    · rename_i ns e
      obtain ⟨xs, e1, e2⟩ := Option.bind_eq_some_iff.mp e
      obtain ⟨b, vs, rfl, hs, hr⟩ := cell_of s rv e1
      have := bls_of e2 hr
      subst this
      exact ⟨b, ns, rfl, hs, k.ok s _ .ofBl⟩
    · exact k.elim
  | tuple =>
    unfold primM at k
    split at k <;> rename_i heq <;> try (first | exact k.elim | (cases heq; done))
    · obtain ⟨v, rfl, rv⟩ := ru.one
      obtain ⟨a, vs, rfl, hs, hr⟩ := rv.tupN
      exact ⟨a, vs, rfl, .inr ⟨hs.t, k.ok s _ (.ofTup hs hr)⟩⟩
    · obtain ⟨v, rfl, rv⟩ := ru.one
      split at k
      · rename_i xs e
        obtain ⟨a, vs, rfl, hs, hr⟩ := cell_of s rv e
        exact ⟨a, vs, rfl, .inl ⟨hs, fun l o hl ho => k.at (.laid hl) (s.laid hl) _ (.ofTup (.inl ⟨o, upd_same, ho⟩) (hr.grow (.laid hl)))⟩⟩
      · exact k.elim
  | list =>
    unfold primM at k
    split at k <;> rename_i heq <;> try (first | exact k.elim | (cases heq; done))
    obtain ⟨v, rfl, rv⟩ := ru.one
    split at k
    · rename_i xs e
      obtain ⟨a, vs, rfl, hs, hr⟩ := seq_of s rv e
      exact ⟨a, vs, rfl, hs, fun l hl => k.at (.cell hl) (s.new hl hr) _ (.ofRef (newIx s.len))⟩
    · exact k.elim
  | str =>
    unfold primM at k
    split at k <;> rename_i heq <;> try (first | exact k.elim | (cases heq; done))
    obtain ⟨v, rfl, rv⟩ := ru.one
    cases rv.intE
    split at k
    · rename_i hl
      exact ⟨_, rfl, Nat.lt_of_lt_of_le (PySem.Flt.log2_lt_of (by decide) hl) (by decide), k.ok s _ .ofStr⟩
    · exact k.elim
  | sorted =>
    unfold primM at k
    split at k <;> rename_i heq <;> try (first | exact k.elim | (cases heq; done))
    obtain ⟨v, rfl, rv⟩ := ru.one
    split at k
    · rename_i a b e
      obtain ⟨ad, vs, rfl, hs, hr⟩ := cell_of s rv e
      split at k
      · rename_i l el
        unfold Reps at hr
        obtain ⟨v1, r1, rfl, h1, hr⟩ := hr
        unfold Reps at hr
        obtain ⟨v2, r2, rfl, h2, hr⟩ := hr
        unfold Reps at hr
        subst hr
        cases h1.strE
        cases h2.strE
        refine ⟨ad, [a, b], rfl, hs, (by simp), fun ys p hp hsrt hn => ?_⟩
        have el2 : l = ys.map PV.str := srt2_of el hp hsrt
        subst el2
        refine k.at (.cell hn) (s.new hn (reps_strs ys)) _ (.ofRef (newIx s.len))
      · exact k.elim
    · exact k.elim
theorem prim_pe (C : Ctx T c X W r) (p : Prim) {e : Expr} {es : List Expr} {t : TA} {q pos : Pos} (ha : PA X (e :: es) t) (hg : isGl c ((primNm p).1 : String) = true)
    (he : starEach (e :: es) X.env = (false, eval e X.env) :: starEach es X.env) (hpl : (backTo pos (starEach es X.env)).any (·.1) = false) : PE X (.Call (.Name ((primNm p).1 : String) q) (e :: es) [] pos) (tCB (rPrim X.K p) t) := by
  cases p with
  | len => exact pe_callB call_len (C.gl _ hg) (C.free _ (by decide)) (by decide +kernel) ha (by decide) (by decide) he hpl
  | int => exact pe_callTy (call_int1.or call_int_str) (C.gl _ hg) (C.free _ (by decide)) (by decide +kernel) ha (by decide) (by decide) he hpl
  | abs => exact pe_callB call_abs (C.gl _ hg) (C.free _ (by decide)) (by decide +kernel) ha (by decide) (by decide) he hpl
  | max2 => exact pe_callB (call_max2 C.calm) (C.gl _ hg) (C.free _ (by decide)) (by decide +kernel) ha (by decide) (by decide) he hpl
  | min2 => exact pe_callB (call_min2 C.calm) (C.gl _ hg) (C.free _ (by decide)) (by decide +kernel) ha (by decide) (by decide) he hpl
  | max1 => exact pe_callB (cr_max C.calm) (C.gl _ hg) (C.free _ (by decide)) (by decide +kernel) ha (by decide) (by decide) he hpl
  | min1 => exact pe_callB (cr_min C.calm) (C.gl _ hg) (C.free _ (by decide)) (by decide +kernel) ha (by decide) (by decide) he hpl
  | sum => exact pe_callB (cr_sum C.calm) (C.gl _ hg) (C.free _ (by decide)) (by decide +kernel) ha (by decide) (by decide) he hpl
  | any => exact pe_callB (cr_any C.calm) (C.gl _ hg) (C.free _ (by decide)) (by decide +kernel) ha (by decide) (by decide) he hpl
  | all => exact pe_callB (cr_all C.calm) (C.gl _ hg) (C.free _ (by decide)) (by decide +kernel) ha (by decide) (by decide) he hpl
  | tuple => exact pe_callTy call_tupN (C.gl _ hg) (C.free _ (by decide)) (by decide +kernel) ha (by decide) (by decide) he hpl
  | list => exact pe_callTy call_list_of (C.gl _ hg) (C.free _ (by decide)) (by decide +kernel) ha (by decide) (by decide) he hpl
  | str => exact pe_callTy call_str_int (C.gl _ hg) (C.free _ (by decide)) (by decide +kernel) ha (by decide) (by decide) he hpl
  | sorted => exact pe_callB cr_sortedS (C.gl _ hg) (C.free _ (by decide)) (by decide +kernel) ha (by decide) (by decide) he hpl
theorem snd_prim (C : Ctx T c X W r) {p : Prim} {es : List Expr} {xs : Exs} {q pos : Pos} (ha : PA X es (SEs T X W r xs)) (hst : es.all notStar = true) (hn : es ≠ []) (hg : isGl c ((primNm p).1 : String) = true) :
    PE X (.Call (.Name ((primNm p).1 : String) q) es [] pos) (SE T X W r (.prim p xs)) := by
  cases es with
  | nil => exact absurd rfl hn
  | cons e es =>
    simp only [List.all_cons, Bool.and_eq_true] at hst
    refine PE.imp (prim_pe C p ha hg (star_cons hst.1) (star_plain hst.2)) fun σ H Q ⟨ι, S, env, s, er, f⟩ => ?_
    simp only [evalE] at f
    exact ⟨ι, S, env, s, er, f.bind.imp fun vs S1 ι1 H1 g1 s1 k vs' rvs => prim_ok s1 rvs k⟩
end
end EK

namespace EK
open PySem PySem.Spec PyProof.Rows L2
section
variable {T : Text} {c : Chk} {X : Cx} {W : WX} {r : Nat}

/-! ### list(range(n)) -/
theorem reps_range {K : PySem.W.Frag} {w : World} {ι : List Addr} {H : Hp} (lo : Int) (n : Nat) : Reps K w ι H (rangeP lo n) ((List.range n).map fun i => V.int (lo + (i : Nat))) := by
  unfold rangeP
  generalize List.range n = l
  induction l with
  | nil => exact Reps.nil
  | cons i l ih => exact Reps.cons .ofInt ih
theorem snd_lrg (C : Ctx T c X W r) {a : Expr} {xs : Exs} {p1 p2 p3 p4 : Pos} {f : Expr → Ex → Bool} (hf : ∀ e x, f e x = true → PE X e (SE T X W r x)) (hc : chkEs f [a] xs = true) (g1 : isGl c "list" = true) (g2 : isGl c "range" = true) :
    PE X (.Call (.Name "list" p1) [.Call (.Name "range" p2) [a] [] p3] [] p4) (SE T X W r (.lrg xs)) := by
  cases xs with
  | nil => simp [chkEs] at hc
  | cons x xs =>
    cases xs with
    | cons _ _ => simp [chkEs] at hc
    | nil =>
      simp only [chkEs, Bool.and_eq_true] at hc
      have ha := hf a x hc.1.2
      have hs := hc.1.1
      refine PE.imp (pe_listRg C.calm (C.gl _ g1) (C.free _ (by decide)) (prg_1 (C.gl _ g2) (C.free _ (by decide)) ha (star_cons hs)) rfl) fun σ H Q ⟨ι, S, env, s, er, k⟩ => ?_
      simp only [evalE, evalEs] at k
      refine ⟨ι, S, env, s, er, ?_⟩
      cases q : evalE (conf T r) x env S with
      | ok v S1 =>
        rw [q] at k
        simp only [Res.bind] at k
        intro i2 H2 g2 s2 v' rv
        unfold listRg at k
        split at k
        · rename_i j heq
          cases heq
          cases rv.intE
          split at k
          · rename_i hb
            have hb := fitsL_iff.mp hb
            refine ⟨j, rfl, RgOk.of_le (Int.le_refl 0) hb.2 (by decide) hb.1, fun l hl => ?_⟩
            have e : rgV 0 j = (List.range j.toNat).map fun i => V.int (0 + (i : Nat)) := by
              unfold rgV; rw [Int.sub_zero]
            rw [e]
            exact FinG.at k (g2.trans (.cell hl)) (s2.new hl (reps_range 0 j.toNat)) _ (.ofRef (newIx s2.len))
          · exact k.elim
        · exact k.elim
      | exc cc fs S1 => rw [q] at k; exact k
      | bad => rw [q] at k; exact k

/-! ### isinstance -/
theorem isT_tyS {t : TN} {v : PV} {S : Store} : isTM t v S = match tyS v S with
    | some s => .ok (.bl (kitS t s)) S
    | none => .bad := rfl
theorem tyS_ty {K : PySem.W.Frag} {w : World} {ι : List Addr} {H : Hp} {S : Store} {v : PV} {v' : V} {t : String} (s : Sim K w ι S H) (rv : Rep K w ι H v v') (e : tyS v S = some t) : TyX K H v' (.type t) := by
  cases v with
  | non => unfold Rep at rv; subst rv; cases e; exact .base .non
  | bl b => cases rv.blE; cases e; exact .base (.bl b)
  | int b => cases rv.intE; cases e; exact .base (.int b)
  | str b => cases rv.strE; cases e; exact .base (.str b)
  | tup xs =>
    obtain ⟨a, vs, rfl, hs, _⟩ := rv.tupE
    cases e
    rcases hs with (h | ⟨o, h⟩) | ⟨o, its, n, h1, h2, _⟩
    · exact .base (.tup h)
    · exact .fTuple h
    · exact .kTuple h1 h2
  | ref n =>
    obtain ⟨a, rfl, ha⟩ := rv.refE
    simp only [tyS] at e
    split at e
    · rename_i xs q
      cases e
      obtain ⟨b, vs, eb, hb, _⟩ := s.lst q
      rw [ha] at eb; cases eb
      exact .base (.lst hb)
    · cases e
  | dct _ _ => cases e
  | con _ => cases e
  | wt _ => cases e
  | clo _ _ => cases e
  | vl _ => cases e
  | obj _ => cases e
theorem kit_all (t : TN) : ∀ s ∈ ["NoneType", "bool", "int", "str", "tuple", "list"], kitB s (tnNm t) = some (kitS t s) := by
  cases t <;> decide +kernel
theorem tyS_mem {v : PV} {S : Store} {t : String} (e : tyS v S = some t) : t ∈ ["NoneType", "bool", "int", "str", "tuple", "list"] := by
  cases v with
  | ref n =>
    simp only [tyS] at e
    split at e <;> cases e
    decide
  | _ => cases e <;> decide
theorem boot_ty (t : TN) : bootBuiltins ((tnNm t : String) : Str) = some (.type (tnNm t)) := by cases t <;> decide +kernel
theorem blt_ty (t : TN) : ((tnNm t : String) : Str) ∈ bltNames := by cases t <;> decide
theorem snd_isT (C : Ctx T c X W r) {t : TN} {a : Expr} {x : Ex} {p1 p2 p3 : Pos} (ha : PE X a (SE T X W r x)) (hs : notStar a = true) (g1 : isGl c "isinstance" = true) (g2 : isGl c ((tnNm t : String) : Str) = true) :
    PE X (.Call (.Name "isinstance" p1) [a, .Name ((tnNm t : String) : Str) p2] [] p3) (SE T X W r (.isT t x)) := by
  have h2 : PE X (.Name ((tnNm t : String) : Str) p2) (tC (.ty (tnNm t))) := pe_bltn (C.gl _ g2) (C.free _ (blt_ty t)) (boot_ty t) rfl (by cases t <;> decide) (by cases t <;> decide)
  refine PE.imp (pe_callB call_isi (C.gl _ g1) (C.free _ (by decide)) (by decide +kernel) (pa_cons ha (pa_cons h2 pa_nil (star_cons rfl)) (star_cons hs)) (by decide) (by decide) (star_cons hs) (star_plain (by rfl))) fun σ H Q ⟨ι, S, env, s, er, f⟩ => ?_
  simp only [evalE] at f
  refine ⟨ι, S, env, s, er, f.bind.imp fun v S1 ι1 H1 g1 s1 k v' rv => ?_⟩
  rw [isT_tyS] at k
  split at k
  · rename_i ty e
    exact ⟨v', .ty (tnNm t), .type ty, .type (tnNm t), _, rfl, .ty _, tyS_ty s1 rv e, kit_ty (kit_all t ty (tyS_mem e)), k.ok s1 _ .ofBl⟩
  · exact k.elim

/-! ### methods of built-in types -/
/-- of that built-in type, without attributes of its own -/
def tyW (K : PySem.W.Frag) (w : World) (T : String) (x : V) (H : Hp) : Prop := match x with
  | .str _ => T = "str"
  | .ref p => (T = "list" ∧ ∃ xs, SqL K H p xs) ∨ (T = "dict" ∧ ∃ ks vs, DctAt K w H p ks vs) ∨ (T = "tuple" ∧ ((∃ o, K.lookup p = some o ∧ o.cls = .type "tuple" ∧ o.dict = none) ∨ ∃ o xs, H p = some (.frz o (.tup xs)) ∧ o.cls = .type "tuple" ∧ o.dict = none))
  | _ => False
theorem tyW_is {pins : List (Addr × Obj)} {σ : L2.St} {H : Hp} {s : Shared} {T : String} {x : V} {v : Value} (I : Inv X pins σ H s) (r : RelV x v) (ty : tyW X.K X.w T x H) :
    s.TypeIs v T ∧ ∀ a, v = .ref a → ∃ ob, s.heap.get? a = some ob ∧ ob.dict = none := by
  cases x with
  | str z =>
    obtain ⟨t, rfl⟩ := r
    cases (show T = "str" from ty)
    exact ⟨typeIs_str s z t, fun _ e => nomatch e⟩
  | ref p =>
    obtain rfl : v = Value.ref p := r
    rcases ty with ⟨rfl, xs, hq⟩ | ⟨rfl, ks, vs, hd⟩ | ⟨rfl, hk⟩
    · exact tyV_is (T := "list") (x := .ref p) I rfl (.inl ⟨rfl, xs, hq⟩)
    · rcases hd with ⟨kvs, h, _⟩ | ⟨⟨es, n, D⟩, _⟩
      · exact tyV_is (T := "dict") (x := .ref p) I rfl (.inr (.inr (.inl ⟨rfl, .inl ⟨kvs, h⟩⟩)))
      · refine ⟨kd_type D I, fun a e => ?_⟩
        cases e
        exact ⟨_, I.kIn _ _ D.at_, rfl⟩
    · rcases hk with ⟨o, h, h1, h2⟩ | ⟨o, xs, h, h1, h2⟩
      · exact tyV_is (T := "tuple") (x := .ref p) I rfl (.inr (.inl ⟨rfl, o, h, h1, h2⟩))
      · have ho : s.heap.get? p = some o := (I.hok p _ h).1
        refine ⟨⟨o, ho, h1⟩, fun a e => ?_⟩
        cases e
        exact ⟨o, ho, h2⟩
  | _ => exact False.elim ty
/-- a method of that type -/
structure MthAt (X : Cx) (name : Str) (Ty id : String) (r : V → RL) : Prop where
  pa : PlainAttrs Ty
  slot : Slot Ty name id
  hty : typeOf (.builtin id) = pure (.type "method_descriptor")
  hm : MtR X id r
def tMX (X : Cx) (name : Str) (to : TE) (t : TA) : TE := fun σ H Q => to σ H fun x H1 => ∃ Ty id r, MthAt X name Ty id r ∧ tyW X.K X.w Ty x H1 ∧ t σ H1 fun xs H2 => r x xs H2 Q
theorem pe_mx0 {o : Expr} {name : Str} {apos cpos : Pos} {to : TE} (ho : PE X o to) (hbase : attributeBase o name X.env (eval o X.env) = eval o X.env) (hline : (apos.endLine == cpos.line) = true) :
    PE X (.Call (.Attribute o name apos) [] [] cpos) (tMX X name to tNil) := by
  refine ⟨fun pins s σ H Q I h => ?_⟩
  refine wpAny_Call_method0_late hbase hline (thn (ho.run pins s σ H _ I h) fun v s1 ⟨x, H1, I1, r1, Ty, id, r, m, ty, q1⟩ => ?_)
  obtain ⟨h1, h2⟩ := tyW_is I1 r1 ty
  exact ⟨Ty, id, m.pa, m.slot, m.hty, h1, h2, Calls.callWith_builtin rfl (PySem.evalArgs_none (m.hm pins s1 σ H1 x [] v [] Q I1 r1 .nil q1))⟩
theorem pe_mx {o e : Expr} {es : List Expr} {name : Str} {apos cpos : Pos} {to : TE} {t : TA} (ho : PE X o to) (ha : PA X (e :: es) t) (hbase : attributeBase o name X.env (eval o X.env) = eval o X.env)
    (hfew : ((backTo cpos (starEach (e :: es) X.env)).all (fun x => !x.1) && (backToKw cpos (keywordEach [] X.env)).all (fun x => x.1.isSome)
      && decide ((e :: es).length + ([] : List Keyword).length + (if ([] : List Keyword).isEmpty then 0 else 1) < 30)) = true)
    (hline : (apos.endLine == cpos.line) = true) (hs : starEach (e :: es) X.env = (false, eval e X.env) :: starEach es X.env) (hplain : (backTo cpos (starEach es X.env)).any (·.1) = false) :
    PE X (.Call (.Attribute o name apos) (e :: es) [] cpos) (tMX X name to t) := by
  refine ⟨fun pins s σ H Q I h => ?_⟩
  refine wpAny_Call_method_late hbase hfew hline rfl (thn (ho.run pins s σ H _ I h) fun v s1 ⟨x, H1, I1, r1, Ty, id, r, m, ty, q1⟩ => ?_)
  obtain ⟨h1, h2⟩ := tyW_is I1 r1 ty
  refine ⟨Ty, id, m.pa, m.slot, m.hty, h1, h2, ?_⟩
  have hA := ha.run cpos pins s1 σ H1 _ I1 q1
  rw [hs] at hA ⊢
  refine Calls.callWith_builtin (by show (false || (backTo cpos (starEach es X.env)).any (·.1)) = false; rw [hplain] <;> rfl) (Calls.evalArgs_plain ?_)
  exact thn hA fun us s2 ⟨vs, H2, I2, r2, q2⟩ => m.hm pins s2 σ H2 x vs v us Q I2 r1 r2 q2
/-- l.index(x), deep -/
def rIndexA (K : PySem.W.Frag) : V → RL := fun x xs H Q => ∃ (a : Addr) (y : V) (d : PyData) (vs : List V) (ds : List PyData) (j : Nat), x = V.ref a ∧ xs = [y] ∧ SqL K H a vs ∧ DpAll K H vs ds ∧ Dp K H y d ∧
  PyData.canLayAll0 ds = true ∧ d.canLay0 = true ∧ d.depth ≤ 150 ∧ ds.findIdx? (fun z => PyData.eqv z d) = some j ∧ Q (.int (j : Nat)) H
theorem mt_indexA (hu : X.A.units + 200 < cLine) : MtR X "list.index" (rIndexA X.K) := by
  intro pins s σ H x xs v us Q I rx rxs h
  obtain ⟨a, y, d, vs, ds, j, rfl, rfl, hs, ha, hy, hxs, sd, hdd, hfi, q⟩ := h
  obtain rfl : v = Value.ref a := rx
  cases rxs with
  | cons ry rt =>
    rename_i uy ut
    cases rt
    obtain ⟨bs, r1⟩ := Dp.reads I d y uy hy ry
    have hroom : X.A.units + 1 + min (PyData.depthAll ds) d.depth < cLine := by
      have := Nat.min_le_right (PyData.depthAll ds) d.depth
      omega
    obtain ⟨its, rv, ⟨⟨cls, dd, data, sls⟩, n, ho, hc, hdn, hdt⟩, hlen⟩ := I.list hs
    simp only at hc hdt
    subst hc hdt
    obtain ⟨as, h4⟩ := Dp.readsAll I ds _ its ha rv
    have hn : its.length = ds.length := SeqAt.ReadsAll.length ds its as h4
    have hmap : its.map (SeqAt.readOf s.heap) = ds := SeqAt.readsAll_map ds its as hxs h4
    have hvl := rv.length
    have hsl := sizeLine_eq
    obtain ⟨hjd, hjt, hjf⟩ := List.findIdx?_eq_some_iff_getElem.mp hfi
    have hjl : j < its.length := by omega
    have hj : j < its.toArray.size := by simpa using hjl
    have at_ : ∀ (m : Nat) (hm : m < its.toArray.size) (z' : PyData), ds[m]? = some z' → SeqAt.readOf s.heap its.toArray[m] = z' := by
      intro m hm z' hz'
      have hml : m < its.length := by simpa using hm
      rw [← hmap, List.getElem?_map, List.getElem?_eq_getElem hml] at hz'
      have e1 : SeqAt.readOf s.heap its[m] = z' := Option.some.inj (show some (SeqAt.readOf s.heap its[m]) = some z' from hz')
      simpa using e1
    refine call_meets PySem.F.slot_list_index ⟨_, ho, rfl⟩ PySem.F.entry_list_index (PySem.F.args_list_index_2 _ _)
      (SeqAt.list_indexAt a its.toArray n dd sls uy (fun u => PyData.eqv (SeqAt.readOf s.heap u) d) j hj (by omega) ?_ ?_) ⟨ho, SeqAt.items_eqAt (vs := its.toArray) (show ReadsAll s.heap its.toArray.toList ds as from h4) r1 hxs sd hroom, ?_⟩
    · show PyData.eqv (SeqAt.readOf s.heap its.toArray[j]) d = true
      rw [at_ j hj ds[j] (List.getElem?_eq_getElem hjd)]
      exact hjt
    · intro m hm hmj
      have hmd : m < ds.length := by omega
      have hz' : ds[m]? = some ds[m] := List.getElem?_eq_getElem hmd
      show PyData.eqv (SeqAt.readOf s.heap its.toArray[m]) d = false
      rw [at_ m hm _ hz']
      simpa using hjf m hmj
    · exact ⟨.int (j : Nat), H, I.tok _, ⟨_, rfl⟩, q⟩
theorem find_cDs : ∀ {xs : List PV} {x : PV}, cleans xs = true → clean x = true → (cDs xs).findIdx? (fun e => PyData.eqv e (cD x)) = xs.findIdx? fun y => beqPV y x
  | [], _, _, _ => rfl
  | y :: ys, x, h, hx => by
    simp only [cleans, Bool.and_eq_true] at h
    simp only [cDs, List.findIdx?_cons]
    rw [cD_eqv y x h.1 hx, find_cDs h.2 hx]
theorem idx_dp {K : PySem.W.Frag} {w : World} {ι : List Addr} {H : Hp} {S : Store} {x : PV} {u : V} {xs : List PV} {vs : List V} {j : Nat} (s : Sim K w ι S H) (rx : Rep K w ι H x u) (rs : Reps K w ι H xs vs) (e : idxEq S x xs = some j) :
    ∃ d ds, Dp K H u d ∧ DpAll K H vs ds ∧ d.canLay0 = true ∧ PyData.canLayAll0 ds = true ∧ d.depth ≤ 150 ∧ ds.findIdx? (fun z => PyData.eqv z d) = some j := by
  unfold idxEq at e
  split at e
  · rename_i h
    simp only [Bool.and_eq_true, decide_eq_true_eq] at h
    exact ⟨_, _, Rep.dp h.1.1 rx, Reps.dp h.1.2 rs, cD_lay _ h.1.1, cDs_lay _ h.1.2, by rw [cD_depth]; exact h.2, by rw [find_cDs h.1.2 h.1.1]; exact e⟩
  · split at e
    · rename_i d ds h1 h2
      split at e
      · rename_i h
        simp only [Bool.and_eq_true, decide_eq_true_eq] at h
        exact ⟨d, ds, toD_dp s _ _ _ _ h1 rx, mapM_dp (fun x v d => toD_dp s _ x v d) h2 rs, h.1.1, h.1.2, h.2, e⟩
      · cases e
    · cases e
/-- d.get(k), d.get(k, x) -/
def rGet (K : PySem.W.Frag) (w : World) : V → RL := fun x xs H Q => ∃ a ks vs k, x = .ref a ∧ DctAt K w H a ks vs ∧ ((xs = [.str k] ∧ ((∃ v, (∃ i : Nat, ks[i]? = some k ∧ vs[i]? = some v ∧ ∀ j : Nat, j < i → ks[j]? ≠ some k) ∧ Q v H) ∨ (k ∉ ks ∧ Q .non H))) ∨
  ∃ d, xs = [.str k, d] ∧ ((∃ v, (∃ i : Nat, ks[i]? = some k ∧ vs[i]? = some v ∧ ∀ j : Nat, j < i → ks[j]? ≠ some k) ∧ Q v H) ∨ (k ∉ ks ∧ Q d H)))
theorem kd_get1 {pins : List (Addr × Obj)} {σ : L2.St} {H : Hp} {s : Shared} {a : Addr} {es : Array DictEntry} {n : Nat} {k : Str} {t : Tok} {o : Option Value} {Q : Value → Shared → Prop} {E : Value → Shared → Prop} (D : KDict X.K X.w a es n) (I : Inv X pins σ H s) (e : PySem.W.nsIn X.K a k = some o)
    (h : Q (o.getD .none) { s with toks := s.toks + 1 }) : wpAny (model X.prog X.w) X.A (call (.builtin "dict.get") [.ref a, .str k t]) Q E s := by
  have hm := PySem.W.mapOf_K (prog := X.prog) (w := X.w) I.kIn D.at_ D.lit
  refine call_meetsIn PySem.F.slot_dict_get hm.typeIs PySem.F.entry_dict_get (PySem.F.args_dict_get_2 _ _) (meets_dict_get (strKind X.prog X.w) a (strKind_is X.prog X.w k t) D.low) ⟨_, hm, ?_⟩
  rw [PySem.W.find_K D.at_ e]
  exact h
theorem kd_get2 {pins : List (Addr × Obj)} {σ : L2.St} {H : Hp} {s : Shared} {a : Addr} {es : Array DictEntry} {n : Nat} {k : Str} {t : Tok} {o : Option Value} {d : Value} {Q : Value → Shared → Prop} {E : Value → Shared → Prop} (D : KDict X.K X.w a es n) (I : Inv X pins σ H s) (e : PySem.W.nsIn X.K a k = some o)
    (h : Q (o.getD d) { s with toks := s.toks + 1 }) : wpAny (model X.prog X.w) X.A (call (.builtin "dict.get") [.ref a, .str k t, d]) Q E s := by
  have hm := PySem.W.mapOf_K (prog := X.prog) (w := X.w) I.kIn D.at_ D.lit
  refine call_meetsIn PySem.F.slot_dict_get hm.typeIs PySem.F.entry_dict_get (PySem.F.args_dict_get_3 _ _ _) (meets_dict_get_default (strKind X.prog X.w) a (strKind_is X.prog X.w k t) D.low d) ⟨_, hm, ?_⟩
  rw [PySem.W.find_K D.at_ e]
  exact h
theorem valV_miss {kvs : List (Key × V)} {ks : List Str} {k : Str} (h : kvs.map (·.1) = ks.map Sum.inr) (hk : k ∉ ks) : valV kvs (Sum.inr k : Key) = none := by
  have e := val_some (z := k) h
  have : ks.contains k = false := by
    cases q : ks.contains k with
    | false => rfl
    | true => exact absurd (List.contains_iff_mem.mp q) hk
  rw [this] at e
  cases q : valV kvs (Sum.inr k : Key) with
  | none => rfl
  | some v => rw [q] at e; cases e
theorem mt_get (hu : X.A.units + 200 < cLine) : MtR X "dict.get" (rGet X.K X.w) := by
  intro pins s σ H x xs v us Q I rx rxs h
  obtain ⟨a, ks, vs, k, rfl, hd, h⟩ := h
  obtain rfl : v = Value.ref a := rx
  rcases h with ⟨rfl, h⟩ | ⟨d, rfl, h⟩
  · obtain ⟨u, rfl, ru⟩ := Vals.one rxs
    rcases hd with ⟨kvs, e, e1, e2, e3, e4⟩ | ⟨⟨es, n, D⟩, e1, e2, e3⟩
    · subst e3
      refine d_get1 (by omega) I (DGet.k (k := Sum.inr k) e) ru fun w' s' I' rw' => ?_
      rcases h with ⟨v0, ⟨i, h1, h2, h3⟩, q⟩ | ⟨hn, q⟩
      · rw [valV_get e2 h2 h1 h3] at rw'
        exact ⟨v0, H, I', rw', q⟩
      · rw [valV_miss e2 hn] at rw'
        exact ⟨.non, H, I', rw', q⟩
    · obtain ⟨t, rfl⟩ := ru
      rcases h with ⟨v0, ⟨i, h1, h2, h3⟩, q⟩ | ⟨hn, q⟩
      · obtain ⟨u0, hn, ru⟩ := e3 i k v0 h1 h2
        exact kd_get1 D I hn ⟨v0, H, I.tok _, ru, q⟩
      · exact kd_get1 D I (e2 k hn) ⟨.non, H, I.tok _, rfl, q⟩
  · obtain ⟨u, u2, rfl, ru, ru2⟩ := Vals.two rxs
    rcases hd with ⟨kvs, e, e1, e2, e3, e4⟩ | ⟨⟨es, n, D⟩, e1, e2, e3⟩
    · subst e3
      refine d_get2 (by omega) I (DGet.k (k := Sum.inr k) e) ru ru2 fun w' s' I' rw' => ?_
      rcases h with ⟨v0, ⟨i, h1, h2, h3⟩, q⟩ | ⟨hn, q⟩
      · rw [valV_get e2 h2 h1 h3] at rw'
        exact ⟨v0, H, I', rw', q⟩
      · rw [valV_miss e2 hn] at rw'
        exact ⟨d, H, I', rw', q⟩
    · obtain ⟨t, rfl⟩ := ru
      rcases h with ⟨v0, ⟨i, h1, h2, h3⟩, q⟩ | ⟨hn, q⟩
      · obtain ⟨u0, hn, ru⟩ := e3 i k v0 h1 h2
        exact kd_get2 D I hn ⟨v0, H, I.tok _, ru, q⟩
      · exact kd_get2 D I (e2 k hn) ⟨d, H, I.tok _, ru2, q⟩
end
end EK

namespace EK
open PySem PySem.Spec PyProof.Rows L2
section
variable {X : Cx}
/-- t.index(x), of plain data at any depth -/
def rIndexT (K : PySem.W.Frag) : V → RL := fun x xs H Q => ∃ (a : Addr) (y : V) (d : PyData) (vs : List V) (ds : List PyData) (j : Nat), x = V.ref a ∧ xs = [y] ∧ SqT K H a vs ∧ DpAll K H vs ds ∧ Dp K H y d ∧
  PyData.canLayAll0 ds = true ∧ d.canLay0 = true ∧ d.depth ≤ 150 ∧ ds.findIdx? (fun z => PyData.eqv z d) = some j ∧ Q (.int (j : Nat)) H
theorem mt_indexT (hu : X.A.units + 200 < cLine) : MtR X "tuple.index" (rIndexT X.K) := fun pins s σ H x xs v us Q I rx rxs h => by
  obtain ⟨a, y, d, vs, ds, j, rfl, rfl, hs, ha, hy, hxs, sd, hdd, hfi, q⟩ := h
  obtain rfl : v = Value.ref a := rx
  obtain ⟨uy, rfl, ry⟩ := vals1 rxs
  obtain ⟨bs, r1⟩ := Dp.reads I d y uy hy ry
  have hroom : X.A.units + 1 + min (PyData.depthAll ds) d.depth < cLine := Nat.lt_of_le_of_lt (Nat.add_le_add_left (Nat.le_trans (Nat.min_le_right _ _) hdd) _) (by omega)
  obtain ⟨its, rv, ⟨⟨cls, dd, data, sls⟩, ho, hc, n, hd⟩, hlen⟩ := I.tuple hs
  simp only at hc hd
  subst hc hd
  obtain ⟨as, h4⟩ := Dp.readsAll I ds _ its ha rv
  have hn : its.length = ds.length := SeqAt.ReadsAll.length ds its as h4
  have hmap : its.map (SeqAt.readOf s.heap) = ds := SeqAt.readsAll_map ds its as hxs h4
  obtain ⟨hjd, hjt, hjf⟩ := List.findIdx?_eq_some_iff_getElem.mp hfi
  have hj : j < its.toArray.size := by rw [List.size_toArray, hn]; exact hjd
  have read : ∀ (m : Nat) (hm : m < its.toArray.size) (hm2 : m < ds.length), SeqAt.readOf s.heap its.toArray[m] = ds[m] := fun m hm hm2 => by
    have e : (its.map (SeqAt.readOf s.heap))[m]'(by rw [hmap]; exact hm2) = ds[m] := by simp only [hmap]
    rw [List.getElem_map] at e
    simpa using e
  refine call_meets PySem.F.slot_tuple_index ⟨_, ho, rfl⟩ PySem.F.entry_tuple_index (PySem.F.args_tuple_index_2 _ _)
    (TI.tuple_indexAt a its.toArray n dd sls uy (fun u => PyData.eqv (SeqAt.readOf s.heap u) d) j hj ?_ ?_) ⟨ho, SeqAt.items_eqAt (vs := its.toArray) (show ReadsAll s.heap its.toArray.toList ds as from h4) r1 hxs sd hroom, ⟨.int (j : Nat), H, I.tok _, ⟨_, rfl⟩, q⟩⟩
  · show PyData.eqv (SeqAt.readOf s.heap its.toArray[j]) d = true
    rw [read j hj hjd]
    exact hjt
  · intro m hm hmj
    have hmd : m < ds.length := by omega
    show PyData.eqv (SeqAt.readOf s.heap its.toArray[m]) d = false
    rw [read m hm hmd]
    have := hjf m hmj
    simpa using this
theorem at_tup (hu : X.A.units + 200 < cLine) : MthAt X ("index" : Str) "tuple" "tuple.index" (rIndexT X.K) := ⟨PySem.F.plainAttrs_tuple, PySem.F.slot_tuple_index, PySem.F.type_tuple_index, mt_indexT hu⟩
end
end EK

namespace EK
open PySem PySem.Spec PyProof.Rows L2
section
variable {T : Text} {c : Chk} {X : Cx} {W : WX} {r : Nat}
theorem ref_list {K : PySem.W.Frag} {w : World} {ι : List Addr} {H : Hp} {S : Store} {n : Nat} {v' : V} (s : Sim K w ι S H) (rv : Rep K w ι H (.ref n) v') (hl : lstB S (.ref n) = true) : ∃ a vs, v' = .ref a ∧ SqL K H a vs := by
  obtain ⟨a, rfl, ha⟩ := rv.refE
  have hi := (List.getElem?_eq_some_iff.mp ha).1
  rw [s.len] at hi
  obtain ⟨b, e, c⟩ := s.cell n _ (List.getElem?_eq_getElem hi)
  rw [ha] at e; cases e
  simp only [lstB, List.getElem?_eq_getElem hi] at hl
  generalize S[n] = cc at c hl
  cases cc with
  | lst xs => obtain ⟨vs, h, _⟩ := c; exact ⟨a, vs, rfl, .inl (.inl h)⟩
  | ro xs => obtain ⟨vs, o, h, _⟩ := c; exact ⟨a, vs, rfl, .inl (.inr ⟨o, h⟩)⟩
  | ins _ _ => exact c.elim
  | tab _ => cases hl
theorem ref_ty {K : PySem.W.Frag} {w : World} {ι : List Addr} {H : Hp} {S : Store} {n : Nat} {v' : V} (s : Sim K w ι S H) (rv : Rep K w ι H (.ref n) v') (hl : lstB S (.ref n) = true) : tyW K w "list" v' H := by
  obtain ⟨a, vs, rfl, h⟩ := ref_list s rv hl
  exact .inl ⟨rfl, vs, h⟩
/-- which method of which type it is -/
def idOf : Mth → String
  | .append => "list.append" | .extend => "list.extend" | .pop => "list.pop" | .clear => "list.clear" | .index => "list.index" | .get => "dict.get" | .join => "str.join"
def tyOf : Mth → String
  | .get => "dict" | .join => "str"
  | _ => "list"
def rMth (K : PySem.W.Frag) (w : World) : Mth → V → RL
  | .append => rAppend
  | .extend => rExtend
  | .pop => fun x vs H Q => rPop x vs H Q ∨ rPopAt x vs H Q
  | .clear => rClear
  | .index => rIndexA K
  | .get => rGet K w
  | .join => fun _ _ _ _ => False
/-- index of a tuple -/
def methT (m : Mth) (o : PV) : Bool := match m, o with
  | .index, .tup _ => true
  | _, _ => false
theorem mth_at (C : Ctx T c X W r) (m : Mth) (hm : m ≠ .join) : MthAt X ((mthNm m : String) : Str) (tyOf m) (idOf m) (rMth X.K X.w m) := by
  have hu := C.un
  cases m with
  | append => exact ⟨PySem.F.plainAttrs_list, PySem.F.slot_list_append, PySem.F.type_list_append, mt_append⟩
  | extend => exact ⟨PySem.F.plainAttrs_list, PySem.F.slot_list_extend, PySem.F.type_list_extend, mt_extend⟩
  | pop => exact ⟨PySem.F.plainAttrs_list, PySem.F.slot_list_pop, PySem.F.type_list_pop, MtR.or mt_pop mt_popAt⟩
  | clear => exact ⟨PySem.F.plainAttrs_list, PySem.F.slot_list_clear, PySem.F.type_list_clear, mt_clear⟩
  | index => exact ⟨PySem.F.plainAttrs_list, PySem.F.slot_list_index, PySem.F.type_list_index, mt_indexA hu⟩
  | get => exact ⟨PySem.F.plainAttrs_dict, PySem.F.slot_dict_get, PySem.F.type_dict_get, mt_get hu⟩
  | join => exact absurd rfl hm
theorem mth_ok {m : Mth} {u : PV} {us : List PV} {S : Store} {ι : List Addr} {H : Hp} {u' : V} {us' : List V} {EX : XK} {Q : VK} (s : Sim X.K X.w ι S H) (ro : Rep X.K X.w ι H u u') (ru : Reps X.K X.w ι H us us')
    (hf : methFor m u = true) (ht : methT m u = false) (k : FinG X.K X.w X.mg EX ι H (methM m u us S) (wantV X.K X.w Q)) : rMth X.K X.w m u' us' H Q := by
  cases m with
  | append =>
    replace k : FinG X.K X.w X.mg EX ι H (appM u us S) (wantV X.K X.w Q) := k
    unfold appM at k
    split at k <;> try exact k.elim
    obtain ⟨v, rfl, rv⟩ := ru.one
    obtain ⟨a, rfl, ha⟩ := ro.refE
    split at k
    · rename_i xs q
      obtain ⟨b, vs, eb, hb, hr⟩ := s.lst q
      rw [ha] at eb; cases eb
      split at k
      · rename_i hl
        have hn := (List.getElem?_eq_some_iff.mp q).1
        exact ⟨a, vs, v, rfl, rfl, hb, by rw [hr.length]; exact hl, k.at (.write ha hb) (s.write ha hb (hr.append (Reps.cons rv Reps.nil)) hn) _ .ofNon⟩
      · exact k.elim
    · exact k.elim
  | extend =>
    replace k : FinG X.K X.w X.mg EX ι H (extM u us S) (wantV X.K X.w Q) := k
    unfold extM at k
    split at k <;> try exact k.elim
    obtain ⟨v, rfl, rv⟩ := ru.one
    obtain ⟨a, rfl, ha⟩ := ro.refE
    obtain ⟨a2, rfl, ha2⟩ := rv.refE
    split at k
    · rename_i xs ys q q2
      obtain ⟨b, vs, eb, hb, hr⟩ := s.lst q
      rw [ha] at eb; cases eb
      obtain ⟨b2, ws, eb2, hb2, hr2⟩ := s.lst q2
      rw [ha2] at eb2; cases eb2
      split at k
      · rename_i hl
        have hn := (List.getElem?_eq_some_iff.mp q).1
        exact ⟨a, a2, vs, ws, rfl, rfl, hb, hb2, by rw [hr.length, hr2.length]; exact hl, k.at (.write ha hb) (s.write ha hb (hr.append hr2) hn) _ .ofNon⟩
      · exact k.elim
    · exact k.elim
  | pop =>
    replace k : FinG X.K X.w X.mg EX ι H (popM u us S) (wantV X.K X.w Q) := k
    unfold popM at k
    split at k <;> try exact k.elim
    · unfold Reps at ru
      subst ru
      obtain ⟨a, rfl, ha⟩ := ro.refE
      split at k
      · rename_i xs q
        obtain ⟨b, vs, eb, hb, hr⟩ := s.lst q
        rw [ha] at eb; cases eb
        have hn := (List.getElem?_eq_some_iff.mp q).1
        split at k
        · rename_i z e
          obtain ⟨z', e', rz⟩ := hr.get e
          refine .inl ⟨a, vs, z', rfl, rfl, hb, by rw [hr.length]; exact e', ?_⟩
          have hd : Reps X.K X.w ι H xs.dropLast vs.dropLast := by
            rw [List.dropLast_eq_take, List.dropLast_eq_take, hr.length]
            exact hr.take _
          exact k.at (.write ha hb) (s.write ha hb hd hn) _ (rz.grow (.write ha hb))
        · exact k.elim
      · exact k.elim
    · obtain ⟨v, rfl, rv⟩ := ru.one
      cases rv.intE
      obtain ⟨a, rfl, ha⟩ := ro.refE
      split at k
      · rename_i z xs q
        obtain ⟨b, vs, eb, hb, hr⟩ := s.lst q
        rw [ha] at eb; cases eb
        have hn := (List.getElem?_eq_some_iff.mp q).1
        have hr0 := hr
        unfold Reps at hr
        obtain ⟨z', vs', rfl, rz, hr'⟩ := hr
        refine .inr ⟨a, _, 0, 0, z', rfl, rfl, hb, by decide, by decide, ?_, rfl, k.at (.write ha hb) (s.write ha hb hr' hn) _ (rz.grow (.write ha hb))⟩
        exact seqIndex_of (Int.le_refl 0) (by simp)
      · exact k.elim
  | clear =>
    replace k : FinG X.K X.w X.mg EX ι H (clrM u us S) (wantV X.K X.w Q) := k
    unfold clrM at k
    split at k <;> try exact k.elim
    unfold Reps at ru
    subst ru
    obtain ⟨a, rfl, ha⟩ := ro.refE
    split at k
    · rename_i xs q
      obtain ⟨b, vs, eb, hb, hr⟩ := s.lst q
      rw [ha] at eb; cases eb
      have hn := (List.getElem?_eq_some_iff.mp q).1
      exact ⟨a, vs, rfl, rfl, hb, k.at (.write ha hb) (s.write ha hb Reps.nil hn) _ .ofNon⟩
    · exact k.elim
  | index =>
    replace k : FinG X.K X.w X.mg EX ι H (idxM u us S) (wantV X.K X.w Q) := k
    cases u with
    | ref n =>
      unfold idxM at k
      split at k <;> try exact k.elim
      obtain ⟨v, rfl, rv⟩ := ru.one
      split at k
      · rename_i xs e
        obtain ⟨a, vs, rfl, hs, hr⟩ := cell_of s ro e
        split at k
        · rename_i j e2
          obtain ⟨d, ds, h1, h2, h3, h4, h5, h6⟩ := idx_dp s rv hr e2
          exact ⟨a, v, d, vs, ds, j, rfl, rfl, hs, h2, h1, h4, h3, h5, h6, k.ok s _ .ofInt⟩
        · exact k.elim
      · exact k.elim
    | tup _ => cases ht
    | _ => cases hf
  | get =>
    replace k : FinG X.K X.w X.mg EX ι H (getM u us S) (wantV X.K X.w Q) := k
    unfold getM at k
    split at k <;> try exact k.elim
    · obtain ⟨v, rfl, rv⟩ := ru.one
      cases rv.strE
      obtain ⟨a, vs, rfl, hd, hr⟩ := ro.dctE
      rename_i ks vs' key
      refine ⟨a, ks, vs, key, rfl, hd, .inl ⟨rfl, ?_⟩⟩
      cases e : lookD key ks vs' with
      | some z =>
        rw [e] at k
        obtain ⟨i, h1, h2, h3⟩ := look_get e
        obtain ⟨z', e', rz⟩ := hr.get h2
        exact .inl ⟨z', ⟨i, h1, e', h3⟩, k.ok s _ rz⟩
      | none =>
        rw [e] at k
        refine .inr ⟨?_, k.ok s _ .ofNon⟩
        refine look_none ?_ e
        rcases hd with ⟨kvs, _, _, q1, q2, _⟩ | ⟨_, q, _⟩
        · have := congrArg List.length q1
          have := congrArg List.length q2
          have := hr.length
          simp at *
          omega
        · rw [q, hr.length]
    · obtain ⟨v, d, rfl, rv, rd⟩ := ru.two
      cases rv.strE
      obtain ⟨a, vs, rfl, hd, hr⟩ := ro.dctE
      rename_i ks vs' key _
      refine ⟨a, ks, vs, key, rfl, hd, .inr ⟨d, rfl, ?_⟩⟩
      cases e : lookD key ks vs' with
      | some z =>
        rw [e] at k
        obtain ⟨i, h1, h2, h3⟩ := look_get e
        obtain ⟨z', e', rz⟩ := hr.get h2
        exact .inl ⟨z', ⟨i, h1, e', h3⟩, k.ok s _ rz⟩
      | none =>
        rw [e] at k
        refine .inr ⟨?_, k.ok s _ rd⟩
        refine look_none ?_ e
        rcases hd with ⟨kvs, _, _, q1, q2, _⟩ | ⟨_, q, _⟩
        · have := congrArg List.length q1
          have := congrArg List.length q2
          have := hr.length
          simp at *
          omega
        · rw [q, hr.length]
  | join => cases hf
theorem mth_ty {m : Mth} {u : PV} {S : Store} {ι : List Addr} {H : Hp} {u' : V} (s : Sim X.K X.w ι S H) (ro : Rep X.K X.w ι H u u') (hl : lstB S u = true) (hf : methFor m u = true) (ht : methT m u = false) : tyW X.K X.w (tyOf m) u' H := by
  cases m <;> cases u <;> first
    | (cases hf; done)
    | (cases ht; done)
    | exact ref_ty s ro hl
    | (obtain ⟨a, vs, rfl, hd, _⟩ := ro.dctE; exact .inr (.inl ⟨rfl, _, vs, hd⟩))
theorem idxT_ok {xs us : List PV} {S : Store} {ι : List Addr} {H : Hp} {a : Addr} {vs us' : List V} {EX : XK} {Q : VK} (s : Sim X.K X.w ι S H) (hs : SqT X.K H a vs) (hr : Reps X.K X.w ι H xs vs) (ru : Reps X.K X.w ι H us us')
    (k : FinG X.K X.w X.mg EX ι H (methM .index (.tup xs) us S) (wantV X.K X.w Q)) : rIndexT X.K (.ref a) us' H Q := by
  replace k : FinG X.K X.w X.mg EX ι H (idxM (.tup xs) us S) (wantV X.K X.w Q) := k
  unfold idxM at k
  split at k <;> try exact k.elim
  obtain ⟨v, rfl, rv⟩ := ru.one
  simp only [seqL] at k
  split at k
  · rename_i j e
    obtain ⟨d, ds, h1, h2, h3, h4, h5, h6⟩ := idx_dp s rv hr e
    exact ⟨a, v, d, vs, ds, j, rfl, rfl, hs, h2, h1, h4, h3, h5, h6, k.ok s _ .ofInt⟩
  · exact k.elim
theorem snd_meth (C : Ctx T c X W r) {m : Mth} {o : Expr} {es : List Expr} {x : Ex} {xs : Exs} {apos cpos : Pos} (ho : PE X o (SE T X W r x)) (ha : PA X es (SEs T X W r xs)) (hst : es.all notStar = true) (hl : es.length < 20) (hx : es.length = lenXs xs) (hb : plainBase o = true) (hline : (apos.endLine == cpos.line) = true) :
    PE X (.Call (.Attribute o ((mthNm m : String) : Str) apos) es [] cpos) (SE T X W r (.meth m x xs)) := by
  have key : ∀ {σ : L2.St} {H : Hp} {Q : VK} {t : TA}, (∀ {σ : L2.St} {H : Hp} {Q : List V → Hp → Prop}, SEs T X W r xs σ H Q → t σ H Q) → SE T X W r (.meth m x xs) σ H Q → tMX X ((mthNm m : String) : Str) (SE T X W r x) t σ H Q := by
    intro σ H Q t ht ⟨ι, S, env, s, er, f⟩
    simp only [evalE] at f
    refine ⟨ι, S, env, s, er, f.bind.imp fun v S1 ι1 H1 g1 s1 k v' rv => ?_⟩
    split at k
    · rename_i hf
      obtain ⟨hf, hL⟩ := Bool.and_eq_true_iff.mp hf
      have hm : m ≠ .join := fun e => by subst e; cases hf
      cases hT : methT m v with
      | false =>
        refine ⟨tyOf m, idOf m, _, mth_at C m hm, mth_ty s1 rv hL hf hT, ht ⟨ι1, S1, env, s1, er.grow g1, k.bind.imp fun vs S2 ι2 H2 g2 s2 k2 vs' rvs => ?_⟩⟩
        exact mth_ok s2 (rv.grow g2) rvs hf hT k2
      | true =>
        cases m <;> try (cases hT; done)
        cases v <;> try (cases hT; done)
        rename_i xs0
        obtain ⟨a, us, rfl, hs, hr⟩ := rv.tupN
        refine ⟨"tuple", "tuple.index", _, at_tup C.un, .inr (.inr ⟨rfl, ?_⟩), ht ⟨ι1, S1, env, s1, er.grow g1, k.bind.imp fun vs S2 ι2 H2 g2 s2 k2 vs' rvs => ?_⟩⟩
        · rcases hs with ⟨o, h1, h2, h3⟩ | ⟨o, its, n, h1, h2, h3, _⟩
          · exact .inr ⟨o, us, h1, h2, h3⟩
          · exact .inl ⟨o, h1, h2, h3⟩
        · exact idxT_ok s2 (SqT.ext g2.toExt hs.t) (hr.grow g2) rvs k2
    · exact k.elim
  cases es with
  | nil =>
    cases xs with
    | cons _ _ => simp [lenXs] at hx
    | nil =>
      refine PE.imp (pe_mx0 ho (base_plain hb) hline) fun σ H Q h => key (fun {σ H Q} ⟨ι, S, env, s, er, f⟩ => ?_) h
      simp only [evalEs] at f
      exact f.ok s [] Reps.nil
  | cons e es =>
    simp only [List.all_cons, Bool.and_eq_true] at hst
    refine PE.imp (pe_mx ho ha (base_plain hb) ?_ hline (star_cons hst.1) (star_plain hst.2)) fun σ H Q h => key (fun h => h) h
    rw [star_cons hst.1]
    have e1 : (backTo cpos ((false, eval e X.env) :: starEach es X.env)).all (fun x => !x.1) = true := by
      show (true && (backTo cpos (starEach es X.env)).all (fun x => !x.1)) = true
      rw [star_plain2 hst.2]; rfl
    rw [e1]
    have hl2 : (e :: es).length + 0 + 0 < 30 := by omega
    show (true && decide ((e :: es).length + 0 + 0 < 30)) = true
    rw [decide_eq_true hl2]; rfl
end
end EK

namespace EK
open PySem PySem.Spec PyProof.Rows L2
/-! ### enumerate(tuple) -/
set_option maxHeartbeats 1000000 in
theorem meets_enum1 {v : Value} {o : Obj} {H : Heap → Prop} (B : Begins v o H) :
    Meets (Builtin.«enumerate.__new__» ⟨[.type "enumerate", v], []⟩) (fun _ R s => H s.heap ∧
      R (.ok (.ret (.ref (s.heap.push o).objs.size))) { s with heap := (s.heap.push o).push { cls := .type "enumerate", data := .fields #[.none, .bool false, .ref s.heap.objs.size, rawInt 0, .none, .none] } }) :=
  .of_wp fun prog w A R s h => by
    obtain ⟨hp, g, d, tk, os⟩ := s; obtain ⟨h1, h⟩ := h
    have hsub := sub_enumerate
    have q1 : ∀ {A' : Around} {E : Value → Shared → Prop} {Q : Value → Shared → Prop}, Q (.ref hp.objs.size) ⟨hp.push o, g, d, tk, os⟩ → wpAny (model prog w) A' (pyIter v) Q E ⟨hp, g, d, tk, os⟩ :=
      fun q => B.iter prog w _ _ ⟨hp, g, d, tk, os⟩ _ h1 q
    wp_walk using q1
    refine wpAny_stack_any fun st => wpAny_pure ?_
    split
    · rename_i c _ _ _ _ _
      cases (c == Value.type "enumerate")
      · wp_walk using q1
        exact ⟨_, rfl, h⟩
      · wp_walk using q1
        exact ⟨_, rfl, h⟩
    · wp_walk using q1
      exact ⟨_, rfl, h⟩
theorem call_enum1 {prog : Program} {w : World} {A : Around} {E : Value → Shared → Prop} {s : Shared} {v : Value} {o : Obj} {H : Heap → Prop} {Q : Value → Shared → Prop} (B : Begins v o H) (h1 : H s.heap)
    (h : ∀ h', IsEnum h' (s.heap.objs.size + 1) s.heap.objs.size 0 .none → h'.get? s.heap.objs.size = some o → h'.objs.size = s.heap.objs.size + 2 →
      (∀ b o, s.heap.get? b = some o → h'.get? b = some o) → Q (.ref (s.heap.objs.size + 1)) { s with heap := h' }) :
    wpAny (model prog w) A (call (.type "enumerate") [v]) Q E s := by
  refine callType_new F.called_enumerate (by decide) (F.typeCall_enumerate_1 _) (F.newCall_enumerate_1 _) (fun obj => F.args_object_init_2 obj _) F.entry_enumerate_new
    (meets_enum1 B) ⟨h1, ?_⟩
  have hz : (s.heap.push o).objs.size = s.heap.objs.size + 1 := Heap.size_push ..
  show _ ∧ _
  rw [hz]
  have he : IsEnum ((s.heap.push o).push { cls := .type "enumerate", data := .fields #[.none, .bool false, .ref s.heap.objs.size, rawInt 0, .none, .none] }) (s.heap.objs.size + 1) s.heap.objs.size 0 .none := by
    have := Heap.get?_push_size (s.heap.push o) (o := { cls := .type "enumerate", data := .fields #[.none, .bool false, .ref s.heap.objs.size, rawInt 0, .none, .none] }) rfl
    rw [hz] at this; exact this
  refine ⟨⟨_, he, rfl⟩, h _ he (Heap.get?_push_of_some _ (Heap.get?_push_size _ B.free)) (by rw [Heap.size_push, hz]) fun b o x => Heap.get?_push_of_some _ (Heap.get?_push_of_some _ x)⟩
/-- the tuple at a, each item in a new pair -/
def IteT (K : PySem.W.Frag) (a : Addr) : It :=
  ⟨fun i H => ∃ (xs : List V) (x : V), SqT K H a xs ∧ xs[i]? = some x, fun i H v H' => ∃ T x, v = .ref T ∧ H T = none ∧ H' = upd H T (.tup [.int (i : Nat), x]) ∧ ∀ xs, SqT K H a xs → xs[i]? = some x, fun i H => ∃ xs : List V, SqT K H a xs ∧ xs.length ≤ i⟩
theorem turn_enumT {P : Program} {w : World} {K : PySem.W.Frag} {elts : List Expr} {kk : Nat} {tpos : Pos} (a e it : Addr) :
    Turn P w K (.Tuple elts kk tpos) (IteT K a) [e, it] e (fun i h => (∃ old, IsEnum h e it ((i : Nat) : Int) old) ∧ h.IsTupleIter it a i ∧ e ≠ it ∧ a ≠ it ∧ a ≠ e) where
  mem := by simp
  obj := fun i h st b hb => by
    obtain ⟨⟨old, he⟩, ⟨o, ho, hc, hd⟩, _⟩ := st
    have e' : b = e ∨ b = it := by simpa using hb
    rcases e' with z | z
    · rw [z]; exact ⟨_, he, fun v q => nomatch q⟩
    · rw [z]; exact ⟨o, ho, fun v q => by rw [hd] at q; cases q⟩
  keep := fun i h h' st k => let ⟨⟨old, he⟩, hi, hne⟩ := st; ⟨⟨old, k e (by simp) _ he⟩, hi.at fun o q => k it (by simp) o q, hne⟩
  item := by
    intro X hP hw hK hc i pins s σ H E I hf st hg
    subst hP hw hK
    obtain ⟨⟨old, he⟩, hit, hne, hai, hae⟩ := st
    obtain ⟨xs, x, hq, hx⟩ := hg
    obtain ⟨its, rv, p, hz⟩ := I.tuple hq
    have hil0 := (List.getElem?_eq_some_iff.mp hx).1
    have hel : e < s.heap.objs.size := Heap.lt_size he
    have hil : it < s.heap.objs.size := by obtain ⟨_, q, _⟩ := hit; exact Heap.lt_size q
    have pT : s.heap.IsTuple a its.toArray := p
    have D := Draws.tuple (prog := X.prog) (w := X.w) (A := X.A.in1) (show X.A.in1.handled = none from I.ok.hd hc) it a hai its.toArray
    have hl := rv.length
    refine wpAny_pyNext_enum_itemD D he ⟨hit, pT⟩ (by simp; omega) hne (by simp; exact ⟨hne, Ne.symm hae⟩) fun u h' tk hu ho hst' hT hsz hk => ?_
    have hu' : its[i]? = some u := by simpa using hu
    have ru : RelV x u := by
      obtain ⟨u2, hu2, ru⟩ := rv.get hx
      rw [hu'] at hu2; cases hu2
      exact ru
    refine ⟨_, rfl, wpAny_letOwnedTupleGo_enum (s := { s with heap := h', toks := tk + 1 }) ho fun h'' he' sb => ?_⟩
    have hT2 : h''.get? s.heap.objs.size = some { cls := .type "tuple", data := .seq #[.int i tk, u] } := (sb.2 _ (Nat.ne_of_gt hel)).trans hT
    have new : ObjOk X.prog X.w (upd H s.heap.objs.size (.tup [.int (i : Nat), x])) h'' s.heap.objs.size (.tup [.int (i : Nat), x]) :=
      ⟨by show 2 ≤ sizeLine; decide, [.int i tk, u], .cons ⟨_, rfl⟩ (.cons ru .nil), ⟨_, hT2, rfl, _, rfl⟩⟩
    have I1 : Inv X pins σ (upd H s.heap.objs.size (.tup [.int (i : Nat), x])) { s with heap := h'', toks := tk + 1 } :=
      I.turnedNew (ch := [e, it]) (fun b ob hb q => (sb.2 b (fun z => hb (by simp [z]))).trans (hk b ob (fun z => hb (by simp [z])) (fun z => hb (by simp [z])) q)) hf (Nat.le_refl _) new
    refine ⟨.ref s.heap.objs.size, _, I1, rfl, ⟨_, x, rfl, I.hok.fresh (Nat.le_refl _), rfl, fun ys hy => by rw [I.tuple_inj hy hq]; exact hx⟩, ⟨⟨u, ?_⟩, hst'.1.at fun o q => (sb.2 it (Ne.symm hne)).trans q, hne, hai, hae⟩, fun b hb => ?_⟩
    · have e1 : ((i + 1 : Nat) : Int) = (i : Int) + 1 := by omega
      rw [e1]; exact he'
    · have hb' : b < s.heap.objs.size := by
        have e' : b = e ∨ b = it := by simpa using hb
        rcases e' with z | z
        · rw [z]; exact hel
        · rw [z]; exact hil
      rw [upd_ne (Nat.ne_of_lt hb')]
      exact (hf b hb).1
  done := by
    intro X hP hw hK hc i pins s σ H E I hf st hg
    subst hP hw hK
    obtain ⟨⟨old, he⟩, hit, hne, hai, hae⟩ := st
    obtain ⟨xs, hq, hx⟩ := hg
    obtain ⟨its, rv, p, hz⟩ := I.tuple hq
    have pT : s.heap.IsTuple a its.toArray := p
    obtain ⟨f0, f1, f2, f3, f4, f5⟩ := hf it (by simp)
    have hl := rv.length
    have hT : s.TypeIs (.ref e) "enumerate" := ⟨_, he, rfl⟩
    unfold pyNext
    refine wpAny_bind (wpAny_attempt (wpAny_callSpecial?_slot (name := Str.ofString "__next__") hT F.slot_enumerate_next
      (wpAny_call_entry F.slot_enumerate_next hT F.entry_enumerate_next ?_ (F.args_enumerate_next_1 _))))
    show wpAny _ _ (field (.ref e) 2 >>= _) _ _ _
    refine wpAny_bind (wpAny_field he rfl (x := .ref it) rfl ?_)
    refine wpAny_bind (wpAny_nextOf_tuple_end (show X.A.in1.handled = none from I.ok.hd hc) hit pT (by simp; omega) fun h' x eb hx' => ?_)
    obtain ⟨o, ho, hc⟩ := hx'
    refine wpAny_bind (wpAny_isInstance (T := "StopIteration") (b := true) ⟨o, ho, hc⟩ isSubtype_stop ?_)
    exact wpAny_pure ⟨rfl, I.turned (t' := s.toks) (fun b o hb q => eb b o hb q) f0 f1 f3 f4 f5⟩
  self := fun A i s Q E st h => let ⟨⟨_, he⟩, _⟩ := st; wpAny_pyIter_enum he h
/-- enumerate of a list or a tuple -/
def iEnS (K : PySem.W.Frag) (ta : TA) : TI := fun σ H R => ta σ H fun vs H1 => ∃ a, vs = [.ref a] ∧ ((∃ xs, SqL K H1 a xs ∧ R (Ite K a) H1) ∨ (∃ xs, SqT K H1 a xs ∧ R (IteT K a) H1))
theorem pi_enumS {X : Cx} {e : Expr} {ta : TA} {p pos tpos : Pos} {elts : List Expr} {kk : Nat} (hg : Gl X "enumerate") (hm : X.mg "enumerate" = none) (ha : PA X [e] ta) (hs : starEach [e] X.env = [(false, eval e X.env)] := by rfl) :
    PI X (.Tuple elts kk tpos) (.Call (.Name "enumerate" p) [e] [] pos) (iEnS X.K ta) := by
  refine ⟨fun pins s σ H R I h => ?_⟩
  refine Call_ (ld_blt I hg hm boot_enumerate (PyProof.Rows.callWith_type1 (thn (ha.run pos pins s σ H _ I h) fun us s1 ⟨vs, H1, I1, r1, q1⟩ => ?_) hs rfl))
  obtain ⟨a, ex, q1⟩ := q1
  subst ex
  cases r1 with
  | cons r rr =>
    cases rr
    cases r
    have fpo : ∀ b ∈ [s1.heap.objs.size + 1, s1.heap.objs.size], FpOk X pins H1 b := fun b hb => by
      have e' : b = s1.heap.objs.size + 1 ∨ b = s1.heap.objs.size := by simpa using hb
      have hle : s1.heap.objs.size ≤ b := by
        rcases e' with z | z
        · rw [z]; exact Nat.le_add_right _ _
        · rw [z]; exact Nat.le_refl _
      exact I1.fpOk hle (I1.hok.fresh hle)
    rcases q1 with ⟨xs, hq, q⟩ | ⟨xs, hq, q⟩
    · obtain ⟨its, rv, p', hz⟩ := I1.list hq
      refine call_enumerate_list p'.isList fun h' he hit hsz hk => wpAny_pyIter_enum he ?_
      have I2 : Inv X pins σ H1 { s1 with heap := h' } := I1.kept (t' := s1.toks) hk
      exact ⟨s1.heap.objs.size + 1, [s1.heap.objs.size + 1, s1.heap.objs.size], _, _, H1, rfl, I2, turn_enum a (s1.heap.objs.size + 1) s1.heap.objs.size, ⟨⟨.none, he⟩, hit, Nat.succ_ne_self _⟩, fpo, q⟩
    · obtain ⟨its, rv, p', hz⟩ := I1.tuple hq
      have pT : s1.heap.IsTuple a its.toArray := p'
      have hal : a < s1.heap.objs.size := by obtain ⟨o, ho, _⟩ := pT; exact Heap.lt_size ho
      refine call_enum1 (begins_tuple a its.toArray) pT fun h' he hit hsz hk => wpAny_pyIter_enum he ?_
      have I2 : Inv X pins σ H1 { s1 with heap := h' } := I1.kept (t' := s1.toks) hk
      exact ⟨s1.heap.objs.size + 1, [s1.heap.objs.size + 1, s1.heap.objs.size], _, _, H1, rfl, I2, turn_enumT a (s1.heap.objs.size + 1) s1.heap.objs.size, ⟨⟨.none, he⟩, ⟨_, hit, rfl, rfl⟩, Nat.succ_ne_self _, Nat.ne_of_lt hal, Nat.ne_of_lt (Nat.lt_succ_of_lt hal)⟩, fpo, q⟩
end EK

namespace EK
open PySem PySem.Spec PyProof.Rows L2

/-! ### what is walked -/
/-- the walk J bears the steps stp from (ι₀, H₀) on -/
def Bear (K : PySem.W.Frag) (w : World) (J : It) (stp : Nat → Store → Stp) (ι0 : List Addr) (H0 : Hp) : Prop :=
  ∀ ι S H, Grow ι0 H0 ι H → Sim K w ι S H → ∀ i, (stp i S = .stop → J.stop i H) ∧
    ∀ v, stp i S = .item v → J.go i H ∧ ∀ x H', J.yld i H x H' → Grow ι H ι H' ∧ Sim K w ι S H' ∧ Rep K w ι H' v x
/-- the reading of a walk's source -/
def tI (K : PySem.W.Frag) (w : World) (mg : Str → Option Value) (W : WX) (k : IK) (m : Env → Store → Res (List PV)) : TI := fun σ H R => ∃ ι S env, Sim K w ι S H ∧ EnvR K w ι H env σ ∧
  FinG K w mg (WE W σ) ι H (m env S) fun vs S1 ι1 H1 => ∃ n0, lenM k vs S1 = some n0 ∧ ∀ J, Bear K w J (stepM k vs n0) ι1 H1 → R J H1
theorem PI.imp {X : Cx} {tg e : Expr} {t t' : TI} (h : PI X tg e t) (i : ∀ σ H Q, t' σ H Q → t σ H Q) : PI X tg e t' := ⟨fun pins s σ H Q I hw => h.run pins s σ H Q I (i _ _ _ hw)⟩
section
variable {T : Text} {c : Chk} {X : Cx} {W : WX} {r : Nat}
abbrev SI (T : Text) (X : Cx) (W : WX) (r : Nat) (k : IK) (x : Exs) : TI := tI X.K X.w X.mg W k (evalEs (conf T r) x)
/-- a list or a tuple -/
def iSeq (K : PySem.W.Frag) (tl : TE) : TI := fun σ H R => tl σ H fun x H1 => ∃ a, x = .ref a ∧ (((∃ xs, SqL K H1 a xs) ∧ R (Itl K a) H1) ∨ ((∃ xs, SqT K H1 a xs) ∧ R (Itt K a) H1))
theorem pi_seq {tg l : Expr} {tl : TE} (hl : PE X l tl) : PI X tg l (iSeq X.K tl) := by
  refine ⟨fun pins s σ H R I h => ?_⟩
  refine thn (hl.run pins s σ H _ I h) fun v s1 ⟨x, H1, I1, r1, q1⟩ => ?_
  obtain ⟨a, e, q⟩ := q1
  subst e
  obtain rfl : v = Value.ref a := r1
  rcases q with ⟨⟨xs, hq⟩, q⟩ | ⟨⟨xs, hq⟩, q⟩
  · obtain ⟨its, rv, p, hz⟩ := I1.list hq
    refine wpAny_pyIter_list p.isList ?_
    refine ⟨s1.heap.objs.size, [s1.heap.objs.size], _, _, H1, rfl, I1.kept (t' := s1.toks) fun b o e => Heap.get?_push_of_some _ e, turn_list a _, ⟨_, Heap.get?_push_size _ rfl, rfl, rfl⟩, fun b hb => ?_, q⟩
    have e : b = s1.heap.objs.size := by simpa using hb
    subst e
    exact I1.fpOk (Nat.le_refl _) (I1.hok.fresh (Nat.le_refl _))
  · obtain ⟨its, rv, p, hz⟩ := I1.tuple hq
    refine wpAny_pyIter_tuple (show s1.heap.IsTuple a its.toArray from p) ?_
    refine ⟨s1.heap.objs.size, [s1.heap.objs.size], _, _, H1, rfl, I1.kept (t' := s1.toks) fun b o e => Heap.get?_push_of_some _ e, turn_tuple a _, ⟨_, Heap.get?_push_size _ rfl, rfl, rfl⟩, fun b hb => ?_, q⟩
    have e : b = s1.heap.objs.size := by simpa using hb
    subst e
    exact I1.fpOk (Nat.le_refl _) (I1.hok.fresh (Nat.le_refl _))
theorem itemAt_stop {f : PV → PV} {o : Option (List PV)} {i : Nat} (h : itemAt f o i = .stop) : ∃ xs, o = some xs ∧ xs.length ≤ i := by
  unfold itemAt at h
  cases o with
  | none => cases h
  | some xs =>
    simp only at h
    cases q : xs[i]? with
    | none => exact ⟨xs, rfl, List.getElem?_eq_none_iff.mp q⟩
    | some x => rw [q] at h; cases h
theorem itemAt_item {f : PV → PV} {o : Option (List PV)} {i : Nat} {v : PV} (h : itemAt f o i = .item v) : ∃ xs x, o = some xs ∧ xs[i]? = some x ∧ v = f x := by
  unfold itemAt at h
  cases o with
  | none => cases h
  | some xs =>
    simp only at h
    cases q : xs[i]? with
    | none => rw [q] at h; cases h
    | some x => rw [q] at h; cases h; exact ⟨xs, x, rfl, q, rfl⟩
theorem bear_list {K : PySem.W.Frag} {w : World} {n n0 : Nat} {a : Addr} {ι0 : List Addr} {H0 : Hp} (ha : ι0[n]? = some a) : Bear K w (Itl K a) (stepM .over [.ref n] n0) ι0 H0 := fun ι S H g s i => by
  have hn := g.get ha
  refine ⟨fun h => ?_, fun v h => ?_⟩
  · obtain ⟨xs, e, hl⟩ := itemAt_stop (f := id) (o := cellL S n) h
    obtain ⟨b, vs, eb, hs, hr⟩ := s.sq e
    rw [hn] at eb; cases eb
    exact ⟨vs, hs, by rw [hr.length]; exact hl⟩
  · obtain ⟨xs, x, e, hx, rfl⟩ := itemAt_item (f := id) (o := cellL S n) h
    obtain ⟨b, vs, eb, hs, hr⟩ := s.sq e
    rw [hn] at eb; cases eb
    obtain ⟨x', ex, rx⟩ := hr.get hx
    refine ⟨⟨vs, x', hs, ex⟩, fun y H' ⟨e1, e2⟩ => ?_⟩
    subst e1
    have := e2 vs hs
    rw [ex] at this; cases this
    exact ⟨.refl, s, rx⟩
theorem bear_tup {K : PySem.W.Frag} {w : World} {n0 : Nat} {a : Addr} {xs : List PV} {vs : List V} {ι0 : List Addr} {H0 : Hp} (hs : SqT K H0 a vs) (hr : Reps K w ι0 H0 xs vs) (inj : ∀ H, (∃ ι, Grow ι0 H0 ι H) → ∀ ys, SqT K H a ys → ys = vs) :
    Bear K w (Itt K a) (stepM .over [.tup xs] n0) ι0 H0 := fun ι S H g s i => by
  have hs' := SqT.ext g.toExt hs
  have hr' := hr.grow g
  refine ⟨fun h => ?_, fun v h => ?_⟩
  · obtain ⟨ys, e, hl⟩ := itemAt_stop (f := id) (o := some xs) h
    cases e
    exact ⟨vs, hs', by rw [hr.length]; exact hl⟩
  · obtain ⟨ys, x, e, hx, rfl⟩ := itemAt_item (f := id) (o := some xs) h
    cases e
    obtain ⟨x', ex, rx⟩ := hr'.get hx
    refine ⟨⟨vs, x', hs', ex⟩, fun y H' ⟨e1, e2⟩ => ?_⟩
    subst e1
    have := e2 vs hs'
    rw [ex] at this; cases this
    exact ⟨.refl, s, rx⟩
theorem snd_over (C : Ctx T c X W r) {e tg : Expr} {x : Ex} (h : PE X e (SE T X W r x)) : PI X tg e (SI T X W r .over (.cons x .nil)) := by
  refine PI.imp (pi_seq h) fun σ H R ⟨ι, S, env, s, er, f⟩ => ?_
  simp only [evalEs] at f
  refine ⟨ι, S, env, s, er, ?_⟩
  cases q : evalE (conf T r) x env S with
  | bad => rw [q] at f; exact f
  | exc cc fs S1 => rw [q] at f; exact f
  | ok v S1 =>
    rw [q] at f
    intro ι1 H1 g1 s1 v' rv
    obtain ⟨n0, e0, k⟩ := FinG.at (v := [v]) (S := S1) f g1 s1
    cases v with
    | tup xs =>
      obtain ⟨a, vs, rfl, hs, hr⟩ := rv.tupE
      exact ⟨a, rfl, .inr ⟨⟨vs, hs⟩, k _ (by
        refine fun ι S H g s i => ?_
        have hs' := SqT.ext g.toExt hs
        have hr' := hr.grow g
        refine ⟨fun h => ?_, fun v h => ?_⟩
        · obtain ⟨ys, e, hl⟩ := itemAt_stop (f := id) (o := some xs) h
          cases e
          exact ⟨vs, hs', by rw [hr.length]; exact hl⟩
        · obtain ⟨ys, x, e, hx, rfl⟩ := itemAt_item (f := id) (o := some xs) h
          cases e
          obtain ⟨x', ex, rx⟩ := hr'.get hx
          refine ⟨⟨vs, x', hs', ex⟩, fun y H' ⟨e1, e2⟩ => ?_⟩
          subst e1
          have := e2 vs hs'
          rw [ex] at this; cases this
          exact ⟨.refl, s, rx⟩)⟩⟩
    | ref n =>
      obtain ⟨a, rfl, ha⟩ := rv.refE
      obtain ⟨b, vs, eb, hl⟩ := ref_list s1 rv (lstB_map e0)
      cases eb
      exact ⟨a, rfl, .inl ⟨⟨vs, hl⟩, k _ (bear_list ha)⟩⟩
    | _ => cases e0
theorem zip_lst {S : Store} {m n k : Nat} (h : lenM .zip [.ref m, .ref n] S = some k) : lstB S (.ref m) = true ∧ lstB S (.ref n) = true := by
  simp only [lenM] at h
  cases e1 : cellL S m with
  | none => rw [e1] at h; cases h
  | some xs =>
    cases e2 : cellL S n with
    | none => rw [e1, e2] at h; cases h
    | some ys => exact ⟨lstB_of e1, lstB_of e2⟩
theorem bear_range {K : PySem.W.Frag} {w : World} {vs : List PV} {lo : Int} {n n0 : Nat} {ι0 : List Addr} {H0 : Hp} (e : rangeM vs = some (rangeP lo n)) : Bear K w (Itr lo n) (stepM .range vs n0) ι0 H0 := fun ι S H g s i => by
  have es : stepM .range vs n0 i S = itemAt id (some (rangeP lo n)) i := by
    simp only [stepM, e]
  rw [es]
  have hl : (rangeP lo n).length = n := by simp [rangeP]
  refine ⟨fun h => ?_, fun v h => ?_⟩
  · obtain ⟨ys, e, hl2⟩ := itemAt_stop h
    cases e
    rw [hl] at hl2; exact hl2
  · obtain ⟨ys, x, e, hx, hv⟩ := itemAt_item h
    have hv : v = x := hv
    subst hv
    cases e
    have hi : i < n := by
      have := (List.getElem?_eq_some_iff.mp hx).1
      rw [hl] at this; exact this
    have ex : v = .int (lo + (i : Nat)) := by
      unfold rangeP at hx
      rw [List.getElem?_map, List.getElem?_range hi] at hx
      exact (Option.some.inj hx).symm
    refine ⟨hi, fun y H' ⟨e1, e2⟩ => ?_⟩
    subst e1 e2 ex
    exact ⟨.refl, s, .ofInt⟩
theorem bear_rangeD {K : PySem.W.Frag} {w : World} {vs : List PV} {lo : Int} {n n0 : Nat} {ι0 : List Addr} {H0 : Hp} (e : rangeM vs = some (rangeD lo n)) : Bear K w (Itc lo (-1) n) (stepM .range vs n0) ι0 H0 := fun ι S H g s i => by
  have es : stepM .range vs n0 i S = itemAt id (some (rangeD lo n)) i := by
    simp only [stepM, e]
  rw [es]
  have hl : (rangeD lo n).length = n := by simp [rangeD]
  refine ⟨fun h => ?_, fun v h => ?_⟩
  · obtain ⟨ys, e, hl2⟩ := itemAt_stop h
    cases e
    rw [hl] at hl2; exact hl2
  · obtain ⟨ys, x, e, hx, hv⟩ := itemAt_item h
    have hv : v = x := hv
    subst hv
    cases e
    have hi : i < n := by
      have := (List.getElem?_eq_some_iff.mp hx).1
      rw [hl] at this; exact this
    have ex : v = .int (lo + (i : Nat) * (-1)) := by
      unfold rangeD at hx
      rw [List.getElem?_map, List.getElem?_range hi] at hx
      exact (Option.some.inj hx).symm
    refine ⟨hi, fun y H' ⟨e1, e2⟩ => ?_⟩
    subst e1 e2 ex
    exact ⟨.refl, s, .ofInt⟩
theorem Reps.three {K : PySem.W.Frag} {w : World} {ι : List Addr} {H : Hp} {x y z : PV} {vs : List V} (h : Reps K w ι H [x, y, z] vs) : ∃ a b c, vs = [a, b, c] ∧ Rep K w ι H x a ∧ Rep K w ι H y b ∧ Rep K w ι H z c := by
  unfold Reps at h
  obtain ⟨v, r, rfl, h1, h2⟩ := h
  obtain ⟨b, c, rfl, h3, h4⟩ := h2.two
  exact ⟨v, b, c, rfl, h1, h3, h4⟩
theorem snd_range (C : Ctx T c X W r) {es : List Expr} {xs : Exs} {tg : Expr} {p pos : Pos} (ha : PA X es (SEs T X W r xs)) (hst : es.all notStar = true) (hn : es.length = lenXs xs) (h1 : 1 ≤ lenXs xs) (h2 : lenXs xs ≤ 3) (hg : isGl c "range" = true) :
    PI X tg (.Call (.Name "range" p) es [] pos) (SI T X W r .range xs) := by
  match es, hn, hst, ha with
  | [], hn, _, _ => simp at hn; omega
  | [a], hn, hst, ha =>
    simp only [List.all_cons, List.all_nil, Bool.and_true] at hst
    refine PI.imp (pi_range1 (C.gl _ hg) (C.free _ (by decide)) ha (star_cons hst)) fun σ H R ⟨ι, S, env, s, er, f⟩ => ?_
    refine ⟨ι, S, env, s, er, (fin_with (P := fun vs => vs.length = 1) f fun v S' h => by rw [evalEs_len h, ← hn]; rfl).imp fun vs S1 ι1 H1 g1 s1 ⟨hl, n0, e0, k⟩ vs' rvs => ?_⟩
    match vs, hl with
    | [v], _ =>
      obtain ⟨v', rfl, rv⟩ := rvs.one
      cases v with
      | int j =>
        cases rv.intE
        simp only [lenM, rangeM] at e0
        split at e0
        · rename_i hb
          have h := fits_iff.mp hb
          exact ⟨j, rfl, h.1, h.2, k _ (bear_range (if_pos hb))⟩
        · cases e0
      | _ => cases e0
  | [a, b], hn, hst, ha =>
    simp only [List.all_cons, List.all_nil, Bool.and_true, Bool.and_eq_true] at hst
    refine PI.imp (pi_range2 (C.gl _ hg) (C.free _ (by decide)) ha (by rw [star_cons hst.1, star_cons hst.2]; rfl) (star_cons hst.2)) fun σ H R ⟨ι, S, env, s, er, f⟩ => ?_
    refine ⟨ι, S, env, s, er, (fin_with (P := fun vs => vs.length = 2) f fun v S' h => by rw [evalEs_len h, ← hn]; rfl).imp fun vs S1 ι1 H1 g1 s1 ⟨hl, n0, e0, k⟩ vs' rvs => ?_⟩
    match vs, hl with
    | [u, v], _ =>
      obtain ⟨u', v', rfl, ru, rv⟩ := rvs.two
      cases u with
      | int i =>
        cases v with
        | int j =>
          cases rv.intE; cases ru.intE
          simp only [lenM, rangeM] at e0
          split at e0
          · rename_i hb
            have h := Bool.and_eq_true_iff.mp hb
            have h1 := fits_iff.mp h.1
            have h2 := fits_iff.mp h.2
            exact ⟨i, j, rfl, ⟨h1.1, h1.2, h2.1, h2.2⟩, k _ (bear_range (if_pos hb))⟩
          · cases e0
        | _ => cases e0
      | _ => cases e0
  | [a, b, d], hn, hst, ha =>
    simp only [List.all_cons, List.all_nil, Bool.and_true, Bool.and_eq_true] at hst
    refine PI.imp (pi_range3 (C.gl _ hg) (C.free _ (by decide)) ha (star_cons hst.1) (star_plain (by simp [hst.2.1, hst.2.2]))) fun σ H R ⟨ι, S, env, s, er, f⟩ => ?_
    refine ⟨ι, S, env, s, er, (fin_with (P := fun vs => vs.length = 3) f fun v S' h => by rw [evalEs_len h, ← hn]; rfl).imp fun vs S1 ι1 H1 g1 s1 ⟨hl, n0, e0, k⟩ vs' rvs => ?_⟩
    match vs, hl with
    | [u, v, z], _ =>
      obtain ⟨u', v', z', rfl, ru, rv, rz⟩ := rvs.three
      cases u with
      | int i =>
        cases v with
        | int j =>
          cases z with
          | int q =>
            cases rv.intE; cases ru.intE; cases rz.intE
            simp only [lenM, rangeM] at e0
            split at e0
            · rename_i hb
              have hb' := hb
              simp only [Bool.and_eq_true, decide_eq_true_eq] at hb
              obtain ⟨⟨rfl, h3⟩, h4⟩ := hb
              have h1 := fits_iff.mp h3
              have h2 := fits_iff.mp h4
              exact ⟨i, j, -1, _, rfl, .neg h1.1 h1.2 h2.1 h2.2, k _ (bear_rangeD (if_pos hb'))⟩
            · cases e0
          | _ => cases e0
        | _ => cases e0
      | _ => cases e0
  | _ :: _ :: _ :: _ :: _, hn, _, _ => simp at hn; omega
theorem bear_enum {K : PySem.W.Frag} {w : World} {n n0 : Nat} {a : Addr} {ι0 : List Addr} {H0 : Hp} (ha : ι0[n]? = some a) : Bear K w (Ite K a) (stepM .enum [.ref n] n0) ι0 H0 := fun ι S H g s i => by
  have hn := g.get ha
  refine ⟨fun h => ?_, fun v h => ?_⟩
  · obtain ⟨xs, e, hl⟩ := itemAt_stop (f := fun x => .wt [.int i, x]) (o := cellL S n) h
    obtain ⟨b, vs, eb, hs, hr⟩ := s.sq e
    rw [hn] at eb; cases eb
    exact ⟨vs, hs, by rw [hr.length]; exact hl⟩
  · obtain ⟨xs, x, e, hx, rfl⟩ := itemAt_item (f := fun x => .wt [.int i, x]) (o := cellL S n) h
    obtain ⟨b, vs, eb, hs, hr⟩ := s.sq e
    rw [hn] at eb; cases eb
    obtain ⟨x', ex, rx⟩ := hr.get hx
    refine ⟨⟨vs, x', hs, ex⟩, fun y H' ⟨t, z, e1, e2, e3, e4⟩ => ?_⟩
    subst e1 e3
    have := e4 vs hs
    rw [ex] at this; cases this
    have g : Grow ι H ι (upd H t (.tup [.int (i : Nat), x'])) := .laid e2
    exact ⟨g, s.laid e2, .ofWt (SqT.of upd_same) (Reps.cons .ofInt (Reps.cons (rx.grow g) Reps.nil))⟩
theorem bear_enumT {K : PySem.W.Frag} {w : World} {n0 : Nat} {a : Addr} {xs : List PV} {vs : List V} {ι0 : List Addr} {H0 : Hp} (hs : SqT K H0 a vs) (hr : Reps K w ι0 H0 xs vs) :
    Bear K w (IteT K a) (stepM .enum [.tup xs] n0) ι0 H0 := fun ι S H g s i => by
  have hs' := SqT.ext g.toExt hs
  have hr' := hr.grow g
  refine ⟨fun h => ?_, fun v h => ?_⟩
  · obtain ⟨ys, e, hl⟩ := itemAt_stop (f := fun x => .wt [.int i, x]) (o := some xs) h
    cases e
    exact ⟨vs, hs', by rw [hr.length]; exact hl⟩
  · obtain ⟨ys, x, e, hx, rfl⟩ := itemAt_item (f := fun x => .wt [.int i, x]) (o := some xs) h
    cases e
    obtain ⟨x', ex, rx⟩ := hr'.get hx
    refine ⟨⟨vs, x', hs', ex⟩, fun y H' ⟨t, z, e1, e2, e3, e4⟩ => ?_⟩
    subst e1 e3
    have := e4 vs hs'
    rw [ex] at this; cases this
    have g : Grow ι H ι (upd H t (.tup [.int (i : Nat), x'])) := .laid e2
    exact ⟨g, s.laid e2, .ofWt (SqT.of upd_same) (Reps.cons .ofInt (Reps.cons (rx.grow g) Reps.nil))⟩
theorem bear_rev {K : PySem.W.Frag} {w : World} {n m : Nat} {a : Addr} {ι0 : List Addr} {H0 : Hp} (ha : ι0[n]? = some a) : Bear K w (Itv K a m) (stepM .rev [.ref n] m) ι0 H0 := fun ι S H g s i => by
  have hn := g.get ha
  by_cases hi : m ≤ i
  · have es : stepM .rev [.ref n] m i S = .stop := if_pos hi
    rw [es]
    exact ⟨fun _ => hi, fun v h => nomatch h⟩
  · have es : stepM .rev [.ref n] m i S = match cellL S n with
      | some xs => match xs[m - 1 - i]? with
        | some x => .item x
        | none => .bad
      | none => .bad := if_neg hi
    rw [es]
    refine ⟨fun h => ?_, fun v h => ?_⟩
    · split at h
      · split at h <;> cases h
      · cases h
    · split at h
      · rename_i xs e
        obtain ⟨b, vs, eb, hs, hr⟩ := s.sq e
        rw [hn] at eb; cases eb
        split at h
        · rename_i x hx
          cases h
          obtain ⟨x', ex, rx⟩ := hr.get hx
          refine ⟨⟨by omega, vs, x', hs, ex⟩, fun y H' ⟨e1, e2⟩ => ?_⟩
          subst e1
          have := e2 vs hs
          rw [ex] at this; cases this
          exact ⟨.refl, s, rx⟩
        · cases h
      · cases h
theorem snd_enum (C : Ctx T c X W r) {a : Expr} {x : Ex} {elts : List Expr} {kk : Nat} {tpos p pos : Pos} (ha : PA X [a] (SEs T X W r (.cons x .nil))) (hst : notStar a = true) (hg : isGl c "enumerate" = true) :
    PI X (.Tuple elts kk tpos) (.Call (.Name "enumerate" p) [a] [] pos) (SI T X W r .enum (.cons x .nil)) := by
  refine PI.imp (pi_enumS (C.gl _ hg) (C.free _ (by decide)) ha (star_cons hst)) fun σ H R ⟨ι, S, env, s, er, f⟩ => ?_
  refine ⟨ι, S, env, s, er, (fin_with (P := fun vs => vs.length = 1) f fun v S' h => evalEs_len h).imp fun vs S1 ι1 H1 g1 s1 ⟨hl, n0, e0, k⟩ vs' rvs => ?_⟩
  match vs, hl with
  | [v], _ =>
    obtain ⟨v', rfl, rv⟩ := rvs.one
    cases v with
    | ref n =>
      obtain ⟨b, vs, rfl, hl⟩ := ref_list s1 rv (lstB_map e0)
      obtain ⟨_, eb, ha⟩ := rv.refE
      cases eb
      exact ⟨b, rfl, .inl ⟨vs, hl, k _ (bear_enum ha)⟩⟩
    | tup xs =>
      obtain ⟨a, vs, rfl, hs, hr⟩ := rv.tupE
      exact ⟨a, rfl, .inr ⟨vs, hs, k _ (bear_enumT hs hr)⟩⟩
    | _ => cases e0
theorem snd_rev (C : Ctx T c X W r) {a tg : Expr} {x : Ex} {p pos : Pos} (ha : PA X [a] (SEs T X W r (.cons x .nil))) (hst : notStar a = true) (hg : isGl c "reversed" = true) :
    PI X tg (.Call (.Name "reversed" p) [a] [] pos) (SI T X W r .rev (.cons x .nil)) := by
  refine PI.imp (pi_reversed (C.gl _ hg) (C.free _ (by decide)) ha (star_cons hst)) fun σ H R ⟨ι, S, env, s, er, f⟩ => ?_
  refine ⟨ι, S, env, s, er, (fin_with (P := fun vs => vs.length = 1) f fun v S' h => evalEs_len h).imp fun vs S1 ι1 H1 g1 s1 ⟨hl, n0, e0, k⟩ vs' rvs => ?_⟩
  match vs, hl with
  | [v], _ =>
    obtain ⟨v', rfl, rv⟩ := rvs.one
    cases v with
    | ref n =>
      obtain ⟨_, eb, ha⟩ := rv.refE
      cases eb
      simp only [lenM] at e0
      cases q : cellL S1 n with
      | none => rw [q] at e0; cases e0
      | some xs =>
        rw [q] at e0; cases e0
        obtain ⟨b, vs, eb, hs, hr⟩ := s1.sq q
        rw [ha] at eb; cases eb
        exact ⟨_, vs, rfl, hs, by rw [hr.length]; exact k _ (bear_rev ha)⟩
    | _ => cases e0
theorem bear_zip {K : PySem.W.Frag} {w : World} {m n n0 : Nat} {a b : Addr} {ι0 : List Addr} {H0 : Hp} (ha : ι0[m]? = some a) (hb : ι0[n]? = some b) : Bear K w (Itz K a b) (stepM .zip [.ref m, .ref n] n0) ι0 H0 := fun ι S H g s i => by
  have hm := g.get ha
  have hn := g.get hb
  simp only [stepM]
  cases q1 : cellL S m with
  | none => exact ⟨fun h => by simp at h, fun v h => by simp at h⟩
  | some xs =>
    cases q2 : cellL S n with
    | none => exact ⟨fun h => by simp at h, fun v h => by simp at h⟩
    | some ys =>
      obtain ⟨b1, us, eb, hs, hr⟩ := s.sq q1
      rw [hm] at eb; cases eb
      obtain ⟨b2, vs, eb, hs2, hr2⟩ := s.sq q2
      rw [hn] at eb; cases eb
      simp only [zipAt]
      cases e1 : xs[i]? with
      | none => exact ⟨fun _ => ⟨us, vs, hs, hs2, .inl (by rw [hr.length]; exact List.getElem?_eq_none_iff.mp e1)⟩, fun v h => nomatch h⟩
      | some x =>
        cases e2 : ys[i]? with
        | none => exact ⟨fun _ => ⟨us, vs, hs, hs2, .inr (by rw [hr2.length]; exact List.getElem?_eq_none_iff.mp e2)⟩, fun v h => nomatch h⟩
        | some y =>
          refine ⟨fun h => (nomatch h), fun v h => ?_⟩
          cases h
          obtain ⟨x', ex, rx⟩ := hr.get e1
          obtain ⟨y', ey, ry⟩ := hr2.get e2
          refine ⟨⟨us, vs, x', y', hs, hs2, ex, ey⟩, fun z H' ⟨t, z1, z2, f1, f2, f3, f4, f5⟩ => ?_⟩
          subst f1 f3
          have := f4 us hs
          rw [ex] at this; cases this
          have := f5 vs hs2
          rw [ey] at this; cases this
          have g : Grow ι H ι (upd H t (.tup [x', y'])) := .laid f2
          exact ⟨g, s.laid f2, .ofWt (SqT.of upd_same) (Reps.cons (rx.grow g) (Reps.cons (ry.grow g) Reps.nil))⟩
theorem bear_zipT {K : PySem.W.Frag} {w : World} {n0 : Nat} {a b : Addr} {xs ys : List PV} {us vs : List V} {ι0 : List Addr} {H0 : Hp} (h1 : SqT K H0 a us) (hr1 : Reps K w ι0 H0 xs us) (h2 : SqT K H0 b vs) (hr2 : Reps K w ι0 H0 ys vs) :
    Bear K w (RZ.ItzT K a b) (stepM .zip [.tup xs, .tup ys] n0) ι0 H0 := fun ι S H g s i => by
  have hs := SqT.ext g.toExt h1
  have hr := hr1.grow g
  have hs2 := SqT.ext g.toExt h2
  have hr2 := hr2.grow g
  simp only [stepM, zipAt]
  cases e1 : xs[i]? with
  | none => exact ⟨fun _ => ⟨us, vs, hs, hs2, .inl (by rw [hr.length]; exact List.getElem?_eq_none_iff.mp e1)⟩, fun v h => nomatch h⟩
  | some x =>
    cases e2 : ys[i]? with
    | none => exact ⟨fun _ => ⟨us, vs, hs, hs2, .inr (by rw [hr2.length]; exact List.getElem?_eq_none_iff.mp e2)⟩, fun v h => nomatch h⟩
    | some y =>
      refine ⟨fun h => (nomatch h), fun v h => ?_⟩
      cases h
      obtain ⟨x', ex, rx⟩ := hr.get e1
      obtain ⟨y', ey, ry⟩ := hr2.get e2
      refine ⟨⟨us, vs, x', y', hs, hs2, ex, ey⟩, fun z H' ⟨t, z1, z2, f1, f2, f3, f4, f5⟩ => ?_⟩
      subst f1 f3
      have := f4 us hs
      rw [ex] at this; cases this
      have := f5 vs hs2
      rw [ey] at this; cases this
      have g : Grow ι H ι (upd H t (.tup [x', y'])) := .laid f2
      exact ⟨g, s.laid f2, .ofWt (SqT.of upd_same) (Reps.cons (rx.grow g) (Reps.cons (ry.grow g) Reps.nil))⟩
theorem snd_zip (C : Ctx T c X W r) {a b : Expr} {x y : Ex} {elts : List Expr} {kk : Nat} {tpos p pos : Pos} (ha : PA X [a, b] (SEs T X W r (.cons x (.cons y .nil)))) (hst : notStar a = true) (hst2 : notStar b = true) (hg : isGl c "zip" = true) :
    PI X (.Tuple elts kk tpos) (.Call (.Name "zip" p) [a, b] [] pos) (SI T X W r .zip (.cons x (.cons y .nil))) := by
  refine PI.imp (RZ.pi_zipA (C.gl _ hg) (C.free _ (by decide)) ha (star_cons hst) (star_plain (by simp [hst2]))) fun σ H R ⟨ι, S, env, s, er, f⟩ => ?_
  refine ⟨ι, S, env, s, er, (fin_with (P := fun vs => vs.length = 2) f fun v S' h => evalEs_len h).imp fun vs S1 ι1 H1 g1 s1 ⟨hl, n0, e0, k⟩ vs' rvs => ?_⟩
  match vs, hl with
  | [u, v], _ =>
    obtain ⟨u', v', rfl, ru, rv⟩ := rvs.two
    cases u with
    | ref m =>
      cases v with
      | ref n =>
        obtain ⟨q1, q2⟩ := zip_lst e0
        obtain ⟨b1, us, rfl, h1⟩ := ref_list s1 ru q1
        obtain ⟨_, eb, ha⟩ := ru.refE
        cases eb
        obtain ⟨b2, ws, rfl, h2⟩ := ref_list s1 rv q2
        obtain ⟨_, eb, hb⟩ := rv.refE
        cases eb
        exact ⟨_, _, us, ws, rfl, .inl ⟨h1, h2, k _ (bear_zip ha hb)⟩⟩
      | _ => cases e0
    | tup xs =>
      cases v with
      | tup ys =>
        obtain ⟨a1, us, rfl, h1, r1⟩ := ru.tupE
        obtain ⟨a2, ws, rfl, h2, r2⟩ := rv.tupE
        exact ⟨_, _, us, ws, rfl, .inr ⟨h1, h2, k _ (bear_zipT h1 r1 h2 r2)⟩⟩
      | _ => cases e0
    | _ => cases e0
theorem callIt_of {f : Expr → Ex → Bool} {iter : Expr} {nm : Str} {src : Exs} (C : Ctx T c X W r) (hf : ∀ e x, f e x = true → PE X e (SE T X W r x)) (h : callIt c f iter nm src = true) :
    ∃ p es pos, iter = .Call (.Name nm p) es [] pos ∧ isGl c nm = true ∧ PA X es (SEs T X W r src) ∧ es.all notStar = true ∧ es.length = lenXs src := by
  unfold callIt at h
  split at h
  · rename_i n p es pos
    simp only [Bool.and_eq_true, decide_eq_true_eq] at h
    obtain ⟨⟨h1, rfl⟩, h2⟩ := h
    obtain ⟨ha, hst⟩ := snd_es C hf h2
    refine ⟨p, es, pos, rfl, h1, ha, hst, ?_⟩
    clear ha hst
    induction es generalizing src with
    | nil => cases src <;> simp [chkEs] at h2; rfl
    | cons e es ih =>
      cases src with
      | nil => simp [chkEs] at h2
      | cons x xs =>
        simp only [chkEs, Bool.and_eq_true] at h2
        rw [List.length_cons, ih h2.2]; rfl
  · cases h
theorem isTup_of {tg : Expr} (h : isTup tg = true) : ∃ es k p, tg = .Tuple es k p := by
  cases tg <;> first | (cases h; done) | exact ⟨_, _, _, rfl⟩
/-- a walk's source by its look -/
theorem snd_it (C : Ctx T c X W r) {f : Expr → Ex → Bool} (hf : ∀ e x, f e x = true → PE X e (SE T X W r x)) {iter tg : Expr} {k : IK} {src : Exs} (h : chkIt c f iter tg k src = true) : PI X tg iter (SI T X W r k src) := by
  cases k with
  | over =>
    unfold chkIt at h
    match src, h with
    | .cons x .nil, h => exact snd_over C (hf _ _ h)
    | .nil, h => simp at h
    | .cons _ (.cons _ _), h => simp at h
  | range =>
    simp only [chkIt, Bool.and_eq_true, decide_eq_true_eq] at h
    obtain ⟨p, es, pos, rfl, h1, ha, hst, hn⟩ := callIt_of C hf h.1.1
    exact snd_range C ha hst hn h.1.2 h.2 h1
  | enum =>
    simp only [chkIt, Bool.and_eq_true, decide_eq_true_eq] at h
    obtain ⟨p, es, pos, rfl, h1, ha, hst, hn⟩ := callIt_of C hf h.1.1
    obtain ⟨ts, k, tp, rfl⟩ := isTup_of h.2
    match es, src, hn, h.1.2, ha, hst with
    | [a], .cons x .nil, _, _, ha, hst =>
      simp only [List.all_cons, List.all_nil, Bool.and_true] at hst
      exact snd_enum C ha hst h1
    | _, .nil, _, h3, _, _ => simp [lenXs] at h3
    | _, .cons _ (.cons _ _), _, h3, _, _ => simp [lenXs] at h3
    | [], .cons _ .nil, h3, _, _, _ => simp [lenXs] at h3
    | _ :: _ :: _, .cons _ .nil, h3, _, _, _ => simp [lenXs] at h3
  | zip =>
    simp only [chkIt, Bool.and_eq_true, decide_eq_true_eq] at h
    obtain ⟨p, es, pos, rfl, h1, ha, hst, hn⟩ := callIt_of C hf h.1.1
    obtain ⟨ts, k, tp, rfl⟩ := isTup_of h.2
    match es, src, hn, h.1.2, ha, hst with
    | [a, b], .cons x (.cons y .nil), _, _, ha, hst =>
      simp only [List.all_cons, List.all_nil, Bool.and_true, Bool.and_eq_true] at hst
      exact snd_zip C ha hst.1 hst.2 h1
    | _, .nil, _, h3, _, _ => simp [lenXs] at h3
    | _, .cons _ .nil, _, h3, _, _ => simp [lenXs] at h3
    | _, .cons _ (.cons _ (.cons _ _)), _, h3, _, _ => simp [lenXs] at h3
    | [], .cons _ (.cons _ .nil), h3, _, _, _ => simp [lenXs] at h3
    | [_], .cons _ (.cons _ .nil), h3, _, _, _ => simp [lenXs] at h3
    | _ :: _ :: _ :: _, .cons _ (.cons _ .nil), h3, _, _, _ => simp [lenXs] at h3
  | rev =>
    simp only [chkIt, Bool.and_eq_true, decide_eq_true_eq] at h
    obtain ⟨p, es, pos, rfl, h1, ha, hst, hn⟩ := callIt_of C hf h.1
    match es, src, hn, h.2, ha, hst with
    | [a], .cons x .nil, _, _, ha, hst =>
      simp only [List.all_cons, List.all_nil, Bool.and_true] at hst
      exact snd_rev C ha hst h1
    | _, .nil, _, h3, _, _ => simp [lenXs] at h3
    | _, .cons _ (.cons _ _), _, h3, _, _ => simp [lenXs] at h3
    | [], .cons _ .nil, h3, _, _, _ => simp [lenXs] at h3
    | _ :: _ :: _, .cons _ .nil, h3, _, _, _ => simp [lenXs] at h3
end
end EK

namespace EK
open PySem PySem.Spec PyProof.Rows L2

/-! ### targets -/
section
variable {K : PySem.W.Frag} {w : World} {ι : List Addr} {H : Hp}
theorem EnvR.set {env : Env} {σ : L2.St} {v : PV} {v' : V} (i : Nat) (h : EnvR K w ι H env σ) (r : Rep K w ι H v v') : EnvR K w ι H (env.set i (some v)) (σ.set i (some v')) := by
  refine ⟨by rw [List.length_set, List.length_set]; exact h.1, fun j x e => ?_⟩
  by_cases hj : j = i
  · subst hj
    have hl : j < env.length := by
      have := (List.getElem?_eq_some_iff.mp e).1
      simpa using this
    rw [List.getElem?_set_self hl] at e
    cases e
    exact ⟨v', by rw [List.getElem?_set_self (by rw [← h.1]; exact hl)], .of r⟩
  · rw [List.getElem?_set_ne (fun z => hj z.symm)] at e
    obtain ⟨u, e2, r2⟩ := h.2 j x e
    exact ⟨u, by rw [List.getElem?_set_ne (fun z => hj z.symm)]; exact e2, r2⟩
theorem EnvR.none {env : Env} {σ : L2.St} (i : Nat) (h : EnvR K w ι H env σ) : EnvR K w ι H (env.set i none) (σ.set i none) := by
  refine ⟨by rw [List.length_set, List.length_set]; exact h.1, fun j x e => ?_⟩
  by_cases hj : j = i
  · subst hj
    have hl : j < env.length := by
      have := (List.getElem?_eq_some_iff.mp e).1
      simpa using this
    rw [List.getElem?_set_self hl] at e
    cases e
  · rw [List.getElem?_set_ne (fun z => hj z.symm)] at e
    obtain ⟨u, e2, r2⟩ := h.2 j x e
    exact ⟨u, by rw [List.getElem?_set_ne (fun z => hj z.symm)]; exact e2, r2⟩
theorem EnvR.wipe {env : Env} {σ : L2.St} (h : EnvR K w ι H env σ) : ∀ vs : List Nat, EnvR K w ι H (wipeE env vs) (L2.wipe σ vs)
  | [] => h
  | v :: vs => (EnvR.wipe h vs).none v
theorem wipe_set {x y : Option V} {i : Nat} {σ : L2.St} : ∀ vs : List Nat, (L2.wipe (σ.set i x) vs).set i y = (L2.wipe σ vs).set i y
  | [] => by simp [L2.wipe]
  | v :: vs => by
    unfold L2.wipe
    by_cases h : v = i
    · subst h
      rw [wipe_set vs, List.set_set]
    · rw [List.set_comm _ _ h, wipe_set vs, List.set_comm _ _ (fun e => h e.symm)]
theorem wipe_own {x : Option V} {i : Nat} {σ : L2.St} : ∀ {vs : List Nat}, i ∈ vs → L2.wipe (σ.set i x) vs = L2.wipe σ vs
  | v :: vs, h => by
    unfold L2.wipe
    by_cases e : v = i
    · subst e
      exact wipe_set vs
    · rw [wipe_own (vs := vs) (by
        rcases List.mem_cons.mp h with h | h
        · exact absurd h.symm e
        · exact h)]
end
/-- the reading of a target -/
def tT (K : PySem.W.Frag) (w : World) (t : Tgt) : TG := fun v' σ H Q => ∃ ι S env v env', Sim K w ι S H ∧ EnvR K w ι H env σ ∧ Rep K w ι H v v' ∧ asgM t v env = some env' ∧
  ∀ σ', EnvR K w ι H env' σ' → (∀ vs : List Nat, inOwn vs t = true → L2.wipe σ' vs = L2.wipe σ vs) → Q σ' H
theorem PG.imp {X : Cx} {e : Expr} {t t' : TG} (h : PG X e t) (i : ∀ v σ H Q, t' v σ H Q → t v σ H Q) : PG X e t' := ⟨fun pins s σ H v u Q I r hw => h.run pins s σ H v u Q I r (i _ _ _ _ hw)⟩
section
variable {T : Text} {c : Chk} {X : Cx} {W : WX} {r : Nat}
theorem loc_of (C : Ctx T c X W r) {x : Str} (h : isTg c x = true) : Loc X.env.scope x ∧ (X.fn x = true ∨ X.env.scope.names.lookup x = some .local) := C.tg x h
def gIs : List Nat → TGs
  | [] => gNil
  | i :: is => gCons (gName i) (gIs is)
theorem snd_is (C : Ctx T c X W r) : ∀ {es : List Expr} {is : List Nat}, chkIs c es is = true → PGs X es (gIs is) ∧ es.all notStar = true ∧ es.length = is.length
  | [], [], _ => ⟨pgs_nil, rfl, rfl⟩
  | .Name x p :: es, i :: is, h => by
    simp only [chkIs, Bool.and_eq_true, decide_eq_true_eq] at h
    obtain ⟨h1, h2, h3⟩ := snd_is C h.2
    obtain ⟨l1, l2⟩ := loc_of C h.1.2
    exact ⟨pgs_cons (pg_name C.nd (C.name h.1.1) l1 l2) h1, by simp [notStar, h2], by simp [h3]⟩
  | [], _ :: _, h => by simp [chkIs] at h
  | e :: _, [], h => by cases e <;> simp [chkIs] at h
  | .BoolOp .. :: _, _ :: _, h => by simp [chkIs] at h
  | .NamedExpr .. :: _, _ :: _, h => by simp [chkIs] at h
  | .BinOp .. :: _, _ :: _, h => by simp [chkIs] at h
  | .UnaryOp .. :: _, _ :: _, h => by simp [chkIs] at h
  | .Lambda .. :: _, _ :: _, h => by simp [chkIs] at h
  | .IfExp .. :: _, _ :: _, h => by simp [chkIs] at h
  | .Dict .. :: _, _ :: _, h => by simp [chkIs] at h
  | .Set .. :: _, _ :: _, h => by simp [chkIs] at h
  | .ListComp .. :: _, _ :: _, h => by simp [chkIs] at h
  | .SetComp .. :: _, _ :: _, h => by simp [chkIs] at h
  | .DictComp .. :: _, _ :: _, h => by simp [chkIs] at h
  | .GeneratorExp .. :: _, _ :: _, h => by simp [chkIs] at h
  | .Await .. :: _, _ :: _, h => by simp [chkIs] at h
  | .Yield .. :: _, _ :: _, h => by simp [chkIs] at h
  | .YieldFrom .. :: _, _ :: _, h => by simp [chkIs] at h
  | .Compare .. :: _, _ :: _, h => by simp [chkIs] at h
  | .Call .. :: _, _ :: _, h => by simp [chkIs] at h
  | .FormattedValue .. :: _, _ :: _, h => by simp [chkIs] at h
  | .JoinedStr .. :: _, _ :: _, h => by simp [chkIs] at h
  | .Constant .. :: _, _ :: _, h => by simp [chkIs] at h
  | .Attribute .. :: _, _ :: _, h => by simp [chkIs] at h
  | .Subscript .. :: _, _ :: _, h => by simp [chkIs] at h
  | .Starred .. :: _, _ :: _, h => by simp [chkIs] at h
  | .List .. :: _, _ :: _, h => by simp [chkIs] at h
  | .Tuple .. :: _, _ :: _, h => by simp [chkIs] at h
  | .Slice .. :: _, _ :: _, h => by simp [chkIs] at h
theorem gIs_read {K : PySem.W.Frag} {w : World} : ∀ {is : List Nat} {vs : List PV} {vs' : List V} {env env' : Env} {σ : L2.St} {ι : List Addr} {H : Hp} {Q : L2.St → Hp → Prop}, setSlots env is vs = some env' → EnvR K w ι H env σ → Reps K w ι H vs vs' →
    (∀ σ', EnvR K w ι H env' σ' → (∀ ws : List Nat, is.all ws.contains = true → L2.wipe σ' ws = L2.wipe σ ws) → Q σ' H) → gIs is vs' σ H Q
  | [], [], vs', env, env', σ, ι, H, Q, e, er, rs, q => by
    unfold Reps at rs
    cases e
    exact ⟨rs, q σ er fun _ _ => rfl⟩
  | i :: is, v :: vs, vs', env, env', σ, ι, H, Q, e, er, rs, q => by
    unfold Reps at rs
    obtain ⟨v', r', rfl, h1, h2⟩ := rs
    refine ⟨v', r', rfl, ?_⟩
    refine gIs_read (is := is) e (er.set i h1) h2 fun σ' e' hw => q σ' e' fun ws hws => ?_
    simp only [List.all_cons, Bool.and_eq_true] at hws
    rw [hw ws hws.2]
    exact wipe_own (List.contains_iff_mem.mp hws.1)
  | [], _ :: _, _, _, _, _, _, _, _, e, _, _, _ => by cases e
  | _ :: _, [], _, _, _, _, _, _, _, e, _, _, _ => by cases e
theorem set_len {env env' : Env} : ∀ {is : List Nat} {vs : List PV}, setSlots env is vs = some env' → is.length = vs.length := by
  intro is
  induction is generalizing env with
  | nil => intro vs h; cases vs <;> first | rfl | cases h
  | cons i is ih =>
    intro vs h
    cases vs with
    | nil => cases h
    | cons v vs => rw [List.length_cons, List.length_cons, ih h]
theorem assignEach_len {env : PySem.Env} : ∀ {es : List Expr}, es.all notStar = true → (assignEach es env).length = es.length ∧ (assignEach es env).findIdx? (·.1) = none
  | [], _ => ⟨rfl, rfl⟩
  | e :: es, h => by
    simp only [List.all_cons, Bool.and_eq_true] at h
    obtain ⟨h1, h2⟩ := assignEach_len (env := env) h.2
    have e1 : assignEach (e :: es) env = (false, assign e env) :: assignEach es env := by
      cases e <;> first | rfl | (simp [notStar] at h)
    rw [e1]
    exact ⟨by simp [h1], by simp [List.findIdx?_cons, h2]⟩
theorem snd_tg (C : Ctx T c X W r) {e : Expr} {t : Tgt} (h : chkTg c e t = true) : PG X e (tT X.K X.w t) := by
  cases t with
  | nm i =>
    cases e <;> try (simp [chkTg] at h; done)
    rename_i x p
    simp only [chkTg, Bool.and_eq_true, decide_eq_true_eq] at h
    obtain ⟨l1, l2⟩ := loc_of C h.2
    refine PG.imp (pg_name C.nd (C.name h.1) l1 l2) fun v' σ H Q ⟨ι, S, env, v, env', s, er, rv, e, q⟩ => ?_
    cases e
    exact q _ (er.set i rv) fun vs hvs => wipe_own (List.contains_iff_mem.mp hvs)
  | tp is =>
    cases e <;> try (simp [chkTg] at h; done)
    rename_i es k p
    simp only [chkTg] at h
    obtain ⟨h1, h2, h3⟩ := snd_is C h
    obtain ⟨a1, a2⟩ := assignEach_len (env := X.env) h2
    refine PG.imp (pg_tup (n := es.length) C.calm h1 a1 a2) fun v' σ H Q ⟨ι, S, env, v, env', s, er, rv, e, q⟩ => ?_
    cases v with
    | tup vs =>
      obtain ⟨a, us, rfl, hs, hr⟩ := rv.tupE
      refine ⟨a, us, rfl, hs, ?_, gIs_read e er hr q⟩
      rw [hr.length, h3]
      exact (set_len e).symm
    | wt vs =>
      obtain ⟨a, us, rfl, hs, hr⟩ := rv.wtE
      refine ⟨a, us, rfl, hs, ?_, gIs_read e er hr q⟩
      rw [hr.length, h3]
      exact (set_len e).symm
    | _ => cases e

/-! ### comprehensions -/
theorem lookup_map (g : Str → NameKind → NameKind) (x : Str) : ∀ l : List (Str × NameKind), (l.map fun p => (p.1, g p.1 p.2)).lookup x = (l.lookup x).map (g x)
  | [] => rfl
  | (n, k) :: l => by
    rw [List.map_cons, List.lookup_cons, List.lookup_cons]
    cases h : x == n with
    | true =>
      have : x = n := beq_iff_eq.mp h
      subst this; rfl
    | false => exact lookup_map g x l
def relG (env : PySem.Env) (n : Str) (k : NameKind) : NameKind := if (k == .free && env.scope.kind == .function && env.kindOf n == some .cell) then .cell else k
theorem relabel_lookup (scope : Scope) (env : PySem.Env) (x : Str) : (relabel scope env).names.lookup x = (scope.names.lookup x).map (relG env x) := by
  rw [← lookup_map]
  unfold relabel relG
  congr 1
  apply List.map_congr_left
  rintro ⟨n, k⟩ _
  simp only
  split <;> rfl
theorem relG_other {env : PySem.Env} {n : Str} {k : NameKind} (h : k ≠ .free) : relG env n k = k := by
  unfold relG
  have : (k == NameKind.free) = false := beq_eq_false_iff_ne.mpr h
  rw [this]; rfl
theorem relG_free {env : PySem.Env} {n : Str} : relG env n .free = .cell ∨ relG env n .free = .free := by
  unfold relG
  split
  · exact .inl rfl
  · exact .inr rfl
def ownP (N : List Str) (own : List Nat) : List (Str × Nat) := own.map fun i => (N.getD i "", i)
theorem ownP_ix {N : List Str} {own : List Nat} : (ownP N own).map (·.2) = own := by
  unfold ownP
  rw [List.map_map]
  exact List.map_id _
theorem blk_ctx (C : Ctx T c X W r) {scope : Scope} {cl : List (Str × Addr)} {L : Addr} {s : Shared} {H : Hp} {fp : List Addr} : Ctx T { c with names := scope.names } (X.blk s H scope (compEnvC scope cl L X.env) fp) (fun _ _ _ _ => False) r where
  hN := C.hN
  nd := C.nd
  vis := fun x h => by
    show Vis (relabel scope X.env) x
    unfold Vis
    rw [relabel_lookup]
    unfold isVis at h
    split at h
    · rename_i e
      have e : scope.names.lookup x = some .local := e
      rw [e]; exact .inl rfl
    · rename_i e
      have e : scope.names.lookup x = some .cell := e
      rw [e]; exact .inr (.inl rfl)
    · rename_i e
      have e : scope.names.lookup x = some .free := e
      rw [e, Option.map_some]
      rcases relG_free (env := X.env) (n := x) with q | q
      · exact .inr (.inl (congrArg some q))
      · exact .inr (.inr (congrArg some q))
    · cases h
  loc := fun x h => by
    show (relabel scope X.env).names.lookup x = _
    rw [relabel_lookup]
    unfold isLoc at h
    split at h
    · rename_i e
      have e : scope.names.lookup x = some .local := e
      rw [e]; rfl
    · cases h
  tg := fun x h => by
    unfold isTg at h
    split at h
    · rename_i e
      have e : scope.names.lookup x = some .local := e
      have q : (relabel scope X.env).names.lookup x = some .local := by rw [relabel_lookup, e]; rfl
      exact ⟨.inl q, .inr q⟩
    · rename_i e
      have e : scope.names.lookup x = some .cell := e
      have q : (relabel scope X.env).names.lookup x = some .cell := by rw [relabel_lookup, e]; rfl
      refine ⟨.inr q, .inl ?_⟩
      show (scope.names.lookup x == some .cell) = true
      rw [e]; rfl
    · cases h
  gl := fun x h => by
    show (relabel scope X.env).names.lookup x = _
    rw [relabel_lookup]
    unfold isGl at h
    split at h
    · rename_i e
      have e : scope.names.lookup x = some .globalImplicit := e
      rw [e]; rfl
    · cases h
  fre := fun x h => by
    show (relabel scope X.env).names.lookup x = _ ∨ (relabel scope X.env).names.lookup x = _
    rw [relabel_lookup]
    have h : scope.names.lookup x = some .cell ∨ scope.names.lookup x = some .free := h
    rcases h with e | e
    · rw [e]; exact .inl rfl
    · rw [e, Option.map_some]
      rcases relG_free (env := X.env) (n := x) with q | q
      · exact .inl (congrArg some q)
      · exact .inr (congrArg some q)
  cel := fun x h => by
    show (relabel scope X.env).names.lookup x = _
    rw [relabel_lookup]
    have h : scope.names.lookup x = some .cell := h
    rw [h]; rfl
  calm := C.calm
  room := C.room
  tk := takes0
  fns := C.fns
  free := C.free
  exc := C.exc
  cls := C.cls
  glob := C.glob
theorem wipe_none {σ : L2.St} {a : Nat} : ∀ {ws : List Nat}, a ∈ ws → (L2.wipe σ ws).set a none = L2.wipe σ ws
  | [], h => nomatch h
  | b :: ws, h => by
    show ((L2.wipe σ ws).set b none).set a none = (L2.wipe σ ws).set b none
    by_cases e : b = a
    · subst e; rw [List.set_set]
    · rw [List.set_comm _ _ e, wipe_none ((List.mem_cons.mp h).resolve_left fun q => e q.symm)]
/-- what is forgotten twice is forgotten -/
theorem wipe_idem {σ : L2.St} : ∀ (vs ws : List Nat), (∀ a ∈ vs, a ∈ ws) → L2.wipe (L2.wipe σ ws) vs = L2.wipe σ ws
  | [], _, _ => rfl
  | a :: vs, ws, h => by
    show (L2.wipe (L2.wipe σ ws) vs).set a none = L2.wipe σ ws
    rw [wipe_idem vs ws fun b hb => h b (List.mem_cons_of_mem _ hb), wipe_none (h a List.mem_cons_self)]
/-- the turns' reading, over the store -/
theorem comp_read {own : List Nat} {tg : Tgt} {k : IK} {src cond : Exs} {elt : Ex} {σ : L2.St} {H : Hp} {Q : VK} (hown : inOwn own tg = true) (hc : lenXs cond ≤ 1)
    (h : SE T X W r (.comp own tg k src cond elt) σ H Q) :
    tLc (SI T X W r k src) (tT X.K X.w tg) (tMt X.K X.w X.mg (fun _ _ _ _ => False) (evalC (conf T r) cond)) (SE T X (fun _ _ _ _ => False) r elt) own σ H Q := by
  obtain ⟨ι, S, env, s, er, f⟩ := h
  simp only [evalE] at f
  refine ⟨ι, S, env, s, er, f.bind.imp fun vs S1 ι1 H1 g1 s1 f1 => ?_⟩
  cases e0 : lenM k vs S1 with
  | none => simp only [e0] at f1; exact f1.elim
  | some n0 =>
    simp only [e0] at f1
    refine ⟨n0, rfl, fun J bear D hD => ?_⟩
    have hp : Grow ι1 H1 (ι1 ++ [D]) (upd H1 D (.lst [])) := .cell hD
    let turn : PV → Store → Res (Option PV) := fun v S2 => match asgM tg v (wipeE env own) with
      | none => .bad
      | some e1 => (evalC (conf T r) cond e1 S2).bind fun b S3 => if b then (evalE (conf T r) elt e1 S3).bind fun y S4 => .ok (some y) S4 else .ok none S3
    let Wn : Nat → Nat → Hp → Prop := fun i m H => ∃ ι S, Grow ι1 H1 ι H ∧ Sim X.K X.w ι S H ∧ ι[S1.length]? = some D ∧
      FinG X.K X.w X.mg (WE W σ) ι H (compLoop (stepM k vs n0) turn S1.length m i S) (wantV X.K X.w Q)
    refine ⟨Wn, ⟨n0 + 1, ι1 ++ [D], S1 ++ [.lst []], hp, s1.new hD Reps.nil, newIx s1.len, FinG.grow hp f1⟩, fun i m H2 hW => ?_⟩
    obtain ⟨ι2, S2, g2, s2, hd2, f2⟩ := hW
    cases m with
    | zero => exact f2.elim
    | succ m =>
      simp only [compLoop] at f2
      obtain ⟨b1, b2⟩ := bear ι2 S2 H2 g2 s2 i
      cases es : stepM k vs n0 i S2 with
      | bad => simp only [es] at f2; exact f2.elim
      | stop =>
        simp only [es] at f2
        exact .inl ⟨b1 es, f2.ok s2 _ (.ofRef hd2)⟩
      | item v =>
        simp only [es] at f2
        obtain ⟨hgo, hy⟩ := b2 v es
        refine .inr ⟨hgo, fun H' => Wn (i + 1) m H', fun H' hN => ⟨m, Nat.lt_succ_self m, hN⟩, fun x H3 hx => ?_⟩
        obtain ⟨g3, s3, rx⟩ := hy x H3 hx
        have er3 : EnvR X.K X.w ι2 H3 (wipeE env own) (L2.wipe σ own) := (((er.grow g1).grow g2).grow g3).wipe own
        cases ea : asgM tg v (wipeE env own) with
        | none => simp only [turn, ea] at f2; exact f2.elim
        | some e1 =>
          refine ⟨ι2, S2, wipeE env own, v, e1, s3, er3, rx, ea, fun σ2 er4 hw => ⟨?_, ?_⟩⟩
          · rw [hw own hown]
            exact wipe_idem own own fun _ h => h
          · refine ⟨ι2, S2, e1, s3, er4, ?_⟩
            simp only [turn, ea] at f2
            cases ec : evalC (conf T r) cond e1 S2 with
            | bad => simp only [ec, Res.bind] at f2; exact f2.elim
            | exc cc fs S3 => simp only [ec, Res.bind] at f2; exact f2.elim
            | ok b S3 =>
              simp only [ec, Res.bind] at f2
              intro ι4 H4 g4 s4
              cases b with
              | false =>
                rw [if_neg Bool.false_ne_true]
                simp only [if_neg Bool.false_ne_true] at f2
                exact ⟨ι4, S3, (g2.trans g3).trans g4, s4, g4.get hd2, FinG.grow (g3.trans g4) f2⟩
              | true =>
                rw [if_pos rfl]
                simp only [if_pos] at f2
                refine ⟨ι4, S3, e1, s4, er4.grow g4, ?_⟩
                cases ee : evalE (conf T r) elt e1 S3 with
                | bad => simp only [ee] at f2; exact f2.elim
                | exc cc fs S5 => simp only [ee] at f2; exact f2.elim
                | ok y S5 =>
                  simp only [ee] at f2
                  intro ι5 H5 g5 s5 y' ry
                  have hd5 : ι5[S1.length]? = some D := g5.get (g4.get hd2)
                  split at f2
                  · rename_i acc q
                    obtain ⟨D', acc', eD, hacc, racc⟩ := s5.lst q
                    rw [hd5] at eD; cases eD
                    split at f2
                    · rename_i hl
                      refine ⟨acc', hacc, by rw [racc.length]; exact hl, ι5, _, ?_, s5.write hd5 hacc (racc.append (Reps.cons ry Reps.nil)) (List.getElem?_eq_some_iff.mp q).1, hd5, FinG.grow ?_ f2⟩
                      · exact (((g2.trans g3).trans g4).trans g5).trans (.write hd5 hacc)
                      · exact ((g3.trans g4).trans g5).trans (.write hd5 hacc)
                    · exact f2.elim
                  · exact f2.elim
end
end EK

namespace EK
open PySem PySem.Spec PyProof.Rows L2
section
variable {T : Text} {c : Chk} {X : Cx} {W : WX} {r : Nat}

/-! ### tests -/
theorem snd_plain2 (C : Ctx T c X W r) {f : Expr → Ex → Bool} (hf : ∀ e x, f e x = true → PE X e (SE T X W r x)) {x : Ex} {e : Expr} (h : (plainTest e && f e x) = true) : PT X e (ST T X W r x) ∧ ∀ o es p, e = .BoolOp o es p → PW X e (ST T X W r x) := by
  simp only [Bool.and_eq_true] at h
  exact ⟨snd_plainT C h.1 (hf _ _ h.2), fun o es p q => by subst q; simp [plainTest] at h⟩
theorem snd_test (C : Ctx T c X W r) {f : Expr → Ex → Bool} (hf : ∀ e x, f e x = true → PE X e (SE T X W r x)) : ∀ (x : Ex) (e : Expr), chkT f x e = true → PT X e (ST T X W r x) ∧ ∀ o es p, e = .BoolOp o es p → PW X e (ST T X W r x)
  | .and x y, e, h => by
    unfold chkT at h
    split at h
    · rename_i a b p
      simp only [Bool.and_eq_true] at h
      have h1 := (snd_test C hf x a h.1).1
      have h2 := (snd_test C hf y b h.2).1
      have w : PW X (.BoolOp .And [a, b] p) (ST T X W r (.and x y)) := snd_andT C h1 (pw_and1 h2)
      exact ⟨w.pt, fun _ _ _ _ => w⟩
    · rename_i a b d rest p
      simp only [Bool.and_eq_true] at h
      have h1 := (snd_test C hf x a h.1).1
      have h2 := (snd_test C hf y _ h.2).2 _ _ _ rfl
      have w : PW X (.BoolOp .And (a :: b :: d :: rest) p) (ST T X W r (.and x y)) := snd_andT C h1 h2
      exact ⟨w.pt, fun _ _ _ _ => w⟩
    · cases h
  | .or x y, e, h => by
    unfold chkT at h
    split at h
    · rename_i a b p
      simp only [Bool.and_eq_true] at h
      have h1 := (snd_test C hf x a h.1).1
      have h2 := (snd_test C hf y b h.2).1
      have w : PW X (.BoolOp .Or [a, b] p) (ST T X W r (.or x y)) := snd_orT C h1 (pw_or1 h2)
      exact ⟨w.pt, fun _ _ _ _ => w⟩
    · rename_i a b d rest p
      simp only [Bool.and_eq_true] at h
      have h1 := (snd_test C hf x a h.1).1
      have h2 := (snd_test C hf y _ h.2).2 _ _ _ rfl
      have w : PW X (.BoolOp .Or (a :: b :: d :: rest) p) (ST T X W r (.or x y)) := snd_orT C h1 h2
      exact ⟨w.pt, fun _ _ _ _ => w⟩
    · cases h
  | .not x, e, h => by
    unfold chkT at h
    split at h
    · exact ⟨snd_notT C (snd_test C hf x _ h).1, fun _ _ _ e => by cases e⟩
    · cases h
  | .cmp op x y, e, h => by
    unfold chkT at h
    split at h
    · simp only [Bool.and_eq_true, decide_eq_true_eq, Bool.not_eq_true'] at h
      obtain ⟨⟨⟨rfl, h1⟩, h2⟩, h3⟩ := h
      exact ⟨snd_cmpT C (hf _ _ h1) (hf _ _ h2) h3, fun _ _ _ e => by cases e⟩
    · cases h
  | .chn x y z, e, h => by
    unfold chkT at h
    split at h
    · simp only [Bool.and_eq_true] at h
      exact ⟨snd_chnT C (hf _ _ h.1.1) (hf _ _ h.1.2) (hf _ _ h.2), fun _ _ _ e => by cases e⟩
    · cases h
  | .isN x, e, h => by
    unfold chkT at h
    split at h
    · exact ⟨snd_isNT C (hf _ _ h), fun _ _ _ e => by cases e⟩
    · cases h
  | .notN x, e, h => by
    unfold chkT at h
    split at h
    · exact ⟨snd_notNT C (hf _ _ h), fun _ _ _ e => by cases e⟩
    · cases h
  | .slot i, e, h => snd_plain2 C hf h
  | .cst i, e, h => snd_plain2 C hf h
  | .glo i, e, h => snd_plain2 C hf h
  | .tup i, e, h => snd_plain2 C hf h
  | .lst i, e, h => snd_plain2 C hf h
  | .dsp .., e, h => snd_plain2 C hf h
  | .bin .., e, h => snd_plain2 C hf h
  | .neg .., e, h => snd_plain2 C hf h
  | .ite .., e, h => snd_plain2 C hf h
  | .ix .., e, h => snd_plain2 C hf h
  | .sl .., e, h => snd_plain2 C hf h
  | .call .., e, h => snd_plain2 C hf h
  | .lrg .., e, h => snd_plain2 C hf h
  | .isTru .., e, h => snd_plain2 C hf h
  | .revL .., e, h => snd_plain2 C hf h
  | .enGet .., e, h => snd_plain2 C hf h
  | .new .., e, h => snd_plain2 C hf h
  | .mcall .., e, h => snd_plain2 C hf h
  | .callc .., e, h => snd_plain2 C hf h
  | .callv .., e, h => snd_plain2 C hf h
  | .prim .., e, h => snd_plain2 C hf h
  | .meth .., e, h => snd_plain2 C hf h
  | .isT .., e, h => snd_plain2 C hf h
  | .cel .., e, h => snd_plain2 C hf h
  | .comp .., e, h => snd_plain2 C hf h
theorem snd_conds (C : Ctx T c X W r) {f : Expr → Ex → Bool} (hf : ∀ e x, f e x = true → PE X e (SE T X W r x)) : ∀ {es : List Expr} {xs : Exs}, chkCs f es xs = true → PTs X es (tMt X.K X.w X.mg W (evalC (conf T r) xs)) 
  | [], .nil, _ => by
    refine ⟨fun pins s σ H Q I h => pts_nil.run pins s σ H Q I ?_⟩
    obtain ⟨ι, S, env, s, er, f⟩ := h
    simp only [evalC] at f
    exact f.ok s
  | [e], .cons x .nil, h => by
    simp only [chkCs] at h
    refine ⟨fun pins s σ H Q I h' => (pts_one (snd_test C hf x e h).1).run pins s σ H Q I ?_⟩
    obtain ⟨ι, S, env, s, er, f⟩ := h'
    simp only [evalC] at f
    exact ⟨ι, S, env, s, er, f⟩
  | [], .cons _ _, h => by simp [chkCs] at h
  | [_], .nil, h => by simp [chkCs] at h
  | [_], .cons _ (.cons _ _), h => by simp [chkCs] at h
  | _ :: _ :: _, .nil, h => by simp [chkCs] at h
  | _ :: _ :: _, .cons _ _, h => by simp [chkCs] at h

theorem conds_len {f : Expr → Ex → Bool} : ∀ {es : List Expr} {xs : Exs}, chkCs f es xs = true → lenXs xs ≤ 1
  | [], .nil, _ => by decide
  | [e], .cons x .nil, h => Nat.le_refl _
  | [], .cons _ _, h => by simp [chkCs] at h
  | [_], .nil, h => by simp [chkCs] at h
  | [_], .cons _ (.cons _ _), h => by simp [chkCs] at h
  | _ :: _ :: _, .nil, h => by simp [chkCs] at h
  | _ :: _ :: _, .cons _ _, h => by simp [chkCs] at h
/-! ### comprehensions -/
def blkB (c : Chk) (scope : Scope) (own : List Nat) : Bool := (match scope.kind with
            | .function => true
            | _ => false) && (scope.names.all fun y => decide (scope.names.lookup y.1 = some y.2)) && (scope.names.all fun y => match y.2 with
              | .free => (match c.names.lookup y.1 with
                | some .cell => true
                | some .free => true
                | _ => false)
              | .local => (own.any fun i => decide (c.N[i]? = some y.1)) || decide (y.1 ∉ c.N)
              | .cell => (own.any fun i => decide (c.N[i]? = some y.1)) || decide (y.1 ∉ c.N)
              | _ => true) && own.all fun i => decide (i < c.N.length)
theorem blk_ok (C : Ctx T c X W r) {scope : Scope} {own : List Nat} (h : blkB c scope own = true) : BlkOk X.N X.env.scope scope (ownP X.N own) := by
  unfold blkB at h
  simp only [Bool.and_eq_true, List.all_eq_true, decide_eq_true_eq] at h
  obtain ⟨⟨⟨h1, h2⟩, h3⟩, h4⟩ := h
  have own_ok : ∀ y : Str × NameKind, ((own.any fun i => decide (c.N[i]? = some y.1)) || decide (y.1 ∉ c.N)) = true → y.1 ∈ (ownP X.N own).map (·.1) ∨ y.1 ∉ X.N := fun y h => by
    simp only [Bool.or_eq_true, List.any_eq_true, decide_eq_true_eq] at h
    rcases h with ⟨i, hi, e⟩ | h
    · refine .inl ?_
      unfold ownP
      rw [List.map_map]
      refine List.mem_map.mpr ⟨i, hi, ?_⟩
      show X.N.getD i "" = y.1
      rw [List.getD_eq_getElem?_getD, C.name e]; rfl
    · exact .inr (by rw [C.hN]; exact h)
  refine ⟨?_, h2, ?_, ?_, ?_⟩
  · cases hk : scope.kind <;> rw [hk] at h1 <;> first | rfl | cases h1
  · intro p hp
    unfold ownP at hp
    obtain ⟨i, hi, rfl⟩ := List.mem_map.mp hp
    have : i < X.N.length := by rw [C.hN]; exact h4 i hi
    show X.N[i]? = some (X.N.getD i "")
    rw [List.getD_eq_getElem?_getD, List.getElem?_eq_getElem this]; rfl
  · intro y hy e
    have := h3 y hy
    rw [e] at this
    simp only at this
    refine C.fre y.1 ?_
    split at this
    · rename_i q; exact .inl q
    · rename_i q; exact .inr q
    · cases this
  · intro y hy e
    have := h3 y hy
    rcases e with e | e <;> rw [e] at this <;> exact own_ok y this
theorem folded_no {iter : Expr} {env : PySem.Env} (h : notSet iter = true) : ∀ x, foldedSetIterable iter env x = pure x := fun x => by
  cases iter <;> first | rfl | (simp [notSet] at h)
def chkLc (T : Text) (n : Nat) (c : Chk) (e : Expr) (own : List Nat) (tg : Tgt) (k : IK) (src cond : Exs) (elt : Ex) : Bool := chkE T (n + 1) c e (.comp own tg k src cond elt)
structure LcOk (T : Text) (n : Nat) (c : Chk) (own : List Nat) (tg : Tgt) (k : IK) (src cond : Exs) (elt : Ex) (el tge iter : Expr) (ifs : List Expr) (scope : Scope) : Prop where
  it : chkIt c (chkE T n c) iter tge k src = true
  tgt : chkTg { c with names := scope.names } tge tg = true
  inown : inOwn own tg = true
  cond : chkCs (chkE T n { c with names := scope.names }) ifs cond = true
  elt : chkE T n { c with names := scope.names } el elt = true
  set : notSet iter = true
  blk : blkB c scope own = true
theorem lc_of {n : Nat} {e : Expr} {own : List Nat} {tg : Tgt} {k : IK} {src cond : Exs} {elt : Ex} (h : chkE T (n + 1) c e (.comp own tg k src cond elt) = true) : ∃ el tge iter ifs scope p, e = .ListComp el [⟨tge, iter, ifs, 0⟩] scope p ∧ LcOk T n c own tg k src cond elt el tge iter ifs scope := by
  simp only [chkE] at h
  split at h
  · rename_i el tge iter ifs scope p
    simp only [Bool.and_eq_true] at h
    obtain ⟨⟨⟨⟨⟨⟨⟨⟨⟨h1, h2⟩, h3⟩, h4⟩, h5⟩, h6⟩, h7⟩, h8⟩, h9⟩, h10⟩ := h
    refine ⟨_, _, _, _, _, _, rfl, ⟨h1, h2, h3, h4, h5, h6, ?_⟩⟩
    unfold blkB
    simp only [Bool.and_eq_true]
    exact ⟨⟨⟨h7, h8⟩, h9⟩, h10⟩
  · cases h
theorem snd_comp (C : Ctx T c X W r) {n : Nat} (ih : ∀ (c : Chk) (X : Cx) (W : WX) (r : Nat) (e : Expr) (x : Ex), Ctx T c X W r → chkE T n c e x = true → PE X e (SE T X W r x)) {own : List Nat} {tg : Tgt} {k : IK} {src cond : Exs} {elt : Ex} {el tge iter : Expr} {ifs : List Expr} {scope : Scope} {p : Pos}
    (L : LcOk T n c own tg k src cond elt el tge iter ifs scope) : PE X (.ListComp el [⟨tge, iter, ifs, 0⟩] scope p) (SE T X W r (.comp own tg k src cond elt)) := by
  refine PE.imp (pe_lc (own := ownP X.N own) (wi := SI T X W r k src) (g := tT X.K X.w tg) (tt := tMt X.K X.w X.mg (fun _ _ _ _ => False) (evalC (conf T r) cond)) (te := SE T X (fun _ _ _ _ => False) r elt) C.calm C.nd
    (snd_it C (fun e x h => ih c X W r e x C h) L.it) (blk_ok C L.blk) (fun s H L' cl fp => snd_tg (X := X.blk s H scope (compEnvC scope cl L' X.env) fp) (blk_ctx C) L.tgt) (fun s H L' cl fp => snd_conds (X := X.blk s H scope (compEnvC scope cl L' X.env) fp) (blk_ctx C) (fun e x h => ih _ _ _ _ e x (blk_ctx C) h) L.cond)
    (fun s H L' cl fp => ih _ (X.blk s H scope (compEnvC scope cl L' X.env) fp) _ _ _ _ (blk_ctx C) L.elt) (folded_no L.set)) fun σ H Q h => ?_
  rw [ownP_ix]
  exact comp_read L.inown (conds_len L.cond) h
end
end EK

namespace EK
open PySem PySem.Spec PyProof.Rows L2
/-! ### x is True; C(); o.m(..) -/
section
variable {T : Text} {c : Chk} {X : Cx} {W : WX} {r : Nat}
theorem snd_isTru (C : Ctx T c X W r) {a : Expr} {x : Ex} {j : Nat} {p p2 : Pos} (ha : PE X a (SE T X W r x)) : PE X (.Compare a [.Is] [.Constant (.bool true) j p] p2) (SE T X W r (.isTru x)) := by
  refine PE.imp (pe_cmpR op_is_bl ha (pe_bl (b := true)) (nomark _)) fun σ H Q ⟨ι, S, env, s, er, f⟩ => ?_
  simp only [evalE] at f
  refine ⟨ι, S, env, s, er, f.bind.imp fun v S1 ι1 H1 g1 s1 k v' rv => ?_⟩
  split at k
  · rename_i b
    cases rv.blE
    refine ⟨b, true, rfl, rfl, ?_⟩
    have e : decide (b = true) = b := by cases b <;> rfl
    rw [e]
    exact k.ok s1 _ .ofBl
  · exact k.elim
/-- C(), C without its own __init__ -/
theorem pe_new0 {x : Str} {p pos : Pos} (M : ClsAt X.K X.mg x) (hg : Gl X x) (hd : (x == ("__debug__" : Str)) = false) :
    PE X (.Call (.Name x p) [] [] pos) (fun _ H Q => ∀ a dx, H a = none → H dx = none → dx ≠ a → Q (.ref a) (upd (upd H dx (.own a)) a (.ins (He.ga X.K x) dx []))) := by
  refine ⟨fun pins st σ H Q I want => ?_⟩
  refine wpAny_Call_Name_kw (ld_glob I hg M.mg ?_ hd)
  refine PySem.W.callWith_K0 I.kIn M.kp ?_
  have fin := want (st.heap.objs.size + 1) st.heap.objs.size (I.hok.fresh (Nat.le_add_right _ 1)) (I.hok.fresh Nat.le.refl) (Nat.ne_of_lt (Nat.lt_add_one _))
  have J := Inv.made (C := He.ga X.K x) I
  obtain ⟨_, _, _, isAt, _⟩ := J.hok _ _ upd_same
  refine wpAny_call (make_map0 I.kIn M.makes M.init (fun o => PySem.W.Looks.of_pure (PySem.W.oi_bind o)) ?_)
  have look1 : PySem.W.Looks (model X.prog X.w) ((st.heap.push PySem.W.emptyDict).push (PySem.W.instObj (He.ga X.K x) st.heap.objs.size)) (isInstance (.ref (st.heap.objs.size + 1)) (.type "object")) true := (NwA.type_at isAt rfl).andThen (PySem.W.looks_mroIn J.kIn (mro_obj M.makes))
  refine codeAny_call_builtin PySem.W.oi_plain PySem.W.entry_oi (PySem.W.check_slot (i := "object.__init__") (owner := "object") (n := "__init__") (self := .ref (st.heap.objs.size + 1)) (rest := []) (kw := []) PySem.W.oi_kind PySem.W.oi_split look1 (PySem.W.oi_args (.ref (st.heap.objs.size + 1))) ?_)
  rw [PySem.W.oi_run]
  refine wpAny_pure (And.intro rfl ?_)
  show EP X pins σ Q _ _
  exact ⟨V.ref (st.heap.objs.size + 1), _, J, rfl, fin⟩
theorem snd_new (C : Ctx T c X W r) {x : Str} {p pos : Pos} (hg : isGl c x = true) (hd : dbg x = false) : PE X (.Call (.Name x p) [] [] pos) (SE T X W r (.new x)) := by
  by_cases hx : x ∈ T.cls
  · refine PE.imp (pe_new0 (C.cls x hx) (C.gl x hg) hd) fun σ H Q ⟨ι, S, env, s, er, f⟩ => ?_
    simp only [evalE] at f
    rw [if_pos (List.contains_iff_mem.mpr hx)] at f
    intro a dx ha hdx hne
    have g1 : Grow ι H ι (upd H dx (.own a)) := .laid hdx
    have ha' : upd H dx (.own a) a = none := by rw [upd_ne hne.symm]; exact ha
    have g2 := g1.trans (Grow.laid (o := .ins (He.ga X.K x) dx []) ha')
    refine f.at g2 ((s.laid hdx).laid ha') _ ?_
    unfold Rep
    exact ⟨a, dx, rfl, upd_same⟩
  · have : PE X (.Call (.Name x p) [] [] pos) (fun _ _ _ => False) := ⟨fun _ _ _ _ _ _ h => h.elim⟩
    refine PE.imp this fun σ H Q ⟨ι, S, env, s, er, f⟩ => ?_
    simp only [evalE] at f
    rw [if_neg (fun z => hx (List.contains_iff_mem.mp z))] at f
    exact f
/-- what is calm raises nothing -/
theorem FinG.calm {α : Type} {K : PySem.W.Frag} {w : World} {mg : Str → Option Value} {EX EX' : XK} {ι : List Addr} {H : Hp} {m : Res α} {k : α → Store → List Addr → Hp → Prop} (h : FinG K w mg EX ι H m.calm k) : FinG K w mg EX' ι H m k := by
  cases m with
  | ok v S => exact h
  | exc _ _ _ => exact h.elim
  | bad => exact h.elim
theorem cx_none {P : Program} {w : World} {outer : List PySem.Env} {H : Hp} {s s' : Shared} {e : Value} (h : L2.CX P w outer H s (fun _ _ _ => False) e s') : False := by
  obtain ⟨_, _, _, _, _, _, _, _, _, _, _, _, z⟩ := h
  exact z
theorem passes_none {X : Cx} : Passes (L2.CX X.prog X.w) X (fun _ _ _ => False) := fun _ _ _ _ _ _ _ z => (cx_none z).elim
theorem reps_two {K : PySem.W.Frag} {w : World} {ι : List Addr} {H : Hp} {x : PV} {v : V} {xs : List PV} {vs : List V} (h : Rep K w ι H x v) (hs : Reps K w ι H xs vs) : RepsX K w ι H (x :: xs) (v :: vs) := .of (Reps.cons h hs)
theorem snd_mcall (C : Ctx T c X W r) {m : Str} {o : Expr} {es : List Expr} {x : Ex} {xs : Exs} {apos cpos : Pos} (ho : PE X o (SE T X W r x)) (ha : PA X es (SEs T X W r xs)) (hst : es.all notStar = true) (hl : es.length < 20) (hx : es.length = lenXs xs) (hb : plainBase o = true) (hline : (apos.endLine == cpos.line) = true) :
    PE X (.Call (.Attribute o m apos) es [] cpos) (SE T X W r (.mcall m x xs)) := by
  refine ⟨fun pins st σ H Q I h => ?_⟩
  obtain ⟨ι, S, env, s, er, f⟩ := h
  simp only [evalE] at f
  split at f
  case isFalse => exact f.elim
  rename_i hcan
  obtain ⟨r, rfl⟩ : ∃ r', r = r' + 1 := by
    cases r with
    | zero => cases hcan
    | succ r => exact ⟨r, rfl⟩
  split at f
  case h_2 => exact f.elim
  rename_i cn S1 eo
  split at f
  case isFalse => exact f.elim
  rename_i hhas
  obtain ⟨fi, hfi⟩ := Option.isSome_iff_exists.mp hhas
  obtain ⟨cl, mt, fd, bd, ok⟩ := C.fns.mt r rfl cn m fi hfi
  have key : ∀ {t : TA}, (∀ {σ : L2.St} {H : Hp} {Q : List V → Hp → Prop}, SEs T X W (r + 1) xs σ H Q → t σ H Q) → tMeth (He.ga X.K cn) m (spF T X.K X.w X.mg r fi) [] (fun _ _ _ => False) (SE T X W (r + 1) x) t σ H Q := by
    intro t ht
    refine ⟨ι, S, env, s, er, ?_⟩
    rw [eo]
    intro ι1 H1 g1 s1 v' rv
    have f1 := FinG.grow g1 f
    have rv0 := rv
    unfold Rep at rv
    obtain ⟨a, dx, rfl, hat⟩ := rv
    refine ⟨a, dx, [], rfl, hat, rfl, ht ⟨ι1, S1, env, s1, er.grow g1, f1.bind.imp fun vs S2 ι2 H2 g2 s2 k vs' rvs => ?_⟩⟩
    refine ⟨ι2, S2, .obj cn :: vs, s2, ?_, ?_, ?_⟩
    · rw [List.append_nil]
      exact reps_two (rv0.grow g2) rvs
    · have e2 : callT T (r + 1) (.mt cn m) [] (.obj cn :: vs) S2 = callBody (conf T r) fi (.obj cn :: vs) S2 := callT_mt hfi
      rw [e2] at k
      rw [List.append_nil, List.length_cons, rvs.length]
      cases hlen : decide ((PV.obj cn :: vs).length = fi.params.length) with
      | true => simpa using hlen
      | false =>
        unfold callBody at k
        rw [if_neg (by simpa using hlen)] at k
        exact k.elim
    · have e2 : callT T (r + 1) (.mt cn m) [] (.obj cn :: vs) S2 = callBody (conf T r) fi (.obj cn :: vs) S2 := callT_mt hfi
      rw [e2] at k
      exact k.calm
  cases es with
  | nil =>
    cases xs with
    | cons _ _ => simp [lenXs] at hx
    | nil =>
      refine (pe_meth0 (pl := plainOf o X.env) ho cl mt ok C.room bd .nil passes_none (mcall_of (base_plain hb) fun ov => mcall_line (by rfl) hline)).run pins st σ H Q I (key fun {σ H Q} ⟨ι, S, env, s, er, f⟩ => ?_)
      simp only [evalEs] at f
      exact f.ok s [] Reps.nil
  | cons e es =>
    simp only [List.all_cons, Bool.and_eq_true] at hst
    refine (pe_meth (pl := plainOf o X.env) ho cl mt ok C.room bd .nil passes_none ha (star_cons hst.1) (star_plain hst.2) (mcall_of (base_plain hb) fun ov => mcall_line ?_ hline)).run pins st σ H Q I (key fun h => h)
    have e1 : (backTo cpos (starEach (e :: es) X.env)).all (fun x => !x.1) = true := star_plain2 (by simp [hst.1, hst.2])
    unfold methodCallForm
    rw [e1]
    have hl2 : (e :: es).length + 0 + 0 < 30 := by omega
    show ((true && true) && decide ((e :: es).length + 0 + 0 < 30)) = true
    rw [decide_eq_true hl2]; rfl
end
end EK

namespace EK
open PySem PySem.Spec PyProof.Rows L2
/-! ### arguments with a def's name behind them -/
section
variable {T : Text} {c : Chk} {X : Cx} {W : WX} {r : Nat}
def tEsC (T : Text) (X : Cx) (W : WX) (r : Nat) (xs : Exs) (i : Nat) : TA := fun σ H Q => ∃ ι S env, Sim X.K X.w ι S H ∧ EnvR X.K X.w ι H env σ ∧
  FinG X.K X.w X.mg (WE W σ) ι H (evalEs (conf T r) xs env S) fun vs _ ι' H' => ∃ v, σ[i]? = some (some v) ∧ ∀ ws, Reps X.K X.w ι' H' vs ws → Q (ws ++ [v]) H'
theorem snd_esC (C : Ctx T c X W r) {f : Expr → Ex → Bool} (hf : ∀ e x, f e x = true → PE X e (SE T X W r x)) {i : Nat} : ∀ {es : List Expr} {xs : Exs}, chkEsC c f es xs i = true → PA X es (tEsC T X W r xs i) ∧ es.all notStar = true ∧ es ≠ []
  | [], .nil, h => by simp [chkEsC] at h
  | [], .cons _ _, h => by simp [chkEsC] at h
  | e :: es, .nil, h => by
    simp only [chkEsC, Bool.and_eq_true] at h
    obtain ⟨h0, h⟩ := h
    have : es = [] := by simpa using h0
    subst this
    split at h
    · rename_i z p
      simp only [Bool.and_eq_true, decide_eq_true_eq, Bool.not_eq_true'] at h
      obtain ⟨⟨⟨h1, h2⟩, h3⟩, h4⟩ := h
      refine ⟨PA.imp (pa_cons (pe_var (C.name h1) (C.vis z h2) h3 h4) pa_nil rfl) fun σ H Q ⟨ι, S, env, s, er, g⟩ => ?_, rfl, by simp⟩
      simp only [evalEs] at g
      obtain ⟨v, hv, k⟩ := g.ok s
      exact ⟨v, hv, k [] Reps.nil⟩
    · cases h
  | e :: es, .cons x xs, h => by
    simp only [chkEsC, Bool.and_eq_true] at h
    obtain ⟨⟨h1, h2⟩, h3⟩ := h
    obtain ⟨i1, i2, i3⟩ := snd_esC C hf h3
    refine ⟨PA.imp (pa_cons (hf e x h2) i1 (star_cons h1)) fun σ H Q ⟨ι, S, env, s, er, g⟩ => ?_, by simp [h1, i2], by simp⟩
    simp only [evalEs] at g
    refine ⟨ι, S, env, s, er, g.bind.imp fun v S1 ι1 H1 g1 s1 k1 v' rv => ?_⟩
    refine ⟨ι1, S1, env, s1, er.grow g1, k1.bind.imp fun vs S2 ι2 H2 g2 s2 k2 => ?_⟩
    obtain ⟨u, hu, k3⟩ := k2.ok s2
    exact ⟨u, hu, fun ws rws => k3 _ (Reps.cons (rv.grow g2) rws)⟩
/-- a call with a def's name behind the arguments: g's promise -/
theorem snd_callc (C : Ctx T c X W r) {g : Str} {es : List Expr} {xs : Exs} {i : Nat} {f : FnI} {p p2 : Pos} (ha : PA X es (tEsC T X W r xs i)) (hst : es.all notStar = true) (hne : es ≠ []) (hg : isGl c g = true) (hdb : dbg g = false)
    (hf : T.fns.lookup g = some f) (hl : lenXs xs + 1 = f.params.length) : PE X (.Call (.Name g p) es [] p2) (SE T X W r (.callc g xs i)) := by
  cases r with
  | zero =>
    have : PE X (.Call (.Name g p) es [] p2) (fun _ _ _ => False) := ⟨fun _ _ _ _ _ _ h => h.elim⟩
    refine PE.imp this fun σ H Q ⟨ι, S, env, s, er, k⟩ => ?_
    simp only [evalE] at k
    exact k
  | succ r' =>
    obtain ⟨⟨a, fd, hm, hk, hb, ok⟩, hs⟩ := C.fns.fn r' rfl g f hf
    obtain ⟨ds, b, hd⟩ := hb 0 (Nat.zero_le _)
    rw [Nat.sub_zero, List.drop_length, List.map_nil] at hd
    cases es with
    | nil => exact (hne rfl).elim
    | cons e es =>
      simp only [List.all_cons, Bool.and_eq_true] at hst
      refine PE.imp (pe_callSD ok C.room (C.gl g hg) hm hk b hd (fun σ => passAt C.tk σ) ha hdb (star_cons hst.1) (star_plain hst.2)) fun σ H Q ⟨ι, S, env, s, er, k⟩ => ?_
      simp only [evalE] at k
      rw [if_pos (by rfl)] at k
      split at k
      · rename_i x caps hi
        obtain ⟨v, hv, rv⟩ := er.2 i _ hi
        refine ⟨ι, S, env, s, er, (fin_with (P := fun vs => vs.length = lenXs xs) k.bind fun v S h => evalEs_len h).imp fun vs S1 ι1 H1 g1 s1 ⟨hl1, k1⟩ => ⟨v, hv, fun ws rws => ?_⟩⟩
        have e : callT T (r' + 1) (.fn g) [] (vs ++ [.clo x caps]) S1 = callBody (conf T r') f ((vs ++ [.clo x caps]) ++ f.dfl.drop (f.dfl.length - (f.params.length - (vs ++ [PV.clo x caps]).length))) S1 := callT_fn hf
        have e2 : f.params.length - (vs ++ [PV.clo x caps]).length = 0 := by simp; omega
        rw [e, e2, Nat.sub_zero, List.drop_length, List.append_nil] at k1
        refine ⟨ι1, S1, vs ++ [.clo x caps], s1, ?_, ?_, k1⟩
        · rw [List.append_nil]
          exact (RepsX.of rws).append (RepsX.one (rv.grow g1))
        · rw [List.append_nil, List.length_append, rws.length, hl1]
          exact hl
      · exact k.elim
end
/-! ### what a def within a def captured: known as it is, or let go -/
def isCap (cl : List (Str × Addr)) (b : Addr) : Prop := ∃ y, cl.lookup y = some b
open Classical in
noncomputable def hideC (cl : List (Str × Addr)) (H : Hp) : Hp := fun b => if isCap cl b then none else H b
open Classical in
noncomputable def showC (cl : List (Str × Addr)) (H0 H : Hp) : Hp := fun b => if isCap cl b then H0 b else H b
section
variable {cl : List (Str × Addr)} {H H0 : Hp} {b : Addr} {o : HO}
theorem hideC_in (h : isCap cl b) : hideC cl H b = none := if_pos h
theorem hideC_out (h : ¬ isCap cl b) : hideC cl H b = H b := if_neg h
theorem showC_in (h : isCap cl b) : showC cl H0 H b = H0 b := if_pos h
theorem showC_out (h : ¬ isCap cl b) : showC cl H0 H b = H b := if_neg h
theorem hideC_of (h : hideC cl H b = some o) : ¬ isCap cl b ∧ H b = some o := by
  by_cases hc : isCap cl b
  · rw [hideC_in hc] at h; cases h
  · rw [hideC_out hc] at h; exact ⟨hc, h⟩
end
/-- all that is no captured cell is the same -/
structure Same1 (H H' : Hp) : Prop where
  all : ∀ a o, H a = some o → (∀ oc c, o ≠ .frz oc (.own c)) → H' a = some o
section
variable {K : PySem.W.Frag} {w : World} {ι : List Addr} {S : Store} {H H' : Hp}
theorem Same1.ext (h : Same1 H H') : Ext ι H ι H' := ⟨List.prefix_rfl, fun a o e f => h.all a o e fun oc c z => by subst z; exact f⟩
theorem Same1.tab (h : Same1 H H') {a : Addr} {q : Nat → Nat → Str} (t : NdefX.TabN H a q) : NdefX.TabN H' a q := by
  obtain ⟨ps, h1, h2, h3⟩ := t
  refine ⟨ps, h.all _ _ h1 (fun _ _ z => nomatch z), h2, fun pos cv hc => ?_⟩
  obtain ⟨c, e, h4⟩ := h3 pos cv hc
  exact ⟨c, e, h.all _ _ h4 fun _ _ z => by unfold LamX.CodeO at z; cases z⟩
theorem Sim.same (h : Same1 H H') (s : Sim K w ι S H) : Sim K w ι S H' := ⟨s.len, s.nd, fun i c e => by
  obtain ⟨a, ea, ca⟩ := s.cell i c e
  exact ⟨a, ea, ca.grow h.ext (fun vs q => h.all _ _ q (fun _ _ z => nomatch z)) fun q t => h.tab t⟩⟩
end
/-- the cells are known as they are -/
def CapsAt (cl : List (Str × Addr)) (H : Hp) : Prop := ∀ b, isCap cl b → ∃ oc u, H b = some (.frz oc (.own b)) ∧ oc.data = .cell u
section
variable {K : PySem.W.Frag} {w : World} {ι ι' : List Addr} {S S' : Store} {H H' H0 : Hp} {cl : List (Str × Addr)}
theorem hide_same (c : CapsAt cl H) : Same1 H (hideC cl H) := ⟨fun a o e n => by
  by_cases h : isCap cl a
  · obtain ⟨oc, u, h1, _⟩ := c a h
    rw [h1] at e
    cases e
    exact (n _ _ rfl).elim
  · rw [hideC_out h]; exact e⟩
theorem show_same (hn : ∀ b, isCap cl b → H b = none) : Same1 H (showC cl H0 H) := ⟨fun a o e _ => by
  by_cases h : isCap cl a
  · rw [hn a h] at e; cases e
  · rw [showC_out h]; exact e⟩
/-- growing, the cells let go meanwhile -/
theorem Grow.shown (c : CapsAt cl H) (g : Grow ι (hideC cl H) ι' H') (s : Sim K w ι' S' H') (hn : ∀ b, isCap cl b → H' b = none) : Grow ι H ι' (showC cl H H') := by
  have low : ∀ a o, H a = some o → isCap cl a → showC cl H H' a = some o := fun a o e h => by rw [showC_in h]; exact e
  refine ⟨⟨g.pre, fun a o e f => ?_⟩, fun a o e n nt => ?_, fun a h1 h2 => ?_, fun a h => ?_⟩
  · by_cases h : isCap cl a
    · exact low a o e h
    · rw [showC_out h]; exact g.kept a o (by rw [hideC_out h]; exact e) f
  · by_cases h : isCap cl a
    · exact low a o e h
    · rw [showC_out h]; exact g.all a o (by rw [hideC_out h]; exact e) n nt
  · have nc : ¬ isCap cl a := fun h => by
      obtain ⟨i, hi, e⟩ := List.mem_iff_getElem.mp h1
      obtain ⟨o, q⟩ := s.there (i := i) (a := a) (by rw [List.getElem?_eq_getElem hi, e])
      rw [hn a h] at q; cases q
    have := g.new a h1 h2
    rw [hideC_out nc] at this
    exact this
  · by_cases hc : isCap cl a
    · rw [showC_in hc] at h
      exact h
    · rw [showC_out hc] at h
      have := g.gone a h
      rw [hideC_out hc] at this
      exact this
end
section
variable {P : Program} {w : World} {K : PySem.W.Frag} {mg : Str → Option Value} {base : Heap} {A : Around} {outer : List PySem.Env} {s s' : Shared} {H H' : Hp} {cl : List (Str × Addr)} {Q Q' : VK} {u : Value}
theorem hok_hide (hok : HOk P w H s.heap) : (CapsAt cl H) → HOk P w (hideC cl H) s.heap := fun c a o e => by
  obtain ⟨hc, e⟩ := hideC_of e
  exact (hok a o e).stay (fun _ _ _ q => q) (fun b q => (hide_same c).all _ _ q (fun _ _ z => nomatch z)) fun b xs q => (hide_same c).all _ _ q (fun _ _ z => nomatch z)
theorem env0_hide (c : CapsAt cl H) (e : Env0 P w K mg base A outer s H) : Env0 P w K mg base A outer s (hideC cl H) :=
  ⟨e.frames, e.mod, fun b o q => ⟨(e.bs b o q).1, by
    by_cases h : isCap cl b
    · exact hideC_in h
    · rw [hideC_out h]; exact (e.bs b o q).2⟩, e.bsz, e.funs, fun b hb => by
    by_cases h : isCap cl b
    · exact hideC_in h
    · rw [hideC_out h]; exact e.frf b hb, hok_hide e.hok c, e.bare⟩
/-- behind a call made so: the cells are as they were -/
theorem ce_show (c : CapsAt cl H) (hok : HOk P w H s.heap) (frf : ∀ b ∈ frs outer, H b = none) (h : CE outer P w (hideC cl H) s Q' u s') (hq : ∀ v H', (∀ b, isCap cl b → H' b = none) → Q' v H' → Q v (showC cl H H')) : CE outer P w H s Q u s' := by
  obtain ⟨v, H', os, bare, un, hok', rv, q⟩ := h
  have there : ∀ b, isCap cl b → ∃ oc, s.heap.get? b = some oc ∧ H b = some (.frz oc (.own b)) := fun b hb => by
    obtain ⟨oc, x, h1, _⟩ := c b hb
    obtain ⟨h2, _⟩ := hok b _ h1
    exact ⟨oc, h2, h1⟩
  have hn : ∀ b, isCap cl b → H' b = none := fun b hb => by
    obtain ⟨oc, h1, _⟩ := there b hb
    exact un.free b oc h1 (hideC_in hb) (by simp)
  have kp : ∀ b oc, isCap cl b → s.heap.get? b = some oc → s'.heap.get? b = some oc := fun b oc hb h1 => by
    refine un.keep b oc h1 (hideC_in hb) (fun hf => ?_) (by simp)
    obtain ⟨_, _, z⟩ := there b hb
    rw [frf b hf] at z; cases z
  have out : ∀ b, H b = none → ¬ isCap cl b := fun b e hb => by
    obtain ⟨_, _, z⟩ := there b hb
    rw [e] at z; cases z
  have outS : ∀ b o, H b = some o → (∀ oc x, o ≠ .frz oc (.own x)) → ¬ isCap cl b := fun b o e n hb => by
    obtain ⟨_, _, z⟩ := there b hb
    rw [e] at z; cases z
    exact n _ _ rfl
  have sm := show_same (H0 := H) hn
  refine ⟨v, showC cl H H', os, bare, ⟨fun b o e n hf hx => ?_, fun b o e n hf hx => ?_, fun b o e n hx => ?_, fun b o e hx => un.there b o e hx, fun b xs e => ?_, fun b o x e => ?_, fun b ps e => ?_⟩, fun a o e => ?_, rv, hq v H' hn q⟩
  · exact un.keep b o e (by rw [hideC_out (out b n)]; exact n) hf hx
  · exact un.slot b o e (by rw [hideC_out (out b n)]; exact n) hf hx
  · rw [showC_out (out b n)]
    exact un.free b o e (by rw [hideC_out (out b n)]; exact n) hx
  · have nc := outS b _ e (fun _ _ z => nomatch z)
    rw [showC_out nc]
    exact un.tups b xs (by rw [hideC_out nc]; exact e)
  · by_cases hc : isCap cl b
    · rw [showC_in hc]; exact e
    · rw [showC_out hc]
      exact un.frzs b o x (by rw [hideC_out hc]; exact e)
  · have nc := outS b _ e (fun _ _ z => nomatch z)
    rw [showC_out nc]
    exact un.tbls b ps (by rw [hideC_out nc]; exact e)
  · by_cases hc : isCap cl a
    · rw [showC_in hc] at e
      obtain ⟨oc, h1, h2⟩ := there a hc
      rw [h2] at e
      cases e
      exact ⟨kp a oc hc h1, _, kp a oc hc h1⟩
    · rw [showC_out hc] at e
      exact (hok' a o e).stay (fun _ _ _ q => q) (fun b q => sm.all _ _ q (fun _ _ z => nomatch z)) fun b xs q => sm.all _ _ q (fun _ _ z => nomatch z)
end
end EK

namespace EK
open PySem PySem.Spec PyProof.Rows L2
section
variable {T : Text} {c : Chk} {X : Cx} {W : WX} {r : Nat}
theorem caps_at {K : PySem.W.Frag} {w : World} {ι : List Addr} {H : Hp} {x : Str} {caps : List PV} {v : V} (h : CloRep K w ι H x caps v) : ∃ (f : Addr) (st : Stmt) (cl : List (Str × Addr)) (c' : Addr) (cs : List V), v = .ref f ∧ nestIn K x = some st ∧ H f = some (NdefX.FnO f (NdefX.NF.of st (nestNm st) (nestQ K x st) cl c')) ∧
    H c' = some (LamX.CodeO c' (nestQ K x st)) ∧ CapsAt cl H ∧ ¬ isCap cl f ∧ ¬ isCap cl c' ∧ Reps K w ι H caps cs ∧ caps.length = (frOf st).length ∧ ∀ (P : Program) (h : Heap), HOk P w H h → NdefX.CellsAt cl (frOf st) (cs.map some) h (hideC cl H) := by
  obtain ⟨f, st, cl, c', e, hs, hf, hc, nf, nc, hi, hcl, cs, hr, hl, hv⟩ := h
  have ca : CapsAt cl H := fun b ⟨y, hy⟩ => by
    obtain ⟨_, oc, u, h1, h2⟩ := hcl y b hy
    exact ⟨oc, u, h1, h2⟩
  refine ⟨f, st, cl, c', cs, e, hs, hf, hc, ca, fun hb => ?_, fun hb => ?_, hr, by rw [← hr.length]; exact hl, fun P h hok => ⟨by rw [List.length_map]; exact hl, fun y b q => ?_, fun y z b q1 q2 => hi y z b q1 q2, fun i y q => ?_⟩⟩
  · obtain ⟨oc, u, h1, _⟩ := ca _ hb
    rw [hf] at h1
    unfold NdefX.FnO at h1
    cases h1
  · obtain ⟨oc, u, h1, _⟩ := ca _ hb
    rw [hc] at h1
    unfold LamX.CodeO at h1
    cases h1
  · obtain ⟨_, oc, u, h1, h2⟩ := hcl y b q
    obtain ⟨h3, _⟩ := hok b _ h1
    exact ⟨hideC_in ⟨y, q⟩, u, oc, h3, h2⟩
  · obtain ⟨b, hb, k⟩ := hv i y q
    refine ⟨b, hb, fun v ev => ?_⟩
    rw [List.getElem?_map] at ev
    cases e2 : cs[i]? with
    | none => rw [e2] at ev; cases ev
    | some v' =>
      rw [e2] at ev
      cases ev
      obtain ⟨oc, u, h1, h2, h3⟩ := k _ e2
      obtain ⟨h4, _⟩ := hok b _ h1
      exact ⟨u, h3, oc, h4, h2⟩
/-- f(..), f a def within a def -/
theorem snd_callv (C : Ctx T c X W r) {y : Str} {es : List Expr} {xs : Exs} {i : Nat} {p p2 : Pos} (ha : PA X es (SEs T X W r xs)) (hst : es.all notStar = true) (hn : es.length = lenXs xs) (h1 : c.N[i]? = some y) (h2 : isVis c y = true) (h3 : dbg y = false) (h4 : dbg2 y = false) (hne : 1 ≤ lenXs xs) :
    PE X (.Call (.Name y p) es [] p2) (SE T X W r (.callv i xs)) := by
  refine ⟨fun pins st σ H Q I hyp => ?_⟩
  obtain ⟨ι, S, env, s, er, f⟩ := hyp
  simp only [evalE] at f
  split at f
  case isFalse => exact f.elim
  rename_i hcan
  obtain ⟨r, rfl⟩ : ∃ r', r = r' + 1 := by
    cases r with
    | zero => cases hcan
    | succ r => exact ⟨r, rfl⟩
  split at f
  case h_2 => exact f.elim
  rename_i x caps hi
  obtain ⟨v0, hv0, rv0⟩ := er.2 i _ hi
  have rv0 : CloRep X.K X.w ι H x caps v0 := rv0
  obtain ⟨fa, _, _, _, _, rfl, _⟩ := caps_at rv0
  cases es with
  | nil => rw [← hn] at hne; simp at hne
  | cons e es =>
    simp only [List.all_cons, Bool.and_eq_true] at hst
    refine wpAny_Call_Name_kw (thn ((pe_var (pos := p) (C.name h1) (C.vis y h2) h3 h4).run pins st σ H (fun z Hz => z = .ref fa ∧ Hz = H) I ⟨.ref fa, hv0, rfl, rfl⟩) fun u s1 ⟨z, Hz, I1, r1, q1⟩ => ?_)
    obtain ⟨ez, eH⟩ := q1
    subst ez
    subst eH
    obtain rfl : u = Value.ref fa := r1
    have fnat : ∀ {ι' : List Addr} {H' : Hp} {s' : Shared}, Inv X pins σ H' s' → CloRep X.K X.w ι' H' x caps (.ref fa) → PySem.W.FnAt fa s'.heap := fun J rp => by
      obtain ⟨fb, _, _, _, _, e0, _, hf, _⟩ := caps_at rp
      cases e0
      exact NdefX.fnAt_of J hf
    refine PySem.W.callWith_F (first := []) (fnat I1 rv0) (thn (ha.run p2 pins s1 σ _ (fun vs H2 => ∃ ι2 S2 ps, Sim X.K X.w ι2 S2 H2 ∧ Reps X.K X.w ι2 H2 ps vs ∧ CloRep X.K X.w ι2 H2 x caps (.ref fa) ∧ FinG X.K X.w X.mg (WE W σ) ι2 H2 (callT T (r + 1) (.clo x) caps ps S2).calm (wantV X.K X.w Q)) I1
      ⟨ι, S, env, s, er, f.bind.imp fun vs S1 ι1 H1 g1 s1 k vs' rvs => ⟨ι1, S1, vs, s1, rvs, rv0.grow g1, k⟩⟩) fun us s2 ⟨vs, H2, I2, rr, ι2, S2, ps, sm, rps, rc, k⟩ => ⟨fnat I2 rc, ?_⟩) (star_cons hst.1) (star_plain hst.2)
    obtain ⟨fb, sx, cl, c', cs, e0, hs, hf, hc, ca, nf, nc, rcs, hcl, cells⟩ := caps_at rc
    cases e0
    cases hT : T.clos.lookup x with
    | none =>
      exfalso
      have z : callT T (r + 1) (.clo x) caps ps S2 = .bad := by simp only [callT, hT]
      rw [z] at k
      exact k
    | some fn =>
      obtain ⟨fi, n⟩ := fn
      obtain ⟨sy, hs', hn', ok⟩ := C.fns.clo r rfl x fi n hT
      rw [hs] at hs'
      cases hs'
      rw [callT_clo hT] at k
      split at k
      case isFalse => exact k.elim
      rename_i hlen
      have k' : FinG X.K X.w X.mg (fun _ _ _ => False) ι2 H2 (callBodyX (conf T r) fi caps ps S2) (wantV X.K X.w Q) := k.calm
      have hpl : vs.length = fi.params.length := by
        cases hd : decide (ps.length = fi.params.length) with
        | true => rw [rps.length]; exact of_decide_eq_true hd
        | false =>
          unfold callBodyX at k'
          rw [if_neg (of_decide_eq_false hd)] at k'
          exact k'.elim
      have sm' := hide_same ca
      have run := (ok fa cl c').run X.A X.stack s2 (hideC cl H2) us vs (cs.map some) (fun v' H' => ∃ v S3 ι3, callBodyX (conf T r) fi caps ps S2 = .ok v S3 ∧ Grow ι2 (hideC cl H2) ι3 H' ∧ Sim X.K X.w ι3 S3 H' ∧ Rep X.K X.w ι3 H' v v') (fun _ _ _ => False) C.room (env0_hide ca I2.env0)
        (by rw [hideC_out nf]; exact hf) (by
          show hideC cl H2 c' = some (LamX.CodeO c' (nestQ X.K x sx))
          rw [hideC_out nc]; exact hc) (cells _ _ I2.hok) rr ⟨ι2, S2, ps, caps, cs, sm.same sm', rps.ext sm'.ext, rfl, rcs.ext sm'.ext, hpl, by
          cases em : callBodyX (conf T r) fi caps ps S2 with
          | ok v S3 => exact fun ι' H' g' s' v' rv => ⟨v, S3, ι', rfl, g', s', rv⟩
          | exc _ _ _ =>
            rw [em] at k'
            obtain ⟨_, _⟩ := k'
            rw [em] at k
            exact k.elim
          | bad => rw [em] at k; exact k.elim⟩
      show wpAny _ _ (call (.ref fa) us) _ _ _
      refine wpAny_call (codeAny_mono run fun rs s' hq => ?_)
      cases rs with
      | error e => exact (cx_none hq).elim
      | ok fl =>
        cases fl with
        | next => exact False.elim hq
        | brk => exact False.elim hq
        | cont => exact False.elim hq
        | ret u =>
          refine I2.after (ce_show ca I2.hok I2.stkFree hq fun v' H' hn0 q => ?_)
          obtain ⟨v, S3, ι3, em, g3, s3, rv⟩ := q
          rw [em] at k
          have sm2 := show_same (H0 := H2) hn0
          exact k ι3 _ (g3.shown ca s3 hn0) (s3.same sm2) v' (rv.ext sm2.ext)
end
end EK

namespace EK
open PySem PySem.Spec PyProof.Rows L2
theorem chkEs_len {f : Expr → Ex → Bool} : ∀ {es : List Expr} {xs : Exs}, chkEs f es xs = true → es.length = lenXs xs
  | [], .nil, _ => rfl
  | e :: es, .cons x xs, h => by
    simp only [chkEs, Bool.and_eq_true] at h
    rw [List.length_cons, chkEs_len h.2]; rfl
  | [], .cons _ _, h => by simp [chkEs] at h
  | _ :: _, .nil, h => by simp [chkEs] at h
theorem chkKs_len : ∀ {es : List (Option Expr)} {xs : List Str}, chkKs es xs = true → es.length = xs.length
  | [], [], _ => rfl
  | some (.Constant (.str k) _ _) :: es, q :: qs, h => by
    simp only [chkKs, Bool.and_eq_true] at h
    rw [List.length_cons, List.length_cons, chkKs_len h.2]
  | [], _ :: _, h => by simp [chkKs] at h
  | _ :: _, [], h => by simp [chkKs] at h
theorem primNm_pos (p : Prim) : 1 ≤ (primNm p).2 := by cases p <;> decide
/-- every expression that the look passes reckons what its term says -/
theorem snd_E {T : Text} : ∀ (n : Nat) (c : Chk) (X : Cx) (W : WX) (r : Nat) (e : Expr) (x : Ex), Ctx T c X W r → chkE T n c e x = true → PE X e (SE T X W r x)
  | 0, _, _, _, _, _, _, _, h => by simp [chkE] at h
  | n + 1, c, X, W, r, e, x, C, h => by
    have ih : ∀ e x, chkE T n c e x = true → PE X e (SE T X W r x) := fun e x h => snd_E n c X W r e x C h
    cases x with
    | slot i =>
      simp only [chkE] at h
      split at h
      · simp only [Bool.and_eq_true, decide_eq_true_eq, Bool.not_eq_true'] at h
        exact snd_slot C h.1.1.1 h.1.1.2 h.1.2 h.2
      · cases h
    | cst v =>
      simp only [chkE] at h
      split at h
      · exact snd_cst C h
      · cases h
    | glo z =>
      simp only [chkE] at h
      split at h
      · simp only [Bool.and_eq_true, decide_eq_true_eq, Bool.not_eq_true'] at h
        obtain ⟨⟨rfl, h1⟩, h2⟩ := h
        exact snd_glo C h1 h2
      · cases h
    | tup xs =>
      simp only [chkE] at h
      split at h
      · exact snd_tup C (snd_es C ih h).1
      · cases h
    | lst xs =>
      simp only [chkE] at h
      split at h
      · exact snd_lst C (snd_es C ih h).1
      · cases h
    | dsp ks xs =>
      simp only [chkE] at h
      split at h
      · simp only [Bool.and_eq_true, decide_eq_true_eq] at h
        obtain ⟨⟨⟨⟨⟨h1, h2⟩, h3⟩, h4⟩, h5⟩, h6⟩ := h
        obtain ⟨p1, p2, p3⟩ := snd_pps C ih h1 h2 h3
        exact snd_dsp C p1 p2 p3 (chkKs_len h1) h3 h4 h5 h6
      · cases h
    | bin op x y =>
      simp only [chkE] at h
      split at h
      · simp only [Bool.and_eq_true, decide_eq_true_eq] at h
        obtain ⟨⟨rfl, h1⟩, h2⟩ := h
        exact snd_bin C (ih _ _ h1) (ih _ _ h2)
      · cases h
    | neg x =>
      simp only [chkE] at h
      split at h
      · exact snd_neg C (ih _ _ h)
      · cases h
    | not x =>
      simp only [chkE] at h
      split at h
      · exact snd_not C (ih _ _ h)
      · cases h
    | cmp op x y =>
      simp only [chkE] at h
      split at h
      · simp only [Bool.and_eq_true, decide_eq_true_eq, Bool.not_eq_true'] at h
        obtain ⟨⟨⟨rfl, h1⟩, h2⟩, h3⟩ := h
        exact snd_cmp C (ih _ _ h1) (ih _ _ h2) h3
      · cases h
    | chn x y z =>
      simp only [chkE] at h
      split at h
      · simp only [Bool.and_eq_true] at h
        exact snd_chn C (ih _ _ h.1.1) (ih _ _ h.1.2) (ih _ _ h.2)
      · cases h
    | and x y =>
      simp only [chkE] at h
      split at h
      · simp only [Bool.and_eq_true] at h
        exact snd_and C (ih _ _ h.1) (pe_one (ih _ _ h.2))
      · simp only [Bool.and_eq_true] at h
        exact snd_and C (ih _ _ h.1) (ih _ _ h.2)
      · cases h
    | or x y =>
      simp only [chkE] at h
      split at h
      · simp only [Bool.and_eq_true] at h
        exact snd_or C (ih _ _ h.1) (pe_one (ih _ _ h.2))
      · simp only [Bool.and_eq_true] at h
        exact snd_or C (ih _ _ h.1) (ih _ _ h.2)
      · cases h
    | ite x y z =>
      simp only [chkE] at h
      split at h
      · simp only [Bool.and_eq_true] at h
        exact snd_ite C (snd_test C ih _ _ h.1.1).1 (ih _ _ h.1.2) (ih _ _ h.2)
      · cases h
    | isN x =>
      simp only [chkE] at h
      split at h
      · exact snd_isN C (ih _ _ h)
      · cases h
    | notN x =>
      simp only [chkE] at h
      split at h
      · exact snd_notN C (ih _ _ h)
      · cases h
    | ix x y =>
      simp only [chkE] at h
      split at h
      · simp only [Bool.and_eq_true] at h
        exact snd_ix C (ih _ _ h.1.2) (ih _ _ h.2) h.1.1
      · cases h
    | sl x lo hi =>
      simp only [chkE] at h
      split at h
      · rename_i a l hh p2 p
        simp only [Bool.and_eq_true] at h
        obtain ⟨⟨h1, h2⟩, h3⟩ := h
        have pl : PO X l (SP T X W r lo) := by
          split at h2
          · exact snd_po0
          · exact snd_po1 (ih _ _ h2)
          · cases h2
        have ph : PO X hh (SP T X W r hi) := by
          split at h3
          · exact snd_po0
          · exact snd_po1 (ih _ _ h3)
          · cases h3
        exact snd_sl C (ih _ _ h1) pl ph
      · cases h
    | call f xs =>
      simp only [chkE] at h
      split at h
      · simp only [Bool.and_eq_true, decide_eq_true_eq, Bool.not_eq_true'] at h
        obtain ⟨⟨⟨⟨rfl, h1⟩, h2⟩, h3⟩, h4⟩ := h
        split at h4
        · rename_i fi hf
          simp only [Bool.and_eq_true, decide_eq_true_eq] at h4
          obtain ⟨p1, p2⟩ := snd_es C ih h3
          exact snd_call C p1 p2 (chkEs_len h3) h1 h2 hf h4.1 h4.2
        · cases h4
      · cases h
    | lrg xs =>
      simp only [chkE] at h
      split at h
      · simp only [Bool.and_eq_true, decide_eq_true_eq] at h
        obtain ⟨⟨⟨⟨rfl, h1⟩, rfl⟩, h2⟩, h3⟩ := h
        exact snd_lrg C ih h3 h1 h2
      · cases h
    | isTru x =>
      simp only [chkE] at h
      split at h
      · exact snd_isTru C (ih _ _ h)
      · cases h
    | revL x => simp [chkE] at h
    | enGet x y => simp [chkE] at h
    | new z =>
      simp only [chkE] at h
      split at h
      · simp only [Bool.and_eq_true, decide_eq_true_eq, Bool.not_eq_true'] at h
        obtain ⟨⟨rfl, h1⟩, h2⟩ := h
        exact snd_new C h1 h2
      · cases h
    | mcall m x xs =>
      simp only [chkE] at h
      split at h
      · simp only [Bool.and_eq_true, decide_eq_true_eq] at h
        obtain ⟨⟨⟨⟨⟨rfl, h1⟩, h2⟩, h3⟩, h4⟩, h5⟩ := h
        obtain ⟨p1, p2⟩ := snd_es C ih h4
        exact snd_mcall C (ih _ _ h3) p1 p2 (by rw [chkEs_len h4]; exact h5) (chkEs_len h4) h1 h2
      · cases h
    | callc g xs i =>
      simp only [chkE] at h
      split at h
      · simp only [Bool.and_eq_true, decide_eq_true_eq, Bool.not_eq_true'] at h
        obtain ⟨⟨⟨⟨rfl, h1⟩, h2⟩, h3⟩, h4⟩ := h
        split at h4
        · rename_i fi hf
          obtain ⟨p1, p2, p3⟩ := snd_esC C ih h3
          exact snd_callc C p1 p2 p3 h1 h2 hf (of_decide_eq_true h4)
        · cases h4
      · cases h
    | callv i xs =>
      simp only [chkE] at h
      split at h
      · simp only [Bool.and_eq_true, decide_eq_true_eq, Bool.not_eq_true'] at h
        obtain ⟨⟨⟨⟨⟨h1, h2⟩, h3⟩, h4⟩, h5⟩, h6⟩ := h
        obtain ⟨p1, p2⟩ := snd_es C ih h5
        exact snd_callv C p1 p2 (chkEs_len h5) h1 h2 h3 h4 h6
      · cases h
    | prim p xs =>
      simp only [chkE] at h
      split at h
      · simp only [Bool.and_eq_true, decide_eq_true_eq] at h
        obtain ⟨⟨⟨rfl, h1⟩, h3⟩, h4⟩ := h
        obtain ⟨p1, p2⟩ := snd_es C ih h3
        refine snd_prim C p1 p2 ?_ h1
        · intro e
          have q1 := chkEs_len h3
          have q2 := primNm_pos p
          rw [e, h4] at q1
          simp at q1; omega
      · cases h
    | meth m x xs =>
      simp only [chkE] at h
      split at h
      · simp only [Bool.and_eq_true, decide_eq_true_eq] at h
        obtain ⟨⟨⟨⟨⟨rfl, h1⟩, h2⟩, h3⟩, h4⟩, h5⟩ := h
        obtain ⟨p1, p2⟩ := snd_es C ih h4
        exact snd_meth C (ih _ _ h3) p1 p2 (by rw [chkEs_len h4]; exact h5) (chkEs_len h4) h1 h2
      · cases h
    | isT t x =>
      simp only [chkE] at h
      split at h
      · simp only [Bool.and_eq_true, decide_eq_true_eq] at h
        obtain ⟨⟨⟨⟨⟨rfl, h1⟩, h2⟩, h3⟩, rfl⟩, h5⟩ := h
        exact snd_isT C (ih _ _ h3) h2 h1 h5
      · cases h
    | cel x =>
      simp only [chkE] at h
      have e1 : evalE (conf T r) (.cel x) = evalE (conf T r) x := by
        funext env S
        simp only [evalE]
      show PE X e (SE T X W r (.cel x))
      unfold SE
      rw [e1]
      rw [Bool.and_eq_true] at h
      exact ih _ _ h.2
    | comp own tg k src cond elt =>
      obtain ⟨el, tge, iter, ifs, scope, p, rfl, L⟩ := lc_of h
      exact snd_comp C (snd_E n) L
end EK

namespace EK
open PySem PySem.Spec PyProof.Rows L2

/-! ### statements -/
def FinS (K : PySem.W.Frag) (w : World) (mg : Str → Option Value) (W : WX) (D : Ends) (ι : List Addr) (H : Hp) (m : SRes) : Prop := match m with
  | .nx env S => ∀ ι' H' σ', Grow ι H ι' H' → Sim K w ι' S H' → EnvR K w ι' H' env σ' → D.nx σ' H'
  | .brk env S => ∀ ι' H' σ', Grow ι H ι' H' → Sim K w ι' S H' → EnvR K w ι' H' env σ' → D.bk σ' H'
  | .ct env S => ∀ ι' H' σ', Grow ι H ι' H' → Sim K w ι' S H' → EnvR K w ι' H' env σ' → D.ct σ' H'
  | .ret v S => ∀ ι' H', Grow ι H ι' H' → Sim K w ι' S H' → ∀ v', Rep K w ι' H' v v' → D.rt v' H'
  | .exc c fs env S => fs = [] ∧ ∀ ι' H' σ' cls, Grow ι H ι' H' → Sim K w ι' S H' → EnvR K w ι' H' env σ' → mg c = some cls → W cls none σ' H'
  | .bad => False
def tSm (K : PySem.W.Frag) (w : World) (mg : Str → Option Value) (W : WX) (m : Env → Store → SRes) : TS := fun D σ H => ∃ ι S env, Sim K w ι S H ∧ EnvR K w ι H env σ ∧ FinS K w mg W D ι H (m env S)
section
variable {K : PySem.W.Frag} {w : World} {mg : Str → Option Value} {W : WX} {D D' : Ends} {ι ι' : List Addr} {H H' : Hp}
theorem FinS.grow {m : SRes} (g : Grow ι H ι' H') (h : FinS K w mg W D ι H m) : FinS K w mg W D ι' H' m := by
  cases m with
  | nx env S => exact fun i2 H2 σ' g2 => h i2 H2 σ' (g.trans g2)
  | brk env S => exact fun i2 H2 σ' g2 => h i2 H2 σ' (g.trans g2)
  | ct env S => exact fun i2 H2 σ' g2 => h i2 H2 σ' (g.trans g2)
  | ret v S => exact fun i2 H2 g2 => h i2 H2 (g.trans g2)
  | exc c fs env S => exact ⟨h.1, fun i2 H2 σ' cls g2 => h.2 i2 H2 σ' cls (g.trans g2)⟩
  | bad => exact h
theorem FinS.thn {m : SRes} {f : Env → Store → SRes} (h : FinS K w mg W D ι H (m.thn f)) : FinS K w mg W { D with nx := tSm K w mg W f D } ι H m := by
  cases m with
  | nx env S => exact fun i2 H2 σ' g2 s2 e2 => ⟨i2, S, env, s2, e2, h.grow g2⟩
  | brk env S => exact h
  | ct env S => exact h
  | ret v S => exact h
  | exc c fs env S => exact h
  | bad => exact h
/-- an expression within a statement -/
theorem FinS.ex {env : Env} {σ : L2.St} {m : Res PV} {f : PV → Store → SRes} (h : FinS K w mg W D ι H (m.sbind env f)) (er : EnvR K w ι H env σ) :
    FinG K w mg (WE W σ) ι H m fun v S i2 H2 => FinS K w mg W D i2 H2 (f v S) := by
  cases m with
  | ok v S => exact fun i2 H2 g2 s2 => FinS.grow g2 h
  | exc c fs S => exact ⟨h.1, fun i2 H2 cls g2 s2 hc => h.2 i2 H2 σ cls g2 s2 (er.grow g2) hc⟩
  | bad => exact h
end
/-- the def that runs is x, its code object and table are known -/
structure MeOk (X : Cx) (x : Str) : Prop where
  code : X.env.code = .ref (He.cT X.K (x, none)).1
  tab : LamX.TabB X.base X.mg (He.cT X.K (x, none)).1 (He.cT X.K (x, none)).2
  qual : ∀ st, nestIn X.K x = some st → nestQ X.K x st = X.env.qual ++ nestNm st
  fn : ∀ y, X.fn y = true
structure SCtx (T : Text) (c : Chk) (X : Cx) (W : WX) (r : Nat) : Prop extends Ctx T c X W r where
  pass : PassesOwn (model X.prog X.w) X.A X.env X.xe
  stk : X.stack = X.env :: X.outer
  frm : X.env.frame = some X.env.locals
  me : c.me ∈ T.clos.map (·.1) → MeOk X c.me
section
variable {T : Text} {c : Chk} {X : Cx} {W : WX} {r : Nat}
abbrev SS (T : Text) (X : Cx) (W : WX) (r : Nat) (x : Sm) : TS := tSm X.K X.w X.mg W (execS (conf T r) x)
abbrev SSs (T : Text) (X : Cx) (W : WX) (r : Nat) (x : Sms) : TS := tSm X.K X.w X.mg W (execSs (conf T r) x)
theorem snd_nil : PSs X [] (SSs T X W r .nil) := PSs.imp pss_nil fun D σ H ⟨ι, S, env, s, er, f⟩ => by
  simp only [execSs] at f
  exact f ι H σ .refl s er
theorem snd_cons {st : Stmt} {rest : List Stmt} {x : Sm} {xs : Sms} (h1 : PS X st (SS T X W r x)) (h2 : PSs X rest (SSs T X W r xs)) : PSs X (st :: rest) (SSs T X W r (.cons x xs)) :=
  PSs.imp (pss_cons h1 h2) fun D σ H ⟨ι, S, env, s, er, f⟩ => by
    simp only [execSs] at f
    exact ⟨ι, S, env, s, er, f.thn⟩
theorem snd_nev {st : Stmt} : PS X st (SS T X W r .nev) := ⟨fun _ _ σ H D _ ⟨ι, S, env, s, er, f⟩ => by
  simp only [execS] at f
  exact f.elim⟩
/-- try: body; except x: y = None -/
theorem snd_tryN (C : SCtx T c X W r) {body : List Stmt} {xs : Sms} {x y : Str} {i j : Nat} {np pos pos' py p2 p3 : Pos} (hx : x ∈ T.excs) (hg : isGl c x = true) (hd : dbg x = false) (hi : c.N[i]? = some y) (ht : isTg c y = true)
    (hb : ∀ X' W', SCtx T c X' W' r → X'.K = X.K → X'.w = X.w → X'.mg = X.mg → X'.env = X.env → PSs X' body (SSs T X' W' r xs)) :
    PS X (.Try body [.ExceptHandler (some (.Name x np)) none [.Assign [.Name y py] (.Constant .none j p2) p3] pos'] [] [] pos) (SS T X W r (.tryN xs x i)) := by
  obtain ⟨cl, gC, q, kC, r1, r2, hm⟩ := C.exc x hx
  obtain ⟨l1, l2⟩ := C.tg y ht
  refine PS.imp (ps_try_only (Wout := W) (ts := fun _ _ _ D σ H => D.nx (σ.set i (some .non)) H) (tb := fun W' => SSs T X W' r xs) C.stk C.frm ⟨C.gl x hg, hd, .inl gC⟩ C.tk (fun W' pn xe tk pw => ?_) fun a oe cls d pn _ _ => ?_) fun D σ H ⟨ι, S, env, s, er, f⟩ => ?_
  · exact hb (X.tr pn xe) W' ⟨⟨C.hN, C.nd, C.vis, C.loc, C.tg, C.gl, C.fre, C.cel, C.calm, C.room, tk, C.fns, C.free, C.exc, C.cls, C.glob⟩, pw, C.stk, C.frm, fun h => ⟨(C.me h).code, (C.me h).tab, (C.me h).qual, (C.me h).fn⟩⟩ rfl rfl rfl rfl
  · exact pss_one (ps_set (X := X.suite a ((a, oe) :: pn)) (i := i) C.nd (C.name hi) l1 pe_non rfl l2)
  · simp only [execS] at f
    refine ⟨ι, S, env, s, er, ?_⟩
    show FinS X.K X.w X.mg (wOnly X.K (.ref cl) (fun _ _ _ D σ H => D.nx (σ.set i (some .non)) H) W D) D ι H (execSs (conf T r) xs env S)
    cases e : execSs (conf T r) xs env S with
    | nx e5 S5 => rw [e] at f; exact f
    | ret v5 S5 => rw [e] at f; exact f
    | brk e5 S5 => rw [e] at f; exact f
    | ct e5 S5 => rw [e] at f; exact f
    | bad => rw [e] at f; exact f
    | exc cc fs e5 S5 =>
      rw [e] at f
      simp only at f
      split at f
      · rename_i hcf
        obtain ⟨rfl, rfl⟩ := hcf
        refine ⟨rfl, fun ι' H' σ' cls g s' er' hcl => ?_⟩
        rw [gC] at hcl
        cases hcl
        refine ⟨true, hm, fun _ a _ => ?_, fun z => by cases z⟩
        exact f ι' H' _ g s' (er'.set i .ofNon)
      · exact f.elim
theorem snd_pass {p : Pos} : PS X (.Pass p) (SS T X W r .pass) := PS.imp ps_pass fun D σ H ⟨ι, S, env, s, er, f⟩ => by
  simp only [execS] at f
  exact f ι H σ .refl s er
theorem snd_doc {x : Str} {j : Nat} {p p' : Pos} : PS X (.Expr (.Constant (.str x) j p) p') (SS T X W r .pass) := PS.imp ps_doc fun D σ H ⟨ι, S, env, s, er, f⟩ => by
  simp only [execS] at f
  exact f ι H σ .refl s er
theorem snd_exp {e : Expr} {x : Ex} {p : Pos} (h : PE X e (SE T X W r x)) (hc : notComp e = true) : PS X (.Expr e p) (SS T X W r (.exp x)) := PS.imp (ps_expr h (swaps_no hc)) fun D σ H ⟨ι, S, env, s, er, f⟩ => by
  simp only [execS] at f
  exact ⟨ι, S, env, s, er, (f.ex er).imp fun v S1 ι1 H1 g1 s1 k v' rv => k ι1 H1 σ .refl s1 (er.grow g1)⟩
theorem snd_ret {e : Expr} {x : Ex} {p : Pos} (h : PE X e (SE T X W r x)) : PS X (.Return (some e) p) (SS T X W r (.ret x)) := PS.imp (ps_ret h) fun D σ H ⟨ι, S, env, s, er, f⟩ => by
  simp only [execS] at f
  exact ⟨ι, S, env, s, er, (f.ex er).imp fun v S1 ι1 H1 g1 s1 k v' rv => k ι1 H1 .refl s1 v' rv⟩
/-- the target's store, read -/
theorem asg_read {t : Tgt} {v : PV} {env : Env} {S : Store} {σ : L2.St} {ι : List Addr} {H : Hp} {D : Ends} {v' : V} (s : Sim X.K X.w ι S H) (er : EnvR X.K X.w ι H env σ) (rv : Rep X.K X.w ι H v v')
    (k : FinS X.K X.w X.mg W D ι H (match asgM t v env with
      | some e1 => .nx e1 S
      | none => .bad)) : tT X.K X.w t v' σ H D.nx := by
  cases e : asgM t v env with
  | none => rw [e] at k; exact k.elim
  | some e1 =>
    rw [e] at k
    exact ⟨ι, S, env, v, e1, s, er, rv, e, fun σ' e2 _ => k ι H σ' .refl s e2⟩
theorem asgS_read {t : Tgt} {x : Ex} {D : Ends} {σ : L2.St} {H : Hp} (h : SS T X W r (.asg t x) D σ H) : tAsg (SE T X W r x) (tT X.K X.w t) D σ H := by
  obtain ⟨ι, S, env, s, er, f⟩ := h
  simp only [execS] at f
  exact ⟨ι, S, env, s, er, (f.ex er).imp fun v S1 ι1 H1 g1 s1 k v' rv => asg_read s1 (er.grow g1) rv k⟩
theorem snd_asg (C : Ctx T c X W r) {tg e : Expr} {t : Tgt} {x : Ex} {p : Pos} (h : PE X e (SE T X W r x)) (ht : chkTg c tg t = true) (hc : notComp e = true) (hw : isTup tg = false ∨ isTup e = false) : PS X (.Assign [tg] e p) (SS T X W r (.asg t x)) := by
  refine PS.imp (ps_asg h (snd_tg C ht) (swaps_no hc) ?_ ?_) fun D σ H h => asgS_read h
  · rcases hw with hw | hw
    · cases tg <;> first | rfl | (simp [chkTg] at ht; done) | (simp [isTup] at hw)
    · cases tg <;> first | (simp [chkTg] at ht; done) | (cases e <;> first | rfl | (simp [isTup] at hw))
  · cases tg <;> first | rfl | (simp [chkTg] at ht; done)
theorem snd_asgT (C : Ctx T c X W r) {es : List Expr} {kk : Nat} {tp : Pos} {e : Expr} {t : Tgt} {x : Ex} {p : Pos} (h : PE X e (SE T X W r x)) (ht : chkTg c (.Tuple es kk tp) t = true) (hw : isTup e = false) : PS X (.Assign [.Tuple es kk tp] e p) (SS T X W r (.asg t x)) := by
  refine PS.imp (ps_asg h (snd_tg C ht) ?_ ?_ ?_) fun D σ H h => asgS_read h
  · cases e <;> rfl
  · cases e <;> first | rfl | (simp [isTup] at hw)
  · rfl
theorem sw_false {elt : Expr} {gs : List Comprehension} {scope : Scope} {pos py : Pos} {y : Str} {l : Nat} {env : PySem.Env} (hy : env.scope.names.lookup y = some .cell) :
    swapsWith (.ListComp elt gs scope pos) (some (.Name y py)) l env = pure false := by
  have ky : env.kindOf y = some .cell := hy
  unfold swapsWith
  simp only [ky]
  have e : (some NameKind.cell == some NameKind.local) = false := rfl
  simp only [e, Bool.and_false, Bool.false_and]
/-- name = [..], the name captured -/
theorem snd_asgCell (C : Ctx T c X W r) {y : Str} {py : Pos} {t : Tgt} {x : Ex} {elt : Expr} {gs : List Comprehension} {scope : Scope} {p p2 : Pos} (h : PE X (.ListComp elt gs scope p) (SE T X W r x)) (ht : chkTg c (.Name y py) t = true) (hy : X.env.scope.names.lookup y = some .cell) :
    PS X (.Assign [.Name y py] (.ListComp elt gs scope p) p2) (SS T X W r (.asg t x)) :=
  PS.imp (ps_asg h (snd_tg C ht) (show swapsWithSole [.Name y py] (.ListComp elt gs scope p) p2.line X.env = pure false from sw_false (l := p2.line) (env := X.env) hy) rfl rfl) fun D σ H h => asgS_read h
/-- name = [..] on one line -/
theorem snd_asgLc (C : Ctx T c X W r) {n : Nat} {y : Str} {py : Pos} {i : Nat} {own : List Nat} {tg : Tgt} {k : IK} {src cond : Exs} {elt : Ex} {el tge iter : Expr} {ifs : List Expr} {scope : Scope} {p p2 : Pos}
    (L : LcOk T n c own tg k src cond elt el tge iter ifs scope) (ht : chkTg c (.Name y py) (.nm i) = true) (hloc : isLoc c y = true) (hk : X.env.scope.kind = .function) (hl : (py.line == p.line) = true) (ha : (scope.names.any fun q => q.1 == y && (q.2 == .local || q.2 == .cell)) = false) :
    PS X (.Assign [.Name y py] (.ListComp el [⟨tge, iter, ifs, 0⟩] scope p) p2) (SS T X W r (.asg (.nm i) (.comp own tg k src cond elt))) := by
  simp only [chkTg, Bool.and_eq_true, decide_eq_true_eq] at ht
  have l2 := C.loc y hloc
  have ih := snd_E (T := T) n
  refine PS.imp (ps_setLc (own := ownP X.N own) (wi := SI T X W r k src) (g := tT X.K X.w tg) (tt := tMt X.K X.w X.mg (fun _ _ _ _ => False) (evalC (conf T r) cond)) (te := SE T X (fun _ _ _ _ => False) r elt) C.calm C.nd (C.name ht.1) l2 (sw_true hk l2 hl ha)
    (snd_it C (fun e x h => ih c X W r e x C h) L.it) (blk_ok C L.blk) (fun s H L' cl fp => snd_tg (X := X.blk s H scope (compEnvC scope cl L' X.env) fp) (blk_ctx C) L.tgt) (fun s H L' cl fp => snd_conds (X := X.blk s H scope (compEnvC scope cl L' X.env) fp) (blk_ctx C) (fun e x h => ih _ _ _ _ e x (blk_ctx C) h) L.cond)
    (fun s H L' cl fp => ih _ (X.blk s H scope (compEnvC scope cl L' X.env) fp) _ _ _ _ (blk_ctx C) L.elt) (folded_no L.set)) fun D σ H h => ?_
  obtain ⟨ι, S, env, s, er, f⟩ := asgS_read h
  show tLc _ _ _ _ _ σ H _
  rw [ownP_ix]
  refine comp_read L.inown (conds_len L.cond) ⟨ι, S, env, s, er, f.imp fun v S1 ι1 H1 g1 s1 kk v' rv => ?_⟩
  obtain ⟨ι2, S2, env2, v2, e2, s2, er2, rv2, ea, q⟩ := kk v' rv
  simp only [asgM, Option.some.injEq] at ea
  subst ea
  exact q _ (er2.set i rv2) fun vs hvs => wipe_own (List.contains_iff_mem.mp hvs)
theorem truB_s {K : PySem.W.Frag} {w : World} {mg : Str → Option Value} {D : Ends} {ι : List Addr} {H : Hp} {env : Env} {σ : L2.St} {m : Res Bool} {f : Bool → Store → SRes} (h : FinS K w mg W D ι H (match m with
      | .ok b S1 => f b S1
      | .exc c fs S1 => .exc c fs env S1
      | .bad => .bad)) (er : EnvR K w ι H env σ) : FinG K w mg (WE W σ) ι H m fun v S i2 H2 => FinS K w mg W D i2 H2 (f v S) := by
  cases m with
  | ok v S => exact fun i2 H2 g2 s2 => FinS.grow g2 h
  | exc c fs S => exact ⟨h.1, fun i2 H2 cls g2 s2 hc => h.2 i2 H2 σ cls g2 s2 (er.grow g2) hc⟩
  | bad => exact h
theorem snd_ifs {t : Expr} {a b : List Stmt} {x : Ex} {xs ys : Sms} {p : Pos} (h : PT X t (ST T X W r x)) (h1 : PSs X a (SSs T X W r xs)) (h2 : PSs X b (SSs T X W r ys)) : PS X (.If t a b p) (SS T X W r (.ifs x xs ys)) :=
  PS.imp (ps_if h h1 h2) fun D σ H ⟨ι, S, env, s, er, f⟩ => by
    simp only [execS] at f
    have f' : FinS X.K X.w X.mg W D ι H (match truB (evalE (conf T r) x env S) with
      | .ok b S1 => (fun b S1 => if b then execSs (conf T r) xs env S1 else execSs (conf T r) ys env S1) b S1
      | .exc c fs S1 => .exc c fs env S1
      | .bad => .bad) := by
      cases e : truB (evalE (conf T r) x env S) with
      | ok b S1 => rw [e] at f; cases b <;> exact f
      | exc c fs S1 => rw [e] at f; exact f
      | bad => rw [e] at f; exact f
    refine ⟨ι, S, env, s, er, (truB_s f' er).imp fun b S1 ι1 H1 g1 s1 k => ?_⟩
    cases b with
    | true => rw [if_pos rfl] at k ⊢; exact ⟨ι1, S1, env, s1, er.grow g1, k⟩
    | false => rw [if_neg Bool.false_ne_true] at k ⊢; exact ⟨ι1, S1, env, s1, er.grow g1, k⟩
theorem snd_for (C : SCtx T c X W r) {f : Expr → Ex → Bool} (hf : ∀ e x, f e x = true → PE X e (SE T X W r x)) {tge iter : Expr} {body : List Stmt} {t : Tgt} {k : IK} {src : Exs} {xs : Sms} {p : Pos} (hi : chkIt c f iter tge k src = true) (ht : chkTg c tge t = true) (hs : notSet iter = true)
    (hb : PSs X body (SSs T X W r xs)) : PS X (.For tge iter body [] p) (SS T X W r (.for t k src xs)) := by
  refine PS.imp (ps_for C.pass C.calm (snd_it C.toCtx hf hi) (snd_tg C.toCtx ht) hb (folded_no hs)) fun D σ H ⟨ι, S, env, s, er, f⟩ => ?_
  simp only [execS] at f
  have f' : FinG X.K X.w X.mg (WE W σ) ι H (evalEs (conf T r) src env S) fun vs S1 i2 H2 => FinS X.K X.w X.mg W D i2 H2 (match lenM k vs S1 with
      | none => .bad
      | some n0 => forLoop (stepM k vs n0) (asgM t) (execSs (conf T r) xs) (n0 + 1) 0 env S1) := by
    cases e : evalEs (conf T r) src env S with
    | ok v S => rw [e] at f; exact fun i2 H2 g2 s2 => FinS.grow g2 f
    | exc c fs S => rw [e] at f; exact ⟨f.1, fun i2 H2 cls g2 s2 hc => f.2 i2 H2 σ cls g2 s2 (er.grow g2) hc⟩
    | bad => rw [e] at f; exact f
  refine ⟨ι, S, env, s, er, f'.imp fun vs S1 ι1 H1 g1 s1 f1 => ?_⟩
  cases e0 : lenM k vs S1 with
  | none => simp only [e0] at f1; exact f1.elim
  | some n0 =>
    simp only [e0] at f1
    refine ⟨n0, rfl, fun J bear => ?_⟩
    let Wn : Nat → Nat → L2.St → Hp → Prop := fun i m σ H => ∃ ι S env, Grow ι1 H1 ι H ∧ Sim X.K X.w ι S H ∧ EnvR X.K X.w ι H env σ ∧
      FinS X.K X.w X.mg W D ι H (forLoop (stepM k vs n0) (asgM t) (execSs (conf T r) xs) m i env S)
    refine ⟨Wn, ⟨n0 + 1, ι1, S1, env, .refl, s1, er.grow g1, f1⟩, fun i m σ H2 hW => ?_⟩
    obtain ⟨ι2, S2, env2, g2, s2, er2, f2⟩ := hW
    cases m with
    | zero => exact f2.elim
    | succ m =>
      simp only [forLoop] at f2
      obtain ⟨b1, b2⟩ := bear ι2 S2 H2 g2 s2 i
      cases es : stepM k vs n0 i S2 with
      | bad => simp only [es] at f2; exact f2.elim
      | stop =>
        simp only [es] at f2
        exact .inl ⟨b1 es, f2 ι2 H2 σ .refl s2 er2⟩
      | item v =>
        simp only [es] at f2
        obtain ⟨hgo, hy⟩ := b2 v es
        refine .inr ⟨hgo, Wn (i + 1) m, fun σ' H' hN => ⟨m, Nat.lt_succ_self m, hN⟩, fun x H3 hx => ?_⟩
        obtain ⟨g3, s3, rx⟩ := hy x H3 hx
        cases ea : asgM t v env2 with
        | none => simp only [ea] at f2; exact f2.elim
        | some e1 =>
          simp only [ea] at f2
          refine ⟨ι2, S2, env2, v, e1, s3, er2.grow g3, rx, ea, fun σ2 er4 _ => ⟨ι2, S2, e1, s3, er4, ?_⟩⟩
          cases eb : execSs (conf T r) xs e1 S2 with
          | nx e5 S5 =>
            simp only [eb] at f2
            exact fun ι5 H5 σ5 g5 s5 er5 => ⟨ι5, S5, e5, (g2.trans g3).trans g5, s5, er5, f2.grow (g3.trans g5)⟩
          | ct e5 S5 =>
            simp only [eb] at f2
            exact fun ι5 H5 σ5 g5 s5 er5 => ⟨ι5, S5, e5, (g2.trans g3).trans g5, s5, er5, f2.grow (g3.trans g5)⟩
          | brk e5 S5 =>
            simp only [eb] at f2
            exact fun ι5 H5 σ5 g5 s5 er5 => f2 ι5 H5 σ5 (g3.trans g5) s5 er5
          | ret v5 S5 =>
            simp only [eb] at f2
            exact f2.grow (D := D) g3
          | exc cc fs e5 S5 =>
            simp only [eb] at f2
            exact f2.grow (D := D) g3
          | bad => simp only [eb] at f2; exact f2.elim
theorem snd_while (C : SCtx T c X W r) {t : Expr} {body : List Stmt} {x : Ex} {xs : Sms} {p : Pos} (ht : PT X t (ST T X W r x)) (hb : PSs X body (SSs T X W r xs)) : PS X (.While t body [] p) (SS T X W r (.while x xs)) := by
  refine PS.imp (ps_while C.pass ht hb) fun D σ H ⟨ι, S, env, s, er, f⟩ => ?_
  simp only [execS] at f
  let Wn : Nat → L2.St → Hp → Prop := fun m σ H' => ∃ ι' S env, Grow ι H ι' H' ∧ Sim X.K X.w ι' S H' ∧ EnvR X.K X.w ι' H' env σ ∧
    FinS X.K X.w X.mg W D ι' H' (whileLoop (fun env S => truB (evalE (conf T r) x env S)) (execSs (conf T r) xs) m env S)
  refine ⟨Wn, ⟨whileMost, ι, S, env, .refl, s, er, f⟩, fun m σ H2 hW => ?_⟩
  obtain ⟨ι2, S2, env2, g2, s2, er2, f2⟩ := hW
  cases m with
  | zero => exact f2.elim
  | succ m =>
    simp only [whileLoop] at f2
    have f' : FinS X.K X.w X.mg W D ι2 H2 (match truB (evalE (conf T r) x env2 S2) with
      | .ok b S1 => (fun b S1 => if b then (match execSs (conf T r) xs env2 S1 with
        | .nx e2 S2 => whileLoop (fun env S => truB (evalE (conf T r) x env S)) (execSs (conf T r) xs) m e2 S2
        | .ct e2 S2 => whileLoop (fun env S => truB (evalE (conf T r) x env S)) (execSs (conf T r) xs) m e2 S2
        | .brk e2 S2 => .nx e2 S2
        | r => r) else .nx env2 S1) b S1
      | .exc c fs S1 => .exc c fs env2 S1
      | .bad => .bad) := by
      cases e : truB (evalE (conf T r) x env2 S2) with
      | ok b S1 => rw [e] at f2; cases b <;> exact f2
      | exc c fs S1 => rw [e] at f2; exact f2
      | bad => rw [e] at f2; exact f2
    refine ⟨ι2, S2, env2, s2, er2, (truB_s f' er2).imp fun b S3 ι3 H3 g3 s3 k => ?_⟩
    cases b with
    | false =>
      rw [if_neg Bool.false_ne_true] at k ⊢
      exact k ι3 H3 σ .refl s3 (er2.grow g3)
    | true =>
      rw [if_pos rfl]
      simp only [if_true] at k
      refine ⟨Wn m, fun σ' H' hN => ⟨m, Nat.lt_succ_self m, hN⟩, ι3, S3, env2, s3, er2.grow g3, ?_⟩
      cases eb : execSs (conf T r) xs env2 S3 with
      | nx e5 S5 =>
        simp only [eb] at k
        exact fun ι5 H5 σ5 g5 s5 er5 => ⟨ι5, S5, e5, (g2.trans g3).trans g5, s5, er5, k.grow g5⟩
      | ct e5 S5 =>
        simp only [eb] at k
        exact fun ι5 H5 σ5 g5 s5 er5 => ⟨ι5, S5, e5, (g2.trans g3).trans g5, s5, er5, k.grow g5⟩
      | brk e5 S5 =>
        simp only [eb] at k
        exact fun ι5 H5 σ5 g5 s5 er5 => k ι5 H5 σ5 g5 s5 er5
      | ret v5 S5 =>
        simp only [eb] at k
        exact k
      | exc cc fs e5 S5 =>
        simp only [eb] at k
        exact k
      | bad => simp only [eb] at k; exact k.elim
end
end EK

namespace EK
open PySem PySem.Spec PyProof.Rows L2
/-! ### a def of its own handed on: its cells known meanwhile -/
open Classical in
noncomputable def knowC (cl : List (Str × Addr)) (h : Heap) (H : Hp) : Hp := fun b => if isCap cl b then (h.get? b).map (fun o => .frz o (.own b)) else H b
section
variable {cl : List (Str × Addr)} {H : Hp} {b : Addr} {h : Heap}
theorem knowC_in {o : Obj} (hc : isCap cl b) (e : h.get? b = some o) : knowC cl h H b = some (.frz o (.own b)) := by
  unfold knowC
  rw [if_pos hc, e]
  rfl
theorem knowC_out (hc : ¬ isCap cl b) : knowC cl h H b = H b := if_neg hc
end
/-- cells of the heap, none of them known -/
structure Loose (cl : List (Str × Addr)) (h : Heap) (H : Hp) : Prop where
  at_ : ∀ b, isCap cl b → ∃ o u, h.get? b = some o ∧ o.data = .cell u
  no : ∀ b, isCap cl b → H b = none
section
variable {P : Program} {w : World} {K : PySem.W.Frag} {mg : Str → Option Value} {base : Heap} {A : Around} {outer : List PySem.Env} {s s' : Shared} {H H' : Hp} {cl : List (Str × Addr)} {Q Q' : VK} {u : Value} {ι ι' : List Addr} {S : Store}
theorem know_same (L : Loose cl s.heap H) : Same1 H (knowC cl s.heap H) := ⟨fun a o e _ => by
  by_cases h : isCap cl a
  · rw [L.no a h] at e; cases e
  · rw [knowC_out h]; exact e⟩
theorem know_caps (L : Loose cl s.heap H) : CapsAt cl (knowC cl s.heap H) := fun b hb => by
  obtain ⟨o, u, e, d⟩ := L.at_ b hb
  exact ⟨o, u, knowC_in hb e, d⟩
theorem hok_know (L : Loose cl s.heap H) (hok : HOk P w H s.heap) : HOk P w (knowC cl s.heap H) s.heap := fun a o e => by
  by_cases h : isCap cl a
  · obtain ⟨ob, u, e1, d⟩ := L.at_ a h
    rw [knowC_in h e1] at e
    cases e
    exact ⟨e1, _, e1⟩
  · rw [knowC_out h] at e
    exact (hok a o e).stay (fun _ _ _ q => q) (fun b q => (know_same L).all _ _ q (fun _ _ z => nomatch z)) fun b xs q => (know_same L).all _ _ q (fun _ _ z => nomatch z)
theorem env0_know (L : Loose cl s.heap H) (hb : ∀ b, isCap cl b → base.get? b = none) (hf : ∀ b, isCap cl b → b ∉ frs outer) (e : Env0 P w K mg base A outer s H) : Env0 P w K mg base A outer s (knowC cl s.heap H) :=
  ⟨e.frames, e.mod, fun b o q => ⟨(e.bs b o q).1, by
    by_cases h : isCap cl b
    · rw [hb b h] at q; cases q
    · rw [knowC_out h]; exact (e.bs b o q).2⟩, e.bsz, e.funs, fun b hb2 => by
    by_cases h : isCap cl b
    · exact (hf b h hb2).elim
    · rw [knowC_out h]; exact e.frf b hb2, hok_know L e.hok, e.bare⟩
theorem ce_hide (L : Loose cl s.heap H) (h : CE outer P w (knowC cl s.heap H) s Q' u s') (hq : ∀ v H', CapsAt cl H' → Q' v H' → Q v (hideC cl H')) : CE outer P w H s Q u s' := by
  obtain ⟨v, H', os, bare, un, hok', rv, q⟩ := h
  have cap : CapsAt cl H' := fun b hb => by
    obtain ⟨o, u, e, d⟩ := L.at_ b hb
    exact ⟨o, u, un.frzs b o _ (knowC_in hb e), d⟩
  have sm := hide_same cap
  have kp : ∀ b o, isCap cl b → s.heap.get? b = some o → s'.heap.get? b = some o := fun b o hb e => (hok' b _ (un.frzs b o _ (knowC_in hb e))).1
  have out : ∀ b o, H b = some o → ¬ isCap cl b := fun b o e hb => by rw [L.no b hb] at e; cases e
  refine ⟨v, hideC cl H', os, bare, ⟨fun b o e n hf hx => ?_, fun b o e n hf hx => ?_, fun b o e n hx => ?_, fun b o e hx => un.there b o e hx, fun b xs e => ?_, fun b o x e => ?_, fun b ps e => ?_⟩, fun a o e => ?_, rv, hq v H' cap q⟩
  · by_cases hb : isCap cl b
    · exact kp b o hb e
    · exact un.keep b o e (by rw [knowC_out hb]; exact n) hf hx
  · by_cases hb : isCap cl b
    · exact ⟨o.slots, kp b o hb e⟩
    · exact un.slot b o e (by rw [knowC_out hb]; exact n) hf hx
  · by_cases hb : isCap cl b
    · exact hideC_in hb
    · rw [hideC_out hb]
      exact un.free b o e (by rw [knowC_out hb]; exact n) hx
  · have nc := out b _ e
    rw [hideC_out nc]
    exact un.tups b xs (by rw [knowC_out nc]; exact e)
  · have nc := out b _ e
    rw [hideC_out nc]
    exact un.frzs b o x (by rw [knowC_out nc]; exact e)
  · have nc := out b _ e
    rw [hideC_out nc]
    exact un.tbls b ps (by rw [knowC_out nc]; exact e)
  · obtain ⟨nc, e⟩ := hideC_of e
    exact (hok' a o e).stay (fun _ _ _ q => q) (fun b q => sm.all _ _ q (fun _ _ z => nomatch z)) fun b xs q => sm.all _ _ q (fun _ _ z => nomatch z)
/-- growing from what is known, then let go -/
theorem Grow.let_go (L : Loose cl s.heap H) (cap : CapsAt cl H') (g : Grow ι (knowC cl s.heap H) ι' H') : Grow ι H ι' (hideC cl H') := by
  have out : ∀ b o, H b = some o → ¬ isCap cl b := fun b o e hb => by rw [L.no b hb] at e; cases e
  refine ⟨⟨g.pre, fun a o e f => ?_⟩, fun a o e n nt => ?_, fun a h1 h2 => ?_, fun a h => ?_⟩
  · have nc := out a o e
    rw [hideC_out nc]
    exact g.kept a o (by rw [knowC_out nc]; exact e) f
  · have nc := out a o e
    rw [hideC_out nc]
    exact g.all a o (by rw [knowC_out nc]; exact e) n nt
  · have := g.new a h1 h2
    by_cases hc : isCap cl a
    · exact L.no a hc
    · rw [knowC_out hc] at this
      exact this
  · by_cases hc : isCap cl a
    · exact L.no a hc
    · rw [hideC_out hc] at h
      have := g.gone a h
      rw [knowC_out hc] at this
      exact this
end
/-! ### the statements -/
def plainArgs : Arguments → Bool
  | ⟨[], as, none, [], [], none, []⟩ => as.all fun a => match a with
    | ⟨_, none, _⟩ => true
    | _ => false
  | _ => false
theorem ann_none {as : List Arg} {env : PySem.Env} (h : (as.all fun a => match a with
    | ⟨_, none, _⟩ => true
    | _ => false) = true) : annotationsOf as env = [] := by
  induction as with
  | nil => rfl
  | cons a as ih =>
    simp only [List.all_cons, Bool.and_eq_true] at h
    obtain ⟨n, an, p⟩ := a
    cases an with
    | some _ => cases h.1
    | none => exact ih h.2
theorem plain_args {a : Arguments} {env : PySem.Env} (h : plainArgs a = true) : a.defaults = [] ∧ a.kw_defaults = [] ∧ annTrees a none env = [] := by
  unfold plainArgs at h
  split at h
  · rename_i as
    refine ⟨rfl, rfl, ?_⟩
    show annotationsOf (as ++ [] ++ [] ++ [] ++ []) env ++ [] = []
    simp only [List.append_nil]
    exact ann_none h
  · cases h
/-- where the tables stand -/
noncomputable def tabL (K : PySem.W.Frag) (ι : List Addr) (S : Store) : List NdefX.NTab := (List.range S.length).filterMap fun (k : Nat) => match (S[k]? : Option Cell) with
  | some (.tab y) => match nestIn K y with
    | some st => some (ι.getD k 0, fun _ _ => nestQ K y st)
    | none => none
  | _ => none
section
variable {K : PySem.W.Frag} {w : World} {ι : List Addr} {S : Store} {H H1 : Hp}
theorem tabL_mem {p : NdefX.NTab} (h : p ∈ tabL K ι S) : ∃ k y st, S[k]? = some (.tab y) ∧ nestIn K y = some st ∧ p = (ι.getD k 0, fun _ _ => nestQ K y st) := by
  unfold tabL at h
  obtain ⟨k, _, e⟩ := List.mem_filterMap.mp h
  split at e
  · rename_i y e1
    split at e
    · rename_i st e2
      exact ⟨k, y, st, e1, e2, (Option.some.inj e).symm⟩
    · cases e
  · cases e
theorem mem_tabL {k : Nat} {y : Str} {st : Stmt} (h : S[k]? = some (.tab y)) (hs : nestIn K y = some st) : ((ι.getD k 0, fun _ _ => nestQ K y st) : NdefX.NTab) ∈ tabL K ι S := by
  unfold tabL
  refine List.mem_filterMap.mpr ⟨k, List.mem_range.mpr (List.getElem?_eq_some_iff.mp h).1, ?_⟩
  simp only [h, hs]
theorem tab_at (s : Sim K w ι S H) {k : Nat} {y : Str} (h : S[k]? = some (.tab y)) : ι[k]? = some (ι.getD k 0) ∧ ι.getD k 0 = (He.cT K (y, none)).2 ∧ ∃ st, nestIn K y = some st ∧ NdefX.TabN H (ι.getD k 0) (fun _ _ => nestQ K y st) := by
  obtain ⟨a, ea, e, st, hs, t⟩ := s.cell k _ h
  have : ι.getD k 0 = a := by rw [List.getD_eq_getElem?_getD, ea]; rfl
  rw [this]
  exact ⟨ea, e, st, hs, t⟩
theorem tabs_sim (s : Sim K w ι S H) : NdefX.TabsN (tabL K ι S) H := fun p hp => by
  obtain ⟨k, y, st, e1, e2, rfl⟩ := tabL_mem hp
  obtain ⟨_, _, st', hs, t⟩ := tab_at s e1
  rw [e2] at hs
  cases hs
  exact t
theorem tabs_one (s : Sim K w ι S H) {p q : NdefX.NTab} (hp : p ∈ tabL K ι S) (hq : q ∈ tabL K ι S) (e : p.1 = q.1) : p.2 = q.2 := by
  obtain ⟨k, y, st, e1, e2, rfl⟩ := tabL_mem hp
  obtain ⟨j, z, sz, e3, e4, rfl⟩ := tabL_mem hq
  have h1 := (tab_at s e1).1
  have h2 := (tab_at s e3).1
  have e : ι.getD k 0 = ι.getD j 0 := e
  rw [← e] at h2
  have l1 := List.getElem?_eq_some_iff.mp h1
  have l2 := List.getElem?_eq_some_iff.mp h2
  have : k = j := (List.getElem_inj s.nd).mp (l1.2.trans l2.2.symm)
  subst this
  rw [e1] at e3
  cases e3
  rw [e2] at e4
  cases e4
  rfl
/-- behind the making of a def: what was there, with the tables grown -/
theorem ndef_grow (s : Sim K w ι S H) (e : LamX.ExtN H H1) (n : ∀ b, H1 b = none → H b = none) (t : NdefX.TabsN (tabL K ι S) H1) : Grow ι H ι H1 ∧ Sim K w ι S H1 := by
  have g : Grow ι H ι H1 := ⟨⟨List.prefix_rfl, fun a o q f => e a o q fun ps z => by subst z; exact f⟩, fun a o q _ nt => e a o q nt, fun _ h h' => absurd h h', n⟩
  refine ⟨g, s.len, s.nd, fun i c q => ?_⟩
  obtain ⟨a, ea, ca⟩ := s.cell i c q
  refine ⟨a, ea, ?_⟩
  cases c with
  | lst xs => obtain ⟨vs, h, r⟩ := ca; exact ⟨vs, e _ _ h (fun _ z => nomatch z), r.ext g.toExt⟩
  | ro xs => obtain ⟨vs, o, h, r⟩ := ca; exact ⟨vs, o, e _ _ h (fun _ z => nomatch z), r.ext g.toExt⟩
  | ins _ _ => exact ca.elim
  | tab x =>
    obtain ⟨e0, st, hs, _⟩ := ca
    have h1 := (tab_at s q).1
    rw [ea] at h1
    have h2 := Option.some.inj h1
    refine ⟨e0, st, hs, ?_⟩
    have := t _ (mem_tabL (ι := ι) q hs)
    rw [h2]
    exact this
theorem fr_mem {st : Stmt} {y : Str} : y ∈ frOf st ↔ (y, NameKind.free) ∈ (C8.fnScope st).names := by
  unfold frOf
  rw [List.mem_map]
  constructor
  · rintro ⟨⟨z, k⟩, h, rfl⟩
    obtain ⟨h1, h2⟩ := List.mem_filter.mp h
    cases k <;> simp at h2 <;> exact h1
  · intro h
    exact ⟨(y, .free), List.mem_filter.mpr ⟨h, rfl⟩, rfl⟩
theorem env_hide {env : Env} {σ : L2.St} {i : Nat} {v : V} (h : EnvR K w ι H env σ) : EnvR K w ι H (env.set i none) (σ.set i (some v)) := by
  refine ⟨by rw [List.length_set, List.length_set]; exact h.1, fun j x e => ?_⟩
  by_cases hj : i = j
  · subst hj
    by_cases hl : i < env.length
    · rw [List.getElem?_set_self hl] at e; cases e
    · rw [List.getElem?_eq_none (by rw [List.length_set]; omega)] at e; cases e
  · rw [List.getElem?_set_ne hj] at e ⊢
    exact h.2 j x e
/-- the values of the captured names -/
theorem caps_of {env : Env} {σ : L2.St} (h : EnvR K w ι H env σ) : ∀ {js : List Nat} {caps : List PV}, capsM env js = some caps → ∃ cs : List V, Reps K w ι H caps cs ∧ js.map (NdefX.slotAt σ) = cs.map some
  | [], caps, e => by
    cases e
    exact ⟨[], Reps.nil, rfl⟩
  | j :: js, caps, e => by
    simp only [capsM] at e
    split at e
    · rename_i v hv
      split at e
      · cases e
      · rename_i hc
        obtain ⟨v', e1, rv⟩ := h.2 j v hv
        cases q : capsM env js with
        | none => rw [q] at e; cases e
        | some ws =>
          rw [q] at e
          cases e
          obtain ⟨cs, r, e2⟩ := caps_of h q
          exact ⟨v' :: cs, Reps.cons (rv.to (by simpa using hc)) r, by rw [List.map_cons, List.map_cons, e2, NdefX.slotAt_of e1]⟩
    · cases e
end
section
variable {T : Text} {c : Chk} {X : Cx} {W : WX} {r : Nat}
/-- the reading of g(.., f), f the def made here -/
def tCap (T : Text) (X : Cx) (W : WX) (r : Nat) (x g : Str) (xs : Exs) (js : List Nat) (i : Nat) (st : Stmt) : TE := fun σ H Q => ∃ fa c' ι S env caps, σ[i]? = some (some (.ref fa)) ∧ H fa = some (NdefX.FnO fa (NdefX.NF.of st (nestNm st) (nestQ X.K x st) (cloFrom X.env.cells (C8.fnScope st).names []) c')) ∧
  H c' = some (LamX.CodeO c' (nestQ X.K x st)) ∧ fa ∉ ι ∧ c' ∉ ι ∧ Sim X.K X.w ι S H ∧ EnvR X.K X.w ι H env σ ∧ capsM env js = some caps ∧
  FinG X.K X.w X.mg (WE W σ) ι H ((evalEs (conf T (r + 1)) xs env S).bind fun vs S1 => (callT T (r + 1) (.fn g) [] (vs ++ [.clo x caps]) S1).calm) (wantV X.K X.w Q)
theorem snd_cap (C : SCtx T c X W (r + 1)) {x g : Str} {es : List Expr} {xs : Exs} {js : List Nat} {i : Nat} {st : Stmt} {f : FnI} {p p2 : Pos} (me : MeOk X x) (hs : nestIn X.K x = some st) (ha : PA X es (tEsC T X W (r + 1) xs i)) (hst : es.all notStar = true) (hne : es ≠ []) (hg : isGl c g = true) (hdb : dbg g = false)
    (hf : T.fns.lookup g = some f) (hl : lenXs xs + 1 = f.params.length) (hfree : ∀ y ∈ (C8.fnScope st).names, y.2 = .free → X.env.scope.names.lookup y.1 = some .cell ∨ X.env.scope.names.lookup y.1 = some .free) (hjs : js.map (fun j => X.N[j]?) = (frOf st).map some) :
    PE X (.Call (.Name g p) es [] p2) (tCap T X W r x g xs js i st) := by
  refine ⟨fun pins s0 σ H Q I hyp => ?_⟩
  obtain ⟨fa, c', ι, S, env, caps, hi, hfa, hc', nf, nc, sm, er, ecap, fin⟩ := hyp
  obtain ⟨⟨a, fd, hm, hk, hb, ok⟩, _⟩ := C.fns.fn r rfl g f hf
  obtain ⟨ds, bd, hd⟩ := hb 0 (Nat.zero_le _)
  rw [Nat.sub_zero, List.drop_length, List.map_nil] at hd
  cases hd
  cases es with
  | nil => exact (hne rfl).elim
  | cons e es =>
    simp only [List.all_cons, Bool.and_eq_true] at hst
    refine wpAny_Call_Name_kw (ld_glob I (C.gl g hg) hm ?_ hdb)
    refine PySem.W.callWith_K (h₀ := X.base) I.ok.mod.kin hk (thn (ha.run p2 pins s0 σ H (fun us H2 => ∃ ws ι2 S2 ps, us = ws ++ [.ref fa] ∧ Sim X.K X.w ι2 S2 H2 ∧ Reps X.K X.w ι2 H2 ps ws ∧ ps.length = lenXs xs ∧ Grow ι H ι2 H2 ∧ FinG X.K X.w X.mg (WE W σ) ι2 H2 (callT T (r + 1) (.fn g) [] (ps ++ [.clo x caps]) S2).calm (wantV X.K X.w Q)) I
      ⟨ι, S, env, sm, er, (fin_with (P := fun vs => vs.length = lenXs xs) fin.bind fun v S h => evalEs_len h).imp fun vs S1 ι1 H1 g1 s1 ⟨hlen, k⟩ => ⟨.ref fa, hi, fun ws rws => ⟨ws, ι1, S1, vs, rfl, s1, rws, hlen, g1, k⟩⟩⟩) fun us s2 ⟨vs, H2, I2, rr, ws, ι2, S2, ps, ev, s2', rps, hlen, g2, k⟩ => ⟨I2.kIn, ?_⟩) (star_cons hst.1) (star_plain hst.2)
    subst ev
    have cp := NdefX.Caps.made (X := X) I2.ok hfree (fun y hy => fr_mem.mp hy) hjs
    have cells := NdefX.cells_of I2 cp
    obtain ⟨cs, rcs, ecs⟩ := caps_of (er.grow g2) ecap
    rw [ecs] at cells
    have L : Loose (cloFrom X.env.cells (C8.fnScope st).names []) s2.heap H2 := ⟨fun b ⟨y, hy⟩ => by
      obtain ⟨_, u, o, h1, h2⟩ := cells.all y b hy
      exact ⟨o, u, h1, h2⟩, fun b ⟨y, hy⟩ => (cells.all y b hy).1⟩
    have above : ∀ b, isCap (cloFrom X.env.cells (C8.fnScope st).names []) b → X.s_0.heap.objs.size ≤ b := fun b ⟨y, hy⟩ => I2.ok.cab y b (me.fn y) (cp.sub y b hy)
    have noBase : ∀ b, isCap (cloFrom X.env.cells (C8.fnScope st).names []) b → X.base.get? b = none := fun b hb => by
      cases q : X.base.get? b with
      | none => rfl
      | some o =>
        have h1 := Heap.lt_size (I2.ok.bs b o q).1
        exact absurd (Nat.lt_of_lt_of_le h1 (above b hb)) (Nat.lt_irrefl _)
    have noFr : ∀ b, isCap (cloFrom X.env.cells (C8.fnScope st).names []) b → b ∉ frs X.stack := fun b hb hin => by
      obtain ⟨o, u, h1, h2⟩ := L.at_ b hb
      rw [C.stk] at hin
      unfold frs at hin
      rw [List.filterMap_cons, C.frm] at hin
      rcases List.mem_cons.mp hin with e | hin
      · obtain ⟨m, ⟨o2, es2, ep2, q1, q2, _⟩, _⟩ := I2.loc
        rw [← e, h1] at q1
        cases q1
        rw [h2] at q2
        cases q2
      · obtain ⟨_, o2, q1, _⟩ := I2.ok.funs.mem hin
        exact absurd (Nat.lt_of_lt_of_le (Heap.lt_size q1) (above b hb)) (Nat.lt_irrefl _)
    have smt := know_same L
    have hfa2 := g2.all _ _ hfa nf fun ps => NdefX.fnO_ne ps
    have hc2 := g2.all _ _ hc' nc fun ps => LamX.codeO_ne ps
    have out : ∀ b o, H b = some o → b ∉ ι → b ∉ ι2 := fun b o e n z => by
      have := g2.new b z n
      rw [e] at this; cases this
    have clo : CloRep X.K X.w ι2 (knowC (cloFrom X.env.cells (C8.fnScope st).names []) s2.heap H2) x caps (.ref fa) := by
      refine ⟨fa, st, _, c', rfl, hs, smt.all _ _ hfa2 (fun _ _ z => by unfold NdefX.FnO at z; cases z), smt.all _ _ hc2 (fun _ _ z => by unfold LamX.CodeO at z; cases z), out _ _ hfa nf, out _ _ hc' nc, fun y z b h1 h2 => cells.inj y z b h1 h2, fun y b hb => ?_, cs, rcs.ext smt.ext, ?_, fun j y hj => ?_⟩
      · obtain ⟨oc, u, h1, h2⟩ := L.at_ b ⟨y, hb⟩
        refine ⟨fun hin => ?_, oc, u, knowC_in ⟨y, hb⟩ h1, h2⟩
        obtain ⟨n, hn, e⟩ := List.mem_iff_getElem.mp hin
        obtain ⟨o, q⟩ := s2'.there (i := n) (a := b) (by rw [List.getElem?_eq_getElem hn, e])
        rw [L.no b ⟨y, hb⟩] at q
        cases q
      · have := cells.len
        rw [List.length_map] at this
        exact this
      · obtain ⟨b, hb, kk⟩ := cells.has j y hj
        refine ⟨b, hb, fun v' ev' => ?_⟩
        obtain ⟨u, rv, oc, h1, h2⟩ := kk v' (by rw [List.getElem?_map, ev']; rfl)
        exact ⟨oc, u, knowC_in ⟨y, hb⟩ h1, h2, rv⟩
    have e1 : callT T (r + 1) (.fn g) [] (ps ++ [.clo x caps]) S2 = callBody (conf T r) f (ps ++ [.clo x caps]) S2 := by
      have e2 : f.params.length - (ps ++ [PV.clo x caps]).length = 0 := by simp; omega
      rw [callT_fn hf, e2, Nat.sub_zero, List.drop_length, List.append_nil]
    rw [e1] at k
    have k' : FinG X.K X.w X.mg (fun _ _ _ => False) ι2 H2 (callBody (conf T r) f (ps ++ [.clo x caps]) S2) (wantV X.K X.w Q) := k.calm
    have lv : (ws ++ [V.ref fa]).length = f.params.length := by rw [List.length_append, rps.length, hlen]; exact hl
    have lu : (us ++ []).length = f.params.length := by rw [List.append_nil, ← rr.length]; exact lv
    have run := ok.run X.A X.stack s2 (knowC (cloFrom X.env.cells (C8.fnScope st).names []) s2.heap H2) ⟨us, []⟩ (us ++ []) (ws ++ [.ref fa]) (fun v' H' => ∃ v S3 ι3, callBody (conf T r) f (ps ++ [.clo x caps]) S2 = .ok v S3 ∧ Grow ι2 (knowC (cloFrom X.env.cells (C8.fnScope st).names []) s2.heap H2) ι3 H' ∧ Sim X.K X.w ι3 S3 H' ∧ Rep X.K X.w ι3 H' v v') (fun _ _ _ => False)
      C.room (env0_know L noBase noFr I2.env0) (bd s2 us I2.kIn lu) (by rw [List.append_nil]; exact rr) ⟨ι2, S2, ps ++ [.clo x caps], s2'.same smt, (RepsX.of (rps.ext smt.ext)).append (RepsX.one (x := .clo x caps) clo), lv, by
        cases em : callBody (conf T r) f (ps ++ [.clo x caps]) S2 with
        | ok v S3 => exact fun ι' H' g' s' v' rv => ⟨v, S3, ι', rfl, g', s', rv⟩
        | exc _ _ _ => rw [em] at k; exact k.elim
        | bad => rw [em] at k; exact k.elim⟩
    show wpAny _ _ (call (.ref a) us) _ _ _
    refine wpAny_call (codeAny_mono run fun rs s' hq => ?_)
    cases rs with
    | error e => exact (cx_none hq).elim
    | ok fl =>
      cases fl with
      | next => exact False.elim hq
      | brk => exact False.elim hq
      | cont => exact False.elim hq
      | ret u =>
        refine I2.after (ce_hide L hq fun v' H' cap q => ?_)
        obtain ⟨v, S3, ι3, em, g3, s3, rv⟩ := q
        rw [em] at k
        have sm2 := hide_same cap
        exact k ι3 _ (g3.let_go L cap) (s3.same sm2) v' (rv.ext sm2.ext)
theorem snd_cloRet (C : SCtx T c X W r) {x g : Str} {es : List Expr} {xs : Exs} {js : List Nat} {i : Nat} {st : Stmt} {f : FnI} {p p2 p3 pos : Pos} (me : MeOk X x) (hs : nestIn X.K x = some st) (hst : st = .FunctionDef (nestNm st) (C8.fnArgs st) (C8.fnBody st) [] none [] (C8.fnScope st) none (nestNm st) pos)
    (hargs : plainArgs (C8.fnArgs st) = true) (hi : c.N[i]? = some (nestNm st)) (htg : isTg c (nestNm st) = true) (ha : PA X es (tEsC T X W r xs i)) (hne2 : es.all notStar = true) (hne : es ≠ []) (hg : isGl c g = true) (hdb : dbg g = false)
    (hf : T.fns.lookup g = some f) (hl : lenXs xs + 1 = f.params.length) (hfree : ∀ y ∈ (C8.fnScope st).names, y.2 = .free → X.env.scope.names.lookup y.1 = some .cell ∨ X.env.scope.names.lookup y.1 = some .free) (hjs : js.map (fun j => X.N[j]?) = (frOf st).map some) :
    PSs X [st, .Return (some (.Call (.Name g p) es [] p2)) p3] (SSs T X W r (.cons (.cloRet x g xs js i) .nil)) := by
  refine ⟨fun pins s0 σ H D I hyp => ?_⟩
  obtain ⟨ι, S, env, s, er, fin⟩ := hyp
  simp only [execSs, execS] at fin
  split at fin
  case isFalse => exact fin.elim
  rename_i hcan
  obtain ⟨hcan, htab⟩ := Bool.and_eq_true_iff.mp hcan
  obtain ⟨r, rfl⟩ : ∃ r', r = r' + 1 := by
    cases r with
    | zero => cases hcan
    | succ r => exact ⟨r, rfl⟩
  obtain ⟨cell, hcell, hct⟩ := List.any_eq_true.mp htab
  obtain ⟨k, hk⟩ := List.getElem?_of_mem hcell
  have hk : S[k]? = some (.tab x) := by
    cases cell <;> simp [isTab] at hct
    subst hct
    exact hk
  split at fin
  case h_2 => exact fin.elim
  rename_i caps ecap
  obtain ⟨e1, e2, sx, hs', ht⟩ := tab_at s hk
  rw [hs] at hs'
  cases hs'
  obtain ⟨hd0, hk0, han⟩ := plain_args (env := X.env) hargs
  obtain ⟨l1, l2⟩ := C.tg _ htg
  have hm : ((He.cT X.K (x, none)).2, fun _ _ => nestQ X.K x st) ∈ tabL X.K ι S := by
    have := mem_tabL (ι := ι) hk hs
    rw [e2] at this
    exact this
  have mk := NdefX.ps_ndefMS (X := X) (T := tabL X.K ι S) (nm := fun _ _ => nestQ X.K x st) (c := (He.cT X.K (x, none)).1) (P := (He.cT X.K (x, none)).2) (pos := pos) (i := i) hst me.tab me.code hm (me.qual st hs) (fun q hq e => tabs_one s hq hm e) hfree hd0 hk0 han C.nd (C.name hi) l1 l2
  have ret := ps_ret (pos := p3) (snd_cap C me hs ha hne2 hne hg hdb hf hl hfree hjs (p := p) (p2 := p2))
  refine (pss_cons mk (pss_one ret)).run pins s0 σ H D I ⟨tabs_sim s, fun fa c' H1 eN gone tN f0 hfa hc' => ?_⟩
  obtain ⟨g1, s1⟩ := ndef_grow s eN gone tN
  have q := me.qual st hs
  have nf : ∀ b, H b = none → b ∉ ι := fun b e hin => by
    obtain ⟨n, hn, e0⟩ := List.mem_iff_getElem.mp hin
    obtain ⟨o, z⟩ := s.there (i := n) (a := b) (by rw [List.getElem?_eq_getElem hn, e0])
    rw [e] at z; cases z
  have nc : c' ∉ ι := fun hin => by
    obtain ⟨n, hn, e0⟩ := List.mem_iff_getElem.mp hin
    have hn' : ι[n]? = some c' := by rw [List.getElem?_eq_getElem hn, e0]
    have hn2 : n < S.length := by rw [← s1.len]; exact hn
    obtain ⟨b, eb, cb⟩ := s1.cell n _ (List.getElem?_eq_getElem hn2)
    rw [hn'] at eb
    cases eb
    generalize S[n] = cc at cb
    cases cc with
    | lst _ => obtain ⟨_, z, _⟩ := cb; rw [hc'] at z; unfold LamX.CodeO at z; cases z
    | ro _ => obtain ⟨_, _, z, _⟩ := cb; rw [hc'] at z; unfold LamX.CodeO at z; cases z
    | ins _ _ => exact cb.elim
    | tab _ => obtain ⟨_, _, _, _, z, _⟩ := cb; rw [hc'] at z; unfold LamX.CodeO at z; cases z
  have hq : (NdefX.NF.of st (nestNm st) (X.env.qual ++ nestNm st) (cloFrom X.env.cells (C8.fnScope st).names []) c').qual = nestQ X.K x st := q.symm
  have hi2 : i < σ.length := by
    have h1 := I.len
    have h2 := (List.getElem?_eq_some_iff.mp (C.name hi)).1
    omega
  refine ⟨fa, c', ι, S, env.set i none, caps, List.getElem?_set_self hi2, by rw [q]; exact hfa, by rw [q]; exact hc', nf fa f0, nc, s1, env_hide (er.grow g1), ecap, ?_⟩
  have fin2 : FinS X.K X.w X.mg W D ι H1 ((evalEs (conf T (r + 1)) xs (env.set i none) S).sbindL (env.set i none) fun vs S1 => match (callT T (r + 1) (.fn g) [] (vs ++ [.clo x caps]) S1).calm with
      | .ok v S2 => .ret v S2
      | _ => .bad) := by
    refine FinS.grow g1 ?_
    cases em : evalEs (conf T (r + 1)) xs (env.set i none) S with
    | bad => rw [em] at fin; exact fin.elim
    | exc cc fs S1 => rw [em] at fin; exact fin
    | ok vs S1 =>
      rw [em] at fin
      simp only [Res.sbindL] at fin ⊢
      cases en : (callT T (r + 1) (.fn g) [] (vs ++ [.clo x caps]) S1).calm with
      | ok v S2 => rw [en] at fin; exact fin
      | exc _ _ _ => rw [en] at fin; exact fin.elim
      | bad => rw [en] at fin; exact fin.elim
  cases em : evalEs (conf T (r + 1)) xs (env.set i none) S with
  | bad => rw [em] at fin2; exact fin2.elim
  | exc cc fs S1 =>
    rw [em] at fin2
    exact ⟨fin2.1, fun ι' H' cls g s' hcl => fin2.2 ι' H' _ cls g s' ((env_hide (er.grow g1)).grow g) hcl⟩
  | ok vs S1 =>
    rw [em] at fin2
    simp only [Res.sbindL, Res.bind] at fin2 ⊢
    cases en : (callT T (r + 1) (.fn g) [] (vs ++ [.clo x caps]) S1).calm with
    | ok v S2 =>
      rw [en] at fin2
      exact fun ι' H' g' s' v' rv => fin2 ι' H' g' s' v' rv
    | exc _ _ _ => rw [en] at fin2; exact fin2.elim
    | bad => rw [en] at fin2; exact fin2.elim
end
end EK

namespace EK
open PySem PySem.Spec PyProof.Rows L2
section
variable {T : Text} {c : Chk} {X : Cx} {W : WX} {r : Nat}
theorem snd_asgIx (C : Ctx T c X W r) {o i e : Expr} {x y z : Ex} {p p2 : Pos} (ho : PE X o (SE T X W r x)) (hi : PE X i (SE T X W r y)) (he : PE X e (SE T X W r z)) (hc : notComp e = true) (hs : notSlice i = true) : PS X (.Assign [.Subscript o i p] e p2) (SS T X W r (.asgIx x y z)) := by
  have hsub : ∀ v, assign (.Subscript o i p) X.env v = (do
      let ov ← holding [v] (eval o X.env)
      let iv ← holding [v, ov] (eval i X.env)
      standAt p
      holding [v, ov, iv] (setItem ov iv v)
      release [v, ov, iv] []) := fun v => by cases i <;> first | rfl | (simp [notSlice] at hs)
  refine PS.imp (ps_asg he (pg_sub ho hi set_list hsub) (show swapsWithSole [.Subscript o i p] e p2.line X.env = pure false from swaps_no (t := some (.Subscript o i p)) (l := p2.line) (env := X.env) hc) (by cases e <;> rfl) rfl) fun D σ H ⟨ι, S, env, s, er, f⟩ => ?_
  simp only [execS] at f
  refine ⟨ι, S, env, s, er, (f.ex er).imp fun v S1 ι1 H1 g1 s1 k1 v' rv => ?_⟩
  refine ⟨ι1, S1, env, s1, er.grow g1, (k1.ex (er.grow g1)).imp fun a S2 ι2 H2 g2 s2 k2 a' ra => ?_⟩
  refine ⟨ι2, S2, env, s2, (er.grow g1).grow g2, (k2.ex ((er.grow g1).grow g2)).imp fun b S3 ι3 H3 g3 s3 k3 b' rb => ?_⟩
  cases e0 : setIxM a b v S3 with
  | none => rw [e0] at k3; exact k3.elim
  | some S4 =>
    rw [e0] at k3
    unfold setIxM at e0
    split at e0
    · rename_i n k
      obtain ⟨ad, rfl, hn⟩ := (ra.grow g3).refE
      cases rb.intE
      split at e0
      · rename_i xs q
        obtain ⟨ad', vs, ea, hh, rs⟩ := s3.lst q
        rw [hn] at ea; cases ea
        split at e0
        · rename_i j hj
          cases e0
          have rset : Reps X.K X.w ι3 H3 (xs.set j v) (vs.set j v') := Reps.set j ((rv.grow g2).grow g3) rs
          refine ⟨ad, vs, k, j, rfl, rfl, hh, by rw [rs.length]; exact hj, ?_⟩
          exact k3 ι3 _ σ (.write hn hh) (s3.write hn hh rset (List.getElem?_eq_some_iff.mp q).1) ((((er.grow g1).grow g2).grow g3).grow (.write hn hh))
        · cases e0
      · cases e0
    · cases e0
/-- X(), X an own exception class without own __init__ -/
theorem pmk_own0 {C : Addr} {bmB : List Value} {B newId initId : String} {x : Str} {p pos : Pos} (F : ExcBaseFacts B newId initId bmB) (q : PySem.W.excIn X.K C bmB newId = true) (gC : X.mg x = some (.ref C))
    (kC : PySem.W.keepIn X.K (.ref C) = true) (r : Raises X (.ref C)) (hg : Gl X x) (hdb : (x == ("__debug__" : Str)) = false) :
    PMk X (.Call (.Name x p) [] [] pos) (fun _ H Q => Q (.ref C) none H) := by
  intro pins s σ H Q I h
  refine wpAny_Call_Name_kw (ld_glob I hg gC ?_ hdb)
  refine PySem.W.callWith_K0 I.kIn kC ?_
  show wpAny _ _ (call (.ref C) []) _ _ _
  obtain ⟨bm, N, nm, qn, bs, hdct, sn, sub, ab, col, dd, k0, k1, k2, k3, k5, mN, hC, hN, hni, T⟩ := exc_obj I.kIn q
  refine wpAny_call_exc_subT F T hC hN hni (fun h' e hm => ?_) (by show 0 ≤ sizeLine; omega)
  exact mk_of I hm r h (I.hok.gone hm.new)
theorem snd_raise (C : Ctx T c X W r) {x : Str} {p p2 p3 : Pos} (hx : x ∈ T.excs) (hg : isGl c x = true) (hd : dbg x = false) : PS X (.Raise (some (.Call (.Name x p) [] [] p2)) none p3) (SS T X W r (.raise x)) := by
  obtain ⟨cl, gC, q, kC, r1, r2, _⟩ := C.exc x hx
  refine PS.imp (ps_raise C.calm C.tk (pmk_own0 PySem.F.excBase_ValueError q gC kC (raises_own r1 r2) (C.gl x hg) hd)) fun D σ H ⟨ι, S, env, s, er, f⟩ => ?_
  simp only [execS] at f
  exact f.2 ι H σ _ .refl s er gC
end
/-! ### the look at statements -/
def isCell (c : Chk) (x : Str) : Bool := match c.names.lookup x with
  | some .cell => true
  | _ => false
def lcAsg (c : Chk) (tg e : Expr) : Bool := match tg, e with
  | .Name y py, .ListComp _ _ scope p => isCell c y || isLoc c y && (py.line == p.line) && !(scope.names.any fun q => q.1 == y && (q.2 == .local || q.2 == .cell))
  | _, _ => false
mutual
def chkS (T : Text) (n : Nat) (c : Chk) : Sm → Stmt → Bool
  | .asg t x, st => match st with
    | .Assign [tg] e _ => chkE T n c e x && chkTg c tg t && (if isTup tg then !isTup e else notComp e || lcAsg c tg e)
    | _ => false
  | .asgC i x, st => match st with
    | .Assign [tg] e _ => chkE T n c e x && chkTg c tg (.nm i) && (if isTup tg then !isTup e else notComp e || lcAsg c tg e)
    | _ => false
  | .asgIx x y z, st => match st with
    | .Assign [.Subscript o i _] e _ => chkE T n c o x && chkE T n c i y && chkE T n c e z && notComp e && notSlice i
    | _ => false
  | .exp x, st => match st with
    | .Expr e _ => chkE T n c e x && notComp e
    | _ => false
  | .ret x, st => match st with
    | .Return (some e) _ => chkE T n c e x
    | _ => false
  | .ifs x xs ys, st => match st with
    | .If t a b _ => chkT (chkE T n c) x t && chkSs T n c xs a && chkSs T n c ys b
    | _ => false
  | .for t k src xs, st => match st with
    | .For tge iter body [] _ => chkIt c (chkE T n c) iter tge k src && chkTg c tge t && notSet iter && chkSs T n c xs body
    | _ => false
  | .while x xs, st => match st with
    | .While t body [] _ => chkT (chkE T n c) x t && chkSs T n c xs body
    | _ => false
  | .raise x, st => match st with
    | .Raise (some (.Call (.Name y _) [] [] _)) none _ => decide (y = x) && T.excs.contains x && isGl c x && !dbg x
    | _ => false
  | .nev, _ => true
  | .tryN xs x i, st => match st with
    | .Try body [.ExceptHandler (some (.Name y _)) none [.Assign [.Name z _] (.Constant .none _ _) _] _] [] [] _ => decide (y = x) && T.excs.contains x && isGl c y && !dbg y && decide (c.N[i]? = some z) && isTg c z && chkSs T n c xs body
    | _ => false
  | .cloRet .., _ => false
  | .pass, st => match st with
    | .Pass _ => true
    | .Expr (.Constant (.str _) _ _) _ => true
    | _ => false
def chkSs (T : Text) (n : Nat) (c : Chk) : Sms → List Stmt → Bool
  | .nil, l => match l with
    | [] => true
    | _ => false
  | .cons x xs, l => match l with
    | st :: sts => chkS T n c x st && chkSs T n c xs sts
    | [] => false
end
section
variable {T : Text} {n : Nat} {c : Chk} {X : Cx} {W : WX} {r : Nat}
theorem snd_asgs (C : SCtx T c X W r) (hk : X.env.scope.kind = .function) (t : Tgt) (x : Ex) (st : Stmt) (h : chkS T n c (.asg t x) st = true) : PS X st (SS T X W r (.asg t x)) := by
  simp only [chkS] at h
  split at h
  · rename_i tg e p
    simp only [Bool.and_eq_true] at h
    obtain ⟨⟨h1, h2⟩, h3⟩ := h
    split at h3
    · rename_i ht
      obtain ⟨es, k, tp, rfl⟩ := isTup_of ht
      exact snd_asgT C.toCtx (snd_E n c X W r _ _ C.toCtx h1) h2 (by simpa using h3)
    · rename_i ht
      have ht : isTup tg = false := by simpa using ht
      cases hc : notComp e with
      | true => exact snd_asg C.toCtx (snd_E n c X W r _ _ C.toCtx h1) h2 hc (.inl ht)
      | false =>
        rw [hc, Bool.false_or] at h3
        unfold lcAsg at h3
        split at h3
        · rename_i y py el gs scope p2
          simp only [Bool.or_eq_true, Bool.and_eq_true, Bool.not_eq_true'] at h3
          rcases h3 with h3 | ⟨⟨h3, h4⟩, h5⟩
          · refine snd_asgCell C.toCtx (snd_E n c X W r _ _ C.toCtx h1) h2 (C.cel _ ?_)
            unfold isCell at h3
            split at h3
            · assumption
            · cases h3
          cases n with
          | zero => simp [chkE] at h1
          | succ n =>
            cases x <;> try (simp [chkE, notComp] at h1; done)
            rename_i own tg k src cond elt
            obtain ⟨el', tge, iter, ifs, scope', p', e, L⟩ := lc_of h1
            cases e
            cases t with
            | tp is => simp [chkTg] at h2
            | nm i => exact snd_asgLc C.toCtx L h2 h3 hk h4 h5
        · cases h3
  · cases h
mutual
theorem snd_S : ∀ (x : Sm) (st : Stmt) {X : Cx} {W : WX} (C : SCtx T c X W r) (hk : X.env.scope.kind = .function), chkS T n c x st = true → PS X st (SS T X W r x)
  | .asg t x, st, X, W, C, hk, h => snd_asgs C hk t x st h
  | .asgC i x, st, X, W, C, hk, h => by
    have e1 : execS (conf T r) (.asgC i x) = execS (conf T r) (.asg (.nm i) x) := by
      funext env S
      simp only [execS]
    show PS X st (SS T X W r (.asgC i x))
    unfold SS
    rw [e1]
    exact snd_asgs C hk (.nm i) x st (by simp only [chkS] at h ⊢; exact h)
  | .asgIx x y z, st, X, W, C, hk, h => by
    simp only [chkS] at h
    split at h
    · simp only [Bool.and_eq_true] at h
      obtain ⟨⟨⟨⟨h1, h2⟩, h3⟩, h4⟩, h5⟩ := h
      exact snd_asgIx C.toCtx (snd_E n c X W r _ _ C.toCtx h1) (snd_E n c X W r _ _ C.toCtx h2) (snd_E n c X W r _ _ C.toCtx h3) h4 h5
    · cases h
  | .exp x, st, X, W, C, hk, h => by
    simp only [chkS] at h
    split at h
    · simp only [Bool.and_eq_true] at h
      exact snd_exp (snd_E n c X W r _ _ C.toCtx h.1) h.2
    · cases h
  | .ret x, st, X, W, C, hk, h => by
    simp only [chkS] at h
    split at h
    · exact snd_ret (snd_E n c X W r _ _ C.toCtx h)
    · cases h
  | .ifs x xs ys, st, X, W, C, hk, h => by
    simp only [chkS] at h
    split at h
    · simp only [Bool.and_eq_true] at h
      exact snd_ifs (snd_test C.toCtx (fun e x h => snd_E n c X W r e x C.toCtx h) _ _ h.1.1).1 (snd_Ss xs _ C hk h.1.2) (snd_Ss ys _ C hk h.2)
    · cases h
  | .for t k src xs, st, X, W, C, hk, h => by
    simp only [chkS] at h
    split at h
    · simp only [Bool.and_eq_true] at h
      exact snd_for C (fun e x h => snd_E n c X W r e x C.toCtx h) h.1.1.1 h.1.1.2 h.1.2 (snd_Ss xs _ C hk h.2)
    · cases h
  | .while x xs, st, X, W, C, hk, h => by
    simp only [chkS] at h
    split at h
    · simp only [Bool.and_eq_true] at h
      exact snd_while C (snd_test C.toCtx (fun e x h => snd_E n c X W r e x C.toCtx h) _ _ h.1).1 (snd_Ss xs _ C hk h.2)
    · cases h
  | .raise x, st, X, W, C, hk, h => by
    simp only [chkS] at h
    split at h
    · simp only [Bool.and_eq_true, decide_eq_true_eq, Bool.not_eq_true'] at h
      obtain ⟨⟨⟨rfl, h1⟩, h2⟩, h3⟩ := h
      exact snd_raise C.toCtx (List.contains_iff_mem.mp h1) h2 h3
    · cases h
  | .nev, st, X, W, C, hk, h => snd_nev
  | .cloRet .., st, X, W, C, hk, h => by simp [chkS] at h
  | .tryN xs x i, st, X, W, C, hk, h => by
    simp only [chkS] at h
    split at h
    · rename_i body y yp z zp j p1 p2 p3 p4
      simp only [Bool.and_eq_true, decide_eq_true_eq, Bool.not_eq_true'] at h
      obtain ⟨⟨⟨⟨⟨⟨rfl, h1⟩, h2⟩, h3⟩, h4⟩, h5⟩, h6⟩ := h
      exact snd_tryN C (List.contains_iff_mem.mp h1) h2 h3 h4 h5 fun X' W' C' e1 e2 e3 e4 => snd_Ss xs body C' (by rw [e4]; exact hk) h6
    · cases h
  | .pass, st, X, W, C, hk, h => by
    simp only [chkS] at h
    split at h
    · exact snd_pass
    · exact snd_doc
    · cases h
theorem snd_Ss : ∀ (x : Sms) (st : List Stmt) {X : Cx} {W : WX} (C : SCtx T c X W r) (hk : X.env.scope.kind = .function), chkSs T n c x st = true → PSs X st (SSs T X W r x)
  | .nil, st, X, W, C, hk, h => by
    simp only [chkSs] at h
    split at h
    · exact snd_nil
    · cases h
  | .cons x xs, st, X, W, C, hk, h => by
    simp only [chkSs] at h
    split at h
    · simp only [Bool.and_eq_true] at h
      exact snd_cons (snd_S x _ C hk h.1) (snd_Ss xs _ C hk h.2)
    · cases h
end
/-! ### bodies -/
def isDoc : Stmt → Bool
  | .Expr (.Constant (.str _) _ _) _ => true
  | _ => false
def isFD : Stmt → Bool
  | .FunctionDef .. => true
  | _ => false
/-- a def of its own, then: return g(.., it) -/
def chkClo (T : Text) (n : Nat) (c : Chk) (x g : Str) (xs : Exs) (js : List Nat) (i : Nat) : Stmt → Stmt → Bool
  | .FunctionDef nm args body [] none [] scope none nm2 pos, .Return (some (.Call (.Name y _) es [] _)) _ =>
    decide (x = c.me) && decide (nm2 = nm) && plainArgs args && decide (c.N[i]? = some nm) && isTg c nm && decide (y = g) && isGl c y && !dbg y && chkEsC c (chkE T n c) es xs i && (match T.fns.lookup g with
      | some fi => decide (lenXs xs + 1 = fi.params.length)
      | none => false) && (scope.names.all fun q => !decide (q.2 = .free) || decide (c.names.lookup q.1 = some .cell) || decide (c.names.lookup q.1 = some .free)) &&
    decide (js.map (fun j => c.N[j]?) = (frOf (.FunctionDef nm args body [] none [] scope none nm2 pos)).map some)
  | _, _ => false
def chkBody (T : Text) (n : Nat) (c : Chk) : Sms → List Stmt → Bool
  | .cons (.cloRet x g xs js i) .nil, [st, ret] => (T.clos.map (·.1)).contains c.me && chkClo T n c x g xs js i st ret
  | ss, b => chkSs T n c ss b
theorem snd_clo (C : SCtx T c X W r) {x g : Str} {xs : Exs} {js : List Nat} {i : Nat} {st ret : Stmt} (hm : c.me ∈ T.clos.map (·.1)) (hs : nestIn X.K c.me = some st) (h : chkClo T n c x g xs js i st ret = true) : PSs X [st, ret] (SSs T X W r (.cons (.cloRet x g xs js i) .nil)) := by
  unfold chkClo at h
  split at h
  · rename_i nm args body scope nm2 pos y yp es p2 p3
    simp only [Bool.and_eq_true, decide_eq_true_eq, Bool.not_eq_true', List.all_eq_true, Bool.or_eq_true, decide_eq_false_iff_not] at h
    obtain ⟨⟨⟨⟨⟨⟨⟨⟨⟨⟨⟨rfl, h2⟩, h3⟩, h4⟩, h5⟩, rfl⟩, h7⟩, h8⟩, h9⟩, h10⟩, h11⟩, h12⟩ := h
    subst h2
    split at h10
    · rename_i fi hf
      obtain ⟨p1, p2', p3'⟩ := snd_esC C.toCtx (fun e x h => snd_E n c X W r e x C.toCtx h) h9
      refine snd_cloRet C (C.me hm) hs rfl h3 h4 h5 p1 p2' p3' h7 h8 hf (of_decide_eq_true h10) (fun q hq e => ?_) (by rw [C.hN]; exact h12)
      refine C.fre q.1 ?_
      rcases h11 q hq with (z | z) | z
      · exact (z e).elim
      · exact .inl z
      · exact .inr z
    · cases h10
  · cases h
theorem snd_body (C : SCtx T c X W r) (hk : X.env.scope.kind = .function) {ss : Sms} {b : List Stmt} (hs : c.me ∈ T.clos.map (·.1) → nestIn X.K c.me = b.find? isFD) (h : chkBody T n c ss b = true) : PSs X b (SSs T X W r ss) := by
  unfold chkBody at h
  split at h
  · rename_i x g xs js i st ret
    simp only [Bool.and_eq_true] at h
    obtain ⟨h2, h3⟩ := h
    have hm : c.me ∈ T.clos.map (·.1) := List.contains_iff_mem.mp h2
    refine snd_clo C hm ?_ h3
    rw [hs hm]
    unfold chkClo at h3
    split at h3
    · rfl
    · cases h3
  · exact snd_Ss _ _ C hk h
end
end EK

namespace EK
open PySem PySem.Spec PyProof.Rows L2
/-- how deep an expression is looked at -/
def look : Nat := 60
/-- what is known of one def -/
structure DefOk (T : Text) (K : PySem.W.Frag) (mg : Str → Option Value) (x : Str) (f : FnI) : Prop where
  ex : ∃ (fd : FuncData) (nm qual : Str) (params : Arguments) (body : List Stmt) (scope : Scope) (dvs : List V) (kws : List (Str × V)),
    mg x = some (.ref (He.ga K x)) ∧ FunD K nm qual params body scope dvs kws (He.ga K x) fd ∧ FnScope f.slots f.params scope ∧ chkBody T look { N := f.slots, names := scope.names, me := x } f.body body = true ∧
      (∀ j, j ≤ f.dfl.length → ∃ ds, Binds K fd f.params ds ∧ Vals ((f.dfl.drop (f.dfl.length - j)).map scV) ds) ∧
      (f.dfl = [] → ∀ (s : Shared) (us : List Value), us.length = f.params.length → BindsTo s fd ⟨us, []⟩ (f.params.zip us))
  scal : f.dfl.all scal = true
/-- .. of a method -/
structure MthOk (T : Text) (K : PySem.W.Frag) (c m : Str) (f : FnI) : Prop where
  cls : Cls K (He.ga K c)
  meth : Meth K (He.ga K c) m (He.ma K (He.ga K c) m)
  ex : ∃ (fd : FuncData) (nm qual : Str) (params : Arguments) (body : List Stmt) (scope : Scope) (dvs : List V) (kws : List (Str × V)),
    FunD K nm qual params body scope dvs kws (He.ma K (He.ga K c) m) fd ∧ FnScope f.slots f.params scope ∧ chkSs T look { N := f.slots, names := scope.names } f.body body = true ∧ Binds K fd f.params []
/-- .. of a def within the def x -/
structure CloOk (T : Text) (K : PySem.W.Frag) (x : Str) (f : FnI) (n : Nat) : Prop where
  ex : ∃ st : Stmt, nestIn K x = some st ∧ n = (frOf st).length ∧ NdefX.NScope f.slots f.params (frOf st) (C8.fnScope st) ∧ chkSs T look { N := f.slots, names := (C8.fnScope st).names } f.body (C8.fnBody st) = true ∧
    ∀ (cl : List (Str × Addr)) (c' : Addr) (doc pm ctv : Value) (us : List Value), us.length = f.params.length → bindArgs ((NdefX.NF.of st (nestNm st) (nestQ K x st) cl c').fd doc pm ctv) ⟨us, []⟩ = pure (f.params.zip us)
structure Facts (T : Text) (K : PySem.W.Frag) (mg : Str → Option Value) (w : World) : Prop where
  defs : ∀ p ∈ T.fns, DefOk T K mg p.1 p.2
  free : ∀ x ∈ bltNames, mg x = none
  exc : ∀ x ∈ T.excs, ExcAt K mg x
  glob : ∀ x v, T.glob x = some v → ∃ v' u, mg x = some u ∧ RelV v' u ∧ ∀ ι H, Rep K w ι H v v'
  cls : ∀ x ∈ T.cls, ClsAt K mg x
  mths : ∀ p ∈ T.mths, MthOk T K p.1.1 p.1.2 p.2
  clos : ∀ p ∈ T.clos, CloOk T K p.1 p.2.1 p.2.2
  noE : (("" : Str) ∈ T.clos.map (·.1)) = False
/-- the tables stand in the base -/
def TabsB (T : Text) (K : PySem.W.Frag) (mg : Str → Option Value) (base : Heap) : Prop := ∀ x ∈ T.clos.map (·.1), LamX.TabB base mg (He.cT K (x, none)).1 (He.cT K (x, none)).2
theorem look_mem {α β : Type} [BEq α] [LawfulBEq α] {x : α} {v : β} : ∀ {l : List (α × β)}, l.lookup x = some v → (x, v) ∈ l
  | (k, u) :: r, h => by
    rw [List.lookup_cons] at h
    split at h
    · rename_i e
      cases h
      rw [beq_iff_eq.mp e]
      exact List.mem_cons_self
    · exact List.mem_cons_of_mem _ (look_mem h)
theorem body_ctx {T : Text} {P : Program} {w : World} {K : PySem.W.Frag} {mg : Str → Option Value} {base : Heap} {N ps : List Str} {qual : Str} {scope : Scope} {a : Addr} {cdv : Value} {A : Around} {outer : List PySem.Env} {s : Shared} {H : Hp} {E : XK} {r : Nat} {me : Str}
    (F : Facts T K mg w) (S : FnScope N ps scope) (ih : FnsOk T P w K mg base r) (hr : Room r (A.deeper (envOfC qual scope s.heap.objs.size a cdv)))
    (hme : me ∈ T.clos.map (·.1) → MeOk (cxOf (L2.CX P w) P w K mg base N qual scope a cdv A outer s H E) me) :
    SCtx T { N := N, names := scope.names, me := me } (cxOf (L2.CX P w) P w K mg base N qual scope a cdv A outer s H E) (fun cls d _ H => E cls d H) r where
  hN := rfl
  nd := S.nd
  vis := fun x h => by
    show Vis scope x
    unfold isVis at h
    split at h
    · rename_i e; exact .inl e
    · rename_i e; exact .inr (.inl e)
    · rename_i e; exact .inr (.inr e)
    · cases h
  loc := fun x h => by
    unfold isLoc at h
    split at h
    · rename_i e; exact e
    · cases h
  tg := fun x h => by
    unfold isTg at h
    split at h
    · rename_i e; exact ⟨.inl e, .inl rfl⟩
    · rename_i e; exact ⟨.inr e, .inl rfl⟩
    · cases h
  gl := fun x h => by
    unfold isGl at h
    split at h
    · rename_i e; exact e
    · cases h
  fre := fun x h => h
  cel := fun x h => h
  calm := rfl
  room := hr
  tk := takes_of rfl rfl rfl rfl
  fns := ih
  free := F.free
  exc := F.exc
  cls := F.cls
  glob := F.glob
  pass := passes_of rfl
  stk := rfl
  frm := rfl
  me := hme
theorem nest_ctx {T : Text} {P : Program} {w : World} {K : PySem.W.Frag} {mg : Str → Option Value} {base : Heap} {N ps fr : List Str} {G : NdefX.NF} {fa : Addr} {A : Around} {outer : List PySem.Env} {s : Shared} {H : Hp} {E : XK} {r : Nat}
    (F : Facts T K mg w) (S : NdefX.NScope N ps fr G.scope) (ih : FnsOk T P w K mg base r) (hr : Room r (A.deeper (NdefX.envF G fa s.heap.objs.size))) :
    SCtx T { N := N, names := G.scope.names } (NdefX.ncx (L2.CX P w) P w K mg base N G fa A outer s H E) (fun cls d _ H => E cls d H) r where
  hN := rfl
  nd := S.nd
  vis := fun x h => by
    show Vis G.scope x
    unfold isVis at h
    split at h
    · rename_i e; exact .inl e
    · rename_i e; exact .inr (.inl e)
    · rename_i e; exact .inr (.inr e)
    · cases h
  loc := fun x h => by
    unfold isLoc at h
    split at h
    · rename_i e; exact e
    · cases h
  tg := fun x h => by
    unfold isTg at h
    split at h
    · rename_i e; exact ⟨.inl e, .inr e⟩
    · rename_i e; exact absurd rfl (S.nocell _ (PySem.mem_of_lookup e))
    · cases h
  gl := fun x h => by
    unfold isGl at h
    split at h
    · rename_i e; exact e
    · cases h
  fre := fun x h => h
  cel := fun x h => h
  calm := rfl
  room := hr
  tk := takes_of rfl rfl rfl rfl
  fns := ih
  free := F.free
  exc := F.exc
  cls := F.cls
  glob := F.glob
  pass := passes_of rfl
  stk := rfl
  frm := rfl
  me := fun h => (F.noE ▸ h : False).elim
theorem env_start {K : PySem.W.Frag} {w : World} {ι : List Addr} {H : Hp} {args : List PV} {vs : List V} (N : List Str) (r : RepsX K w ι H args vs) : EnvR K w ι H (args.map some ++ List.replicate (N.length - args.length) none) (L2.start N vs) := by
  unfold L2.start
  have hl := r.length
  refine ⟨by simp [hl], fun i v h => ?_⟩
  by_cases hi : i < args.length
  · rw [List.getElem?_append_left (by simpa using hi)] at h
    rw [List.getElem?_append_left (by simpa [hl] using hi)]
    rw [List.getElem?_map] at h ⊢
    cases q : args[i]? with
    | none => rw [q] at h; cases h
    | some u =>
      rw [q] at h
      cases h
      obtain ⟨v', e, rv⟩ := r.get q
      exact ⟨v', by rw [e]; rfl, rv⟩
  · rw [List.getElem?_append_right (by simpa using hi)] at h
    have := List.mem_of_getElem? h
    simp at this
theorem env_startX {K : PySem.W.Frag} {w : World} {ι : List Addr} {H : Hp} {args caps : List PV} {vs cs : List V} (N : List Str) (r : Reps K w ι H args vs) (r2 : Reps K w ι H caps cs) : EnvR K w ι H (args.map some ++ (caps.map some ++ List.replicate (N.length - args.length - caps.length) none)) (NdefX.startF N vs (cs.map some)) := by
  have h := env_start (N := List.replicate (args.length + caps.length + (N.length - args.length - caps.length)) "") (RepsX.of (r.append r2))
  unfold L2.start at h
  unfold NdefX.startF
  rw [List.map_append, List.map_append, List.append_assoc, List.append_assoc, List.length_append, List.length_append, List.length_replicate, r.length, r2.length] at h
  rw [List.length_map, r.length, r2.length]
  have e : args.length + caps.length + (N.length - args.length - caps.length) - (args.length + caps.length) = N.length - args.length - caps.length := by omega
  rw [← r.length, ← r2.length] at *
  rw [e] at h
  exact h
section
variable {T : Text} {P : Program} {w : World} {K : PySem.W.Frag} {mg : Str → Option Value} {base : Heap} {r : Nat} {f : FnI}
theorem spF_len {vs : List V} {H : Hp} {Q : VK} {E : XK} (h : spF T K w mg r f vs H Q E) : vs.length = f.params.length := by
  obtain ⟨_, _, _, _, _, hl, _⟩ := h
  exact hl
theorem sp_body {vs : List V} {H : Hp} {Q : VK} {E : XK} (h : spF T K w mg r f vs H Q E) : tSm K w mg (fun cls d _ H => E cls d H) (execSs (conf T r) f.body) { nx := fun _ H' => Q .non H', rt := Q } (L2.start f.slots vs) H := by
  obtain ⟨ι, S0, args, sm, rs, hl, g⟩ := h
  refine ⟨ι, S0, _, sm, env_start f.slots rs, ?_⟩
  unfold callBody at g
  rw [if_pos (by rw [← rs.length]; exact hl)] at g
  show FinS K w mg _ _ ι H _
  cases e : execSs (conf T r) f.body (args.map some ++ List.replicate (f.slots.length - args.length) none) S0 with
  | nx e5 S5 =>
    rw [e] at g
    exact fun ι' H' σ' g' s' _ => g ι' H' g' s' _ .ofNon
  | ret v5 S5 =>
    rw [e] at g
    exact fun ι' H' g' s' v' rv => g ι' H' g' s' v' rv
  | exc c fs e5 S5 =>
    rw [e] at g
    exact ⟨g.1, fun ι' H' σ' cls g' s' _ hc => g.2 ι' H' cls g' s' hc⟩
  | brk _ _ => rw [e] at g; exact g.elim
  | ct _ _ => rw [e] at g; exact g.elim
  | bad => rw [e] at g; exact g.elim
theorem def_fn {x nm qual : Str} {fd : FuncData} {params : Arguments} {body : List Stmt} {scope : Scope} {dvs : List V} {kws : List (Str × V)}
    (F : Facts T K mg w) (TB : TabsB T K mg base) (ih : FnsOk T P w K mg base r) (FD : FunD K nm qual params body scope dvs kws (He.ga K x) fd) (S : FnScope f.slots f.params scope) (hc : chkBody T look { N := f.slots, names := scope.names, me := x } f.body body = true) :
    FnOk P w K mg base (L2.CX P w) (r + 1) (He.ga K x) fd f.params (spF T K w mg r f) := by
  obtain ⟨oc, od, dV, kV, doc, pm, an, cdv, ct, osl, rfl, lk, hcd, _, _⟩ := FD.ex
  obtain ⟨cc, rfl⟩ := He.codeIn_ref hcd
  have ec : He.codeOf K (x, none) = cc := He.codeOf_eq (p := (x, none)) lk rfl
  refine fn_of lk hcd S (fun vs H Q E h => spF_len h) fun A outer s H vs Q E hr h => ?_
  have C : SCtx T { N := f.slots, names := scope.names, me := x } (cxOf (L2.CX P w) P w K mg base f.slots qual scope (He.ga K x) (.ref cc) A outer s H E) (fun cls d _ H => E cls d H) r :=
    body_ctx F S ih hr fun hm => ⟨by show Value.ref cc = .ref (He.codeOf K (x, none)); rw [ec], TB x hm, fun st _ => by
      unfold nestQ
      show (match K.lookup (He.ga K x) with | some ⟨_, _, .func fd, _⟩ => (fd.qualname ++ ".<locals>.") ++ nestNm st | _ => "") = _
      rw [lk]
      rfl, fun _ => rfl⟩
  refine ⟨_, snd_body C S.kind (fun _ => ?_) hc, sp_body h⟩
  show nestIn K x = _
  unfold nestIn
  rw [lk]
  rfl
theorem mth_fn {a : Addr} {nm qual : Str} {fd : FuncData} {params : Arguments} {body : List Stmt} {scope : Scope} {dvs : List V} {kws : List (Str × V)}
    (F : Facts T K mg w) (ih : FnsOk T P w K mg base r) (FD : FunD K nm qual params body scope dvs kws a fd) (S : FnScope f.slots f.params scope) (hc : chkSs T look { N := f.slots, names := scope.names } f.body body = true) :
    FnOk P w K mg base (L2.CX P w) (r + 1) a fd f.params (spF T K w mg r f) := by
  refine FD.ok S (fun vs H Q E h => spF_len h) fun cdv A outer s H vs Q E hr h => ?_
  have C : SCtx T { N := f.slots, names := scope.names } (cxOf (L2.CX P w) P w K mg base f.slots qual scope a cdv A outer s H E) (fun cls d _ H => E cls d H) r := body_ctx (me := "") F S ih hr fun z => (F.noE ▸ z : False).elim
  exact ⟨_, snd_Ss _ _ C S.kind hc, sp_body h⟩
theorem clo_fn {x : Str} {st : Stmt} (F : Facts T K mg w) (ih : FnsOk T P w K mg base r) (S : NdefX.NScope f.slots f.params (frOf st) (C8.fnScope st)) (hc : chkSs T look { N := f.slots, names := (C8.fnScope st).names } f.body (C8.fnBody st) = true)
    (hb : ∀ (cl : List (Str × Addr)) (c' : Addr) (doc pm ctv : Value) (us : List Value), us.length = f.params.length → bindArgs ((NdefX.NF.of st (nestNm st) (nestQ K x st) cl c').fd doc pm ctv) ⟨us, []⟩ = pure (f.params.zip us)) (fa : Addr) (cl : List (Str × Addr)) (c' : Addr) :
    NdefX.NOk P w K mg base (L2.CX P w) (r + 1) fa (NdefX.NF.of st (nestNm st) (nestQ K x st) cl c') f.params (frOf st) (spC T K w mg r f) := by
  refine NdefX.nok_of S (hb cl c') (fun vs ws H Q E h => ?_) fun A outer s H vs ws Q E hr _ _ _ h => ?_
  · obtain ⟨_, _, _, _, _, _, _, _, _, hl, _⟩ := h
    exact hl
  · obtain ⟨ι, S0, args, caps, cs, sm, rs, rfl, rcs, hl, g⟩ := h
    have C : SCtx T { N := f.slots, names := (NdefX.NF.of st (nestNm st) (nestQ K x st) cl c').scope.names } (NdefX.ncx (L2.CX P w) P w K mg base f.slots (NdefX.NF.of st (nestNm st) (nestQ K x st) cl c') fa A outer s H E) (fun cls d _ H => E cls d H) r := nest_ctx F S ih hr
    refine ⟨_, snd_Ss _ _ C S.kind hc, ι, S0, _, sm, env_startX f.slots rs rcs, ?_⟩
    unfold callBodyX at g
    rw [if_pos (by rw [← rs.length]; exact hl)] at g
    show FinS K w mg _ _ ι H _
    cases e : execSs (conf T r) f.body (args.map some ++ (caps.map some ++ List.replicate (f.slots.length - args.length - caps.length) none)) S0 with
    | nx e5 S5 =>
      rw [e] at g
      exact fun ι' H' σ' g' s' _ => g ι' H' g' s' _ .ofNon
    | ret v5 S5 =>
      rw [e] at g
      exact fun ι' H' g' s' v' rv => g ι' H' g' s' v' rv
    | exc c fs e5 S5 =>
      rw [e] at g
      exact ⟨g.1, fun ι' H' σ' cls g' s' _ hc => g.2 ι' H' cls g' s' hc⟩
    | brk _ _ => rw [e] at g; exact g.elim
    | ct _ _ => rw [e] at g; exact g.elim
    | bad => rw [e] at g; exact g.elim
theorem fns_ok (F : Facts T K mg w) (TB : TabsB T K mg base) : ∀ r, FnsOk T P w K mg base r
  | 0 => ⟨fun r' e => by (cases e), fun r' e => by (cases e), fun r' e => by (cases e)⟩
  | r + 1 => by
    have ih := fns_ok F TB r
    refine ⟨fun r' e x f hf => ?_, fun r' e c m f hf => ?_, fun r' e x f n hf => ?_⟩
    · cases e
      obtain ⟨⟨fd, nm, qual, params, body, scope, dvs, kws, hm, FD, S, hc, hb, _⟩, hs⟩ := F.defs _ (look_mem hf)
      exact ⟨⟨_, fd, hm, FD.kp, hb, def_fn F TB ih FD S hc⟩, hs⟩
    · cases e
      obtain ⟨h1, h2, fd, nm, qual, params, body, scope, dvs, kws, FD, S, hc, hb⟩ := F.mths _ (look_mem hf)
      exact ⟨h1, h2, fd, hb, mth_fn F ih FD S hc⟩
    · cases e
      obtain ⟨st, h1, h2, S, hc, hb⟩ := F.clos _ (look_mem hf)
      exact ⟨st, h1, h2, fun fa cl c' => clo_fn F ih S hc hb fa cl c'⟩
end
end EK

namespace EK
open PySem PySem.Spec PyProof.Rows L2
/-- the store a law begins with: the tables -/
def tab0 (T : Text) : Store := T.clos.map fun p => .tab p.1
/-- what a law's run tells: the script walked by its def, calls at most r deep -/
noncomputable def lawRun (T : Text) (r : Nat) (x : Str) (ns : List Int) : Res PV := callF T r x [.con (ns.map .int)] (tab0 T)
def lawYes (T : Text) (r : Nat) (x : Str) (ns : List Int) : Prop := ∃ S, lawRun T r x ns = .ok (.bl true) S
noncomputable def tabsAt (T : Text) (K : PySem.W.Frag) : List Addr := T.clos.map fun p => (He.cT K (p.1, none)).2
theorem reps_ints {K : PySem.W.Frag} {w : World} {ι : List Addr} {H : Hp} : ∀ ns : List Int, Reps K w ι H (ns.map .int) (ns.map V.int)
  | [] => Reps.nil
  | n :: ns => Reps.cons .ofInt (reps_ints ns)
/-- the law's def keeps the law's promise -/
theorem law_sp {T : Text} {K : PySem.W.Frag} {w : World} {mg : Str → Option Value} {f : FnI} {x : Str} {r : Nat} {H : Hp} {a : Addr} {ns : List Int} (F : Facts T K mg w) (hf : T.fns.lookup x = some f) (h1 : f.params.length = 1) (hT : ∀ b ∈ tabsAt T K, H b = some (.tbl #[])) (nd : (tabsAt T K).Nodup) (hS : ConL K H a (ns.map V.int))
    (h : lawYes T (r + 1) x ns) : spF T K w mg r f [.ref a] H (fun v _ => v = .bl true) fun _ _ _ => False := by
  refine ⟨tabsAt T K, tab0 T, [.con (ns.map .int)], ⟨by simp [tabsAt, tab0], nd, fun i c e => ?_⟩, RepsX.of (Reps.cons ?_ Reps.nil), h1.symm, ?_⟩
  · unfold tab0 at e
    rw [List.getElem?_map] at e
    cases q : T.clos[i]? with
    | none => rw [q] at e; cases e
    | some p =>
      rw [q] at e
      cases e
      have e2 : (tabsAt T K)[i]? = some (He.cT K (p.1, none)).2 := by unfold tabsAt; rw [List.getElem?_map, q]; rfl
      obtain ⟨st, h2, _⟩ := F.clos p (List.mem_of_getElem? q)
      exact ⟨_, e2, rfl, st, h2, NdefX.TabN.nil (hT _ (List.mem_of_getElem? e2))⟩
  · unfold Rep
    exact ⟨a, ns.map V.int, rfl, hS, reps_ints ns⟩
  · obtain ⟨S, h⟩ := h
    unfold lawRun callF at h
    rw [callT_fn hf] at h
    have e : [PV.con (ns.map .int)] ++ f.dfl.drop (f.dfl.length - (f.params.length - 1)) = [.con (ns.map .int)] := by
      rw [h1]
      simp
    have e2 : callBody (conf T r) f [.con (ns.map .int)] (tab0 T) = .ok (.bl true) S := by
      rw [← h]
      rw [show [PV.con (ns.map .int)].length = 1 from rfl, e]
    rw [e2]
    exact fun ι' H' g s v' rv => rv.blE
/-- a def's promise where the list it reads is known while it runs -/
theorem fn_locked {P : Program} {w : World} {K : PySem.W.Frag} {mg : Str → Option Value} {base : Heap} {k : Nat} {f : Addr} {fd : FuncData} {ps : List Str} {sp : Sp} (F : FnOk P w K mg base (L2.CX P w) k f fd ps sp) :
    FnOk P w K mg base (L2.CX P w) k f fd ps fun vs H Q E => sp vs H Q E ∨ ∃ a xs, vs = [.ref a] ∧ ps.length = 1 ∧ H a = some (.lst xs) ∧ (∃ q : V → Prop, Q = fun v _ => q v) ∧ E = (fun _ _ _ => False) ∧ ∀ o, sp vs (upd H a (.frz o (.lst xs))) Q E := by
  refine ⟨fun vs H Q E h => ?_, fun A outer s H args us vs Q E hr he hb hv h => ?_⟩
  · rcases h with h | ⟨a, xs, rfl, hl, _⟩
    · exact F.len _ _ _ _ h
    · exact hl.symm
  · rcases h with h | ⟨a, xs, rfl, hl, ha, ⟨q, rfl⟩, rfl, h⟩
    · exact F.run A outer s H args us vs Q E hr he hb hv h
    obtain ⟨z, its, n, rv, eo⟩ := he.hok a _ ha
    have ne : ∀ {b : Addr}, H b = none → b ≠ a := fun e z => by subst z; rw [ha] at e; cases e
    have ne2 : ∀ {b : Addr} {o : HO}, H b = some o → (∀ xs, o ≠ .lst xs) → b ≠ a := fun e n z => by subst z; rw [ha] at e; exact n _ (Option.some.inj e).symm
    have he1 : Env0 P w K mg base A outer s (upd H a (.frz { cls := .type "list", data := .seq its.toArray n } (.lst xs))) :=
      ⟨he.frames, he.mod, fun b o e => ⟨(he.bs b o e).1, by rw [upd_ne (ne (he.bs b o e).2)]; exact (he.bs b o e).2⟩, he.bsz, he.funs, fun b hb => by rw [upd_ne (ne (he.frf b hb))]; exact he.frf b hb, fun b o e => by
        by_cases hb : b = a
        · subst hb
          rw [upd_same] at e
          cases e
          exact ⟨eo, z, its, n, rv, eo⟩
        · rw [upd_ne hb] at e
          exact (he.hok b o e).stay (fun _ _ _ q => q) (fun c q => by rw [upd_ne (ne2 q fun _ z => nomatch z)]; exact q) fun c xs q => by rw [upd_ne (ne2 q fun _ z => nomatch z)]; exact q, he.bare⟩
    refine codeAny_mono (F.run A outer s _ args us [.ref a] _ _ hr he1 hb hv (h _)) fun rs s' hq => ?_
    cases rs with
    | error e => exact (cx_none hq).elim
    | ok fl =>
      cases fl with
      | next => exact False.elim hq
      | brk => exact False.elim hq
      | cont => exact False.elim hq
      | ret u =>
        obtain ⟨v, H', os, bare, un, hok', r', q'⟩ := hq
        have fz := un.frzs a _ _ upd_same
        have ne3 : ∀ {b : Addr} {o : HO}, H' b = some o → (∀ ob xs, o ≠ .frz ob xs) → b ≠ a := fun e n z => by subst z; rw [fz] at e; exact n _ _ (Option.some.inj e).symm
        refine ⟨v, upd H' a (.lst xs), os, bare, ⟨fun b o e n1 hf hx => ?_, fun b o e n1 hf hx => ?_, fun b o e n1 hx => ?_, fun b o e hx => un.there b o e hx, fun b ys e => ?_, fun b o x e => ?_, fun b ps e => ?_⟩, fun b o e => ?_, r', q'⟩
        · exact un.keep b o e (by rw [upd_ne (ne n1)]; exact n1) hf hx
        · exact un.slot b o e (by rw [upd_ne (ne n1)]; exact n1) hf hx
        · rw [upd_ne (ne n1)]
          exact un.free b o e (by rw [upd_ne (ne n1)]; exact n1) hx
        · have n2 := ne2 e fun _ z => nomatch z
          rw [upd_ne n2]
          exact un.tups b ys (by rw [upd_ne n2]; exact e)
        · have n2 := ne2 e fun _ z => nomatch z
          rw [upd_ne n2]
          exact un.frzs b o x (by rw [upd_ne n2]; exact e)
        · have n2 := ne2 e fun _ z => nomatch z
          rw [upd_ne n2]
          exact un.tbls b ps (by rw [upd_ne n2]; exact e)
        · by_cases hb : b = a
          · subst hb
            rw [upd_same] at e
            cases e
            exact ((hok' b _ fz).2).stay (fun _ _ _ q => q) (fun c q => by rw [upd_ne (ne3 q fun _ _ z => nomatch z)]; exact q) fun c xs q => by rw [upd_ne (ne3 q fun _ _ z => nomatch z)]; exact q
          · rw [upd_ne hb] at e
            exact (hok' b o e).stay (fun _ _ _ q => q) (fun c q => by rw [upd_ne (ne3 q fun _ _ z => nomatch z)]; exact q) fun c xs q => by rw [upd_ne (ne3 q fun _ _ z => nomatch z)]; exact q
/-- a law, from its text -/
theorem law_walk {l : PySem.W.OpenLaw} {T : Text} {n r : Nat} {q : Program} {loose : List Str} {XP : (Str → Option Value) → Heap → Prop} {YP : World → Heap → Prop} {d : DefRec} {p : Str} {f : FnI}
    (hn : l.most = some n) (hn2 : n ≤ sizeLine) (hdf : d.params.defaults = []) (hr : r ≤ 220) (hf : T.fns.lookup d.name = some f) (hp : f.params = [p]) (hd0 : f.dfl = [])
    (F : ∀ (w : World) (mg : Str → Option Value) (h : Heap), YP w h → h.Ns mainGlobals mg → ∃ K : PySem.W.Frag, K.In h ∧ Facts T K mg w ∧ (tabsAt T K).Nodup ∧
      ∀ x ∈ T.clos.map (·.1), PySem.W.codeHdIn K (He.cT K (x, none)).1 (He.cT K (x, none)).2 = true ∧ K.lookup (He.cT K (x, none)).2 = none ∧ h.get? (He.cT K (x, none)).2 = some { cls := .none, data := .fields #[] })
    (hY : ∀ ns : List Int, ns.length ≤ n → lawYes T (r + 1) d.name ns) : PySem.W.WalkO q loose XP YP l.row.toRowW d [] (fun f vs => PySem.call f vs) := by
  refine Att.attach_callB hn hdf fun w s₀ s₁ mg mb fa o pm cd doc a vs ns G Y ho hd hcd hmg hobj hints hlen _ hg => ?_
  obtain ⟨K, KX, FF, nd, tb⟩ := F w mg _ Y G.T.g
  obtain ⟨⟨fd, nm, qual, params, body, scope, dvs, kws, hm, FD, S, hc, hb, hb2⟩, hs⟩ := FF.defs _ (look_mem hf)
  rw [hmg] at hm
  cases hm
  have rm : Room (r + 1) callerA := ⟨rfl, by show 1 + 300 + 3 * (r + 1) + 5 < 1000; omega, by show 4 + 16 * (r + 1) + 200 < cLine; unfold cLine; omega⟩
  have hx : ∀ p ∈ T.clos.map (fun p => He.cT K (p.1, none)), ∃ x ∈ T.clos.map (·.1), p = He.cT K (x, none) := fun p hp => by
    obtain ⟨q, hq, rfl⟩ := List.mem_map.mp hp
    exact ⟨q.1, List.mem_map.mpr ⟨q, hq, rfl⟩, rfl⟩
  refine LamX.law_callTs (CX := L2.CX l.prog w) (fd := fd) (x := p) (cs := T.clos.map fun p => He.cT K (p.1, none)) (sp := fun vs H Q E => spF T K w mg r f vs H Q E ∨ ∃ a xs, vs = [.ref a] ∧ [p].length = 1 ∧ H a = some (.lst xs) ∧ (∃ q : V → Prop, Q = fun v _ => q v) ∧ E = (fun _ _ _ => False) ∧ ∀ o, spF T K w mg r f vs (upd H a (.frz o (.lst xs))) Q E)
    KX G.T.g G.T.b G.T.builtins G.T.nolimit hg (fun p hp => ?_) (fun p hp => ?_) (fun p hp => ?_) G.T.bmain hobj hints (Nat.le_trans hlen hn2) rm (fun base _ _ hT => ?_) (fun s u => ?_) (fun H hT hS => ?_) fun H e s' z => cx_none z
  · obtain ⟨x, hx, rfl⟩ := hx p hp
    exact (tb x hx).2.2
  · obtain ⟨x, hx, rfl⟩ := hx p hp
    exact (tb x hx).2.1
  · obtain ⟨x, hx, rfl⟩ := hx p hp
    exact PySem.W.codeHd_of_K KX (tb x hx).1
  · have TB : TabsB T K mg base := fun x hx => by
      obtain ⟨q, hq, rfl⟩ := List.mem_map.mp hx
      exact hT _ (List.mem_map.mpr ⟨q, hq, rfl⟩)
    have h := def_fn (P := l.prog) FF TB (fns_ok FF TB r) FD S hc
    rw [hp] at h
    exact fn_locked h
  · have h := hb2 hd0 s [u] (by rw [hp]; rfl)
    rw [hp] at h
    exact h
  · have hT2 : ∀ b ∈ tabsAt T K, H b = some (.tbl #[]) := fun b hb => by
      unfold tabsAt at hb
      obtain ⟨q, hq, rfl⟩ := List.mem_map.mp hb
      exact hT (He.cT K (q.1, none)) (List.mem_map.mpr ⟨q, hq, rfl⟩)
    have go : ∀ H : Hp, (∀ b ∈ tabsAt T K, H b = some (.tbl #[])) → ConL K H a (ns.map V.int) → spF T K w mg r f [.ref a] H (fun v _ => v = .bl true) fun _ _ _ => False := fun H h1 h2 => law_sp FF hf (by rw [hp]; rfl) h1 nd h2 (hY ns hlen)
    rcases hS with (h | ⟨o, h⟩) | h
    · refine .inr ⟨a, _, rfl, rfl, h, ⟨fun v => v = .bl true, rfl⟩, rfl, fun o => go _ (fun b hb => ?_) (.inl ⟨o, upd_same⟩)⟩
      have : b ≠ a := fun z => by
        subst z
        rw [hT2 b hb] at h
        cases h
      rw [upd_ne this]
      exact hT2 b hb
    · exact .inl (go H hT2 (.inl ⟨o, h⟩))
    · exact .inl (go H hT2 (.inr h))
end EK

namespace EK
open PySem PySem.Spec PyProof.Rows L2
/-! ### the head's facts -/
def scopeB (N P : List Str) (sc : Scope) : Bool := (match sc.kind with
  | .function => true
  | _ => false) && !sc.isCoroutine && !sc.isGenerator && decide N.Nodup && decide (N.take P.length = P) && (P.all fun x => match sc.names.lookup x with
    | some .local => true
    | some .cell => true
    | _ => false) && sc.names.all fun y => match y.2 with
      | .free => false
      | _ => true
theorem scope_of {N P : List Str} {sc : Scope} (h : scopeB N P sc = true) : FnScope N P sc := by
  unfold scopeB at h
  simp only [Bool.and_eq_true, List.all_eq_true, decide_eq_true_eq, Bool.not_eq_true'] at h
  obtain ⟨⟨⟨⟨⟨⟨h1, h2⟩, h3⟩, h4⟩, h5⟩, h6⟩, h7⟩ := h
  refine ⟨?_, h2, h3, h4, h5, fun x hx => ?_, fun y hy => ?_⟩
  · cases hk : sc.kind <;> rw [hk] at h1 <;> first | rfl | cases h1
  · have := h6 x hx
    split at this
    · rename_i e; exact .inl e
    · rename_i e; exact .inr e
    · cases this
  · have := h7 y hy
    intro e
    rw [e] at this
    cases this
def chkDef (T : Text) (d : He.DefD) (x : Str) (f : FnI) : Bool := decide (d.at_ = (x, none)) && scopeB f.slots f.params d.scope && chkBody T look { N := f.slots, names := d.scope.names, me := x } f.body d.body && f.dfl.all scal
def chkMth (T : Text) (d : He.DefD) (c m : Str) (f : FnI) : Bool := decide (d.at_ = (c, some m)) && scopeB f.slots f.params d.scope && chkSs T look { N := f.slots, names := d.scope.names } f.body d.body
def chkMths (T : Text) : List ((Str × Str) × FnI) → List He.DefD → Bool
  | [], [] => true
  | p :: ps, d :: ds => chkMth T d p.1.1 p.1.2 p.2 && chkMths T ps ds
  | _, _ => false
/-- a def within a def: its text, the outer one -/
structure CloD where
  st : Stmt
  d : He.DefD
def chkCl (T : Text) (q : CloD) (x : Str) (f : FnI) (n : Nat) : Bool := decide (q.d.at_ = (x, none)) && decide (n = (frOf q.st).length) && NdefX.nscB f.slots f.params (frOf q.st) (C8.fnScope q.st) && chkSs T look { N := f.slots, names := (C8.fnScope q.st).names } f.body (C8.fnBody q.st)
def chkCls (T : Text) : List (Str × FnI × Nat) → List CloD → Bool
  | [], [] => true
  | p :: ps, d :: ds => chkCl T d p.1 p.2.1 p.2.2 && chkCls T ps ds
  | _, _ => false
/-- its parameters are bound -/
def BindCl (fn : List He.DefD) (f : FnI) (q : CloD) : Prop := q.d ∈ fn ∧ q.d.body.find? isFD = some q.st ∧
  ∀ (qual : Str) (cl : List (Str × Addr)) (c' : Addr) (doc pm ctv : Value) (us : List Value), us.length = f.params.length → bindArgs ((NdefX.NF.of q.st (nestNm q.st) qual cl c').fd doc pm ctv) ⟨us, []⟩ = pure (f.params.zip us)
def BindCls (fn : List He.DefD) : List (Str × FnI × Nat) → List CloD → Prop
  | p :: ps, d :: ds => BindCl fn p.2.1 d ∧ BindCls fn ps ds
  | _, _ => True
def chkText (T : Text) : List (Str × FnI) → List He.DefD → Bool
  | [], [] => true
  | p :: ps, d :: ds => chkDef T d p.1 p.2 && chkText T ps ds
  | _, _ => false
/-- its parameters are bound -/
def BindOk (d : He.DefD) (f : FnI) : Prop := ∀ (K : PySem.W.Frag) (a : Addr) (fd : FuncData), FunD K d.name d.qual d.params d.body d.scope (d.dvs K) (d.kws K) a fd →
  (∀ j, j ≤ f.dfl.length → ∃ ds, Binds K fd f.params ds ∧ Vals ((f.dfl.drop (f.dfl.length - j)).map scV) ds) ∧
  (f.dfl = [] → ∀ (s : Shared) (us : List Value), us.length = f.params.length → BindsTo s fd ⟨us, []⟩ (f.params.zip us))
def BindAll : List (Str × FnI) → List He.DefD → Prop
  | p :: ps, d :: ds => BindOk d p.2 ∧ BindAll ps ds
  | _, _ => True
def BindMths : List ((Str × Str) × FnI) → List He.DefD → Prop
  | p :: ps, d :: ds => BindOk d p.2 ∧ BindMths ps ds
  | _, _ => True
theorem bind_all {d : He.DefD} {f : FnI} (h1 : d.dfl = []) (h2 : f.dfl = [])
    (h : ∀ (kV doc pm : Value) (an : Option Addr) (cdv ct : Value) (us : List Value), us.length = f.params.length → bindArgs (PySem.W.fnOf d.name d.qual d.params d.body d.scope .none kV doc pm an cdv ct) ⟨us, []⟩ = pure (f.params.zip us)) : BindOk d f := by
  intro K a fd FD
  have FD' : FunD K d.name d.qual d.params d.body d.scope [] (d.kws K) a fd := by
    have e : d.dvs K = [] := by unfold He.DefD.dvs; rw [h1]; rfl
    rw [e] at FD
    exact FD
  refine ⟨fun j hj => ⟨[], FD'.bindsN h, ?_⟩, fun _ => FD'.bindsA h⟩
  rw [h2, List.drop_nil]
  exact .nil
/-- what the head is asked for -/
def faOf (T : Text) (more : List He.Fa) : List He.Fa := T.fns.map (fun p => He.Fa.glo p.1) ++ (bltNames.map He.Fa.free ++ (T.excs.map He.Fa.glo ++ (T.excs.map He.Fa.exc ++ (T.excs.map (fun x => He.Fa.exm x x true) ++ (T.cls.map He.Fa.glo ++ (T.cls.map He.Fa.keep ++ (T.mths.map (fun p => He.Fa.cls p.1.1) ++ (T.mths.map (fun p => He.Fa.meth p.1.1 p.1.2) ++ more))))))))
/-- what the head is asked for besides -/
noncomputable def exT (T : Text) (K : PySem.W.Frag) : Bool := T.cls.all (fun x => PySem.W.makesIn K (He.ga K x) && He.eqO (PySem.W.findIn K (.ref (He.ga K x)) "__init__") (some (some (.builtin "object.__init__")))) && decide (tabsAt T K).Nodup
theorem fact_mem {fa : List He.Fa} {fn : List He.DefD} {K : PySem.W.Frag} (c : He.SaysD fa fn K) {f : He.Fa} (h : f ∈ fa) : f.ok K = true := by
  obtain ⟨i, hi⟩ := List.getElem?_of_mem h
  exact c.fact i hi
theorem defs_of {T : Text} {K : PySem.W.Frag} {mg : Str → Option Value} : ∀ {l : List (Str × FnI)} {fn : List He.DefD}, (∀ d ∈ fn, ∃ fd, FunD K d.name d.qual d.params d.body d.scope (d.dvs K) (d.kws K) (He.fAd K d.at_) fd) → (∀ p ∈ l, mg p.1 = some (.ref (He.ga K p.1))) →
    chkText T l fn = true → BindAll l fn → ∀ p ∈ l, DefOk T K mg p.1 p.2
  | [], _, _, _, _, _, p, hp => by cases hp
  | q :: l, [], _, _, h, _, _, _ => by simp [chkText] at h
  | q :: l, d :: fn, hfd, hg, h, hb, p, hp => by
    simp only [chkText, Bool.and_eq_true] at h
    rcases List.mem_cons.mp hp with rfl | hp
    · obtain ⟨fd, FD⟩ := hfd d List.mem_cons_self
      have hc := h.1
      unfold chkDef at hc
      simp only [Bool.and_eq_true, decide_eq_true_eq] at hc
      obtain ⟨⟨⟨h1, h2⟩, h3⟩, h4⟩ := hc
      have FD2 : FunD K d.name d.qual d.params d.body d.scope (d.dvs K) (d.kws K) (He.ga K p.1) fd := by
        rw [h1] at FD
        exact FD
      obtain ⟨b1, b2⟩ := hb.1 K _ fd FD2
      exact ⟨⟨fd, _, _, _, _, _, _, _, hg p List.mem_cons_self, FD2, scope_of h2, h3, b1, b2⟩, h4⟩
    · exact defs_of (fun d hd => hfd d (List.mem_cons_of_mem _ hd)) (fun p hp => hg p (List.mem_cons_of_mem _ hp)) h.2 hb.2 p hp
theorem mths_of {T : Text} {K : PySem.W.Frag} : ∀ {l : List ((Str × Str) × FnI)} {fn : List He.DefD}, (∀ d ∈ fn, ∃ fd, FunD K d.name d.qual d.params d.body d.scope (d.dvs K) (d.kws K) (He.fAd K d.at_) fd) → (∀ p ∈ l, Cls K (He.ga K p.1.1) ∧ Meth K (He.ga K p.1.1) p.1.2 (He.ma K (He.ga K p.1.1) p.1.2)) →
    chkMths T l fn = true → BindMths l fn → ∀ p ∈ l, MthOk T K p.1.1 p.1.2 p.2
  | [], _, _, _, _, _, p, hp => by cases hp
  | q :: l, [], _, _, h, _, _, _ => by simp [chkMths] at h
  | q :: l, d :: fn, hfd, hg, h, hb, p, hp => by
    simp only [chkMths, Bool.and_eq_true] at h
    rcases List.mem_cons.mp hp with rfl | hp
    · obtain ⟨fd, FD⟩ := hfd d List.mem_cons_self
      have hc := h.1
      unfold chkMth at hc
      simp only [Bool.and_eq_true, decide_eq_true_eq] at hc
      obtain ⟨⟨h1, h2⟩, h3⟩ := hc
      have FD2 : FunD K d.name d.qual d.params d.body d.scope (d.dvs K) (d.kws K) (He.ma K (He.ga K p.1.1) p.1.2) fd := by
        rw [h1] at FD
        exact FD
      obtain ⟨b1, _⟩ := hb.1 K _ fd FD2
      obtain ⟨ds, bd, hd⟩ := b1 0 (Nat.zero_le _)
      rw [Nat.sub_zero, List.drop_length, List.map_nil] at hd
      cases hd
      obtain ⟨g1, g2⟩ := hg p List.mem_cons_self
      exact ⟨g1, g2, fd, _, _, _, _, _, _, _, FD2, scope_of h2, h3, bd⟩
    · exact mths_of (fun d hd => hfd d (List.mem_cons_of_mem _ hd)) (fun p hp => hg p (List.mem_cons_of_mem _ hp)) h.2 hb.2 p hp
theorem clos_of {T : Text} {K : PySem.W.Frag} {fn : List He.DefD} (hfd : ∀ d ∈ fn, ∃ fd, FunD K d.name d.qual d.params d.body d.scope (d.dvs K) (d.kws K) (He.fAd K d.at_) fd) : ∀ {l : List (Str × FnI × Nat)} {qs : List CloD}, chkCls T l qs = true → BindCls fn l qs → ∀ p ∈ l, CloOk T K p.1 p.2.1 p.2.2
  | [], _, _, _, p, hp => by cases hp
  | q :: l, [], h, _, _, _ => by simp [chkCls] at h
  | q :: l, d :: qs, h, hb, p, hp => by
    simp only [chkCls, Bool.and_eq_true] at h
    rcases List.mem_cons.mp hp with rfl | hp
    · have hc := h.1
      unfold chkCl at hc
      simp only [Bool.and_eq_true, decide_eq_true_eq] at hc
      obtain ⟨⟨⟨h1, h2⟩, h3⟩, h4⟩ := hc
      obtain ⟨hm, hf, hbd⟩ := hb.1
      obtain ⟨fd, FD⟩ := hfd d.d hm
      rw [h1] at FD
      have FD : FunD K d.d.name d.d.qual d.d.params d.d.body d.d.scope (d.d.dvs K) (d.d.kws K) (He.ga K p.1) fd := FD
      obtain ⟨oc, od, dV, kV, doc, pm, an, cdv, ct, osl, rfl, lk, _⟩ := FD.ex
      refine ⟨d.st, ?_, h2, NdefX.nscope_by h3, h4, fun cl c' doc pm ctv us hu => hbd _ cl c' doc pm ctv us hu⟩
      unfold nestIn
      rw [lk]
      exact hf
    · exact clos_of hfd h.2 hb.2 p hp
theorem facts_of {T : Text} {more : List He.Fa} {fn fm : List He.DefD} {qs : List CloD} {K : PySem.W.Frag} {h : Heap} {mg : Str → Option Value} {w : World} (X : K.In h) (G : h.Ns mainGlobals mg) (c : He.SaysD (faOf T more) (fn ++ fm) K) (ex : exT T K = true)
    (hc : chkText T T.fns fn = true) (hb : BindAll T.fns fn) (hm : chkMths T T.mths fm = true) (hbm : BindMths T.mths fm) (hq : chkCls T T.clos qs = true) (hbq : BindCls fn T.clos qs) (he : (("" : Str) ∈ T.clos.map (·.1)) = False)
    (hg : ∀ x v, T.glob x = some v → ∃ v' u, mg x = some u ∧ RelV v' u ∧ ∀ ι H, Rep K w ι H v v') : Facts T K mg w := by
  have fd : ∀ d ∈ fn ++ fm, ∃ fd, FunD K d.name d.qual d.params d.body d.scope (d.dvs K) (d.kws K) (He.fAd K d.at_) fd := fun d hd => by
    obtain ⟨i, hi⟩ := List.getElem?_of_mem hd
    exact c.def_ i hi
  have fd1 : ∀ d ∈ fn, ∃ fd, FunD K d.name d.qual d.params d.body d.scope (d.dvs K) (d.kws K) (He.fAd K d.at_) fd := fun d hd => fd d (List.mem_append_left _ hd)
  unfold exT at ex
  simp only [Bool.and_eq_true, List.all_eq_true, decide_eq_true_eq] at ex
  have F : ∀ f, f ∈ faOf T more → f.ok K = true := fun f hf => fact_mem c hf
  unfold faOf at F
  simp only [List.mem_append, List.mem_map] at F
  refine ⟨defs_of fd1 (fun p hp => He.glo_ok X G (F _ (.inl ⟨p, hp, rfl⟩))) hc hb, fun x hx => He.free_ok X G (F _ (.inr (.inl ⟨x, hx, rfl⟩))), fun x hx => ?_, hg, fun x hx => ?_, mths_of (fun d hd => fd d (List.mem_append_right _ hd)) (fun p hp => ?_) hm hbm, clos_of fd1 hq hbq, he⟩
  · have h1 := He.glo_ok X G (x := x) (F _ (.inr (.inr (.inl ⟨x, hx, rfl⟩))))
    obtain ⟨h2, h3, h4, h5⟩ := He.exc_ok (x := x) (F _ (.inr (.inr (.inr (.inl ⟨x, hx, rfl⟩)))))
    have h6 := He.exm_ok (x := x) (y := x) (b := true) (F _ (.inr (.inr (.inr (.inr (.inl ⟨x, hx, rfl⟩))))))
    exact ⟨_, h1, h2, h3, h4, h5, h6⟩
  · have h1 := He.glo_ok X G (x := x) (F _ (.inr (.inr (.inr (.inr (.inr (.inl ⟨x, hx, rfl⟩)))))))
    have h2 := He.keep_ok (x := x) (F _ (.inr (.inr (.inr (.inr (.inr (.inr (.inl ⟨x, hx, rfl⟩))))))))
    obtain ⟨h3, h4⟩ := ex.1 x hx
    exact ⟨h1, h3, He.eqO_ok h4, h2⟩
  · exact ⟨He.cls_ok (F _ (.inr (.inr (.inr (.inr (.inr (.inr (.inr (.inl ⟨p, hp, rfl⟩))))))))), He.meth_ok (F _ (.inr (.inr (.inr (.inr (.inr (.inr (.inr (.inr (.inl ⟨p, hp, rfl⟩))))))))))⟩
end EK

namespace EK
open PySem PySem.Spec PyProof.Rows L2
/-! ### the top's constants -/
mutual
def repB (K : PySem.W.Frag) : PV → Value → Bool
  | .non, u => match u with
    | .none => true
    | _ => false
  | .bl b, u => match u with
    | .bool c => b == c
    | _ => false
  | .int i, u => match u with
    | .int j _ => decide (i = j)
    | _ => false
  | .str x, u => match u with
    | .str y _ => decide (x = y)
    | _ => false
  | .tup xs, u => match u with
    | .ref a => match K.lookup a with
      | some ⟨.type c, none, .seq its _, _⟩ => decide (c = "tuple") && decide (its.size ≤ sizeLine) && repBs K xs its.toList
      | _ => false
    | _ => false
  | _, _ => false
def repBs (K : PySem.W.Frag) : List PV → List Value → Bool
  | [], us => us.isEmpty
  | x :: xs, us => match us with
    | u :: us => repB K x u && repBs K xs us
    | [] => false
end
mutual
theorem repB_ok {K : PySem.W.Frag} : ∀ (v : PV) (u : Value), repB K v u = true → ∃ v' : V, RelV v' u ∧ ∀ (w : World) (ι : List Addr) (H : Hp), Rep K w ι H v v'
  | .non, u, h => by
    unfold repB at h
    split at h
    · exact ⟨.non, rfl, fun _ _ _ => .ofNon⟩
    · cases h
  | .bl b, u, h => by
    unfold repB at h
    split at h
    · have e := eq_of_beq h
      subst e
      exact ⟨.bl b, rfl, fun _ _ _ => .ofBl⟩
    · cases h
  | .int i, u, h => by
    unfold repB at h
    split at h
    · have e := of_decide_eq_true h
      subst e
      exact ⟨.int i, ⟨_, rfl⟩, fun _ _ _ => .ofInt⟩
    · cases h
  | .str i, u, h => by
    unfold repB at h
    split at h
    · have e := of_decide_eq_true h
      subst e
      exact ⟨.str i, ⟨_, rfl⟩, fun _ _ _ => .ofStr⟩
    · cases h
  | .tup xs, u, h => by
    unfold repB at h
    split at h
    · rename_i a
      split at h
      · rename_i c its n sl q
        simp only [Bool.and_eq_true, decide_eq_true_eq] at h
        obtain ⟨⟨rfl, h2⟩, h3⟩ := h
        obtain ⟨vs, rv, rs⟩ := repBs_ok xs its.toList h3
        exact ⟨.ref a, rfl, fun w ι H => .ofTup (.inr ⟨_, its, n, q, rfl, rfl, rfl, h2, rv⟩) (rs w ι H)⟩
      · cases h
    · cases h
  | .ref _, _, h => by simp [repB] at h
  | .dct _ _, _, h => by simp [repB] at h
  | .con _, _, h => by simp [repB] at h
  | .wt _, _, h => by simp [repB] at h
  | .clo _ _, _, h => by simp [repB] at h
  | .vl _, _, h => by simp [repB] at h
  | .obj _, _, h => by simp [repB] at h
theorem repBs_ok {K : PySem.W.Frag} : ∀ (xs : List PV) (us : List Value), repBs K xs us = true → ∃ vs : List V, Vals vs us ∧ ∀ (w : World) (ι : List Addr) (H : Hp), Reps K w ι H xs vs
  | [], us, h => by
    unfold repBs at h
    have : us = [] := by simpa using h
    subst this
    exact ⟨[], .nil, fun _ _ _ => Reps.nil⟩
  | x :: xs, us, h => by
    unfold repBs at h
    split at h
    · rename_i u us
      simp only [Bool.and_eq_true] at h
      obtain ⟨v, r1, q1⟩ := repB_ok x u h.1
      obtain ⟨vs, r2, q2⟩ := repBs_ok xs us h.2
      exact ⟨v :: vs, .cons r1 r2, fun w ι H => Reps.cons (q1 w ι H) (q2 w ι H)⟩
    · cases h
end
/-- the values of a dict of the top, by key -/
def dvB (K : PySem.W.Frag) (a : Addr) : List Str → List PV → Bool
  | [], [] => true
  | k :: ks, x :: xs => (match PySem.W.nsIn K a k with
    | some (some u) => repB K x u
    | _ => false) && dvB K a ks xs
  | _, _ => false
theorem dvB_ok {K : PySem.W.Frag} {a : Addr} : ∀ {ks : List Str} {xs : List PV}, dvB K a ks xs = true → ∃ vs : List V, ks.length = vs.length ∧ (∀ (i : Nat) (k : Str) (v : V), ks[i]? = some k → vs[i]? = some v → ∃ u, PySem.W.nsIn K a k = some (some u) ∧ RelV v u) ∧
    ∀ (w : World) (ι : List Addr) (H : Hp), Reps K w ι H xs vs
  | [], [], _ => ⟨[], rfl, fun i k v h => by simp at h, fun _ _ _ => Reps.nil⟩
  | k :: ks, x :: xs, h => by
    simp only [dvB, Bool.and_eq_true] at h
    obtain ⟨vs, l, q, rs⟩ := dvB_ok h.2
    have h1 := h.1
    split at h1
    · rename_i u e
      obtain ⟨v, r, rp⟩ := repB_ok x u h1
      refine ⟨v :: vs, by simp [l], fun i k' v' e1 e2 => ?_, fun w ι H => Reps.cons (rp w ι H) (rs w ι H)⟩
      cases i with
      | zero => cases e1; cases e2; exact ⟨u, e, r⟩
      | succ i => exact q i k' v' (by simpa using e1) (by simpa using e2)
    · cases h1
  | [], _ :: _, h => by simp [dvB] at h
  | _ :: _, [], h => by simp [dvB] at h
theorem key_none {P : Params} : ∀ {l : List DictEntry} {ks : List Str} {k : Str}, l.map He.keyOf = He.keysIn P ks → k ∉ ks → (l.find? (·.key.isStr k)) = none ∧ (l.any (·.refKey)) = false
  | [], _, _, _, _ => ⟨rfl, rfl⟩
  | e :: r, [], _, h, _ => by cases h
  | e :: r, q :: ks, k, h, hk => by
    have h1 : He.keyOf e :: r.map He.keyOf = some (q, PyData.keyHash P q) :: He.keysIn P ks := h
    injection h1 with h2 h3
    obtain ⟨i1, i2⟩ := key_none h3 fun z => hk (List.mem_cons_of_mem _ z)
    unfold He.keyOf at h2
    split at h2
    · rename_i x t qk
      have h4 := Option.some.inj h2
      obtain ⟨h5, h6⟩ := Prod.mk.inj h4
      subst h5
      have hne : x ≠ k := fun z => hk (z ▸ List.mem_cons_self)
      have a1 : e.key.isStr k = false := by
        rw [qk]
        simp [Value.isStr, hne]
      have a2 : e.refKey = false := by
        unfold DictEntry.refKey
        rw [qk]
      exact ⟨by rw [List.find?_cons, a1]; exact i1, by rw [List.any_cons, a2, i2]; rfl⟩
    · cases h2
theorem dic_none {K : PySem.W.Frag} {w : World} {a : Addr} {ks : List Str} {k : Str} (h : He.dicW K a = some (He.keysIn w.params ks)) (hk : k ∉ ks) : PySem.W.nsIn K a k = some none := by
  unfold He.dicW at h
  split at h
  · rename_i c es n sl q
    split at h
    · obtain ⟨h1, h2⟩ := key_none (Option.some.inj h) hk
      unfold PySem.W.nsIn
      rw [q]
      simp only [h1, h2]
      rfl
    · cases h
  · cases h
/-- a constant of the top -/
def glB (K : PySem.W.Frag) (x : Str) (v : PV) : Bool := match PySem.W.nsIn K mainGlobals x with
  | some (some u) => match v with
    | .dct ks xs => match u with
      | .ref a => dvB K a ks xs && decide (a = He.ga K x)
      | _ => false
    | v => repB K v u
  | _ => false
def tabsOf : List (Str × PV) → List He.Tab
  | [] => []
  | (x, .dct ks _) :: r => (fun K => He.ga K x, ks) :: tabsOf r
  | _ :: r => tabsOf r
theorem tabs_mem {x : Str} {ks : List Str} {xs : List PV} : ∀ {gl : List (Str × PV)}, (x, .dct ks xs) ∈ gl → ((fun K => He.ga K x, ks) : He.Tab) ∈ tabsOf gl
  | [], h => by cases h
  | (y, v) :: r, h => by
    rcases List.mem_cons.mp h with h | h
    · cases h
      exact List.mem_cons_self
    · have := tabs_mem h
      cases v <;> first | exact this | exact List.mem_cons_of_mem _ this
theorem glob_ok {K : PySem.W.Frag} {h : Heap} {mg : Str → Option Value} {w : World} {gl : List (Str × PV)} (X : K.In h) (G : h.Ns mainGlobals mg) (hb : (gl.all fun p => glB K p.1 p.2) = true)
    (ht : ∀ t ∈ tabsOf gl, He.dicW K (t.1 K) = some (He.keysIn w.params t.2)) : ∀ x v, gl.lookup x = some v → ∃ v' u, mg x = some u ∧ RelV v' u ∧ ∀ ι H, Rep K w ι H v v' := by
  intro x v hv
  have hm := look_mem hv
  have h1 := List.all_eq_true.mp hb _ hm
  unfold glB at h1
  split at h1
  · rename_i u e
    have hmg := PySem.W.mg_of X G e
    have gen : repB K v u = true → ∃ v' u, mg x = some u ∧ RelV v' u ∧ ∀ ι H, Rep K w ι H v v' := fun h => by
      obtain ⟨v', r, rp⟩ := repB_ok v u h
      exact ⟨v', u, hmg, r, fun ι H => rp w ι H⟩
    cases v with
    | dct ks xs =>
      simp only at h1
      split at h1
      · rename_i a
        simp only [Bool.and_eq_true, decide_eq_true_eq] at h1
        obtain ⟨vs, l, q, rs⟩ := dvB_ok h1.1
        have hd := ht _ (tabs_mem hm)
        have hd : He.dicW K (He.ga K x) = some (He.keysIn w.params ks) := hd
        rw [← h1.2] at hd
        refine ⟨.ref a, _, hmg, rfl, fun ι H => ?_⟩
        unfold Rep
        exact ⟨a, vs, rfl, .inr ⟨He.dicW_ok hd, l, fun k hk => dic_none hd hk, q⟩, rs w ι H⟩
      · cases h1
    | _ => exact gen h1
  · cases h1
/-- the head's facts, with constants -/
theorem facts_ofX {T : Text} {more : List He.Fa} {fn fm : List He.DefD} {qs : List CloD} {gl : List (Str × PV)} {K : PySem.W.Frag} {h : Heap} {mg : Str → Option Value} {w : World} (X : K.In h) (G : h.Ns mainGlobals mg)
    (c : He.SaysX (faOf T more) (fn ++ fm) (tabsOf gl) (T.clos.map fun p => (p.1, none)) (fun K => exT T K && gl.all fun p => glB K p.1 p.2) w h K)
    (hc : chkText T T.fns fn = true) (hb : BindAll T.fns fn) (hm : chkMths T T.mths fm = true) (hbm : BindMths T.mths fm) (hq : chkCls T T.clos qs = true) (hbq : BindCls fn T.clos qs) (he : (("" : Str) ∈ T.clos.map (·.1)) = False) (hg : T.glob = fun x => gl.lookup x) :
    Facts T K mg w ∧ (tabsAt T K).Nodup ∧ ∀ x ∈ T.clos.map (·.1), PySem.W.codeHdIn K (He.cT K (x, none)).1 (He.cT K (x, none)).2 = true ∧ K.lookup (He.cT K (x, none)).2 = none ∧ h.get? (He.cT K (x, none)).2 = some { cls := .none, data := .fields #[] } := by
  obtain ⟨m1, m2⟩ := He.ba c.more
  refine ⟨facts_of X G c.t.d m1 hc hb hm hbm hq hbq he ?_, ?_, fun x hx => ?_⟩
  · rw [hg]
    refine glob_ok X G m2 fun t htm => ?_
    have e : (tabsOf gl).map (fun t => He.dicW K (t.1 K)) = (tabsOf gl).map fun t => some (He.keysIn w.params t.2) := congrArg (fun z : He.AlT => z.2) c.t
    obtain ⟨i, hi⟩ := List.getElem?_of_mem htm
    have e2 : ((tabsOf gl).map fun t => He.dicW K (t.1 K))[i]? = ((tabsOf gl).map fun t => some (He.keysIn w.params t.2))[i]? := by rw [e]
    rw [List.getElem?_map, List.getElem?_map, hi] at e2
    exact Option.some.inj e2
  · obtain ⟨_, h2⟩ := He.ba m1
    exact of_decide_eq_true h2
  · obtain ⟨q, hq, rfl⟩ := List.mem_map.mp hx
    have hm : ((q.1, none) : He.Defn) ∈ T.clos.map (fun p => ((p.1, none) : He.Defn)) := List.mem_map.mpr ⟨q, hq, rfl⟩
    exact ⟨c.hd _ hm, c.out _ hm, c.empty _ hm⟩
/-! ### a world by its answer at one text -/
def setF (w : World) (k : String) (b : Bool) : World := ⟨w.draws, { w.params with followText := fun s => bif s == k then b else w.params.followText s }⟩
theorem setF_eq {w : World} {k : String} {b : Bool} (h : w.params.followText k = b) : setF w k b = w := by
  obtain ⟨d, p⟩ := w
  have e : (fun s => bif s == k then b else p.followText s) = p.followText := by
    funext s
    cases q : s == k with
    | true => rw [cond_true, ← h, beq_iff_eq.mp q]
    | false => rw [cond_false]
  show (⟨d, { p with followText := fun s => bif s == k then b else p.followText s }⟩ : World) = ⟨d, p⟩
  rw [e]
end EK

namespace EK
open PySem PySem.Spec L2
section
variable {S : Store}
theorem eq_clean {x y : PV} (h1 : clean x = true) (h2 : clean y = true) (h3 : depth x ≤ 150) : eqM S x y = some (beqPV x y) := by
  unfold eqM
  rw [if_pos (by simp [h1, h2, h3])]
theorem at_0 {α : Type} {a : α} {l : List α} : atI (a :: l) 0 = some a := by simp [atI, ixN]
theorem at_1 {α : Type} {a b : α} {l : List α} : atI (a :: b :: l) 1 = some b := by
  have : (1 : Int) < (l.length : Int) + 1 + 1 := by omega
  simp [atI, ixN, this]
theorem at_2 {α : Type} {a b c : α} {l : List α} : atI (a :: b :: c :: l) 2 = some c := by
  have : (2 : Int) < (l.length : Int) + 1 + 1 + 1 := by omega
  simp [atI, ixN, this]
theorem at_3 {α : Type} {a b c d : α} {l : List α} : atI (a :: b :: c :: d :: l) 3 = some d := by
  have : (3 : Int) < (l.length : Int) + 1 + 1 + 1 + 1 := by omega
  simp [atI, ixN, this]
theorem at_nat {α : Type} {l : List α} {i : Nat} {a : α} (h : l[i]? = some a) : atI l (i : Int) = some a := by
  have hi := (List.getElem?_eq_some_iff.mp h).1
  unfold atI ixN
  rw [if_pos (by omega), if_pos (by omega)]
  simpa using h
theorem ints_map : ∀ ns : List Int, intsP (ns.map .int) = some ns
  | [] => rfl
  | n :: ns => by simp only [List.map_cons, intsP, ints_map ns, Option.map_some]
theorem get_lt {i : Nat} {c : Cell} (h : S[i]? = some c) : i < S.length := (List.getElem?_eq_some_iff.mp h).1
theorem get_new {c : Cell} {g : List Cell} : (S ++ c :: g)[S.length]? = some c := by simp
theorem ok_both : strOkB "both" = true := by decide +kernel
theorem ok_case : strOkB "case" = true := by decide +kernel
theorem ok_either : strOkB "either" = true := by decide +kernel
theorem ok_first : strOkB "first" = true := by decide +kernel
theorem ok_give : strOkB "give" = true := by decide +kernel
theorem ok_k : strOkB "k" = true := by decide +kernel
theorem ok_kp : strOkB "kp" = true := by decide +kernel
theorem ok_l : strOkB "l" = true := by decide +kernel
theorem ok_left : strOkB "left" = true := by decide +kernel
theorem ok_let : strOkB "let" = true := by decide +kernel
theorem ok_name : strOkB "name" = true := by decide +kernel
theorem ok_never : strOkB "never" = true := by decide +kernel
theorem ok_none : strOkB "none" = true := by decide +kernel
theorem ok_odd : strOkB "odd" = true := by decide +kernel
theorem ok_one : strOkB "one" = true := by decide +kernel
theorem ok_other : strOkB "other" = true := by decide +kernel
theorem ok_p : strOkB "p" = true := by decide +kernel
theorem ok_pair : strOkB "pair" = true := by decide +kernel
theorem ok_r : strOkB "r" = true := by decide +kernel
theorem ok_right : strOkB "right" = true := by decide +kernel
theorem ok_second : strOkB "second" = true := by decide +kernel
theorem ok_split : strOkB "split" = true := by decide +kernel
theorem ok_star : strOkB "star" = true := by decide +kernel
theorem ok_w : strOkB "w" = true := by decide +kernel
theorem ok_way : strOkB "way" = true := by decide +kernel
theorem ok_within : strOkB "within" = true := by decide +kernel
theorem ok_without : strOkB "without" = true := by decide +kernel
theorem ok_wrong : strOkB "wrong" = true := by decide +kernel
theorem ok_yes : strOkB "yes" = true := by decide +kernel
theorem ok_no : strOkB "no" = true := by decide +kernel
theorem ok_n : strOkB "n" = true := by decide +kernel
theorem ok_led : strOkB "led" = true := by decide +kernel
theorem ok_lr : strOkB "lr" = true := by decide +kernel
theorem ok_pp : strOkB "pp" = true := by decide +kernel
theorem ok_ppp : strOkB "ppp" = true := by decide +kernel
theorem kit_tuple_NoneType : kitS .tuple "NoneType" = false := by decide
theorem kit_tuple_bool : kitS .tuple "bool" = false := by decide
theorem kit_tuple_int : kitS .tuple "int" = false := by decide
theorem kit_tuple_str : kitS .tuple "str" = false := by decide
theorem kit_tuple_tuple : kitS .tuple "tuple" = true := by decide
theorem kit_tuple_list : kitS .tuple "list" = false := by decide
theorem kit_list_NoneType : kitS .list "NoneType" = false := by decide
theorem kit_list_bool : kitS .list "bool" = false := by decide
theorem kit_list_int : kitS .list "int" = false := by decide
theorem kit_list_str : kitS .list "str" = false := by decide
theorem kit_list_tuple : kitS .list "tuple" = false := by decide
theorem kit_list_list : kitS .list "list" = true := by decide
theorem kit_int_NoneType : kitS .int "NoneType" = false := by decide
theorem kit_int_bool : kitS .int "bool" = true := by decide
theorem kit_int_int : kitS .int "int" = true := by decide
theorem kit_int_str : kitS .int "str" = false := by decide
theorem kit_int_tuple : kitS .int "tuple" = false := by decide
theorem kit_int_list : kitS .int "list" = false := by decide
theorem kit_bool_NoneType : kitS .bool "NoneType" = false := by decide
theorem kit_bool_bool : kitS .bool "bool" = true := by decide
theorem kit_bool_int : kitS .bool "int" = false := by decide
theorem kit_bool_str : kitS .bool "str" = false := by decide
theorem kit_bool_tuple : kitS .bool "tuple" = false := by decide
theorem kit_bool_list : kitS .bool "list" = false := by decide
theorem kit_str_NoneType : kitS .str "NoneType" = false := by decide
theorem kit_str_bool : kitS .str "bool" = false := by decide
theorem kit_str_int : kitS .str "int" = false := by decide
theorem kit_str_str : kitS .str "str" = true := by decide
theorem kit_str_tuple : kitS .str "tuple" = false := by decide
theorem kit_str_list : kitS .str "list" = false := by decide
theorem non_int {i : Int} : isNonP (.int i) = false := rfl
theorem non_non : isNonP .non = true := rfl
theorem non_tup {i : List PV} : isNonP (.tup i) = false := rfl
theorem non_str {i : Str} : isNonP (.str i) = false := rfl
theorem non_ref {i : Nat} : isNonP (.ref i) = false := rfl
theorem non_bl {i : Bool} : isNonP (.bl i) = false := rfl
/-! ### walks over what stands -/
def stp (xs : List PV) (i : Nat) : Stp := match xs[i]? with
  | some x => .item x
  | none => .stop
theorem itemAt_id {xs : List PV} {i : Nat} : itemAt id (some xs) i = stp xs i := by
  simp only [itemAt, stp]
  rfl
theorem it_over {a n0 i : Nat} {xs : List PV} (h : S[a]? = some (.lst xs)) : stepM .over [.ref a] n0 i S = stp xs i := by
  simp only [stepM, seqL, cellL, h, itemAt_id]
theorem it_overT {n0 i : Nat} {xs : List PV} : stepM .over [.tup xs] n0 i S = stp xs i := by
  simp only [stepM, seqL, itemAt_id]
theorem it_range {n0 i : Nat} {vs xs : List PV} (h : rangeM vs = some xs) : stepM .range vs n0 i S = stp xs i := by
  simp only [stepM, h, itemAt_id]
def enumF (xs : List PV) : List PV := xs.mapIdx fun i x => .wt [.int (i : Nat), x]
theorem it_enum {a n0 i : Nat} {xs : List PV} (h : S[a]? = some (.lst xs)) : stepM .enum [.ref a] n0 i S = stp (enumF xs) i := by
  simp only [stepM, cellL, h, itemAt, stp, enumF, List.getElem?_mapIdx]
  cases xs[i]? <;> rfl
theorem it_zipL {a b n0 i : Nat} {xs ys : List PV} (h : S[a]? = some (.lst xs)) (h2 : S[b]? = some (.lst ys)) : stepM .zip [.ref a, .ref b] n0 i S = stp (zipP xs ys) i := by
  simp only [stepM, cellL, h, h2]
  clear h h2
  unfold zipAt stp
  induction xs generalizing ys i with
  | nil => simp [zipP]
  | cons x xs ih =>
    cases ys with
    | nil => cases i <;> simp [zipP]
    | cons y ys =>
      cases i with
      | zero => rfl
      | succ i => simpa [zipP] using ih
theorem it_zipT {n0 i : Nat} {xs ys : List PV} : stepM .zip [.tup xs, .tup ys] n0 i S = stp (zipP xs ys) i := by
  simp only [stepM]
  unfold zipAt stp
  induction xs generalizing ys i with
  | nil => simp [zipP]
  | cons x xs ih =>
    cases ys with
    | nil => cases i <;> simp [zipP]
    | cons y ys =>
      cases i with
      | zero => rfl
      | succ i => simpa [zipP] using ih
theorem it_rev {a i : Nat} {xs : List PV} (h : S[a]? = some (.lst xs)) : stepM .rev [.ref a] xs.length i S = stp xs.reverse i := by
  simp only [stepM, cellL, h]
  unfold stp
  by_cases hi : xs.length ≤ i
  · rw [if_pos hi, List.getElem?_eq_none (by simpa using hi)]
  · rw [if_neg hi, List.getElem?_reverse (by omega)]
    have : xs.length - 1 - i < xs.length := by omega
    rw [List.getElem?_eq_getElem this]
theorem len_overL {a : Nat} {xs : List PV} (h : S[a]? = some (.lst xs)) : lenM .over [.ref a] S = some xs.length := by simp only [lenM, seqL, cellL, h, Option.map_some]
theorem len_overT {xs : List PV} : lenM .over [.tup xs] S = some xs.length := rfl
theorem len_range {vs xs : List PV} (h : rangeM vs = some xs) : lenM .range vs S = some xs.length := by simp only [lenM, h, Option.map_some]
theorem it_enumT {n0 i : Nat} {xs : List PV} : stepM .enum [.tup xs] n0 i S = stp (enumF xs) i := by
  simp only [stepM, itemAt, stp, enumF, List.getElem?_mapIdx]
  cases xs[i]? <;> rfl
theorem len_enumT {xs : List PV} : lenM .enum [.tup xs] S = some (enumF xs).length := by simp only [lenM, enumF, List.length_mapIdx]
theorem len_enum {a : Nat} {xs : List PV} (h : S[a]? = some (.lst xs)) : lenM .enum [.ref a] S = some (enumF xs).length := by simp only [lenM, cellL, h, Option.map_some, enumF, List.length_mapIdx]
theorem zip_len : ∀ xs ys : List PV, (zipP xs ys).length = min xs.length ys.length
  | [], _ => by simp [zipP]
  | _ :: _, [] => by simp [zipP]
  | x :: xs, y :: ys => by simp only [zipP, List.length_cons, zip_len xs ys]; omega
theorem len_zipL {a b : Nat} {xs ys : List PV} (h : S[a]? = some (.lst xs)) (h2 : S[b]? = some (.lst ys)) : lenM .zip [.ref a, .ref b] S = some (zipP xs ys).length := by simp only [lenM, cellL, h, h2, zip_len]
theorem len_zipT {xs ys : List PV} : lenM .zip [.tup xs, .tup ys] S = some (zipP xs ys).length := by simp only [lenM, zip_len]
theorem len_rev {a : Nat} {xs : List PV} (h : S[a]? = some (.lst xs)) : lenM .rev [.ref a] S = some xs.length := by simp only [lenM, cellL, h, Option.map_some]
end
end EK

namespace EK
noncomputable section
open PySem PySem.Spec L2
/-! ### the evaluator over lists by value -/
/-- what a name holds: a value (lists within it by value), or one of the cells: lists that may change -/
inductive QX where
  | v (x : PV) | c (k : Nat) | f (x : Str) (caps : List PV)
  deriving Inhabited
abbrev QEnv := List (Option QX)
/-- the cells; none: it was given away -/
abbrev QSt := List (Option (List PV))
inductive QR (α : Type) where
  | ok (a : α) (τ : QSt) | exc (c : Str) (fs : List PV) (τ : QSt) | bad
def QR.bind {α β : Type} (m : QR α) (f : α → QSt → QR β) : QR β := match m with
  | .ok a τ => f a τ
  | .exc c fs τ => .exc c fs τ
  | .bad => .bad
inductive QS where
  | nx (env : QEnv) (τ : QSt) | ret (x : QX) (fr : Bool) (τ : QSt)
  | exc (c : Str) (fs : List PV) (env : QEnv) (τ : QSt) | bad
def QR.sbind {α : Type} (env : QEnv) (m : QR α) (f : α → QSt → QS) : QS := match m with
  | .ok a τ => f a τ
  | .exc c fs τ => .exc c fs env τ
  | .bad => .bad
def QS.thn (m : QS) (f : QEnv → QSt → QS) : QS := match m with
  | .nx env τ => f env τ
  | r => r
/-- the cells made since are gone -/
def cutQ {α : Type} (n : Nat) (m : QR α) : QR α := match m with
  | .ok a τ => .ok a (τ.take n)
  | .exc c fs τ => .exc c fs (τ.take n)
  | .bad => .bad
/-- an option's answer -/
def okO {α : Type} (o : Option α) (τ : QSt) : QR α := match o with
  | some a => .ok a τ
  | none => .bad
/-- a cell's list, a value -/
def vw (τ : QSt) : QX → Option PV
  | .v x => some x
  | .c k => match τ[k]? with
    | some (some xs) => some (.vl xs)
    | _ => none
  | .f _ _ => none
def vws (τ : QSt) : List QX → Option (List PV)
  | [] => some []
  | x :: xs => match vw τ x with
    | some v => match vws τ xs with
      | some vs => some (v :: vs)
      | none => none
    | none => none
/-- given away: the cell is a value from now on -/
def frz (x : QX) (τ : QSt) : QR PV := match x with
  | .v x => .ok x τ
  | .c k => match τ[k]? with
    | some (some xs) => .ok (.vl xs) (τ.set k none)
    | _ => .bad
  | .f _ _ => .bad
def frzs : List QX → QSt → QR (List PV)
  | [], τ => .ok [] τ
  | x :: xs, τ => (frz x τ).bind fun v τ1 => (frzs xs τ1).bind fun vs τ2 => .ok (v :: vs) τ2
/-! ### the single deeds -/
def truQ : PV → Option Bool
  | .non => some false
  | .bl b => some b
  | .int i => some (i != 0)
  | .str x => if x.length ≤ sizeLine then some (x.length != 0) else none
  | .tup xs => some (!xs.isEmpty)
  | .vl xs => some (!xs.isEmpty)
  | _ => none
def addQ (x y : PV) : Option PV := match x, y with
  | .int i, .int j => some (.int (i + j))
  | .str i, .str j => if i.length + j.length ≤ sizeLine then some (.str (i ++ j)) else none
  | .tup xs, .tup ys => if xs.length + ys.length ≤ sizeLine then some (.tup (xs ++ ys)) else none
  | .vl xs, .vl ys => if xs.length + ys.length ≤ sizeLine then some (.vl (xs ++ ys)) else none
  | _, _ => none
def intQ (op : BOp) (i j : Int) : Option Int := match op with
  | .add => some (i + j)
  | .sub => some (i - j)
  | .mul => if mulOk i j then some (i * j) else none
  | .fdiv => if decide (0 < j) && decide (j.natAbs < 2 ^ 200) then some (i / j) else none
  | .mod => if 0 < j then some (i % j) else none
  | .pow => if decide (0 ≤ j) && decide (j ≤ 1000000) && decide (i.natAbs < 2 ^ 64) then some (i ^ j.toNat) else none
def intQ2 (op : BOp) (x y : PV) : Option PV := match x, y with
  | .int i, .int j => (intQ op i j).map .int
  | _, _ => none
def binQ (op : BOp) (x y : PV) : Option PV := match op with
  | .add => addQ x y
  | .sub => intQ2 .sub x y
  | .mul => intQ2 .mul x y
  | .fdiv => intQ2 .fdiv x y
  | .mod => intQ2 .mod x y
  | .pow => intQ2 .pow x y
mutual
/-- no list by value in it -/
def noL : PV → Bool
  | .vl _ => false
  | .tup xs => noLs xs
  | .wt xs => noLs xs
  | .con xs => noLs xs
  | .dct _ xs => noLs xs
  | .clo _ xs => noLs xs
  | _ => true
def noLs : List PV → Bool
  | [] => true
  | x :: xs => noL x && noLs xs
end
/-- can be compared -/
def cmpOk (x y : PV) : Bool := clean x && clean y && ((decide (depth x ≤ 150) && decide (depth y ≤ 150)) || (noL x && noL y && (decide (depth x ≤ 150) || decide (depth y ≤ 150))))
def eqQ (x y : PV) : Option Bool := if cmpOk x y then some (beqPV x y) else none
def inQ (x y : PV) : Option Bool := match y with
  | .tup xs => if clean x && cleans xs && decide (depth x ≤ 150) && decide (depths xs ≤ 150) then some (xs.any fun y => beqPV y x) else none
  | .vl xs => if clean x && cleans xs && decide (depth x ≤ 150) && decide (depths xs ≤ 150) then some (xs.any fun y => beqPV y x) else none
  | .dct ks _ => match x with
    | .str k => some (ks.contains k)
    | _ => none
  | .str z => match x with
    | .str c => if c.cps.size = 1 then some (decide (c.cps.getD 0 0 ∈ z.cps.toList)) else none
    | _ => none
  | _ => none
def cmpQ (op : COp) (x y : PV) : Option PV := match op with
  | .eq => (eqQ x y).map .bl
  | .ne => (eqQ x y).map fun b => .bl (!b)
  | .isIn => (inQ x y).map .bl
  | .notIn => (inQ x y).map fun b => .bl (!b)
  | .lt => match x, y with
    | .int i, .int j => some (.bl (decide (i < j)))
    | _, _ => none
  | .le => match x, y with
    | .int i, .int j => some (.bl (decide (i ≤ j)))
    | _, _ => none
  | .gt => match x, y with
    | .int i, .int j => some (.bl (decide (j < i)))
    | _, _ => none
  | .ge => match x, y with
    | .int i, .int j => some (.bl (decide (j ≤ i)))
    | _, _ => none
def ixQ (x y : PV) : Option PV := match x, y with
  | .tup xs, .int i => atI xs i
  | .vl xs, .int i => atI xs i
  | .con xs, .int i => atI xs i
  | .str z, .int i => if z.length ≤ sizeLine then match atI z.cps.toList i with
      | some c => some (.str ⟨#[c]⟩)
      | none => none
    else none
  | .dct ks vs, .str k => lookD k ks vs
  | _, _ => none
def slQ (x : PV) (l h : Option Int) : Option PV := match x with
  | .tup xs => some (.tup (cutP xs l h))
  | .vl xs => some (.vl (cutP xs l h))
  | .con xs => some (.vl (cutP xs l h))
  | .str z => if z.length ≤ sizeLine then some (.str (cutS z l h)) else none
  | _ => none
def seqQ : PV → Option (List PV)
  | .tup xs => some xs
  | .vl xs => some xs
  | _ => none
def lstQ : PV → Option (List PV)
  | .vl xs => some xs
  | _ => none
def primQ (p : Prim) (vs : List PV) : Option PV := match p, vs with
  | .len, [v] => match v with
    | .str z => if z.length ≤ sizeLine then some (.int z.length) else none
    | .con xs => some (.int xs.length)
    | .tup xs => some (.int xs.length)
    | .vl xs => some (.int xs.length)
    | _ => none
  | .int, [v] => match v with
    | .int i => some (.int i)
    | .bl b => some (.int (if b then 1 else 0))
    | .str z => if z.length ≤ 640 then (intText? z).map .int else none
    | _ => none
  | .abs, [v] => match v with
    | .int i => some (.int (if i < 0 then -i else i))
    | _ => none
  | .max2, [v, w] => match v, w with
    | .int i, .int j => some (.int (if j > i then j else i))
    | _, _ => none
  | .min2, [v, w] => match v, w with
    | .int i, .int j => some (.int (if j < i then j else i))
    | _, _ => none
  | .max1, [v] => match (lstQ v).bind intsP with
    | some (a :: r) => some (.int (maxI (a :: r)))
    | _ => none
  | .min1, [v] => match (lstQ v).bind intsP with
    | some (a :: r) => some (.int (minI (a :: r)))
    | _ => none
  | .sum, [v] => match (lstQ v).bind intsP with
    | some xs => some (.int xs.sum)
    | none => none
  | .any, [v] => match (lstQ v).bind blsP with
    | some xs => some (.bl (xs.any id))
    | none => none
  | .all, [v] => match (lstQ v).bind blsP with
    | some xs => some (.bl (xs.all id))
    | none => none
  | .tuple, [v] => (seqQ v).map .tup
  | .list, [v] => (seqQ v).map .vl
  | .str, [v] => match v with
    | .int i => if i.natAbs < 2 ^ 64 then some (.str (toString i)) else none
    | _ => none
  | .sorted, [v] => match v with
    | .vl [.str a, .str b] => (srt2 a b).map .vl
    | _ => none
  | _, _ => none
def lrgQ (vs : List PV) : Option PV := match vs with
  | [.int j] => if fitsL j then some (.vl (rangeP 0 j.toNat)) else none
  | _ => none
def idxQ (x : PV) (xs : List PV) : Option PV := if clean x && cleans xs && decide (depth x ≤ 150) && decide (depths xs ≤ 150) then (xs.findIdx? fun y => beqPV y x).map fun k => .int (k : Nat) else none
def isVl : PV → Bool
  | .vl _ => true
  | _ => false
/-- methods that change nothing -/
def mthQ (m : Mth) (o : PV) (vs : List PV) : Option PV := match m, o, vs with
  | .index, .tup xs, [x] => idxQ x xs
  | .index, .vl xs, [x] => idxQ x xs
  | .get, .dct ks ws, [.str k] => some ((lookD k ks ws).getD .non)
  | .get, .dct ks ws, [.str k, d] => if isVl d then none else some ((lookD k ks ws).getD d)
  | _, _, _ => none
/-- methods that change the cell: what it holds from now on, what is told -/
def cellQ (m : Mth) (xs : List PV) (vs : List PV) : Option (List PV × PV) := match m, vs with
  | .append, [v] => if xs.length < sizeLine then some (xs ++ [v], .non) else none
  | .extend, [.vl ys] => if xs.length + ys.length ≤ sizeLine then some (xs ++ ys, .non) else none
  | .pop, [] => match xs[xs.length - 1]? with
    | some v => some (xs.dropLast, v)
    | none => none
  | .pop, [.int 0] => match xs with
    | v :: xs => some (xs, v)
    | [] => none
  | .clear, [] => some ([], .non)
  | _, _ => none
def isCh (m : Mth) : Bool := match m with
  | .append => true | .extend => true | .pop => true | .clear => true | _ => false
def tyQ : PV → Option String
  | .non => some "NoneType"
  | .bl _ => some "bool"
  | .int _ => some "int"
  | .str _ => some "str"
  | .tup _ => some "tuple"
  | .vl _ => some "list"
  | _ => none
/-! ### what is walked -/
def enQ : PV → Option (List PV)
  | .vl xs => some xs
  | .tup xs => some xs
  | _ => none
def itemsQ (k : IK) (ps : List PV) : Option (List PV) := match k with
  | .over => match ps with
    | [v] => seqQ v
    | _ => none
  | .enum => match ps with
    | [v] => (enQ v).map enumF
    | _ => none
  | .zip => match ps with
    | [v, w] => match v, w with
      | .vl xs, .vl ys => some (zipP xs ys)
      | .tup xs, .tup ys => some (zipP xs ys)
      | _, _ => none
    | _ => none
  | .rev => match ps with
    | [v] => (lstQ v).map List.reverse
    | _ => none
  | .range => rangeM ps
def itmQ (k : IK) (src : List QX) (τ : QSt) : Option (List PV) := (vws τ src).bind (itemsQ k)
def stepQ (k : IK) (src : List QX) (n0 i : Nat) (τ : QSt) : Stp := match itmQ k src τ with
  | some xs => match k with
    | .rev => if xs.length = n0 then stp xs i else .bad
    | _ => stp xs i
  | none => .bad
def setQ (env : QEnv) : List Nat → List PV → Option QEnv
  | [], [] => some env
  | i :: is, v :: vs => setQ (env.set i (some (.v v))) is vs
  | _, _ => none
/-- an item given to a target -/
def asgQ (t : Tgt) (v : PV) (env : QEnv) : Option QEnv := match t with
  | .nm i => some (env.set i (some (.v v)))
  | .tp is => match v with
    | .tup vs => setQ env is vs
    | .wt vs => setQ env is vs
    | _ => none
def wipeQ (env : QEnv) : List Nat → QEnv
  | [] => env
  | v :: vs => (wipeQ env vs).set v none
/-- constants -/
def cstOk : PV → Bool
  | .non => true
  | .bl _ => true
  | .int _ => true
  | .str _ => true
  | _ => false
structure QConf where
  glob : Str → Option PV
  call : Str → List QX → QSt → QR PV
  can : Bool
  /-- whether what it hands back is a new list -/
  fr : Str → Bool
  /-- how many cells there were when the def began -/
  n0 : Nat
  clo : Str → List PV → List QX → QSt → QR PV
  mth : Str → Str → List QX → QSt → QR PV
  mks : Str → Bool
  hasM : Str → Str → Bool
  tab : Str → Bool
/-- without what it raises -/
def calmQ {α : Type} (m : QR α) : QR α := match m with
  | .ok a τ => .ok a τ
  | _ => .bad
/-- what the names js hold -/
def capsQ (env : QEnv) : List Nat → Option (List PV)
  | [] => some []
  | j :: js => match env[j]? with
    | some (some (.v v)) => (capsQ env js).map (v :: ·)
    | _ => none
def cloX (env : QEnv) (i : Nat) : Option (Str × List PV) := match env[i]? with
  | some (some (.f x caps)) => some (x, caps)
  | _ => none
def objX : QX → Option Str
  | .v (.obj c) => some c
  | _ => none
def blX : QX → Option Bool
  | .v (.bl b) => some b
  | _ => none
def enGetQ (x y : QX) : Option PV := match x, y with
  | .v (.tup xs), .v (.int i) => some (if 0 ≤ i then (xs[i.toNat]?).getD .non else .non)
  | _, _ => none
/-- a new list at each time -/
def frE (fr : Str → Bool) : Ex → Bool
  | .lst _ => true
  | .comp .. => true
  | .lrg _ => true
  | .prim .list _ => true
  | .call f _ => fr f
  | .callc f _ _ => fr f
  | .mcall m _ _ => fr m
  | .bin .add _ _ => true
  | .sl _ _ _ => true
  | .cel a => frE fr a
  | _ => false
def isCel (fr : Str → Bool) : Ex → Bool
  | .cel a => frE fr a
  | _ => false
/-- an argument that becomes a cell -/
def cellA (b : Bool) (x : QX) (τ : QSt) : QX × QSt := match b, x with
  | true, .v (.vl ys) => (.c τ.length, τ ++ [some ys])
  | _, x => (x, τ)
def truR (x : QX) (τ : QSt) : Option Bool := (vw τ x).bind truQ
def forQ (stp : Nat → QSt → Stp) (asg : PV → QEnv → Option QEnv) (body : QEnv → QSt → QS) : Nat → Nat → QEnv → QSt → QS
  | 0, _, _, _ => .bad
  | f + 1, i, env, τ => match stp i τ with
    | .bad => .bad
    | .stop => .nx env τ
    | .item v => match asg v env with
      | none => .bad
      | some e1 => match body e1 τ with
        | .nx e2 τ2 => forQ stp asg body f (i + 1) e2 τ2
        | r => r
/-- a comprehension's turns: the list grows in the cell d -/
def compQ (stp : Nat → QSt → Stp) (turn : PV → QSt → QR (Option PV)) (d : Nat) : Nat → Nat → QSt → QR PV
  | 0, _, _ => .bad
  | f + 1, i, τ => match stp i τ with
    | .bad => .bad
    | .stop => match τ[d]? with
      | some (some xs) => .ok (.vl xs) (τ.take d)
      | _ => .bad
    | .item v => match turn v τ with
      | .ok none τ2 => compQ stp turn d f (i + 1) τ2
      | .ok (some y) τ2 => match τ2[d]? with
        | some (some acc) => if acc.length < sizeLine then compQ stp turn d f (i + 1) (τ2.set d (some (acc ++ [y]))) else .bad
        | _ => .bad
      | _ => .bad
def whileQ (test : QEnv → QSt → QR Bool) (body : QEnv → QSt → QS) : Nat → QEnv → QSt → QS
  | 0, _, _ => .bad
  | f + 1, env, τ => match test env τ with
    | .ok false τ1 => .nx env τ1
    | .ok true τ1 => match body env τ1 with
      | .nx e2 τ2 => whileQ test body f e2 τ2
      | r => r
    | .exc c fs τ1 => .exc c fs env τ1
    | .bad => .bad
def truBQ (m : QR QX) : QR Bool := m.bind fun x τ => okO (truR x τ) τ
def partQ (m : QR (List QX)) : QR (Option Int) := m.bind fun xs τ => okO ((vws τ xs).bind partM) τ
def nonX : QX → Bool
  | .v p => isNonP p
  | _ => false
/-- the receivers that have it -/
def metQ (m : Mth) (x : QX) : Bool := match m, x with
  | .append, .c _ => true | .extend, .c _ => true | .pop, .c _ => true | .clear, .c _ => true
  | .index, .c _ => true
  | .index, .v (.tup _) => true
  | .index, .v (.vl _) => true
  | .get, .v (.dct _ _) => true
  | _, _ => false
/-- a cell's method -/
def chQ (m : Mth) (x : QX) (vs : List QX) (τ : QSt) : QR QX := match x with
  | .c k => (frzs vs τ).bind fun ps τ1 => match τ1[k]? with
    | some (some xs) => match cellQ m xs ps with
      | some (ys, v) => .ok (.v v) (τ1.set k (some ys))
      | none => .bad
    | _ => .bad
  | _ => .bad
mutual
def evalQ (G : QConf) : Ex → QEnv → QSt → QR QX
  | .slot i, env, τ => match env[i]? with
    | some (some (.f _ _)) => .bad
    | some (some x) => .ok x τ
    | _ => .bad
  | .cst v, _, τ => if cstOk v then .ok (.v v) τ else .bad
  | .glo x, _, τ => match G.glob x with
    | some v => .ok (.v v) τ
    | none => .bad
  | .tup es, env, τ => (evalQs G es env τ).bind fun xs τ1 => (frzs xs τ1).bind fun vs τ2 => if vs.length ≤ sizeLine then .ok (.v (.tup vs)) τ2 else .bad
  | .lst es, env, τ => (evalQs G es env τ).bind fun xs τ1 => (frzs xs τ1).bind fun vs τ2 => if vs.length ≤ sizeLine then .ok (.v (.vl vs)) τ2 else .bad
  | .dsp ks es, env, τ => (evalQs G es env τ).bind fun xs τ1 => (frzs xs τ1).bind fun vs τ2 => if vs.length = ks.length then .ok (.v (.dct ks vs)) τ2 else .bad
  | .bin op a b, env, τ => (evalQ G a env τ).bind fun x τ1 => (evalQ G b env τ1).bind fun y τ2 => okO ((vw τ2 x).bind fun p => (vw τ2 y).bind fun q => (binQ op p q).map .v) τ2
  | .neg a, env, τ => (evalQ G a env τ).bind fun x τ1 => match x with
    | .v (.int i) => .ok (.v (.int (-i))) τ1
    | _ => .bad
  | .not a, env, τ => (truBQ (evalQ G a env τ)).bind fun b τ1 => .ok (.v (.bl (!b))) τ1
  | .cmp op a b, env, τ => (evalQ G a env τ).bind fun x τ1 => (evalQ G b env τ1).bind fun y τ2 => okO ((vw τ2 x).bind fun p => (vw τ2 y).bind fun q => (cmpQ op p q).map .v) τ2
  | .chn a b c, env, τ => (evalQ G a env τ).bind fun x τ1 => (evalQ G b env τ1).bind fun y τ2 => match x, y with
    | .v (.int i), .v (.int j) => if i < j then (evalQ G c env τ2).bind fun z τ3 => match z with
        | .v (.int k) => .ok (.v (.bl (decide (j < k)))) τ3
        | _ => .bad
      else .ok (.v (.bl false)) τ2
    | _, _ => .bad
  | .and a b, env, τ => (evalQ G a env τ).bind fun x τ1 => match truR x τ1 with
    | some true => evalQ G b env τ1
    | some false => .ok x τ1
    | none => .bad
  | .or a b, env, τ => (evalQ G a env τ).bind fun x τ1 => match truR x τ1 with
    | some true => .ok x τ1
    | some false => evalQ G b env τ1
    | none => .bad
  | .ite c a b, env, τ => (truBQ (evalQ G c env τ)).bind fun t τ1 => if t then evalQ G a env τ1 else evalQ G b env τ1
  | .isN a, env, τ => (evalQ G a env τ).bind fun x τ1 => .ok (.v (.bl (nonX x))) τ1
  | .notN a, env, τ => (evalQ G a env τ).bind fun x τ1 => .ok (.v (.bl (!nonX x))) τ1
  | .ix a b, env, τ => (evalQ G a env τ).bind fun x τ1 => (evalQ G b env τ1).bind fun y τ2 => okO ((vw τ2 x).bind fun p => (vw τ2 y).bind fun q => (ixQ p q).map .v) τ2
  | .sl a lo hi, env, τ => (evalQ G a env τ).bind fun x τ1 => (partQ (evalQs G lo env τ1)).bind fun l τ2 => (partQ (evalQs G hi env τ2)).bind fun h τ3 => okO ((vw τ3 x).bind fun p => (slQ p l h).map .v) τ3
  | .call f es, env, τ => if G.can then cutQ τ.length ((evalA G es env τ).bind fun xs τ1 => (G.call f xs τ1).bind fun v τ2 => .ok (.v v) τ2) else .bad
  | .prim p es, env, τ => (evalQs G es env τ).bind fun xs τ1 => okO ((vws τ1 xs).bind fun ps => (primQ p ps).map .v) τ1
  | .lrg es, env, τ => (evalQs G es env τ).bind fun xs τ1 => okO ((vws τ1 xs).bind fun ps => (lrgQ ps).map .v) τ1
  | .meth m o es, env, τ => (evalQ G o env τ).bind fun x τ1 => if !(metQ m x && (vw τ1 x).isSome) then .bad else (evalQs G es env τ1).bind fun xs τ2 => if isCh m then chQ m x xs τ2 else okO ((vw τ2 x).bind fun p => (vws τ2 xs).bind fun ps => (mthQ m p ps).map .v) τ2
  | .isT t a, env, τ => (evalQ G a env τ).bind fun x τ1 => okO ((vw τ1 x).bind fun p => (tyQ p).map fun s => .v (.bl (kitS t s))) τ1
  | .cel a, env, τ => evalQ G a env τ
  | .isTru a, env, τ => (evalQ G a env τ).bind fun x τ1 => okO ((blX x).map fun b => .v (.bl b)) τ1
  | .revL a, env, τ => (evalQ G a env τ).bind fun x τ1 => okO ((vw τ1 x).bind fun p => (lstQ p).map fun xs => .v (.vl xs.reverse)) τ1
  | .enGet a b, env, τ => (evalQ G a env τ).bind fun x τ1 => (evalQ G b env τ1).bind fun y τ2 => okO ((enGetQ x y).map .v) τ2
  | .new c, _, τ => if G.mks c then .ok (.v (.obj c)) τ else .bad
  | .mcall m o es, env, τ => if G.can then cutQ τ.length ((calmQ (evalQ G o env τ)).bind fun x τ1 => match objX x with
    | some c => if G.hasM c m then (evalA G es env τ1).bind fun xs τ2 => (calmQ (G.mth c m (.v (.obj c) :: xs) τ2)).bind fun v τ3 => .ok (.v v) τ3 else .bad
    | none => .bad) else .bad
  | .callc g es i, env, τ => if G.can then match cloX env i with
    | some p => cutQ τ.length ((evalA G es env τ).bind fun xs τ1 => (G.call g (xs ++ [.f p.1 p.2]) τ1).bind fun v τ2 => .ok (.v v) τ2)
    | none => .bad
    else .bad
  | .callv i es, env, τ => if G.can then match cloX env i with
    | some p => cutQ τ.length ((evalA G es env τ).bind fun xs τ1 => (calmQ (G.clo p.1 p.2 xs τ1)).bind fun v τ2 => .ok (.v v) τ2)
    | none => .bad
    else .bad
  | .comp own tg k src cond elt, env, τ => (evalQs G src env τ).bind fun xs τ1 => match itmQ k xs τ1 with
    | none => .bad
    | some items => (compQ (stepQ k xs items.length) (fun v τ2 => match asgQ tg v (wipeQ env own) with
      | none => .bad
      | some e1 => (evalCQ G cond e1 τ2).bind fun b τ3 => if b then (evalQ G elt e1 τ3).bind fun y τ4 => (frz y τ4).bind fun z τ5 => .ok (some z) τ5 else .ok none τ3)
        τ1.length (items.length + 1) 0 (τ1 ++ [some []])).bind fun v τ2 => .ok (.v v) τ2
def evalQs (G : QConf) : Exs → QEnv → QSt → QR (List QX)
  | .nil, _, τ => .ok [] τ
  | .cons e es, env, τ => (evalQ G e env τ).bind fun x τ1 => (evalQs G es env τ1).bind fun xs τ2 => .ok (x :: xs) τ2
/-- arguments, some of them cells from now on -/
def evalA (G : QConf) : Exs → QEnv → QSt → QR (List QX)
  | .nil, _, τ => .ok [] τ
  | .cons e es, env, τ => (evalQ G e env τ).bind fun x τ1 => (evalA G es env (cellA (isCel G.fr e) x τ1).2).bind fun xs τ2 => .ok ((cellA (isCel G.fr e) x τ1).1 :: xs) τ2
def evalCQ (G : QConf) : Exs → QEnv → QSt → QR Bool
  | .nil, _, τ => .ok true τ
  | .cons e es, env, τ => match es with
    | .nil => truBQ (evalQ G e env τ)
    | _ => .bad
end
/-- a name's store -/
def storeQ (i : Nat) (x : QX) (env : QEnv) (τ : QSt) : QS := (frz x τ).sbind env fun v τ1 => .nx (env.set i (some (.v v))) τ1
/-- .. of a new cell -/
def newQ (i : Nat) (fresh : Bool) (x : QX) (env : QEnv) (τ : QSt) : QS := match x with
    | .c _ => .bad
    | .f _ _ => .bad
    | .v (.vl xs) => if fresh then .nx (env.set i (some (.c τ.length))) (τ ++ [some xs]) else .nx (env.set i (some x)) τ
    | .v _ => .nx (env.set i (some x)) τ
mutual
def execQ (G : QConf) : Sm → QEnv → QSt → QS
  | .asg t e, env, τ => (evalQ G e env τ).sbind env fun x τ1 => match t with
    | .nm i => storeQ i x env τ1
    | .tp is => match x with
      | .v v => match asgQ (.tp is) v env with
        | some e1 => .nx e1 τ1
        | none => .bad
      | _ => .bad
  | .asgIx o i e, env, τ => (evalQ G e env τ).sbind env fun x τ1 => (evalQ G o env τ1).sbind env fun y τ2 => (evalQ G i env τ2).sbind env fun z τ3 => (frz x τ3).sbind env fun v τ4 => match y, z with
    | .c k, .v (.int i) => match τ4[k]? with
      | some (some xs) => match ixN xs.length i with
        | some j => .nx env (τ4.set k (some (xs.set j v)))
        | none => .bad
      | _ => .bad
    | _, _ => .bad
  | .asgC i e, env, τ => (evalQ G e env τ).sbind env fun x τ1 => newQ i (frE G.fr e) x env τ1
  | .exp e, env, τ => (evalQ G e env τ).sbind env fun _ τ1 => .nx env τ1
  | .ret e, env, τ => (evalQ G e env τ).sbind env fun x τ1 => .ret x (frE G.fr e || match x with
    | .c k => decide (G.n0 ≤ k)
    | _ => false) τ1
  | .ifs c a b, env, τ => match truBQ (evalQ G c env τ) with
    | .ok true τ1 => execQs G a env τ1
    | .ok false τ1 => execQs G b env τ1
    | .exc c fs τ1 => .exc c fs env τ1
    | .bad => .bad
  | .for t k src body, env, τ => match evalQs G src env τ with
    | .ok xs τ1 => match itmQ k xs τ1 with
      | none => .bad
      | some items => forQ (stepQ k xs items.length) (asgQ t) (execQs G body) (items.length + 1) 0 env τ1
    | .exc c fs τ1 => .exc c fs env τ1
    | .bad => .bad
  | .while c body, env, τ => whileQ (fun env τ => truBQ (evalQ G c env τ)) (execQs G body) whileMost env τ
  | .raise c, env, τ => .exc c [] env τ
  | .nev, _, _ => .bad
  | .tryN body c i, env, τ => match execQs G body env τ with
    | .exc c' fs env' τ' => if c' = c ∧ fs = [] then .nx (env'.set i (some (.v .non))) τ' else .bad
    | r => r
  | .cloRet x g es js i, env, τ => if G.can && G.tab x then match capsQ (env.set i none) js with
    | some caps => ((evalA G es (env.set i none) τ).bind fun xs τ1 => calmQ (G.call g (xs ++ [.f x caps]) τ1)).sbind (env.set i none) fun v τ2 => .ret (.v v) (G.fr g) τ2
    | none => .bad
    else .bad
  | .pass, env, τ => .nx env τ
def execQs (G : QConf) : Sms → QEnv → QSt → QS
  | .nil, env, τ => .nx env τ
  | .cons s ss, env, τ => (execQ G s env τ).thn (execQs G ss)
end
/-- a text; whether what a def hands back is a new list -/
structure QT where
  T : Text
  fr : Str → Bool
def bodyQ (G : QConf) (fr : Bool) (f : FnI) (xs : List QX) (τ : QSt) : QR PV :=
  if xs.length = f.params.length then match execQs G f.body (xs.map some ++ List.replicate (f.slots.length - xs.length) none) τ with
    | .ret x b τ1 => if fr && !b then .bad else (frz x τ1).bind fun v τ2 => .ok v (τ2.take τ.length)
    | .nx _ τ1 => if fr then .bad else .ok .non (τ1.take τ.length)
    | .exc c fs _ τ1 => .exc c fs (τ1.take τ.length)
    | _ => .bad
  else .bad
/-- .. of a def within a def -/
def bodyQX (G : QConf) (f : FnI) (caps : List PV) (xs : List QX) (τ : QSt) : QR PV :=
  if xs.length = f.params.length then match execQs G f.body (xs.map some ++ (caps.map (fun v => some (QX.v v)) ++ List.replicate (f.slots.length - xs.length - caps.length) none)) τ with
    | .ret x b τ1 => (frz x τ1).bind fun v τ2 => .ok v (τ2.take τ.length)
    | .nx _ τ1 => .ok .non (τ1.take τ.length)
    | .exc c fs _ τ1 => .exc c fs (τ1.take τ.length)
    | _ => .bad
  else .bad
/-- calls at most r deep -/
def callK (U : QT) : Nat → CK → List PV → List QX → QSt → QR PV
  | 0, _, _, _, _ => .bad
  | r + 1, k, caps, xs, τ =>
    let G : QConf := ⟨U.T.glob, fun x => callK U r (.fn x) [], r != 0, U.fr, τ.length, fun x caps => callK U r (.clo x) caps, fun c m => callK U r (.mt c m) [], fun c => U.T.cls.contains c, fun c m => (U.T.mths.lookup (c, m)).isSome, fun x => (U.T.clos.lookup x).isSome⟩
    match k with
    | .fn x => match U.T.fns.lookup x with
      | some f => bodyQ G (U.fr x) f (xs ++ (f.dfl.drop (f.dfl.length - (f.params.length - xs.length))).map .v) τ
      | none => .bad
    | .mt c m => match U.T.mths.lookup (c, m) with
      | some f => bodyQ G (U.fr m) f xs τ
      | none => .bad
    | .clo x => match U.T.clos.lookup x with
      | some (f, n) => if caps.length = n then bodyQX G f caps xs τ else .bad
      | none => .bad
def callQ (U : QT) (r : Nat) (x : Str) (xs : List QX) (τ : QSt) : QR PV := callK U r (.fn x) [] xs τ
def cloQ (U : QT) (r : Nat) (x : Str) (caps : List PV) (xs : List QX) (τ : QSt) : QR PV := callK U r (.clo x) caps xs τ
def metK (U : QT) (r : Nat) (c m : Str) (xs : List QX) (τ : QSt) : QR PV := callK U r (.mt c m) [] xs τ
abbrev cQ (U : QT) (r : Nat) (n0 : Nat) : QConf := ⟨U.T.glob, callQ U r, r != 0, U.fr, n0, cloQ U r, metK U r, fun c => U.T.cls.contains c, fun c m => (U.T.mths.lookup (c, m)).isSome, fun x => (U.T.clos.lookup x).isSome⟩
theorem callQ_fn {U : QT} {r : Nat} {x : Str} {xs : List QX} {τ : QSt} {f : FnI} (h : U.T.fns.lookup x = some f) : callQ U (r + 1) x xs τ = bodyQ (cQ U r τ.length) (U.fr x) f (xs ++ (f.dfl.drop (f.dfl.length - (f.params.length - xs.length))).map .v) τ := by
  simp only [callQ, callK, h]; rfl
theorem metK_mt {U : QT} {r : Nat} {c m : Str} {xs : List QX} {τ : QSt} {f : FnI} (h : U.T.mths.lookup (c, m) = some f) : metK U (r + 1) c m xs τ = bodyQ (cQ U r τ.length) (U.fr m) f xs τ := by
  simp only [metK, callK, h]; rfl
theorem cloQ_clo {U : QT} {r n : Nat} {x : Str} {caps : List PV} {xs : List QX} {τ : QSt} {f : FnI} (h : U.T.clos.lookup x = some (f, n)) : cloQ U (r + 1) x caps xs τ = if caps.length = n then bodyQX (cQ U r τ.length) f caps xs τ else .bad := by
  simp only [cloQ, callK, h]; rfl
end
end EK

namespace EK
open PySem PySem.Spec PyProof.Rows L2
/-! ### how the store bears values with lists within -/
/-- the places of the cells that are still cells -/
def Alv (τ : QSt) (β : List Nat) (a : Nat) : Prop := ∃ (k : Nat) (xs : List PV), β[k]? = some a ∧ τ[k]? = some (some xs)
mutual
def VR (A : Nat → Prop) (S : Store) : PV → PV → Prop
  | .vl xs, p => ∃ a ps, p = .ref a ∧ ¬ A a ∧ S[a]? = some (.lst ps) ∧ VRs A S xs ps
  | .tup xs, p => ∃ ps, p = .tup ps ∧ VRs A S xs ps
  | .wt xs, p => ∃ ps, p = .wt ps ∧ VRs A S xs ps
  | .con xs, p => ∃ ps, p = .con ps ∧ VRs A S xs ps
  | .dct ks xs, p => ∃ ps, p = .dct ks ps ∧ VRs A S xs ps
  | .non, p => p = .non
  | .bl b, p => p = .bl b
  | .int i, p => p = .int i
  | .str x, p => p = .str x
  | .ref _, _ => False
  | .clo _ _, _ => False
  | .obj c, p => p = .obj c
def VRs (A : Nat → Prop) (S : Store) : List PV → List PV → Prop
  | [], ps => ps = []
  | x :: xs, ps => ∃ p r, ps = p :: r ∧ VR A S x p ∧ VRs A S xs r
end
/-- the same, but that the list itself may be a cell -/
def WR (A : Nat → Prop) (S : Store) : PV → PV → Prop
  | .vl xs, p => ∃ a ps, p = .ref a ∧ S[a]? = some (.lst ps) ∧ VRs A S xs ps
  | q, p => VR A S q p
def WRs (A : Nat → Prop) (S : Store) : List PV → List PV → Prop
  | [], ps => ps = []
  | x :: xs, ps => ∃ p r, ps = p :: r ∧ WR A S x p ∧ WRs A S xs r
def XR (A : Nat → Prop) (β : List Nat) (S : Store) : QX → PV → Prop
  | .v x, p => VR A S x p
  | .c k, p => ∃ a, β[k]? = some a ∧ p = .ref a
  | .f x caps, p => ∃ ps, p = .clo x ps ∧ VRs A S caps ps
def XRs (A : Nat → Prop) (β : List Nat) (S : Store) : List QX → List PV → Prop
  | [], ps => ps = []
  | x :: xs, ps => ∃ p r, ps = p :: r ∧ XR A β S x p ∧ XRs A β S xs r
/-- what was reached stays -/
def Mo (A : Nat → Prop) (S : Store) (A' : Nat → Prop) (S' : Store) : Prop := ∀ a c, S[a]? = some c → ¬ A a → S'[a]? = some c ∧ ¬ A' a
section
variable {A A' A'' : Nat → Prop} {S S' S'' : Store} {β β' : List Nat} {τ τ' : QSt}
theorem Mo.refl : Mo A S A S := fun _ _ h n => ⟨h, n⟩
theorem Mo.trans (a : Mo A S A' S') (b : Mo A' S' A'' S'') : Mo A S A'' S'' := fun x c h n => b x c (a x c h n).1 (a x c h n).2
mutual
theorem VR.mo (m : Mo A S A' S') : ∀ {q p : PV}, VR A S q p → VR A' S' q p
  | .vl xs, _, h => by
    unfold VR at h ⊢
    obtain ⟨a, ps, e, n, hs, r⟩ := h
    exact ⟨a, ps, e, (m a _ hs n).2, (m a _ hs n).1, VRs.mo m r⟩
  | .tup xs, _, h => by
    unfold VR at h ⊢
    obtain ⟨ps, e, r⟩ := h
    exact ⟨ps, e, VRs.mo m r⟩
  | .wt xs, _, h => by
    unfold VR at h ⊢
    obtain ⟨ps, e, r⟩ := h
    exact ⟨ps, e, VRs.mo m r⟩
  | .con xs, _, h => by
    unfold VR at h ⊢
    obtain ⟨ps, e, r⟩ := h
    exact ⟨ps, e, VRs.mo m r⟩
  | .dct ks xs, _, h => by
    unfold VR at h ⊢
    obtain ⟨ps, e, r⟩ := h
    exact ⟨ps, e, VRs.mo m r⟩
  | .non, _, h => by unfold VR at h ⊢; exact h
  | .bl _, _, h => by unfold VR at h ⊢; exact h
  | .int _, _, h => by unfold VR at h ⊢; exact h
  | .str _, _, h => by unfold VR at h ⊢; exact h
  | .ref _, _, h => by unfold VR at h; exact h.elim
  | .clo _ _, _, h => by unfold VR at h; exact h.elim
  | .obj _, _, h => by unfold VR at h ⊢; exact h
theorem VRs.mo (m : Mo A S A' S') : ∀ {qs ps : List PV}, VRs A S qs ps → VRs A' S' qs ps
  | [], _, h => by unfold VRs at h ⊢; exact h
  | x :: xs, _, h => by
    unfold VRs at h ⊢
    obtain ⟨p, r, e, h1, h2⟩ := h
    exact ⟨p, r, e, VR.mo m h1, VRs.mo m h2⟩
end
theorem XR.mo (m : Mo A S A' S') (hb : β <+: β') : ∀ {x : QX} {p : PV}, XR A β S x p → XR A' β' S' x p
  | .v x, p, h => VR.mo m h
  | .c k, p, ⟨a, e, ep⟩ => by
    refine ⟨a, ?_, ep⟩
    obtain ⟨t, rfl⟩ := hb
    rw [List.getElem?_append_left (List.getElem?_eq_some_iff.mp e).1]
    exact e
  | .f x caps, p, ⟨ps, e, r⟩ => ⟨ps, e, VRs.mo m r⟩
theorem XRs.mo (m : Mo A S A' S') (hb : β <+: β') : ∀ {xs : List QX} {ps : List PV}, XRs A β S xs ps → XRs A' β' S' xs ps
  | [], _, h => h
  | x :: xs, _, ⟨p, r, e, h1, h2⟩ => ⟨p, r, e, XR.mo m hb h1, XRs.mo m hb h2⟩
theorem VRs.len : ∀ {qs ps : List PV}, VRs A S qs ps → ps.length = qs.length
  | [], _, h => by unfold VRs at h; subst h; rfl
  | x :: xs, _, h => by
    unfold VRs at h
    obtain ⟨p, r, rfl, _, h2⟩ := h
    rw [List.length_cons, List.length_cons, VRs.len h2]
theorem XRs.len : ∀ {qs : List QX} {ps : List PV}, XRs A β S qs ps → ps.length = qs.length
  | [], _, h => by cases h; rfl
  | x :: xs, _, ⟨p, r, e, _, h2⟩ => by subst e; rw [List.length_cons, List.length_cons, XRs.len h2]
theorem XRs.get : ∀ {qs : List QX} {ps : List PV} {i : Nat} {q : QX}, XRs A β S qs ps → qs[i]? = some q → ∃ p, ps[i]? = some p ∧ XR A β S q p
  | [], _, _, _, _, e => by simp at e
  | x :: xs, _, i, y, ⟨p, r, e0, h1, h2⟩, e => by
    subst e0
    cases i with
    | zero => simp at e; subst e; exact ⟨p, rfl, h1⟩
    | succ i => exact XRs.get (i := i) h2 (by simpa using e)
theorem VRs.nil : VRs A S [] [] := by unfold VRs; rfl
theorem VRs.cons {x p : PV} {xs ps : List PV} (a : VR A S x p) (b : VRs A S xs ps) : VRs A S (x :: xs) (p :: ps) := by unfold VRs; exact ⟨p, ps, rfl, a, b⟩
theorem VRs.get : ∀ {qs ps : List PV} {i : Nat} {q : PV}, VRs A S qs ps → qs[i]? = some q → ∃ p, ps[i]? = some p ∧ VR A S q p
  | [], _, _, _, _, e => by simp at e
  | x :: xs, _, i, y, h, e => by
    unfold VRs at h
    obtain ⟨p, r, rfl, h1, h2⟩ := h
    cases i with
    | zero => simp at e; subst e; exact ⟨p, rfl, h1⟩
    | succ i => exact VRs.get (i := i) h2 (by simpa using e)
theorem VRs.none {qs ps : List PV} {i : Nat} (h : VRs A S qs ps) (e : qs[i]? = .none) : ps[i]? = .none := by
  rw [List.getElem?_eq_none_iff] at e ⊢
  rw [h.len]; exact e
theorem VRs.append : ∀ {xs ys ps rs : List PV}, VRs A S xs ps → VRs A S ys rs → VRs A S (xs ++ ys) (ps ++ rs)
  | [], _, _, _, h, k => by unfold VRs at h; subst h; exact k
  | x :: xs, _, _, _, h, k => by
    unfold VRs at h
    obtain ⟨p, r, rfl, h1, h2⟩ := h
    exact .cons h1 (VRs.append h2 k)
theorem VRs.drop : ∀ {xs ps : List PV} (n : Nat), VRs A S xs ps → VRs A S (xs.drop n) (ps.drop n)
  | _, _, 0, h => h
  | [], _, n + 1, h => by unfold VRs at h; subst h; exact .nil
  | x :: xs, _, n + 1, h => by
    unfold VRs at h
    obtain ⟨p, r, rfl, h1, h2⟩ := h
    exact VRs.drop n h2
theorem VRs.take : ∀ {xs ps : List PV} (n : Nat), VRs A S xs ps → VRs A S (xs.take n) (ps.take n)
  | _, _, 0, h => .nil
  | [], _, n + 1, h => by unfold VRs at h; subst h; exact .nil
  | x :: xs, _, n + 1, h => by
    unfold VRs at h
    obtain ⟨p, r, rfl, h1, h2⟩ := h
    exact .cons h1 (VRs.take n h2)
theorem VRs.dropLast : ∀ {xs ps : List PV}, VRs A S xs ps → VRs A S xs.dropLast ps.dropLast := fun {xs ps} h => by
  rw [List.dropLast_eq_take, List.dropLast_eq_take, h.len]
  exact h.take _
theorem VRs.set : ∀ {xs ps : List PV} {x p : PV} (n : Nat), VR A S x p → VRs A S xs ps → VRs A S (xs.set n x) (ps.set n p)
  | [], _, _, _, _, _, h => by unfold VRs at h; subst h; exact .nil
  | y :: xs, _, x, p, 0, a, h => by
    unfold VRs at h
    obtain ⟨u, r, rfl, h1, h2⟩ := h
    exact .cons a h2
  | y :: xs, _, x, p, n + 1, a, h => by
    unfold VRs at h
    obtain ⟨u, r, rfl, h1, h2⟩ := h
    exact .cons h1 (VRs.set n a h2)
theorem VRs.reverse : ∀ {xs ps : List PV}, VRs A S xs ps → VRs A S xs.reverse ps.reverse
  | [], _, h => by unfold VRs at h; subst h; exact .nil
  | x :: xs, _, h => by
    unfold VRs at h
    obtain ⟨p, r, rfl, h1, h2⟩ := h
    rw [List.reverse_cons, List.reverse_cons]
    exact VRs.append (VRs.reverse h2) (.cons h1 .nil)
theorem VRs.atI {xs ps : List PV} {i : Int} {q : PV} (h : VRs A S xs ps) (e : L2.atI xs i = some q) : ∃ p, L2.atI ps i = some p ∧ VR A S q p := by
  unfold L2.atI at e ⊢
  rw [h.len]
  cases hj : L2.ixN xs.length i with
  | none => rw [hj] at e; cases e
  | some j => rw [hj] at e; exact h.get e
theorem VRs.cut {xs ps : List PV} {l h : Option Int} (r : VRs A S xs ps) : VRs A S (cutP xs l h) (cutP ps l h) := by
  unfold cutP
  rw [r.len]
  exact (r.drop _).take _
theorem VRs.ints : ∀ {xs ps : List PV} {ns : List Int}, VRs A S xs ps → intsP xs = some ns → intsP ps = some ns
  | [], _, _, h, e => by unfold VRs at h; subst h; exact e
  | x :: xs, _, ns, h, e => by
    unfold VRs at h
    obtain ⟨p, r, rfl, h1, h2⟩ := h
    cases x <;> simp only [intsP] at e <;> try cases e
    unfold VR at h1; subst h1
    cases q : intsP xs with
    | none => rw [q] at e; cases e
    | some ms =>
      rw [q] at e
      simp only [intsP, VRs.ints h2 q]
      exact e
theorem VRs.bls : ∀ {xs ps : List PV} {ns : List Bool}, VRs A S xs ps → blsP xs = some ns → blsP ps = some ns
  | [], _, _, h, e => by unfold VRs at h; subst h; exact e
  | x :: xs, _, ns, h, e => by
    unfold VRs at h
    obtain ⟨p, r, rfl, h1, h2⟩ := h
    cases x <;> simp only [blsP] at e <;> try cases e
    unfold VR at h1; subst h1
    cases q : blsP xs with
    | none => rw [q] at e; cases e
    | some ms =>
      rw [q] at e
      simp only [blsP, VRs.bls h2 q]
      exact e
theorem VRs.look : ∀ {ks : List Str} {xs ps : List PV} {k : Str}, VRs A S xs ps → (∀ v, lookD k ks xs = some v → ∃ p, lookD k ks ps = some p ∧ VR A S v p) ∧ (lookD k ks xs = .none → lookD k ks ps = .none)
  | [], xs, ps, k, h => ⟨fun v e => by simp [lookD] at e, fun _ => by simp [lookD]⟩
  | q :: ks, [], ps, k, h => by
    unfold VRs at h; subst h
    exact ⟨fun v e => by simp [lookD] at e, fun _ => by simp [lookD]⟩
  | q :: ks, x :: xs, ps, k, h => by
    unfold VRs at h
    obtain ⟨p, r, rfl, h1, h2⟩ := h
    obtain ⟨i1, i2⟩ := VRs.look (ks := ks) (k := k) h2
    by_cases hk : k = q
    · simp only [lookD, if_pos hk]
      exact ⟨fun v e => by cases e; exact ⟨p, rfl, h1⟩, fun e => by cases e⟩
    · simp only [lookD, if_neg hk]
      exact ⟨i1, i2⟩
/-! ### of one shape -/
theorem WR.vr {q p : PV} (h : WR A S q p) (n : ∀ xs, q ≠ .vl xs) : VR A S q p := by
  cases q <;> first | exact h | exact (n _ rfl).elim
theorem VR.wr {q p : PV} (h : VR A S q p) : WR A S q p := by
  cases q <;> first | exact h | skip
  unfold VR at h
  obtain ⟨a, ps, e, _, hs, r⟩ := h
  exact ⟨a, ps, e, hs, r⟩
theorem VRs.wrs : ∀ {qs ps : List PV}, VRs A S qs ps → WRs A S qs ps
  | [], _, h => by unfold VRs at h; exact h
  | x :: xs, _, h => by
    unfold VRs at h
    obtain ⟨p, r, e, h1, h2⟩ := h
    exact ⟨p, r, e, h1.wr, VRs.wrs h2⟩
theorem WR.int {i : Int} {p : PV} (h : WR A S (.int i) p) : p = .int i := by have h : VR A S (.int i) p := h; unfold VR at h; exact h
theorem WR.bl {i : Bool} {p : PV} (h : WR A S (.bl i) p) : p = .bl i := by have h : VR A S (.bl i) p := h; unfold VR at h; exact h
theorem WR.str {i : Str} {p : PV} (h : WR A S (.str i) p) : p = .str i := by have h : VR A S (.str i) p := h; unfold VR at h; exact h
theorem WR.non {p : PV} (h : WR A S .non p) : p = .non := by have h : VR A S .non p := h; unfold VR at h; exact h
theorem WR.tup {xs : List PV} {p : PV} (h : WR A S (.tup xs) p) : ∃ ps, p = .tup ps ∧ VRs A S xs ps := by have h : VR A S (.tup xs) p := h; unfold VR at h; exact h
theorem WR.con {xs : List PV} {p : PV} (h : WR A S (.con xs) p) : ∃ ps, p = .con ps ∧ VRs A S xs ps := by have h : VR A S (.con xs) p := h; unfold VR at h; exact h
theorem WR.dct {ks : List Str} {xs : List PV} {p : PV} (h : WR A S (.dct ks xs) p) : ∃ ps, p = .dct ks ps ∧ VRs A S xs ps := by have h : VR A S (.dct ks xs) p := h; unfold VR at h; exact h
theorem WR.vl {xs : List PV} {p : PV} (h : WR A S (.vl xs) p) : ∃ a ps, p = .ref a ∧ S[a]? = some (.lst ps) ∧ VRs A S xs ps := h
theorem VR.ofInt {i : Int} : VR A S (.int i) (.int i) := by unfold VR; rfl
theorem VR.ofBl {i : Bool} : VR A S (.bl i) (.bl i) := by unfold VR; rfl
theorem VR.ofStr {i : Str} : VR A S (.str i) (.str i) := by unfold VR; rfl
theorem VR.ofObj {c : Str} : VR A S (.obj c) (.obj c) := by unfold VR; rfl
theorem VR.ofNon : VR A S .non .non := by unfold VR; rfl
theorem VR.ofTup {xs ps : List PV} (h : VRs A S xs ps) : VR A S (.tup xs) (.tup ps) := by unfold VR; exact ⟨ps, rfl, h⟩
theorem VR.ofWt {xs ps : List PV} (h : VRs A S xs ps) : VR A S (.wt xs) (.wt ps) := by unfold VR; exact ⟨ps, rfl, h⟩
theorem VR.ofDct {ks : List Str} {xs ps : List PV} (h : VRs A S xs ps) : VR A S (.dct ks xs) (.dct ks ps) := by unfold VR; exact ⟨ps, rfl, h⟩
theorem VR.ofVl {a : Nat} {xs ps : List PV} (n : ¬ A a) (e : S[a]? = some (.lst ps)) (h : VRs A S xs ps) : VR A S (.vl xs) (.ref a) := by unfold VR; exact ⟨a, ps, rfl, n, e, h⟩
/-! ### data -/
mutual
theorem VR.same : ∀ {q p : PV}, VR A S q p → noL q = true → p = q
  | .vl xs, _, _, n => by simp [noL] at n
  | .tup xs, _, h, n => by
    unfold VR at h
    obtain ⟨ps, rfl, r⟩ := h
    rw [VRs.same r (by simpa [noL] using n)]
  | .wt xs, _, h, n => by
    unfold VR at h
    obtain ⟨ps, rfl, r⟩ := h
    rw [VRs.same r (by simpa [noL] using n)]
  | .con xs, _, h, n => by
    unfold VR at h
    obtain ⟨ps, rfl, r⟩ := h
    rw [VRs.same r (by simpa [noL] using n)]
  | .dct ks xs, _, h, n => by
    unfold VR at h
    obtain ⟨ps, rfl, r⟩ := h
    rw [VRs.same r (by simpa [noL] using n)]
  | .non, _, h, _ => by unfold VR at h; exact h
  | .bl _, _, h, _ => by unfold VR at h; exact h
  | .int _, _, h, _ => by unfold VR at h; exact h
  | .str _, _, h, _ => by unfold VR at h; exact h
  | .ref _, _, h, _ => by unfold VR at h; exact h.elim
  | .clo _ _, _, h, _ => by unfold VR at h; exact h.elim
  | .obj _, _, h, _ => by unfold VR at h; exact h
theorem VRs.same : ∀ {qs ps : List PV}, VRs A S qs ps → noLs qs = true → ps = qs
  | [], _, h, _ => by unfold VRs at h; exact h
  | x :: xs, _, h, n => by
    unfold VRs at h
    obtain ⟨p, r, rfl, h1, h2⟩ := h
    simp only [noLs, Bool.and_eq_true] at n
    rw [VR.same h1 n.1, VRs.same h2 n.2]
end
mutual
theorem VR.nocl : ∀ {q p : PV}, VR A S q p → clean q = true → clean p = true → noL q = true
  | .vl xs, _, h, _, n => by
    unfold VR at h
    obtain ⟨a, ps, rfl, _⟩ := h
    simp [clean] at n
  | .tup xs, _, h, n, k => by
    unfold VR at h
    obtain ⟨ps, rfl, r⟩ := h
    simp only [clean] at n k
    simp only [noL]
    exact VRs.nocl r n k
  | .wt xs, _, h, n, _ => by simp [clean] at n
  | .con xs, _, h, n, _ => by simp [clean] at n
  | .dct ks xs, _, h, n, _ => by simp [clean] at n
  | .non, _, h, _, _ => rfl
  | .bl _, _, h, _, _ => rfl
  | .int _, _, h, _, _ => rfl
  | .str _, _, h, _, _ => rfl
  | .ref _, _, h, _, _ => by unfold VR at h; exact h.elim
  | .clo _ _, _, h, _, _ => by unfold VR at h; exact h.elim
  | .obj _, _, h, _, _ => rfl
theorem VRs.nocl : ∀ {qs ps : List PV}, VRs A S qs ps → cleans qs = true → cleans ps = true → noLs qs = true
  | [], _, _, _, _ => rfl
  | x :: xs, _, h, n, k => by
    unfold VRs at h
    obtain ⟨p, r, rfl, h1, h2⟩ := h
    simp only [cleans, Bool.and_eq_true] at n k
    simp only [noLs, VR.nocl h1 n.1 k.1, VRs.nocl h2 n.2 k.2, Bool.and_self]
end
mutual
theorem VR.toD : ∀ {q p : PV} (n : Nat), VR A S q p → clean q = true → depth q < n → EK.toD n S p = some (cD q)
  | q, p, 0, _, _, hd => by omega
  | .vl xs, _, n + 1, h, c, hd => by
    unfold VR at h
    obtain ⟨a, ps, rfl, _, hs, r⟩ := h
    simp only [clean] at c
    simp only [depth] at hd
    simp only [EK.toD, hs, VRs.toD n r c (by omega), Option.map_some, cD]
  | .tup xs, _, n + 1, h, c, hd => by
    unfold VR at h
    obtain ⟨ps, rfl, r⟩ := h
    simp only [clean] at c
    simp only [depth] at hd
    simp only [EK.toD, VRs.toD n r c (by omega), Option.map_some, cD]
  | .wt xs, _, _, h, n, _ => by simp [clean] at n
  | .con xs, _, _, h, n, _ => by simp [clean] at n
  | .dct ks xs, _, _, h, n, _ => by simp [clean] at n
  | .non, _, n + 1, h, _, _ => by unfold VR at h; subst h; simp [EK.toD, cD]
  | .bl _, _, _, h, n, _ => by simp [clean] at n
  | .int _, _, n + 1, h, _, _ => by unfold VR at h; subst h; simp [EK.toD, cD]
  | .str _, _, n + 1, h, _, _ => by unfold VR at h; subst h; simp [EK.toD, cD]
  | .ref _, _, _, h, _, _ => by unfold VR at h; exact h.elim
  | .clo _ _, _, _, h, _, _ => by unfold VR at h; exact h.elim
  | .obj _, _, _, h, n, _ => by simp [clean] at n
theorem VRs.toD : ∀ {qs ps : List PV} (n : Nat), VRs A S qs ps → cleans qs = true → depths qs < n → ps.mapM (EK.toD n S) = some (cDs qs)
  | [], _, n, h, _, _ => by unfold VRs at h; subst h; rfl
  | x :: xs, _, n, h, c, hd => by
    unfold VRs at h
    obtain ⟨p, r, rfl, h1, h2⟩ := h
    simp only [cleans, Bool.and_eq_true] at c
    simp only [depths] at hd
    rw [List.mapM_cons, VR.toD n h1 c.1 (by omega), VRs.toD n h2 c.2 (by omega)]
    rfl
end
theorem WR.toD {q p : PV} {n : Nat} (h : WR A S q p) (c : clean q = true) (hd : depth q < n) : EK.toD n S p = some (cD q) := by
  by_cases hq : ∃ xs, q = .vl xs
  · obtain ⟨xs, rfl⟩ := hq
    obtain ⟨a, ps, rfl, hs, r⟩ := h.vl
    cases n with
    | zero => omega
    | succ n =>
      simp only [clean] at c
      simp only [depth] at hd
      simp only [EK.toD, hs, VRs.toD n r c (by omega), Option.map_some, cD]
  · exact VR.toD n (h.vr fun xs e => hq ⟨xs, e⟩) c hd
theorem WR.same {q p : PV} (h : WR A S q p) (n : noL q = true) : p = q := VR.same (h.vr fun xs e => by subst e; simp [noL] at n) n
theorem WR.nocl {q p : PV} (h : WR A S q p) (c : clean q = true) (c' : clean p = true) : noL q = true := by
  by_cases hq : ∃ xs, q = .vl xs
  · obtain ⟨xs, rfl⟩ := hq
    obtain ⟨a, ps, rfl, hs, r⟩ := h.vl
    simp [clean] at c'
  · exact VR.nocl (h.vr fun xs e => hq ⟨xs, e⟩) c c'
theorem eq_sim {x y p p' : PV} {b : Bool} (h1 : WR A S x p) (h2 : WR A S y p') (e : eqQ x y = some b) : eqM S p p' = some b := by
  unfold eqQ at e
  split at e
  · rename_i hc
    cases e
    unfold cmpOk at hc
    simp only [Bool.and_eq_true, Bool.or_eq_true, decide_eq_true_eq] at hc
    obtain ⟨⟨c1, c2⟩, hd⟩ := hc
    unfold eqM
    by_cases hn : noL x = true ∧ noL y = true
    · have e1 := h1.same hn.1
      have e2 := h2.same hn.2
      subst e1; subst e2
      rw [if_pos]
      simp only [c1, c2, Bool.true_and, Bool.or_eq_true, decide_eq_true_eq]
      rcases hd with hd | hd
      · exact .inl hd.1
      · exact hd.2
    · have hcl : (clean p && clean p') = false := by
        cases q1 : clean p with
        | false => rfl
        | true =>
          cases q2 : clean p' with
          | false => rfl
          | true => exact (hn ⟨h1.nocl c1 q1, h2.nocl c2 q2⟩).elim
      rw [hcl, Bool.false_and, if_neg Bool.false_ne_true]
      have hd : depth x ≤ 150 ∧ depth y ≤ 150 := by
        rcases hd with hd | hd
        · exact hd
        · exact (hn hd.1).elim
      rw [h1.toD c1 (by omega), h2.toD c2 (by omega)]
      simp only [cD_lay _ c1, cD_lay _ c2, Bool.true_and, cD_depth]
      rw [if_pos (by simp; omega), cD_eqv _ _ c1 c2]
  · cases e
theorem any_sim {x p : PV} {xs ps : List PV} (h1 : WR A S x p) (h2 : VRs A S xs ps) (hc : (clean x && cleans xs && decide (depth x ≤ 150) && decide (depths xs ≤ 150)) = true) : anyEq S p ps = some (xs.any fun y => beqPV y x) := by
  simp only [Bool.and_eq_true, decide_eq_true_eq] at hc
  obtain ⟨⟨⟨c1, c2⟩, d1⟩, d2⟩ := hc
  unfold anyEq
  by_cases hn : noL x = true ∧ noLs xs = true
  · have e1 := h1.same hn.1
    have e2 := h2.same hn.2
    subst e1; subst e2
    rw [if_pos (by simp [c1, c2, d1])]
  · have hcl : (clean p && cleans ps) = false := by
      cases q1 : clean p with
      | false => rfl
      | true =>
        cases q2 : cleans ps with
        | false => rfl
        | true => exact (hn ⟨h1.nocl c1 q1, h2.nocl c2 q2⟩).elim
    rw [hcl, Bool.false_and, if_neg Bool.false_ne_true, h1.toD c1 (by omega), h2.toD 160 c2 (by omega)]
    simp only [cD_lay _ c1, cDs_lay _ c2, Bool.true_and, cD_depth]
    rw [if_pos (by simp; omega), any_cDs c2 c1]
theorem idx_sim {x p : PV} {xs ps : List PV} {v : PV} (h1 : WR A S x p) (h2 : VRs A S xs ps) (e : idxQ x xs = some v) : ∃ k : Nat, idxEq S p ps = some k ∧ v = .int k := by
  unfold idxQ at e
  split at e
  · rename_i hc
    simp only [Bool.and_eq_true, decide_eq_true_eq] at hc
    obtain ⟨⟨⟨c1, c2⟩, d1⟩, d2⟩ := hc
    have key : idxEq S p ps = xs.findIdx? fun y => beqPV y x := by
      unfold idxEq
      by_cases hn : noL x = true ∧ noLs xs = true
      · have e1 := h1.same hn.1
        have e2 := h2.same hn.2
        subst e1; subst e2
        rw [if_pos (by simp [c1, c2, d1])]
      · have hcl : (clean p && cleans ps) = false := by
          cases q1 : clean p with
          | false => rfl
          | true =>
            cases q2 : cleans ps with
            | false => rfl
            | true => exact (hn ⟨h1.nocl c1 q1, h2.nocl c2 q2⟩).elim
        rw [hcl, Bool.false_and, if_neg Bool.false_ne_true, h1.toD c1 (by omega), h2.toD 160 c2 (by omega)]
        simp only [cD_lay _ c1, cDs_lay _ c2, Bool.true_and, cD_depth]
        rw [if_pos (by simp; omega), find_cDs c2 c1]
    cases q : xs.findIdx? fun y => beqPV y x with
    | none => rw [q] at e; cases e
    | some k =>
      rw [q] at e
      cases e
      exact ⟨k, by rw [key, q], rfl⟩
  · cases e
end
end EK

namespace EK
open PySem PySem.Spec PyProof.Rows L2
/-! ### the single deeds, simulated -/
/-- an answer: a value that stands, or a new list -/
def OpR (b : Bool) (A : Nat → Prop) (S : Store) (v : PV) (m : Res PV) : Prop :=
  (∃ p, m = .ok p S ∧ VR A S v p ∧ (b = true → ∀ xs, v ≠ .vl xs)) ∨ ∃ xs ps, v = .vl xs ∧ m = .ok (.ref S.length) (S ++ [.lst ps]) ∧ VRs A S xs ps
section
variable {A : Nat → Prop} {S : Store}
theorem tru_sim {q p : PV} {b : Bool} (h : WR A S q p) (e : truQ q = some b) : truthM S p = some b := by
  cases q <;> simp only [truQ] at e <;> try cases e
  · rw [h.non]; rfl
  · rw [h.bl]; rfl
  · rw [h.int]; rfl
  · rw [h.str]; exact e
  · obtain ⟨ps, rfl, r⟩ := h.tup
    have := r.len
    simp only [truthM]
    rename_i xs
    cases xs <;> cases ps <;> simp at this <;> rfl
  · obtain ⟨a, ps, rfl, hs, r⟩ := h.vl
    have := r.len
    simp only [truthM, hs]
    rename_i xs
    cases xs <;> cases ps <;> simp at this <;> rfl
theorem int2_sim {op : BOp} {x y v : PV} (e : intQ2 op x y = some v) : ∃ i j k, x = .int i ∧ y = .int j ∧ intQ op i j = some k ∧ v = .int k := by
  unfold intQ2 at e
  split at e
  · rename_i i j
    cases q : intQ op i j with
    | none => rw [q] at e; cases e
    | some k => rw [q] at e; cases e; exact ⟨i, j, k, rfl, rfl, q, rfl⟩
  · cases e
theorem bin_sim {op : BOp} {x y p q v : PV} (h1 : WR A S x p) (h2 : WR A S y q) (e : binQ op x y = some v) : OpR true A S v (binM op p q S) := by
  have intz : intQ2 op x y = some v → op ≠ .add → OpR true A S v (binM op p q S) := fun e hop => by
    obtain ⟨i, j, k, rfl, rfl, e1, rfl⟩ := int2_sim e
    rw [h1.int, h2.int]
    refine .inl ⟨.int k, ?_, .ofInt, fun _ xs z => by cases z⟩
    cases op with
    | add => exact (hop rfl).elim
    | sub => simp only [intQ] at e1; cases e1; rfl
    | mul =>
      simp only [intQ] at e1
      split at e1
      · rename_i hk; cases e1; simp only [binM, mulM, hk, if_true]
      · cases e1
    | fdiv =>
      simp only [intQ] at e1
      split at e1
      · rename_i hk; cases e1; simp only [binM, intM, hk, if_true]
      · cases e1
    | mod =>
      simp only [intQ] at e1
      split at e1
      · rename_i hk; cases e1; simp only [binM, intM, hk, if_true]
      · cases e1
    | pow =>
      simp only [intQ] at e1
      split at e1
      · rename_i hk; cases e1; simp only [binM, intM, hk, if_true]
      · cases e1
  cases op with
  | add =>
    simp only [binQ] at e
    unfold addQ at e
    split at e
    · cases e
      rw [h1.int, h2.int]
      exact .inl ⟨_, rfl, .ofInt, fun _ xs z => by cases z⟩
    · split at e
      · rename_i hl
        cases e
        rw [h1.str, h2.str]
        exact .inl ⟨_, by simp only [binM, addM, hl, if_true], .ofStr, fun _ xs z => by cases z⟩
      · cases e
    · split at e
      · rename_i hl
        cases e
        obtain ⟨ps, rfl, r1⟩ := h1.tup
        obtain ⟨qs, rfl, r2⟩ := h2.tup
        exact .inl ⟨_, by simp only [binM, addM, r1.len, r2.len, hl, if_true], .ofTup (r1.append r2), fun _ xs z => by cases z⟩
      · cases e
    · split at e
      · rename_i hl
        cases e
        obtain ⟨a, ps, rfl, s1, r1⟩ := h1.vl
        obtain ⟨b, qs, rfl, s2, r2⟩ := h2.vl
        exact .inr ⟨_, ps ++ qs, rfl, by simp only [binM, addM, s1, s2, r1.len, r2.len, hl, if_true], r1.append r2⟩
      · cases e
    · cases e
  | sub => exact intz e (by intro z; cases z)
  | mul => exact intz e (by intro z; cases z)
  | fdiv => exact intz e (by intro z; cases z)
  | mod => exact intz e (by intro z; cases z)
  | pow => exact intz e (by intro z; cases z)
theorem in_sim {x y p q : PV} {b : Bool} (h1 : WR A S x p) (h2 : WR A S y q) (e : inQ x y = some b) : inM S p q = some b := by
  cases y <;> simp only [inQ] at e <;> try (cases e; done)
  · rename_i z
    rw [h2.str]
    split at e
    · rename_i c
      rw [h1.str]; exact e
    · cases e
  · split at e
    · rename_i hc
      cases e
      obtain ⟨qs, rfl, r⟩ := h2.tup
      simp only [inM]
      exact any_sim h1 r hc
    · cases e
  · obtain ⟨qs, rfl, r⟩ := h2.dct
    split at e
    · rename_i k
      rw [h1.str]; exact e
    · cases e
  · split at e
    · rename_i hc
      cases e
      obtain ⟨a, qs, rfl, hs, r⟩ := h2.vl
      simp only [inM, hs]
      exact any_sim h1 r hc
    · cases e
theorem cmp_sim {op : COp} {x y p q v : PV} (h1 : WR A S x p) (h2 : WR A S y q) (e : cmpQ op x y = some v) : OpR true A S v (cmpM op p q S) := by
  have nl : ∀ {b : Bool} (xs : List PV), PV.bl b ≠ .vl xs := fun xs z => by cases z
  cases op with
  | eq =>
    simp only [cmpQ] at e
    cases e1 : eqQ x y with
    | none => rw [e1] at e; cases e
    | some b => rw [e1] at e; cases e; exact .inl ⟨.bl b, by simp only [cmpM, eq_sim h1 h2 e1, okB], .ofBl, fun _ => nl⟩
  | ne =>
    simp only [cmpQ] at e
    cases e1 : eqQ x y with
    | none => rw [e1] at e; cases e
    | some b => rw [e1] at e; cases e; exact .inl ⟨.bl !b, by simp only [cmpM, eq_sim h1 h2 e1, okB, Option.map_some], .ofBl, fun _ => nl⟩
  | isIn =>
    simp only [cmpQ] at e
    cases e1 : inQ x y with
    | none => rw [e1] at e; cases e
    | some b => rw [e1] at e; cases e; exact .inl ⟨.bl b, by simp only [cmpM, in_sim h1 h2 e1, okB], .ofBl, fun _ => nl⟩
  | notIn =>
    simp only [cmpQ] at e
    cases e1 : inQ x y with
    | none => rw [e1] at e; cases e
    | some b => rw [e1] at e; cases e; exact .inl ⟨.bl !b, by simp only [cmpM, in_sim h1 h2 e1, okB, Option.map_some], .ofBl, fun _ => nl⟩
  | lt =>
    simp only [cmpQ] at e
    split at e
    · cases e; rw [h1.int, h2.int]; exact .inl ⟨_, rfl, .ofBl, fun _ => nl⟩
    · cases e
  | le =>
    simp only [cmpQ] at e
    split at e
    · cases e; rw [h1.int, h2.int]; exact .inl ⟨_, rfl, .ofBl, fun _ => nl⟩
    · cases e
  | gt =>
    simp only [cmpQ] at e
    split at e
    · cases e; rw [h1.int, h2.int]; exact .inl ⟨_, rfl, .ofBl, fun _ => nl⟩
    · cases e
  | ge =>
    simp only [cmpQ] at e
    split at e
    · cases e; rw [h1.int, h2.int]; exact .inl ⟨_, rfl, .ofBl, fun _ => nl⟩
    · cases e
theorem ix_sim {x y p q v : PV} (h1 : WR A S x p) (h2 : WR A S y q) (e : ixQ x y = some v) : OpR false A S v (ixM p q S) := by
  unfold ixQ at e
  split at e
  · rename_i xs i
    obtain ⟨ps, rfl, r⟩ := h1.tup
    obtain ⟨u, e1, ru⟩ := r.atI e
    rw [h2.int]
    exact .inl ⟨u, by simp only [ixM, e1], ru, fun z => by cases z⟩
  · rename_i xs i
    obtain ⟨a, ps, rfl, hs, r⟩ := h1.vl
    obtain ⟨u, e1, ru⟩ := r.atI e
    rw [h2.int]
    exact .inl ⟨u, by simp only [ixM, hs, e1], ru, fun z => by cases z⟩
  · rename_i xs i
    obtain ⟨ps, rfl, r⟩ := h1.con
    obtain ⟨u, e1, ru⟩ := r.atI e
    rw [h2.int]
    exact .inl ⟨u, by simp only [ixM, e1], ru, fun z => by cases z⟩
  · rename_i z i
    rw [h1.str, h2.int]
    split at e
    · rename_i hz
      split at e
      · rename_i c hc
        cases e
        exact .inl ⟨_, by simp only [ixM, hz, hc, if_true], .ofStr, fun z => by cases z⟩
      · cases e
    · cases e
  · rename_i ks vs k
    obtain ⟨ps, rfl, r⟩ := h1.dct
    obtain ⟨u, e1, ru⟩ := r.look.1 v e
    rw [h2.str]
    exact .inl ⟨u, by simp only [ixM, e1], ru, fun z => by cases z⟩
  · cases e
theorem sl_sim {x p v : PV} {l h : Option Int} (h1 : WR A S x p) (e : slQ x l h = some v) : OpR true A S v (slM p l h S) := by
  unfold slQ at e
  split at e
  · cases e
    obtain ⟨ps, rfl, r⟩ := h1.tup
    exact .inl ⟨_, rfl, .ofTup r.cut, fun _ xs z => by cases z⟩
  · cases e
    obtain ⟨a, ps, rfl, hs, r⟩ := h1.vl
    exact .inr ⟨_, _, rfl, by simp only [slM, hs], r.cut⟩
  · cases e
    obtain ⟨ps, rfl, r⟩ := h1.con
    exact .inr ⟨_, _, rfl, rfl, r.cut⟩
  · rename_i z
    rw [h1.str]
    split at e
    · rename_i hz
      cases e
      exact .inl ⟨_, by simp only [slM, hz, if_true], .ofStr, fun _ xs z => by cases z⟩
    · cases e
  · cases e
theorem seq_sim {x p : PV} {xs : List PV} (h : WR A S x p) (e : seqQ x = some xs) : ∃ ps, seqL S p = some ps ∧ VRs A S xs ps := by
  unfold seqQ at e
  split at e
  · cases e
    obtain ⟨ps, rfl, r⟩ := h.tup
    exact ⟨ps, rfl, r⟩
  · cases e
    obtain ⟨a, ps, rfl, hs, r⟩ := h.vl
    exact ⟨ps, by simp only [seqL, cellL, hs], r⟩
  · cases e
theorem lst_sim {x p : PV} {xs : List PV} (h : WR A S x p) (e : lstQ x = some xs) : ∃ a ps, p = .ref a ∧ cellL S a = some ps ∧ VRs A S xs ps := by
  unfold lstQ at e
  split at e
  · cases e
    obtain ⟨a, ps, rfl, hs, r⟩ := h.vl
    exact ⟨a, ps, rfl, by simp only [cellL, hs], r⟩
  · cases e
theorem ints_sim {x p : PV} {ns : List Int} (h : WR A S x p) (e : (lstQ x).bind intsP = some ns) : ∃ a, p = .ref a ∧ (cellL S a).bind intsP = some ns := by
  cases e1 : lstQ x with
  | none => rw [e1] at e; cases e
  | some xs =>
    rw [e1] at e
    obtain ⟨a, ps, rfl, hc, r⟩ := lst_sim h e1
    exact ⟨a, rfl, by rw [hc]; exact r.ints e⟩
theorem bls_sim {x p : PV} {ns : List Bool} (h : WR A S x p) (e : (lstQ x).bind blsP = some ns) : ∃ a, p = .ref a ∧ (cellL S a).bind blsP = some ns := by
  cases e1 : lstQ x with
  | none => rw [e1] at e; cases e
  | some xs =>
    rw [e1] at e
    obtain ⟨a, ps, rfl, hc, r⟩ := lst_sim h e1
    exact ⟨a, rfl, by rw [hc]; exact r.bls e⟩
theorem wrs1 {x : PV} {ps : List PV} (h : WRs A S [x] ps) : ∃ p, ps = [p] ∧ WR A S x p := by
  obtain ⟨p, r, rfl, h1, h2⟩ := h
  cases h2
  exact ⟨p, rfl, h1⟩
theorem wrs2 {x y : PV} {ps : List PV} (h : WRs A S [x, y] ps) : ∃ p q, ps = [p, q] ∧ WR A S x p ∧ WR A S y q := by
  obtain ⟨p, r, rfl, h1, h2⟩ := h
  obtain ⟨q, rfl, h3⟩ := wrs1 h2
  exact ⟨p, q, rfl, h1, h3⟩
theorem prim_sim {p : Prim} {qs ps : List PV} {v : PV} (h0 : WRs A S qs ps) (e : primQ p qs = some v) : OpR true A S v (primM p ps S) := by
  have nl : ∀ {b : Int} (xs : List PV), PV.int b ≠ .vl xs := fun xs z => by cases z
  have nb : ∀ {b : Bool} (xs : List PV), PV.bl b ≠ .vl xs := fun xs z => by cases z
  have ns : ∀ {b : Str} (xs : List PV), PV.str b ≠ .vl xs := fun xs z => by cases z
  unfold primQ at e
  split at e
  · obtain ⟨p, rfl, h⟩ := wrs1 h0
    split at e
    · rw [h.str]
      split at e
      · rename_i hz; cases e; exact .inl ⟨_, by simp only [primM, hz, if_true], .ofInt, fun _ => nl⟩
      · cases e
    · cases e
      obtain ⟨ps, rfl, r⟩ := h.con
      exact .inl ⟨_, by simp only [primM, r.len], .ofInt, fun _ => nl⟩
    · cases e
      obtain ⟨ps, rfl, r⟩ := h.tup
      exact .inl ⟨_, by simp only [primM, seqL, r.len], .ofInt, fun _ => nl⟩
    · cases e
      obtain ⟨a, ps, rfl, hs, r⟩ := h.vl
      exact .inl ⟨_, by simp only [primM, seqL, cellL, hs, r.len], .ofInt, fun _ => nl⟩
    · cases e
  · obtain ⟨p, rfl, h⟩ := wrs1 h0
    split at e
    · cases e; rw [h.int]; exact .inl ⟨_, rfl, .ofInt, fun _ => nl⟩
    · cases e; rw [h.bl]; exact .inl ⟨_, rfl, .ofInt, fun _ => nl⟩
    · rw [h.str]
      split at e
      · rename_i hz
        cases q : intText? ‹Str› with
        | none => rw [q] at e; cases e
        | some n => rw [q] at e; cases e; exact .inl ⟨_, by simp only [primM, hz, q, if_true], .ofInt, fun _ => nl⟩
      · cases e
    · cases e
  · obtain ⟨p, rfl, h⟩ := wrs1 h0
    split at e
    · cases e; rw [h.int]; exact .inl ⟨_, rfl, .ofInt, fun _ => nl⟩
    · cases e
  · obtain ⟨p, q, rfl, h, h'⟩ := wrs2 h0
    split at e
    · cases e; rw [h.int, h'.int]; exact .inl ⟨_, rfl, .ofInt, fun _ => nl⟩
    · cases e
  · obtain ⟨p, q, rfl, h, h'⟩ := wrs2 h0
    split at e
    · cases e; rw [h.int, h'.int]; exact .inl ⟨_, rfl, .ofInt, fun _ => nl⟩
    · cases e
  · obtain ⟨p, rfl, h⟩ := wrs1 h0
    split at e
    · rename_i q; cases e
      obtain ⟨a, rfl, hc⟩ := ints_sim h q
      exact .inl ⟨_, by simp only [primM, hc], .ofInt, fun _ => nl⟩
    · cases e
  · obtain ⟨p, rfl, h⟩ := wrs1 h0
    split at e
    · rename_i q; cases e
      obtain ⟨a, rfl, hc⟩ := ints_sim h q
      exact .inl ⟨_, by simp only [primM, hc], .ofInt, fun _ => nl⟩
    · cases e
  · obtain ⟨p, rfl, h⟩ := wrs1 h0
    split at e
    · rename_i q; cases e
      obtain ⟨a, rfl, hc⟩ := ints_sim h q
      exact .inl ⟨_, by simp only [primM, hc], .ofInt, fun _ => nl⟩
    · cases e
  · obtain ⟨p, rfl, h⟩ := wrs1 h0
    split at e
    · rename_i q; cases e
      obtain ⟨a, rfl, hc⟩ := bls_sim h q
      exact .inl ⟨_, by simp only [primM, hc], .ofBl, fun _ => nb⟩
    · cases e
  · obtain ⟨p, rfl, h⟩ := wrs1 h0
    split at e
    · rename_i q; cases e
      obtain ⟨a, rfl, hc⟩ := bls_sim h q
      exact .inl ⟨_, by simp only [primM, hc], .ofBl, fun _ => nb⟩
    · cases e
  · obtain ⟨p, rfl, h⟩ := wrs1 h0
    rename_i w
    cases q : seqQ w with
    | none => rw [q] at e; cases e
    | some xs =>
      rw [q] at e; cases e
      cases w <;> simp only [seqQ] at q <;> try (cases q; done)
      · cases q
        obtain ⟨ps, rfl, r⟩ := h.tup
        exact .inl ⟨_, rfl, .ofTup r, fun _ xs z => by cases z⟩
      · cases q
        obtain ⟨a, ps, rfl, hs, r⟩ := h.vl
        exact .inl ⟨_, by simp only [primM, cellL, hs], .ofTup r, fun _ xs z => by cases z⟩
  · obtain ⟨p, rfl, h⟩ := wrs1 h0
    rename_i w
    cases q : seqQ w with
    | none => rw [q] at e; cases e
    | some xs =>
      rw [q] at e; cases e
      obtain ⟨ps, e1, r⟩ := seq_sim h q
      exact .inr ⟨_, ps, rfl, by simp only [primM, e1], r⟩
  · obtain ⟨p, rfl, h⟩ := wrs1 h0
    split at e
    · rw [h.int]
      split at e
      · rename_i hz; cases e; exact .inl ⟨_, by simp only [primM, hz, if_true], .ofStr, fun _ => ns⟩
      · cases e
    · cases e
  · obtain ⟨p, rfl, h⟩ := wrs1 h0
    split at e
    · rename_i a b
      obtain ⟨ad, ps, rfl, hs, r⟩ := h.vl
      unfold VRs at r
      obtain ⟨p1, r1, rfl, h1, r⟩ := r
      unfold VRs at r
      obtain ⟨p2, r2, rfl, h2, r⟩ := r
      unfold VRs at r
      subst r
      unfold VR at h1 h2
      subst h1; subst h2
      cases q : srt2 a b with
      | none => rw [q] at e; cases e
      | some l =>
        rw [q] at e; cases e
        refine .inr ⟨l, l, rfl, by simp only [primM, cellL, hs, q], ?_⟩
        unfold srt2 at q
        split at q
        · cases q; exact .cons .ofStr (.cons .ofStr .nil)
        · split at q
          · cases q; exact .cons .ofStr (.cons .ofStr .nil)
          · split at q
            · cases q; exact .cons .ofStr (.cons .ofStr .nil)
            · cases q
    · cases e
  · cases e
theorem vrs_ints : ∀ {xs : List PV}, (∀ x ∈ xs, ∃ i : Int, x = .int i) → VRs A S xs xs
  | [], _ => .nil
  | x :: xs, h => by
    obtain ⟨i, rfl⟩ := h x List.mem_cons_self
    exact .cons .ofInt (vrs_ints fun y hy => h y (List.mem_cons_of_mem _ hy))
theorem rangeP_int {lo : Int} {n : Nat} : ∀ x ∈ rangeP lo n, ∃ i : Int, x = .int i := fun x hx => by
  obtain ⟨k, _, rfl⟩ := List.mem_map.mp hx
  exact ⟨_, rfl⟩
theorem lrg_sim {qs ps : List PV} {v : PV} (h0 : WRs A S qs ps) (e : lrgQ qs = some v) : OpR true A S v (listRg ps S) := by
  unfold lrgQ at e
  split at e
  · obtain ⟨p, rfl, h⟩ := wrs1 h0
    rw [h.int]
    split at e
    · rename_i hz; cases e
      exact .inr ⟨_, _, rfl, by simp only [listRg, hz, if_true], vrs_ints rangeP_int⟩
    · cases e
  · cases e
theorem mth_sim {m : Mth} {o p v : PV} {qs ps : List PV} (h1 : WR A S o p) (h : WRs A S qs ps) (e : mthQ m o qs = some v) : methFor m p = true ∧ OpR false A S v (methM m p ps S) := by
  have nf : (false = true → ∀ xs, v ≠ PV.vl xs) := fun z => by cases z
  unfold mthQ at e
  split at e
  · obtain ⟨x, rfl, hx⟩ := wrs1 h
    obtain ⟨us, rfl, r⟩ := h1.tup
    obtain ⟨k, e1, rfl⟩ := idx_sim hx r e
    exact ⟨rfl, .inl ⟨_, by simp only [methM, idxM, seqL, e1], .ofInt, nf⟩⟩
  · obtain ⟨x, rfl, hx⟩ := wrs1 h
    obtain ⟨a, us, rfl, hs, r⟩ := h1.vl
    obtain ⟨k, e1, rfl⟩ := idx_sim hx r e
    exact ⟨rfl, .inl ⟨_, by simp only [methM, idxM, seqL, cellL, hs, e1], .ofInt, nf⟩⟩
  · obtain ⟨x, rfl, hx⟩ := wrs1 h
    obtain ⟨us, rfl, r⟩ := h1.dct
    rw [hx.str]
    refine ⟨rfl, ?_⟩
    cases e
    rename_i ks ws k
    cases q : lookD k ks ws with
    | none =>
      refine .inl ⟨.non, ?_, .ofNon, fun z => by cases z⟩
      simp only [methM, getM, r.look.2 q, Option.getD_none]
    | some u =>
      obtain ⟨w, e1, ru⟩ := r.look.1 u q
      refine .inl ⟨w, ?_, ru, fun z => by cases z⟩
      simp only [methM, getM, e1, Option.getD_some]
  · obtain ⟨x, d, rfl, hx, hd⟩ := wrs2 h
    obtain ⟨us, rfl, r⟩ := h1.dct
    rw [hx.str]
    refine ⟨rfl, ?_⟩
    split at e
    · cases e
    rename_i ks ws k d' hv
    cases e
    cases q : lookD k ks ws with
    | none =>
      have hl : ¬ ∃ xs, d' = .vl xs := fun ⟨xs, z⟩ => hv (by subst z; rfl)
      · refine .inl ⟨d, ?_, hd.vr fun xs e => hl ⟨xs, e⟩, fun z => by cases z⟩
        simp only [methM, getM, r.look.2 q, Option.getD_none]
    | some u =>
      obtain ⟨w, e1, ru⟩ := r.look.1 u q
      refine .inl ⟨w, ?_, ru, fun z => by cases z⟩
      simp only [methM, getM, e1, Option.getD_some]
  · cases e
end
end EK

namespace EK
open PySem PySem.Spec PyProof.Rows L2
/-! ### how the store bears the cells -/
structure St (Z : Nat → Prop) (τ : QSt) (β : List Nat) (S : Store) : Prop where
  len : β.length = τ.length
  cell : ∀ (k : Nat) (xs : List PV), τ[k]? = some (some xs) → ∃ a ps, β[k]? = some a ∧ S[a]? = some (.lst ps) ∧ VRs (fun b => Alv τ β b ∨ Z b) S xs ps
  inj : ∀ (k k' : Nat) (xs ys : List PV) (a : Nat), τ[k]? = some (some xs) → τ[k']? = some (some ys) → β[k]? = some a → β[k']? = some a → k = k'
abbrev noZ : Nat → Prop := fun _ => False
structure Gr (τ : QSt) (β : List Nat) (S : Store) (τ' : QSt) (β' : List Nat) (S' : Store) : Prop where
  pre : β <+: β'
  len : τ.length ≤ τ'.length
  alv : ∀ (k : Nat) (xs : List PV), k < τ.length → τ'[k]? = some (some xs) → ∃ ys, τ[k]? = some (some ys)
  new : ∀ (k a : Nat), τ.length ≤ k → β'[k]? = some a → S.length ≤ a
  ext : S.length ≤ S'.length
  kep : ∀ a, a < S.length → ¬ Alv τ β a → S'[a]? = S[a]?
section
variable {Z Z' : Nat → Prop} {τ τ1 τ2 τ' : QSt} {β β1 β2 β' : List Nat} {S S1 S2 S' : Store}
theorem get_lt' {α : Type} {l : List α} {i : Nat} {a : α} (h : l[i]? = some a) : i < l.length := (List.getElem?_eq_some_iff.mp h).1
theorem St.alt (s : St Z τ β S) {a : Nat} (h : Alv τ β a) : a < S.length := by
  obtain ⟨k, xs, h1, h2⟩ := h
  obtain ⟨b, ps, e1, e2, _⟩ := s.cell k xs h2
  rw [h1] at e1; cases e1
  exact get_lt' e2
theorem Gr.mo (g : Gr τ β S τ' β' S') (hl : β.length = τ.length) : Mo (Alv τ β) S (Alv τ' β') S' := fun a c h n => by
  have ha := get_lt' h
  refine ⟨(g.kep a ha n).trans h, fun ⟨k, xs, h1, h2⟩ => ?_⟩
  by_cases hk : k < τ.length
  · obtain ⟨ys, h3⟩ := g.alv k xs hk h2
    obtain ⟨t, e⟩ := g.pre
    subst e
    rw [List.getElem?_append_left (by omega)] at h1
    exact n ⟨k, ys, h1, h3⟩
  · have := g.new k a (by omega) h1
    omega
theorem Gr.refl (hl : β.length = τ.length) : Gr τ β S τ β S := ⟨List.prefix_rfl, Nat.le_refl _, fun k xs _ h => ⟨xs, h⟩, fun k a h h2 => absurd (get_lt' h2) (by omega), Nat.le_refl _, fun _ _ _ => rfl⟩
theorem Gr.trans (hl : β.length = τ.length) (hl1 : β1.length = τ1.length) (a : Gr τ β S τ1 β1 S1) (b : Gr τ1 β1 S1 τ2 β2 S2) : Gr τ β S τ2 β2 S2 where
  pre := a.pre.trans b.pre
  len := Nat.le_trans a.len b.len
  alv := fun k xs hk h => by
    obtain ⟨ys, h1⟩ := b.alv k xs (Nat.lt_of_lt_of_le hk a.len) h
    exact a.alv k ys hk h1
  new := fun k x hk h => by
    by_cases h1 : k < τ1.length
    · refine a.new k x hk ?_
      obtain ⟨t, e⟩ := b.pre
      subst e
      rw [List.getElem?_append_left (by omega)] at h
      exact h
    · exact Nat.le_trans a.ext (b.new k x (by omega) h)
  ext := Nat.le_trans a.ext b.ext
  kep := fun x hx n => by
    have h1 : S[x]? = some S[x] := List.getElem?_eq_getElem hx
    obtain ⟨h2, n2⟩ := a.mo hl x _ h1 n
    exact (b.kep x (Nat.lt_of_lt_of_le hx a.ext) n2).trans (h2.trans h1.symm)
theorem St.zmo (s : St Z τ β S) (hz : ∀ a, a < S.length → Z' a → Alv τ β a ∨ Z a) : St Z' τ β S := ⟨s.len, fun k xs h => by
  obtain ⟨a, ps, e1, e2, r⟩ := s.cell k xs h
  exact ⟨a, ps, e1, e2, r.mo fun x c hx n => ⟨hx, fun z => n (z.elim .inl fun z => hz x (get_lt' hx) z)⟩⟩, s.inj⟩
/-- new things -/
theorem Gr.app {g : Store} (hl : β.length = τ.length) : Gr τ β S τ β (S ++ g) := ⟨List.prefix_rfl, Nat.le_refl _, fun k xs _ h => ⟨xs, h⟩, fun k a h h2 => absurd (get_lt' h2) (by omega), by rw [List.length_append]; omega, fun a ha _ => List.getElem?_append_left ha⟩
theorem St.app {g : Store} (s : St Z τ β S) (hz : ∀ a, a < S.length → Z' a → Z a) : St Z' τ β (S ++ g) := ⟨s.len, fun k xs h => by
  obtain ⟨a, ps, e1, e2, r⟩ := s.cell k xs h
  exact ⟨a, ps, e1, by rw [List.getElem?_append_left (get_lt' e2)]; exact e2, r.mo fun x c hx n => ⟨by rw [List.getElem?_append_left (get_lt' hx)]; exact hx, fun z => n (z.imp id fun z => hz x (get_lt' hx) z)⟩⟩, s.inj⟩
theorem st_lt (s : St Z τ β S) {k a : Nat} {xs : List PV} (h : τ[k]? = some (some xs)) (h2 : β[k]? = some a) : ∃ ps, S[a]? = some (.lst ps) ∧ VRs (fun b => Alv τ β b ∨ Z b) S xs ps := by
  obtain ⟨b, ps, e1, e2, r⟩ := s.cell k xs h
  rw [h2] at e1; cases e1
  exact ⟨ps, e2, r⟩
/-- no more cells than before -/
theorem alv_take {n : Nat} {a : Nat} (h : Alv (τ.take n) (β.take n) a) : Alv τ β a := by
  obtain ⟨k, xs, h1, h2⟩ := h
  refine ⟨k, xs, ?_, ?_⟩
  · have := get_lt' h1
    rw [List.length_take] at this
    rw [List.getElem?_take_of_lt (by omega)] at h1; exact h1
  · have := get_lt' h2
    rw [List.length_take] at this
    rw [List.getElem?_take_of_lt (by omega)] at h2; exact h2
theorem take_get {α : Type} {l : List α} {n k : Nat} {a : α} (h : (l.take n)[k]? = some a) : l[k]? = some a ∧ k < n := by
  have := get_lt' h
  rw [List.length_take] at this
  rw [List.getElem?_take_of_lt (by omega)] at h
  exact ⟨h, by omega⟩
theorem St.cut (s : St Z τ β S) (n : Nat) : St Z (τ.take n) (β.take n) S := ⟨by rw [List.length_take, List.length_take, s.len], fun k xs h => by
  obtain ⟨h1, hk⟩ := take_get h
  obtain ⟨a, ps, e1, e2, r⟩ := s.cell k xs h1
  exact ⟨a, ps, by rw [List.getElem?_take_of_lt hk]; exact e1, e2, r.mo fun x c hx n => ⟨hx, fun z => n (z.imp alv_take id)⟩⟩, fun k k' xs ys a h1 h2 h3 h4 => s.inj k k' xs ys a (take_get h1).1 (take_get h2).1 (take_get h3).1 (take_get h4).1⟩
theorem pre_take {α : Type} {l l' : List α} (h : l <+: l') : l'.take l.length = l := by
  obtain ⟨t, rfl⟩ := h
  simp
theorem Gr.cut (g : Gr τ β S τ' β' S') (hl : β.length = τ.length) : Gr τ β S (τ'.take τ.length) β S' := ⟨List.prefix_rfl, by rw [List.length_take]; have := g.len; omega, fun k xs hk h => g.alv k xs hk (take_get h).1, fun k a h h2 => absurd (get_lt' h2) (by omega), g.ext, g.kep⟩
/-! ### what runs come to, both -/
def Rl {α γ : Type} (τ : QSt) (β : List Nat) (S : Store) (m : QR α) (m' : Res γ) (P : α → QSt → List Nat → γ → Store → Prop) : Prop := match m with
  | .ok a τ' => ∃ b S' β', m' = .ok b S' ∧ Gr τ β S τ' β' S' ∧ St noZ τ' β' S' ∧ P a τ' β' b S'
  | .exc c fs τ' => ∃ ps S' β', m' = .exc c ps S' ∧ Gr τ β S τ' β' S' ∧ St noZ τ' β' S' ∧ VRs (Alv τ' β') S' fs ps
  | .bad => True
theorem Rl.ok {α γ : Type} {a : α} {b : γ} {P : α → QSt → List Nat → γ → Store → Prop} (s : St noZ τ β S) (h : P a τ β b S) : Rl τ β S (.ok a τ) (.ok b S) P := ⟨b, S, β, rfl, .refl s.len, s, h⟩
theorem Rl.bind {α α' γ γ' : Type} {m : QR α} {m' : Res γ} {f : α → QSt → QR α'} {f' : γ → Store → Res γ'} {P : α → QSt → List Nat → γ → Store → Prop} {P' : α' → QSt → List Nat → γ' → Store → Prop} (hl : β.length = τ.length) (h : Rl τ β S m m' P)
    (k : ∀ a τ1 β1 b S1, Gr τ β S τ1 β1 S1 → St noZ τ1 β1 S1 → P a τ1 β1 b S1 → Rl τ1 β1 S1 (f a τ1) (f' b S1) P') : Rl τ β S (m.bind f) (m'.bind f') P' := by
  cases m with
  | bad => trivial
  | exc c fs τ1 =>
    obtain ⟨ps, S1, β1, e, h⟩ := h
    subst e
    exact ⟨ps, S1, β1, rfl, h⟩
  | ok a τ1 =>
    obtain ⟨b, S1, β1, e, g, s, p⟩ := h
    subst e
    have h2 := k a τ1 β1 b S1 g s p
    show Rl τ β S (f a τ1) (f' b S1) P'
    cases e2 : f a τ1 with
    | bad => trivial
    | exc c fs τ2 =>
      rw [e2] at h2
      obtain ⟨ps, S2, β2, e, g2, h⟩ := h2
      exact ⟨ps, S2, β2, e, g.trans hl s.len g2, h⟩
    | ok a2 τ2 =>
      rw [e2] at h2
      obtain ⟨b2, S2, β2, e, g2, h⟩ := h2
      exact ⟨b2, S2, β2, e, g.trans hl s.len g2, h⟩
/-- the same, the cells told otherwise -/
theorem Rl.bind' {α α' γ γ' : Type} {m : QR α} {m' : Res γ} {f : α → QSt → QR α'} {f' : γ → Store → Res γ'} {P : α → QSt → List Nat → γ → Store → Prop} {P' : α' → QSt → List Nat → γ' → Store → Prop} (hl : β.length = τ.length) (h : Rl τ β S m m' P)
    (k : ∀ a τ1 β1 b S1, Gr τ β S τ1 β1 S1 → St noZ τ1 β1 S1 → P a τ1 β1 b S1 → ∃ τ2 β2, Gr τ β S τ2 β2 S1 ∧ β2.length = τ2.length ∧ Rl τ2 β2 S1 (f a τ1) (f' b S1) P') : Rl τ β S (m.bind f) (m'.bind f') P' := by
  cases m with
  | bad => trivial
  | exc c fs τ1 =>
    obtain ⟨ps, S1, β1, e, h⟩ := h
    subst e
    exact ⟨ps, S1, β1, rfl, h⟩
  | ok a τ1 =>
    obtain ⟨b, S1, β1, e, g, s, p⟩ := h
    subst e
    obtain ⟨τ2, β2, g2, l2, h2⟩ := k a τ1 β1 b S1 g s p
    show Rl τ β S (f a τ1) (f' b S1) P'
    cases e2 : f a τ1 with
    | bad => trivial
    | exc c fs τ3 =>
      rw [e2] at h2
      obtain ⟨ps, S3, β3, e, g3, h⟩ := h2
      exact ⟨ps, S3, β3, e, g2.trans hl l2 g3, h⟩
    | ok a2 τ3 =>
      rw [e2] at h2
      obtain ⟨b2, S3, β3, e, g3, h⟩ := h2
      exact ⟨b2, S3, β3, e, g2.trans hl l2 g3, h⟩
theorem Rl.imp {α γ : Type} {m : QR α} {m' : Res γ} {P P' : α → QSt → List Nat → γ → Store → Prop} (h : Rl τ β S m m' P) (k : ∀ a τ1 β1 b S1, Gr τ β S τ1 β1 S1 → St noZ τ1 β1 S1 → P a τ1 β1 b S1 → P' a τ1 β1 b S1) : Rl τ β S m m' P' := by
  cases m with
  | bad => trivial
  | exc c fs τ1 => exact h
  | ok a τ1 =>
    obtain ⟨b, S1, β1, e, g, s, p⟩ := h
    exact ⟨b, S1, β1, e, g, s, k _ _ _ _ _ g s p⟩
theorem Rl.cut {α γ : Type} {m : QR α} {m' : Res γ} {P P' : α → QSt → List Nat → γ → Store → Prop} (hl : β.length = τ.length) (h : Rl τ β S m m' P) (k : ∀ a τ1 β1 b S1, Gr τ β S τ1 β1 S1 → St noZ τ1 β1 S1 → P a τ1 β1 b S1 → P' a (τ1.take τ.length) β b S1) : Rl τ β S (cutQ τ.length m) m' P' := by
  cases m with
  | bad => trivial
  | exc c fs τ1 =>
    obtain ⟨ps, S1, β1, e, g, s, r⟩ := h
    have eb : β1.take τ.length = β := by rw [← hl]; exact pre_take g.pre
    have s2 := s.cut τ.length
    rw [eb] at s2
    refine ⟨ps, S1, β, e, g.cut hl, s2, r.mo fun x c hx n => ⟨hx, fun z => n ?_⟩⟩
    rw [← eb] at z
    exact alv_take z
  | ok a τ1 =>
    obtain ⟨b, S1, β1, e, g, s, p⟩ := h
    have eb : β1.take τ.length = β := by rw [← hl]; exact pre_take g.pre
    have s2 := s.cut τ.length
    rw [eb] at s2
    exact ⟨b, S1, β, e, g.cut hl, s2, k _ _ _ _ _ g s p⟩
/-- a list that nothing else holds -/
def FX (s : Nat) (τ : QSt) (β : List Nat) (S : Store) (x : QX) (p : PV) : Prop := match x with
  | .v (.vl xs) => ∀ a, p = .ref a → s ≤ a ∧ St (fun b => b = a) τ β S ∧ ∃ ps, S[a]? = some (.lst ps) ∧ VRs (fun b => Alv τ β b ∨ b = a) S xs ps
  | .c _ => False
  | _ => True
theorem FX.mono {s s' : Nat} {x : QX} {p : PV} (h : FX s τ β S x p) (hs : s' ≤ s) : FX s' τ β S x p := by
  unfold FX at h ⊢
  split
  · intro a e
    obtain ⟨h1, h2⟩ := h a e
    exact ⟨Nat.le_trans hs h1, h2⟩
  · exact h
  · trivial
theorem FX.no {s : Nat} {v p : PV} (h : ∀ xs, v ≠ .vl xs) : FX s τ β S (.v v) p := by
  unfold FX
  split
  · rename_i xs e; cases e; exact (h _ rfl).elim
  · rename_i e; cases e
  · trivial
/-- what an expression comes to -/
def PE (n s : Nat) (b : Bool) (x : QX) (τ' : QSt) (β' : List Nat) (p : PV) (S' : Store) : Prop := τ'.length = n ∧ XR (Alv τ' β') β' S' x p ∧ (b = true → FX s τ' β' S' x p)
theorem op_rl {b b' : Bool} {v : PV} {m : Res PV} (s : St noZ τ β S) (h : OpR b (Alv τ β) S v m) (hb : b' = true → b = true) {sz : Nat} (hz : sz ≤ S.length) : Rl τ β S (.ok (.v v) τ) m (PE τ.length sz b') := by
  rcases h with ⟨p, e, r, n⟩ | ⟨xs, ps, rfl, e, r⟩
  · subst e
    exact .ok s ⟨rfl, r, fun q => .no (n (hb q))⟩
  · subst e
    have m : Mo (Alv τ β) S (fun b => Alv τ β b ∨ b = S.length) (S ++ [Cell.lst ps]) := fun a c h n => by
      have := get_lt' h
      exact ⟨by rw [List.getElem?_append_left this]; exact h, fun z => z.elim n (by omega)⟩
    have hn : ¬ Alv τ β S.length := fun z => absurd (s.alt z) (Nat.lt_irrefl _)
    refine ⟨_, _, β, rfl, .app s.len, s.app fun _ _ z => z, rfl, .ofVl hn get_new (r.mo fun a c h n => ?_), fun _ => ?_⟩
    · exact ⟨(m a c h n).1, n⟩
    · intro a e
      cases e
      exact ⟨hz, s.app fun a ha z => absurd z (by omega), ps, get_new, r.mo m⟩
theorem okO_rl {o : Option QX} {m : Res PV} {P : QX → QSt → List Nat → PV → Store → Prop} (h : ∀ x, o = some x → Rl τ β S (.ok x τ) m P) : Rl τ β S (okO o τ) m P := by
  cases o with
  | none => trivial
  | some x => exact h x rfl
/-! ### cells looked at, given away, changed -/
theorem vw_sim {x : QX} {q p : PV} (s : St noZ τ β S) (h : XR (Alv τ β) β S x p) (e : vw τ x = some q) : WR (Alv τ β) S q p := by
  cases x with
  | v x => cases e; exact VR.wr h
  | c k =>
    obtain ⟨a, ea, rfl⟩ := h
    simp only [vw] at e
    split at e
    · rename_i xs hk
      cases e
      obtain ⟨ps, e2, r⟩ := st_lt s hk ea
      exact ⟨a, ps, rfl, e2, r.mo fun x c hx n => ⟨hx, fun z => n (.inl z)⟩⟩
    · cases e
  | f x caps => cases e
theorem vws_sim : ∀ {xs : List QX} {qs ps : List PV}, St noZ τ β S → XRs (Alv τ β) β S xs ps → vws τ xs = some qs → WRs (Alv τ β) S qs ps
  | [], qs, ps, s, h, e => by cases e; exact h
  | x :: xs, qs, ps, s, ⟨p, r, e1, h1, h2⟩, e => by
    simp only [vws] at e
    split at e
    · rename_i v hv
      split at e
      · rename_i vs hvs
        cases e
        exact ⟨p, r, e1, vw_sim s h1 hv, vws_sim s h2 hvs⟩
      · cases e
    · cases e
theorem alv_none {k a x : Nat} {xs : List PV} (h : Alv (τ.set k none) β x) : Alv τ β x := by
  obtain ⟨j, ys, h1, h2⟩ := h
  by_cases hj : j = k
  · subst hj
    rw [List.getElem?_set_self (by have := get_lt' h2; rw [List.length_set] at this; exact this)] at h2
    cases h2
  · rw [List.getElem?_set_ne (fun z => hj z.symm)] at h2
    exact ⟨j, ys, h1, h2⟩
theorem frz_sim {x : QX} {q p : PV} {τ' : QSt} (s : St Z τ β S) (h : XR (Alv τ β) β S x p) (e : frz x τ = .ok q τ') : τ'.length = τ.length ∧ Gr τ β S τ' β S ∧ St Z τ' β S ∧ VR (Alv τ' β) S q p := by
  cases x with
  | v x =>
    cases e
    exact ⟨rfl, .refl s.len, s, h⟩
  | c k =>
    obtain ⟨a, ea, rfl⟩ := h
    simp only [frz] at e
    split at e
    · rename_i xs hk
      cases e
      obtain ⟨ps, e2, r⟩ := st_lt s hk ea
      have sub : ∀ y, Alv (τ.set k none) β y → Alv τ β y := fun y z => alv_none (k := k) (a := 0) (xs := []) z
      have na : ¬ Alv (τ.set k none) β a := fun ⟨j, ys, h1, h2⟩ => by
        by_cases hj : j = k
        · subst hj
          rw [List.getElem?_set_self (get_lt' hk)] at h2
          cases h2
        · rw [List.getElem?_set_ne (fun z => hj z.symm)] at h2
          exact hj (s.inj j k ys xs a h2 hk h1 ea)
      have live : ∀ {j : Nat} {ys : List PV}, (τ.set k none)[j]? = some (some ys) → τ[j]? = some (some ys) := fun {j ys} h2 => by
        by_cases hj : j = k
        · subst hj
          rw [List.getElem?_set_self (get_lt' hk)] at h2
          cases h2
        · rw [List.getElem?_set_ne (fun z => hj z.symm)] at h2
          exact h2
      refine ⟨by rw [List.length_set], ⟨List.prefix_rfl, by rw [List.length_set]; exact Nat.le_refl _, fun j ys _ h2 => ⟨ys, live h2⟩, fun j b hj h2 => absurd (get_lt' h2) (by have := s.len; omega), Nat.le_refl _, fun _ _ _ => rfl⟩, ⟨by rw [List.length_set]; exact s.len, fun j ys h2 => ?_, fun j j' xs ys b h1 h2 => s.inj j j' xs ys b (live h1) (live h2)⟩, ?_⟩
      · obtain ⟨b, us, f1, f2, f3⟩ := s.cell j ys (live h2)
        exact ⟨b, us, f1, f2, f3.mo fun x c hx n => ⟨hx, fun z => n (z.imp (sub x) id)⟩⟩
      · exact .ofVl na e2 (r.mo fun x c hx n => ⟨hx, fun z => n (.inl (sub x z))⟩)
    · cases e
  | f x caps => cases e
theorem frz_exc {x : QX} {c : Str} {fs : List PV} {τ' : QSt} : frz x τ ≠ .exc c fs τ' := fun e => by
  cases x with
  | v x => cases e
  | c k =>
    simp only [frz] at e
    split at e <;> cases e
  | f x caps => cases e
theorem frzs_sim : ∀ {xs : List QX} {qs ps : List PV} {τ τ' : QSt}, St Z τ β S → XRs (Alv τ β) β S xs ps → frzs xs τ = .ok qs τ' → τ'.length = τ.length ∧ Gr τ β S τ' β S ∧ St Z τ' β S ∧ VRs (Alv τ' β) S qs ps
  | [], qs, ps, τ, τ', s, h, e => by
    cases e
    cases h
    exact ⟨rfl, .refl s.len, s, .nil⟩
  | x :: xs, qs, ps, τ, τ', s, ⟨p, r, ep, h1, h2⟩, e => by
    subst ep
    simp only [frzs] at e
    cases e1 : frz x τ with
    | bad => rw [e1] at e; cases e
    | exc c fs τ1 => rw [e1] at e; cases e
    | ok v τ1 =>
      rw [e1] at e
      obtain ⟨l1, g1, s1, r1⟩ := frz_sim s h1 e1
      simp only [QR.bind] at e
      cases e2 : frzs xs τ1 with
      | bad => rw [e2] at e; cases e
      | exc c fs τ2 => rw [e2] at e; cases e
      | ok vs τ2 =>
        rw [e2] at e
        cases e
        obtain ⟨l2, g2, s2, r2⟩ := frzs_sim s1 (h2.mo (g1.mo s.len) List.prefix_rfl) e2
        exact ⟨l2.trans l1, g1.trans s.len s1.len g2, s2, .cons (r1.mo (g2.mo s1.len)) r2⟩
theorem frzs_exc : ∀ {xs : List QX} {τ : QSt} {c : Str} {fs : List PV} {τ' : QSt}, frzs xs τ ≠ .exc c fs τ'
  | [], _, _, _, _ => fun e => by cases e
  | x :: xs, τ, c, fs, τ' => fun e => by
    simp only [frzs] at e
    cases e1 : frz x τ with
    | bad => rw [e1] at e; cases e
    | exc c fs τ1 => exact frz_exc e1
    | ok v τ1 =>
      rw [e1] at e
      simp only [QR.bind] at e
      cases e2 : frzs xs τ1 with
      | bad => rw [e2] at e; cases e
      | exc c fs τ2 => exact frzs_exc e2
      | ok vs τ2 => rw [e2] at e; cases e
theorem Rl.frz {α γ : Type} {x : QX} {p : PV} {f : PV → QSt → QR α} {m : Res γ} {P : α → QSt → List Nat → γ → Store → Prop} (s : St noZ τ β S) (h : XR (Alv τ β) β S x p)
    (k : ∀ q τ1, τ1.length = τ.length → Gr τ β S τ1 β S → St noZ τ1 β S → VR (Alv τ1 β) S q p → Rl τ1 β S (f q τ1) m P) : Rl τ β S ((EK.frz x τ).bind f) m P := by
  cases e : EK.frz x τ with
  | bad => trivial
  | exc c fs τ1 => exact (frz_exc e).elim
  | ok v τ1 =>
    obtain ⟨l1, g1, s1, r1⟩ := frz_sim s h e
    have q := k v τ1 l1 g1 s1 r1
    show Rl τ β S (f v τ1) m P
    cases e2 : f v τ1 with
    | bad => trivial
    | exc c fs τ2 =>
      rw [e2] at q
      obtain ⟨ps, S2, β2, e, g2, h⟩ := q
      exact ⟨ps, S2, β2, e, g1.trans s.len s1.len g2, h⟩
    | ok a2 τ2 =>
      rw [e2] at q
      obtain ⟨b2, S2, β2, e, g2, h⟩ := q
      exact ⟨b2, S2, β2, e, g1.trans s.len s1.len g2, h⟩
theorem Rl.frzs {α γ : Type} {xs : List QX} {ps : List PV} {f : List PV → QSt → QR α} {m : Res γ} {P : α → QSt → List Nat → γ → Store → Prop} (s : St noZ τ β S) (h : XRs (Alv τ β) β S xs ps)
    (k : ∀ q τ1, τ1.length = τ.length → Gr τ β S τ1 β S → St noZ τ1 β S → VRs (Alv τ1 β) S q ps → Rl τ1 β S (f q τ1) m P) : Rl τ β S ((EK.frzs xs τ).bind f) m P := by
  cases e : EK.frzs xs τ with
  | bad => trivial
  | exc c fs τ1 => exact (frzs_exc e).elim
  | ok v τ1 =>
    obtain ⟨l1, g1, s1, r1⟩ := frzs_sim s h e
    have q := k v τ1 l1 g1 s1 r1
    show Rl τ β S (f v τ1) m P
    cases e2 : f v τ1 with
    | bad => trivial
    | exc c fs τ2 =>
      rw [e2] at q
      obtain ⟨ps, S2, β2, e, g2, h⟩ := q
      exact ⟨ps, S2, β2, e, g1.trans s.len s1.len g2, h⟩
    | ok a2 τ2 =>
      rw [e2] at q
      obtain ⟨b2, S2, β2, e, g2, h⟩ := q
      exact ⟨b2, S2, β2, e, g1.trans s.len s1.len g2, h⟩
/-- a cell's list changes -/
theorem alv_set {k : Nat} {xs ys : List PV} {x : Nat} (hk : τ[k]? = some (some xs)) : Alv (τ.set k (some ys)) β x ↔ Alv τ β x := by
  constructor
  · rintro ⟨j, zs, h1, h2⟩
    by_cases hj : j = k
    · subst hj; exact ⟨j, xs, h1, hk⟩
    · rw [List.getElem?_set_ne (fun z => hj z.symm)] at h2; exact ⟨j, zs, h1, h2⟩
  · rintro ⟨j, zs, h1, h2⟩
    by_cases hj : j = k
    · subst hj; exact ⟨j, ys, h1, List.getElem?_set_self (get_lt' hk)⟩
    · exact ⟨j, zs, h1, by rw [List.getElem?_set_ne (fun z => hj z.symm)]; exact h2⟩
theorem St.write {k a : Nat} {xs ys ps : List PV} (s : St noZ τ β S) (hk : τ[k]? = some (some xs)) (ea : β[k]? = some a) (r : VRs (Alv τ β) S ys ps) : Gr τ β S (τ.set k (some ys)) β (S.set a (.lst ps)) ∧ St noZ (τ.set k (some ys)) β (S.set a (.lst ps)) ∧ Mo (Alv τ β) S (Alv (τ.set k (some ys)) β) (S.set a (.lst ps)) := by
  have al : Alv τ β a := ⟨k, xs, ea, hk⟩
  have m : Mo (Alv τ β) S (Alv (τ.set k (some ys)) β) (S.set a (.lst ps)) := fun x c h n => ⟨by rw [List.getElem?_set_ne (show a ≠ x from fun z => n (by rw [← z]; exact al))]; exact h, fun z => n ((alv_set hk).mp z)⟩
  have mz : Mo (fun b => Alv τ β b ∨ noZ b) S (fun b => Alv (τ.set k (some ys)) β b ∨ noZ b) (S.set a (.lst ps)) := fun x c h n => by
    obtain ⟨h1, h2⟩ := m x c h fun z => n (.inl z)
    exact ⟨h1, fun z => z.elim h2 id⟩
  refine ⟨⟨List.prefix_rfl, by rw [List.length_set]; exact Nat.le_refl _, fun j zs _ h2 => ?_, fun j b hj h2 => absurd (get_lt' h2) (by have := s.len; omega), by rw [List.length_set]; exact Nat.le_refl _, fun x hx n => by rw [List.getElem?_set_ne (show a ≠ x from fun z => n (by rw [← z]; exact al))]⟩, ⟨by rw [List.length_set]; exact s.len, fun j zs h2 => ?_, fun j j' zs ws b h1 h2 h3 h4 => ?_⟩, m⟩
  · by_cases hj : j = k
    · subst hj; exact ⟨xs, hk⟩
    · rw [List.getElem?_set_ne (fun z => hj z.symm)] at h2; exact ⟨zs, h2⟩
  · by_cases hj : j = k
    · subst hj
      rw [List.getElem?_set_self (get_lt' hk)] at h2
      cases h2
      exact ⟨a, ps, ea, List.getElem?_set_self (s.alt al), r.mo fun x c h n => by
        obtain ⟨h1, h2⟩ := m x c h n
        exact ⟨h1, fun z => z.elim h2 id⟩⟩
    · rw [List.getElem?_set_ne (fun z => hj z.symm)] at h2
      obtain ⟨b, us, f1, f2, f3⟩ := s.cell j zs h2
      refine ⟨b, us, f1, ?_, f3.mo mz⟩
      rw [List.getElem?_set_ne (show a ≠ b from fun z => hj (s.inj j k zs xs a h2 hk (by rw [z]; exact f1) ea))]
      exact f2
  · have live : ∀ {j : Nat} {ws : List PV}, (τ.set k (some ys))[j]? = some (some ws) → ∃ ws, τ[j]? = some (some ws) := fun {j ws} h => by
      by_cases hj : j = k
      · subst hj; exact ⟨xs, hk⟩
      · rw [List.getElem?_set_ne (fun z => hj z.symm)] at h; exact ⟨ws, h⟩
    obtain ⟨w1, q1⟩ := live h1
    obtain ⟨w2, q2⟩ := live h2
    exact s.inj j j' w1 w2 b q1 q2 h3 h4
theorem get_snoc {α : Type} {l : List α} {x y : α} {j : Nat} (h : (l ++ [x])[j]? = some y) : l[j]? = some y ∨ (j = l.length ∧ y = x) := by
  by_cases hj : j < l.length
  · rw [List.getElem?_append_left hj] at h; exact .inl h
  · have := get_lt' h
    rw [List.length_append, List.length_singleton] at this
    have e : j = l.length := by omega
    subst e
    rw [List.getElem?_append_right (Nat.le_refl _), Nat.sub_self] at h
    exact .inr ⟨rfl, by simpa using h.symm⟩
/-- a list that nothing else holds becomes a cell -/
theorem alv_new (hl : β.length = τ.length) {a : Nat} {xs : List PV} {x : Nat} : Alv (τ ++ [some xs]) (β ++ [a]) x ↔ Alv τ β x ∨ x = a := by
  constructor
  · rintro ⟨j, zs, h1, h2⟩
    rcases get_snoc h2 with h2 | ⟨rfl, h2⟩
    · have hj := get_lt' h2
      rw [List.getElem?_append_left (by omega)] at h1
      exact .inl ⟨j, zs, h1, h2⟩
    · rw [← hl, List.getElem?_append_right (Nat.le_refl _), Nat.sub_self] at h1
      exact .inr (by simpa using h1.symm)
  · rintro (⟨j, zs, h1, h2⟩ | rfl)
    · exact ⟨j, zs, by rw [List.getElem?_append_left (get_lt' h1)]; exact h1, by rw [List.getElem?_append_left (get_lt' h2)]; exact h2⟩
    · exact ⟨τ.length, xs, by rw [← hl]; simp, by simp⟩
theorem St.alloc {a : Nat} {xs ps : List PV} (s : St (fun b => b = a) τ β S) (na : ¬ Alv τ β a) (ha : S[a]? = some (.lst ps)) (r : VRs (fun b => Alv τ β b ∨ b = a) S xs ps) : St noZ (τ ++ [some xs]) (β ++ [a]) S := by
  have hl := s.len
  have mz : Mo (fun b => Alv τ β b ∨ b = a) S (fun b => Alv (τ ++ [some xs]) (β ++ [a]) b ∨ noZ b) S := fun x c h n => ⟨h, fun z => z.elim (fun z => n ((alv_new hl).mp z)) id⟩
  refine ⟨by rw [List.length_append, List.length_append, hl]; rfl, fun j zs h => ?_, fun j j' zs ws b h1 h2 h3 h4 => ?_⟩
  · rcases get_snoc h with h5 | ⟨rfl, h5⟩
    · obtain ⟨b, us, f1, f2, f3⟩ := s.cell j zs h5
      exact ⟨b, us, by rw [List.getElem?_append_left (get_lt' f1)]; exact f1, f2, f3.mo mz⟩
    · cases h5
      exact ⟨a, ps, by rw [← hl]; simp, ha, r.mo mz⟩
  · rcases get_snoc h1 with h1 | ⟨rfl, h1⟩ <;> rcases get_snoc h2 with h2 | ⟨rfl, h2⟩
    · have := get_lt' h1; have := get_lt' h2
      rw [List.getElem?_append_left (by omega)] at h3 h4
      exact s.inj j j' zs ws b h1 h2 h3 h4
    · have := get_lt' h1
      rw [List.getElem?_append_left (by omega)] at h3
      rw [← hl] at h4; simp at h4; subst h4
      exact (na ⟨j, zs, h3, h1⟩).elim
    · have := get_lt' h2
      rw [List.getElem?_append_left (by omega)] at h4
      rw [← hl] at h3; simp at h3; subst h3
      exact (na ⟨j', ws, h4, h2⟩).elim
    · rfl
theorem Gr.alloc {a : Nat} {xs : List PV} (g : Gr τ β S τ1 β1 S1) (hl : β.length = τ.length) (hl1 : β1.length = τ1.length) (ha : S.length ≤ a) : Gr τ β S (τ1 ++ [some xs]) (β1 ++ [a]) S1 := ⟨g.pre.trans (List.prefix_append _ _), by rw [List.length_append]; have := g.len; omega, fun k ys hk h => by
  have := g.len
  rw [List.getElem?_append_left (by omega)] at h
  exact g.alv k ys hk h, fun k b hk h => by
  rcases get_snoc h with h | ⟨_, rfl⟩
  · exact g.new k b hk h
  · exact ha, g.ext, g.kep⟩
/-! ### names -/
/-- the names of the tables that stand -/
class Tb where
  nm : List Str
def TbOk [Tb] (τ : QSt) (β : List Nat) (S : Store) : Prop := ∀ x ∈ Tb.nm, ∃ a, S[a]? = some (.tab x) ∧ ¬ Alv τ β a
theorem TbOk.gr [Tb] (h : TbOk τ β S) (g : Gr τ β S τ1 β1 S1) (hl : β.length = τ.length) : TbOk τ1 β1 S1 := fun x hx => by
  obtain ⟨a, e, n⟩ := h x hx
  obtain ⟨e2, n2⟩ := g.mo hl a _ e n
  exact ⟨a, e2, n2⟩
def EnvX [Tb] (τ : QSt) (β : List Nat) (S : Store) (env : QEnv) (env' : Env) : Prop := env'.length = env.length ∧ (∀ (i : Nat) (x : QX), env[i]? = some (some x) → (∃ p, env'[i]? = some (some p) ∧ XR (Alv τ β) β S x p)) ∧ TbOk τ β S
theorem EnvX.gr [Tb] {env : QEnv} {env' : Env} (h : EnvX τ β S env env') (g : Gr τ β S τ1 β1 S1) (hl : β.length = τ.length) : EnvX τ1 β1 S1 env env' := ⟨h.1, fun i x e => by
  obtain ⟨p, e2, r⟩ := h.2.1 i x e
  exact ⟨p, e2, r.mo (g.mo hl) g.pre⟩, h.2.2.gr g hl⟩
theorem EnvX.set [Tb] {env : QEnv} {env' : Env} {x : QX} {p : PV} (h : EnvX τ β S env env') (r : XR (Alv τ β) β S x p) (i : Nat) : EnvX τ β S (env.set i (some x)) (env'.set i (some p)) := ⟨by rw [List.length_set, List.length_set]; exact h.1, fun j y e => by
  by_cases hj : j = i
  · subst hj
    have hlt := get_lt' e
    rw [List.length_set] at hlt
    rw [List.getElem?_set_self hlt] at e
    cases e
    exact ⟨p, List.getElem?_set_self (by rw [h.1]; exact hlt), r⟩
  · rw [List.getElem?_set_ne (fun z => hj z.symm)] at e
    obtain ⟨q, e2, r2⟩ := h.2.1 j y e
    exact ⟨q, by rw [List.getElem?_set_ne (fun z => hj z.symm)]; exact e2, r2⟩, h.2.2⟩
theorem EnvX.wipe1 [Tb] {env : QEnv} {env' : Env} (h : EnvX τ β S env env') (i : Nat) : EnvX τ β S (env.set i none) (env'.set i none) := ⟨by rw [List.length_set, List.length_set]; exact h.1, fun j y e => by
  by_cases hj : j = i
  · subst hj
    have hlt := get_lt' e
    rw [List.length_set] at hlt
    rw [List.getElem?_set_self hlt] at e
    cases e
  · rw [List.getElem?_set_ne (fun z => hj z.symm)] at e
    obtain ⟨q, e2, r2⟩ := h.2.1 j y e
    exact ⟨q, by rw [List.getElem?_set_ne (fun z => hj z.symm)]; exact e2, r2⟩, h.2.2⟩
theorem EnvX.wipe [Tb] {env : QEnv} {env' : Env} (h : EnvX τ β S env env') : ∀ own : List Nat, EnvX τ β S (wipeQ env own) (wipeE env' own)
  | [] => h
  | i :: own => (EnvX.wipe h own).wipe1 i
theorem setQ_sim [Tb] : ∀ {is : List Nat} {vs ps : List PV} {env e1 : QEnv} {env' : Env}, EnvX τ β S env env' → VRs (Alv τ β) S vs ps → setQ env is vs = some e1 → ∃ e2, setSlots env' is ps = some e2 ∧ EnvX τ β S e1 e2
  | [], [], ps, env, e1, env', h, r, e => by
    unfold VRs at r; subst r
    cases e
    exact ⟨env', rfl, h⟩
  | i :: is, v :: vs, ps, env, e1, env', h, r, e => by
    unfold VRs at r
    obtain ⟨p, q, rfl, r1, r3⟩ := r
    exact setQ_sim (is := is) (vs := vs) (h.set (x := .v v) r1 i) r3 e
  | [], _ :: _, _, _, _, _, _, _, e => by simp [setQ] at e
  | _ :: _, [], _, _, _, _, _, _, e => by simp [setQ] at e
theorem asgQ_sim [Tb] {t : Tgt} {v p : PV} {env e1 : QEnv} {env' : Env} (h : EnvX τ β S env env') (r : VR (Alv τ β) S v p) (e : asgQ t v env = some e1) : ∃ e2, asgM t p env' = some e2 ∧ EnvX τ β S e1 e2 := by
  cases t with
  | nm i =>
    cases e
    exact ⟨_, rfl, h.set (x := .v v) r i⟩
  | tp is =>
    simp only [asgQ] at e
    split at e
    · unfold VR at r
      obtain ⟨ps, rfl, r⟩ := r
      exact setQ_sim h r e
    · unfold VR at r
      obtain ⟨ps, rfl, r⟩ := r
      exact setQ_sim h r e
    · cases e
/-! ### what is walked -/
theorem enumF_get {xs : List PV} {i : Nat} : (enumF xs)[i]? = (xs[i]?).map fun x => .wt [.int (i : Nat), x] := by
  unfold enumF
  rw [List.getElem?_mapIdx]
theorem stp_map {A : Nat → Prop} {xs ps : List PV} {f : Nat → PV → PV} {i : Nat} (r : VRs A S xs ps) (hf : ∀ x p, VR A S x p → VR A S (f i x) (f i p)) (n : Stp) (e : n = (match ps[i]? with
    | some x => .item (f i x)
    | none => .stop)) : (match xs[i]? with
    | some x => ∃ p, n = .item p ∧ VR A S (f i x) p
    | none => n = .stop) := by
  cases q : xs[i]? with
  | none => rw [r.none q] at e; exact e
  | some x =>
    obtain ⟨p, e1, rp⟩ := r.get q
    rw [e1] at e
    exact ⟨_, e, hf x p rp⟩
theorem zip_sim {A : Nat → Prop} : ∀ {xs ys ps qs : List PV}, VRs A S xs ps → VRs A S ys qs → VRs A S (zipP xs ys) (zipP ps qs)
  | [], _, _, _, r, _ => by unfold VRs at r; subst r; simp only [zipP]; exact .nil
  | x :: xs, [], _, _, r, r2 => by
    unfold VRs at r r2; subst r2
    obtain ⟨p, q, rfl, _, _⟩ := r
    simp only [zipP]; exact .nil
  | x :: xs, y :: ys, _, _, r, r2 => by
    unfold VRs at r r2
    obtain ⟨p, q, rfl, h1, h2⟩ := r
    obtain ⟨p', q', rfl, h3, h4⟩ := r2
    simp only [zipP]
    exact .cons (.ofWt (.cons h1 (.cons h3 .nil))) (zip_sim h2 h4)
theorem enum_sim {A : Nat → Prop} {xs ps : List PV} (r : VRs A S xs ps) : VRs A S (enumF xs) (enumF ps) := by
  have key : ∀ (k : Nat) {xs ps : List PV}, VRs A S xs ps → VRs A S (List.mapIdx (fun i x => PV.wt [.int ((i + k : Nat) : Int), x]) xs) (List.mapIdx (fun i x => PV.wt [.int ((i + k : Nat) : Int), x]) ps) := by
    intro k xs
    induction xs generalizing k with
    | nil => intro ps r; unfold VRs at r; subst r; exact .nil
    | cons x xs ih =>
      intro ps r
      unfold VRs at r
      obtain ⟨p, q, rfl, h1, h2⟩ := r
      rw [List.mapIdx_cons, List.mapIdx_cons]
      refine .cons (.ofWt (.cons .ofInt (.cons h1 .nil))) ?_
      have := ih (k + 1) h2
      simpa [Nat.add_assoc, Nat.add_comm 1 k] using this
  exact key 0 r
theorem range_sim {A : Nat → Prop} {qs ps items : List PV} (h : WRs A S qs ps) (e : rangeM qs = some items) : ps = qs ∧ ∀ x ∈ items, ∃ i : Int, x = .int i := by
  unfold rangeM at e
  split at e
  · obtain ⟨p, rfl, h1⟩ := wrs1 h
    rw [h1.int]
    split at e
    · cases e; exact ⟨rfl, rangeP_int⟩
    · cases e
  · obtain ⟨p, q, rfl, h1, h2⟩ := wrs2 h
    rw [h1.int, h2.int]
    split at e
    · cases e; exact ⟨rfl, rangeP_int⟩
    · cases e
  · obtain ⟨p, r, rfl, h1, h0⟩ := h
    obtain ⟨q, u, rfl, h2, h3⟩ := wrs2 h0
    rw [h1.int, h2.int, h3.int]
    split at e
    · cases e
      refine ⟨rfl, fun x hx => ?_⟩
      obtain ⟨k, _, rfl⟩ := List.mem_map.mp hx
      exact ⟨_, rfl⟩
    · cases e
  · cases e
/-- the items there, the items here -/
theorem items_sim {A : Nat → Prop} {k : IK} {qs ps items : List PV} (h : WRs A S qs ps) (e : itemsQ k qs = some items) : lenM k ps S = some items.length ∧ ∃ ims, VRs A S items ims ∧ ∀ i n0, (k = .rev → n0 = items.length) → stepM k ps n0 i S = stp ims i := by
  cases k with
  | over =>
    simp only [itemsQ] at e
    split at e
    · obtain ⟨p, rfl, h1⟩ := wrs1 h
      obtain ⟨us, e1, r⟩ := seq_sim h1 e
      exact ⟨by simp only [lenM, e1, Option.map_some, r.len], us, r, fun i n0 _ => by simp only [stepM, e1, itemAt_id]⟩
    · cases e
  | enum =>
    simp only [itemsQ] at e
    split at e
    · rename_i v
      obtain ⟨p, rfl, h1⟩ := wrs1 h
      cases v <;> simp only [enQ, Option.map_some, Option.map_none] at e <;> try (cases e; done)
      · cases e
        obtain ⟨us, rfl, r⟩ := h1.tup
        refine ⟨by rw [len_enumT]; unfold enumF; rw [List.length_mapIdx, List.length_mapIdx, r.len], enumF us, enum_sim r, fun i n0 _ => it_enumT⟩
      · cases e
        obtain ⟨a, us, rfl, hs, r⟩ := h1.vl
        refine ⟨by rw [len_enum hs]; unfold enumF; rw [List.length_mapIdx, List.length_mapIdx, r.len], enumF us, enum_sim r, fun i n0 _ => it_enum hs⟩
    · cases e
  | zip =>
    simp only [itemsQ] at e
    split at e
    · obtain ⟨p, q, rfl, h1, h2⟩ := wrs2 h
      split at e
      · cases e
        obtain ⟨a, us, rfl, hs, r⟩ := h1.vl
        obtain ⟨b, ws, rfl, hs2, r2⟩ := h2.vl
        exact ⟨by rw [len_zipL hs hs2, zip_len, zip_len, r.len, r2.len], _, zip_sim r r2, fun i n0 _ => it_zipL hs hs2⟩
      · cases e
        obtain ⟨us, rfl, r⟩ := h1.tup
        obtain ⟨ws, rfl, r2⟩ := h2.tup
        exact ⟨by rw [len_zipT, zip_len, zip_len, r.len, r2.len], _, zip_sim r r2, fun i n0 _ => it_zipT⟩
      · cases e
    · cases e
  | rev =>
    simp only [itemsQ] at e
    split at e
    · rename_i v
      obtain ⟨p, rfl, h1⟩ := wrs1 h
      cases q : lstQ v with
      | none => rw [q] at e; cases e
      | some xs =>
        rw [q] at e; cases e
        cases v <;> simp only [lstQ] at q <;> try (cases q; done)
        cases q
        obtain ⟨a, us, rfl, hs, r⟩ := h1.vl
        refine ⟨by rw [len_rev hs, List.length_reverse, r.len], us.reverse, r.reverse, fun i n0 hn => ?_⟩
        have hn := hn rfl
        rw [List.length_reverse, ← r.len] at hn
        subst hn
        exact it_rev hs
    · cases e
  | range =>
    simp only [itemsQ] at e
    obtain ⟨rfl, hi⟩ := range_sim h e
    exact ⟨len_range e, items, vrs_ints hi, fun i n0 _ => it_range e⟩
theorem step_sim {k : IK} {xs : List QX} {ps : List PV} {n0 i : Nat} (s : St noZ τ β S) (h : XRs (Alv τ β) β S xs ps) : match stepQ k xs n0 i τ with
    | .bad => True
    | .stop => stepM k ps n0 i S = .stop
    | .item v => ∃ p, stepM k ps n0 i S = .item p ∧ VR (Alv τ β) S v p := by
  unfold stepQ itmQ
  cases e : vws τ xs with
  | none => trivial
  | some qs =>
    simp only [Option.bind_some]
    cases e2 : itemsQ k qs with
    | none => trivial
    | some items =>
      obtain ⟨_, ims, r, hst⟩ := items_sim (vws_sim s h e) e2
      have go : (k = .rev → n0 = items.length) → match stp items i with
          | .bad => True
          | .stop => stepM k ps n0 i S = .stop
          | .item v => ∃ p, stepM k ps n0 i S = .item p ∧ VR (Alv τ β) S v p := fun hn => by
        rw [hst i n0 hn]
        unfold stp
        cases q : items[i]? with
        | none => rw [r.none q]
        | some x =>
          obtain ⟨p, e1, rp⟩ := r.get q
          rw [e1]
          exact ⟨p, rfl, rp⟩
      cases k with
      | rev =>
        by_cases hz : items.length = n0
        · simp only [hz, if_true]; exact go fun _ => hz.symm
        · simp only [hz, if_false]
      | over => exact go fun z => by cases z
      | range => exact go fun z => by cases z
      | enum => exact go fun z => by cases z
      | zip => exact go fun z => by cases z
theorem itm_len {k : IK} {xs : List QX} {ps items : List PV} (s : St noZ τ β S) (h : XRs (Alv τ β) β S xs ps) (e : itmQ k xs τ = some items) : lenM k ps S = some items.length := by
  unfold itmQ at e
  cases e1 : vws τ xs with
  | none => rw [e1] at e; cases e
  | some qs =>
    rw [e1] at e
    exact (items_sim (vws_sim s h e1) e).1
end
end EK

namespace EK
open PySem PySem.Spec PyProof.Rows L2
/-- calls, there as here -/
def CallSim [Tb] (cq : Str → List QX → QSt → QR PV) (cp : Str → List PV → Store → Res PV) (fr : Str → Bool) : Prop := ∀ (τ : QSt) (β : List Nat) (S : Store) (x : Str) (xs : List QX) (ps : List PV), St noZ τ β S → TbOk τ β S → XRs (Alv τ β) β S xs ps →
  Rl τ β S (cq x xs τ) (cp x ps S) fun v τ' β' p S' => τ'.length = τ.length ∧ VR (Alv τ' β') S' v p ∧ (fr x = true → FX S.length τ' β' S' (.v v) p)
def CloSim [Tb] (cq : Str → List PV → List QX → QSt → QR PV) (cp : Str → List PV → List PV → Store → Res PV) : Prop := ∀ (τ : QSt) (β : List Nat) (S : Store) (x : Str) (caps pcs : List PV) (xs : List QX) (ps : List PV), St noZ τ β S → TbOk τ β S → VRs (Alv τ β) S caps pcs → XRs (Alv τ β) β S xs ps →
  Rl τ β S (cq x caps xs τ) (cp x pcs ps S) fun v τ' β' p S' => τ'.length = τ.length ∧ VR (Alv τ' β') S' v p
def MthSim [Tb] (cq : Str → Str → List QX → QSt → QR PV) (cp : Str → Str → List PV → Store → Res PV) (fr : Str → Bool) : Prop := ∀ (τ : QSt) (β : List Nat) (S : Store) (c m : Str) (xs : List QX) (ps : List PV), St noZ τ β S → TbOk τ β S → XRs (Alv τ β) β S xs ps →
  Rl τ β S (cq c m xs τ) (cp c m ps S) fun v τ' β' p S' => τ'.length = τ.length ∧ VR (Alv τ' β') S' v p ∧ (fr m = true → FX S.length τ' β' S' (.v v) p)
structure CSim [Tb] (G : QConf) (G' : Conf) : Prop where
  can : G.can = G'.can
  glob : ∀ x v, G.glob x = some v → ∃ p, G'.glob x = some p ∧ ∀ A S, VR A S v p
  call : CallSim G.call G'.call G.fr
  clo : CloSim G.clo G'.clo
  mth : MthSim G.mth G'.mth G.fr
  mks : G.mks = G'.mks
  hasM : G.hasM = G'.hasM
  tab : ∀ x, G.tab x = true → x ∈ Tb.nm
theorem cst_vr {A : Nat → Prop} {S : Store} {v : PV} (h : cstOk v = true) : VR A S v v := by
  cases v <;> simp [cstOk] at h <;> unfold VR <;> rfl
section
variable {τ : QSt} {β : List Nat} {S : Store} {G : QConf} {G' : Conf}
theorem beq_of_len {β' : List Nat} (h : β <+: β') (hl : β.length = β'.length) : β' = β := by
  obtain ⟨t, rfl⟩ := h
  have : t = [] := by
    rw [List.length_append] at hl
    exact List.length_eq_zero_iff.mp (by omega)
  simp [this]
theorem truR_sim {x : QX} {p : PV} {b : Bool} (s : St noZ τ β S) (h : XR (Alv τ β) β S x p) (e : truR x τ = some b) : truthM S p = some b := by
  unfold truR at e
  cases e1 : vw τ x with
  | none => rw [e1] at e; cases e
  | some q => rw [e1] at e; exact tru_sim (vw_sim s h e1) e
/-- an expression's answer as a test -/
theorem truB_rl {n sz : Nat} {b : Bool} {m : QR QX} {m' : Res PV} (hl : β.length = τ.length) (h : Rl τ β S m m' (PE n sz b)) : Rl τ β S (truBQ m) (truB m') fun t τ' β' t' S' => τ'.length = n ∧ t' = t := by
  unfold truBQ truB
  refine h.bind hl fun x τ1 β1 p S1 g s ⟨l, xr, _⟩ => ?_
  cases e : truR x τ1 with
  | none => trivial
  | some t =>
    rw [truR_sim s xr e]
    exact .ok s ⟨l, rfl⟩
theorem PE.weak {n s : Nat} {b b' : Bool} {x : QX} {τ' : QSt} {β' : List Nat} {p : PV} {S' : Store} (h : PE n s b x τ' β' p S') (hb : b' = true → b = true) {s2 : Nat} (hs : s2 ≤ s) : PE n s2 b' x τ' β' p S' := ⟨h.1, h.2.1, fun q => (h.2.2 (hb q)).mono hs⟩
theorem PE.val {n s : Nat} {v p : PV} {b : Bool} (h : VR (Alv τ β) S v p) (hn : τ.length = n) (nl : ∀ xs, v ≠ .vl xs) : PE n s b (.v v) τ β p S := ⟨hn, h, fun _ => .no nl⟩
theorem PE.nf {n s : Nat} {x : QX} {p : PV} (h : XR (Alv τ β) β S x p) (hn : τ.length = n) : PE n s false x τ β p S := ⟨hn, h, fun z => by cases z⟩
theorem part_sim {m : QR (List QX)} {m' : Res (List PV)} {n : Nat} (hl : β.length = τ.length) (h : Rl τ β S m m' fun xs τ' β' ps S' => τ'.length = n ∧ XRs (Alv τ' β') β' S' xs ps) : Rl τ β S (partQ m) (partR m') fun o τ' β' o' S' => τ'.length = n ∧ o' = o := by
  unfold partQ partR
  refine h.bind hl fun xs τ1 β1 ps S1 g s ⟨l, r⟩ => ?_
  cases e : vws τ1 xs with
  | none => trivial
  | some qs =>
    have w := vws_sim s r e
    simp only [Option.bind_some]
    cases e2 : partM qs with
    | none => trivial
    | some o =>
      have : partM ps = some o := by
        unfold partM at e2
        split at e2
        · cases w; exact e2
        · obtain ⟨p, rfl, h1⟩ := wrs1 w
          rw [h1.int]; exact e2
        · cases e2
      rw [this]
      exact .ok s ⟨l, rfl⟩
theorem mkLst_rl {xs : List QX} {ps : List PV} {n sz : Nat} (s : St noZ τ β S) (r : XRs (Alv τ β) β S xs ps) (hn : τ.length = n) (hz : sz ≤ S.length) :
    Rl τ β S ((frzs xs τ).bind fun vs τ2 => if vs.length ≤ sizeLine then .ok (.v (.vl vs)) τ2 else .bad) (if ps.length ≤ sizeLine then .ok (.ref S.length) (S ++ [.lst ps]) else .bad) (PE n sz true) := by
  refine Rl.frzs s r fun vs τ2 l2 g2 s2 r2 => ?_
  rw [r2.len]
  by_cases hz2 : vs.length ≤ sizeLine
  · rw [if_pos hz2, if_pos hz2]
    have := op_rl (b := true) (b' := true) s2 (v := .vl vs) (m := .ok (.ref S.length) (S ++ [.lst ps])) (.inr ⟨vs, ps, rfl, rfl, r2⟩) id hz
    rw [l2, hn] at this
    exact this
  · rw [if_neg hz2]
    trivial
/-- cells' methods -/
theorem cell_sim {m : Mth} {xs ys qs ps : List PV} {vs us : List PV} {a : Nat} {v : PV} {A : Nat → Prop} (hS : S[a]? = some (.lst us)) (r : VRs A S xs us) (h : VRs A S qs ps) (hm : isCh m = true) (e : cellQ m xs qs = some (ys, v)) : ∃ ws p, methM m (.ref a) ps S = .ok p (S.set a (.lst ws)) ∧ VRs A S ys ws ∧ VR A S v p := by
  unfold cellQ at e
  split at e
  · obtain ⟨p, rfl, h1⟩ := wrs1' h
    split at e
    · rename_i hz; cases e
      exact ⟨us ++ [p], .non, by simp only [methM, appM, hS, r.len, hz, if_true], r.append (.cons h1 .nil), .ofNon⟩
    · cases e
  · obtain ⟨p, rfl, h1⟩ := wrs1' h
    split at e
    · rename_i hz; cases e
      obtain ⟨b, ws, rfl, hs, r2⟩ := (VR.wr h1).vl
      exact ⟨us ++ ws, .non, by simp only [methM, extM, hS, hs, r.len, r2.len, hz, if_true], r.append r2, .ofNon⟩
    · cases e
  · unfold VRs at h; subst h
    split at e
    · rename_i w q; cases e
      obtain ⟨p, e1, rp⟩ := r.get q
      exact ⟨us.dropLast, p, by simp only [methM, popM, hS, r.len, e1], r.dropLast, rp⟩
    · cases e
  · obtain ⟨p, rfl, h1⟩ := wrs1' h
    unfold VR at h1; subst h1
    split at e
    · cases e
      unfold VRs at r
      obtain ⟨p, q, rfl, r1, r2⟩ := r
      exact ⟨q, p, by simp only [methM, popM, hS], r2, r1⟩
    · cases e
  · cases e
    unfold VRs at h; subst h
    exact ⟨[], .non, by simp only [methM, clrM, hS], .nil, .ofNon⟩
  · cases e
where
  wrs1' {A : Nat → Prop} {S : Store} {x : PV} {ps : List PV} (h : VRs A S [x] ps) : ∃ p, ps = [p] ∧ VR A S x p := by
    unfold VRs at h
    obtain ⟨p, r, rfl, h1, h2⟩ := h
    unfold VRs at h2; subst h2
    exact ⟨p, rfl, h1⟩
theorem ch_for {m : Mth} {a : Nat} (h : isCh m = true) : methFor m (.ref a) = true := by
  cases m <;> first | rfl | (simp [isCh] at h)
theorem cellQ_no {m : Mth} {xs vs : List PV} (h : isCh m = false) : cellQ m xs vs = none := by
  cases m <;> first | (simp [isCh] at h; done) | rfl
theorem bind2 {α β γ : Type} {o : Option α} {f : α → Option β} {g : β → γ} {z : γ} (h : (o.bind fun p => (f p).map g) = some z) : ∃ p w, o = some p ∧ f p = some w ∧ z = g w := by
  cases o with
  | none => cases h
  | some p =>
    simp only [Option.bind_some] at h
    cases e : f p with
    | none => rw [e] at h; cases h
    | some w => rw [e] at h; cases h; exact ⟨p, w, rfl, e, rfl⟩
theorem bind3 {α α' β γ : Type} {o : Option α} {o' : Option α'} {f : α → α' → Option β} {g : β → γ} {z : γ} (h : (o.bind fun p => o'.bind fun q => (f p q).map g) = some z) : ∃ p q w, o = some p ∧ o' = some q ∧ f p q = some w ∧ z = g w := by
  cases o with
  | none => cases h
  | some p =>
    cases o' with
    | none => cases h
    | some q =>
      simp only [Option.bind_some] at h
      cases e : f p q with
      | none => rw [e] at h; cases h
      | some w => rw [e] at h; cases h; exact ⟨p, q, w, rfl, rfl, e, rfl⟩
theorem isN_sim {x : QX} {p : PV} (h : XR (Alv τ β) β S x p) : nonX x = isNonP p := by
  cases x with
  | c k => obtain ⟨a, _, rfl⟩ := h; rfl
  | f x caps => obtain ⟨ps, rfl, _⟩ := h; rfl
  | v x =>
    have h : VR _ _ _ _ := h
    cases x <;> unfold VR at h <;> first
      | (subst h; rfl)
      | (obtain ⟨a, ps, rfl, _⟩ := h; rfl)
      | (obtain ⟨ps, rfl, _⟩ := h; rfl)
      | exact h.elim
theorem ty_sim {A : Nat → Prop} {q p : PV} {t : String} (h : WR A S q p) (e : tyQ q = some t) : tyS p S = some t := by
  cases q <;> simp only [tyQ] at e <;> try (cases e; done)
  · rw [h.non]; exact e
  · rw [h.bl]; exact e
  · rw [h.int]; exact e
  · rw [h.str]; exact e
  · obtain ⟨ps, rfl, r⟩ := h.tup; exact e
  · obtain ⟨a, ps, rfl, hs, r⟩ := h.vl
    simp only [tyS, hs]; exact e
theorem met_for {m : Mth} {x : QX} {p : PV} (h : XR (Alv τ β) β S x p) (e : metQ m x = true) : methFor m p = true := by
  unfold metQ at e
  split at e <;> first
    | (obtain ⟨a, _, rfl⟩ := h; rfl)
    | (have h : VR _ _ _ _ := h; unfold VR at h; obtain ⟨ps, rfl, _⟩ := h; rfl)
    | (have h : VR _ _ _ _ := h; unfold VR at h; obtain ⟨a, ps, rfl, _⟩ := h; rfl)
    | (cases e; done)
theorem lst_for {x : QX} {p : PV} (s : St noZ τ β S) (h : XR (Alv τ β) β S x p) (e : (vw τ x).isSome = true) : lstB S p = true := by
  cases ev : vw τ x with
  | none => rw [ev] at e; cases e
  | some q =>
    have w := vw_sim s h ev
    cases q with
    | vl xs =>
      obtain ⟨a, ps, rfl, hs, _⟩ := w.vl
      simp only [lstB, hs]
    | ref n =>
      have w : VR (Alv τ β) S (.ref n) p := w
      unfold VR at w
      exact w.elim
    | clo n cs =>
      have w : VR (Alv τ β) S (.clo n cs) p := w
      unfold VR at w
      exact w.elim
    | non => rw [w.non]; rfl
    | bl b => rw [w.bl]; rfl
    | int b => rw [w.int]; rfl
    | str b => rw [w.str]; rfl
    | tup b => obtain ⟨ps, rfl, _⟩ := w.tup; rfl
    | con b => obtain ⟨ps, rfl, _⟩ := w.con; rfl
    | dct ks b => obtain ⟨ps, rfl, _⟩ := w.dct; rfl
    | wt b =>
      have w : VR (Alv τ β) S (.wt b) p := w
      unfold VR at w
      obtain ⟨ps, rfl, _⟩ := w
      rfl
    | obj c =>
      have w : VR (Alv τ β) S (.obj c) p := w
      unfold VR at w
      subst w
      rfl
/-- a comprehension's turns -/
theorem comp_rl {k : IK} {xs : List QX} {ps : List PV} {n0 : Nat} {turn : PV → QSt → QR (Option PV)} {turn' : PV → Store → Res (Option PV)} {τ1 : QSt} {β1 : List Nat} {S1 : Store} (s1 : St noZ τ1 β1 S1) (hx : XRs (Alv τ1 β1) β1 S1 xs ps)
    (ht : ∀ (v p : PV) (τ2 : QSt) (β2 : List Nat) (S2 : Store), Gr τ1 β1 S1 τ2 β2 S2 → St noZ τ2 β2 S2 → VR (Alv τ2 β2) S2 v p → Rl τ2 β2 S2 (turn v τ2) (turn' p S2) fun o τ3 β3 o' S3 => τ3.length = τ2.length ∧ (match o, o' with
      | none, none => True
      | some y, some y' => VR (Alv τ3 β3) S3 y y'
      | _, _ => False)) :
    ∀ (f i : Nat) (τ2 : QSt) (β2 : List Nat) (S2 : Store), Gr τ1 β1 S1 τ2 β2 S2 → St noZ τ2 β2 S2 → τ2.length = τ1.length + 1 → β2 = β1 ++ [S1.length] → match compQ (stepQ k xs n0) turn τ1.length f i τ2 with
      | .ok v τ3 => ∃ p S3, compLoop (stepM k ps n0) turn' S1.length f i S2 = .ok p S3 ∧ Gr τ1 β1 S1 τ3 β1 S3 ∧ St noZ τ3 β1 S3 ∧ PE τ1.length S1.length true (.v v) τ3 β1 p S3
      | .exc .. => False
      | .bad => True := by
  intro f
  induction f with
  | zero => intro i τ2 β2 S2 _ _ _ _; trivial
  | succ f ih =>
    intro i τ2 β2 S2 g s hlen hb
    have hd : β2[τ1.length]? = some S1.length := by rw [hb, ← s1.len]; simp
    simp only [compQ, compLoop]
    have hst := step_sim (k := k) (n0 := n0) (i := i) s (hx.mo (g.mo s1.len) g.pre)
    cases es : stepQ k xs n0 i τ2 with
    | bad => trivial
    | stop =>
      rw [es] at hst
      rw [show stepM k ps n0 i S2 = .stop from hst]
      cases ed : τ2[τ1.length]? with
      | none => trivial
      | some o =>
        cases o with
        | none => trivial
        | some acc =>
          obtain ⟨us, e2, r⟩ := st_lt s ed hd
          have eb : β2.take τ1.length = β1 := by rw [hb, ← s1.len]; simp
          have s3 := s.cut τ1.length
          rw [eb] at s3
          have al : Alv τ2 β2 S1.length := ⟨τ1.length, acc, hd, ed⟩
          have na : ¬ Alv (τ2.take τ1.length) β1 S1.length := fun ⟨j, ys, h1, h2⟩ => by
            obtain ⟨h3, hj⟩ := take_get h2
            have h4 : β2[j]? = some S1.length := by rw [hb, List.getElem?_append_left (get_lt' h1)]; exact h1
            have := s.inj j τ1.length ys acc S1.length h3 ed h4 hd
            omega
          have sub : ∀ y, Alv (τ2.take τ1.length) β1 y → Alv τ2 β2 y := fun y z => by rw [← eb] at z; exact alv_take z
          have r' : VRs (fun b => Alv (τ2.take τ1.length) β1 b ∨ b = S1.length) S2 acc us := r.mo fun x c h n => ⟨h, fun z => n (.inl (z.elim (sub x) fun z => z ▸ al))⟩
          refine ⟨_, S2, rfl, g.cut s1.len, s3, by rw [List.length_take]; omega, .ofVl na e2 (r'.mo fun x c h n => ⟨h, fun z => n (.inl z)⟩), fun _ => ?_⟩
          intro a ea
          cases ea
          refine ⟨Nat.le_refl _, ⟨s3.len, fun j ys h => ?_, s3.inj⟩, us, e2, r'⟩
          obtain ⟨h3, hj⟩ := take_get h
          obtain ⟨b, ws, f1, f2, f3⟩ := s.cell j ys h3
          refine ⟨b, ws, ?_, f2, f3.mo fun x c h n => ⟨h, fun z => n (.inl (z.elim (sub x) fun z => z ▸ al))⟩⟩
          rw [hb, List.getElem?_append_left (by have := s1.len; omega)] at f1
          exact f1
    | item v =>
      rw [es] at hst
      obtain ⟨p, e1, rv⟩ := hst
      rw [e1]
      have hturn := ht v p τ2 β2 S2 g s rv
      simp only
      cases et : turn v τ2 with
      | bad => trivial
      | exc c fs τ3 => trivial
      | ok o τ3 =>
        rw [et] at hturn
        obtain ⟨o', S3, β3, e3, g3, s3, l3, ro⟩ := hturn
        rw [e3]
        have hb3 : β3 = β1 ++ [S1.length] := by rw [← hb]; exact beq_of_len g3.pre (by rw [s.len, s3.len, l3])
        have gg := g.trans s1.len s.len g3
        cases o with
        | none =>
          cases o' with
          | some _ => exact ro.elim
          | none => exact ih (i + 1) τ3 β3 S3 gg s3 (l3.trans hlen) hb3
        | some y =>
          cases o' with
          | none => exact ro.elim
          | some y' =>
            have hd3 : β3[τ1.length]? = some S1.length := by rw [hb3, ← s1.len]; simp
            simp only
            cases ed : τ3[τ1.length]? with
            | none => trivial
            | some o =>
              cases o with
              | none => trivial
              | some acc =>
                obtain ⟨us, e2, r⟩ := st_lt s3 ed hd3
                have r' : VRs (Alv τ3 β3) S3 acc us := r.mo fun x c h n => ⟨h, fun z => n (.inl z)⟩
                simp only [e2, r.len]
                by_cases hz : acc.length < sizeLine
                · rw [if_pos hz, if_pos hz]
                  obtain ⟨g4, s4, _⟩ := s3.write ed hd3 (r'.append (.cons ro .nil))
                  exact ih (i + 1) _ β3 _ (gg.trans s1.len s3.len g4) s4 (by rw [List.length_set]; omega) hb3
                · rw [if_neg hz]; trivial
theorem Rl.calm {α γ : Type} {m : QR α} {m' : Res γ} {P : α → QSt → List Nat → γ → Store → Prop} (h : Rl τ β S m m' P) : Rl τ β S (calmQ m) m'.calm P := by
  cases m with
  | bad => trivial
  | exc c fs τ1 => trivial
  | ok a τ1 =>
    obtain ⟨b, S1, β1, e, h⟩ := h
    subst e
    exact ⟨b, S1, β1, rfl, h⟩
theorem vr_clo {A : Nat → Prop} {q p : PV} (h : VR A S q p) : isClo p = false := by
  cases q <;> unfold VR at h <;> first
    | (subst h; rfl)
    | (obtain ⟨a, ps, rfl, _⟩ := h; rfl)
    | (obtain ⟨ps, rfl, _⟩ := h; rfl)
    | exact h.elim
theorem objX_eq {x : QX} {c : Str} (h : objX x = some c) : x = .v (.obj c) := by
  unfold objX at h
  split at h
  · cases h; rfl
  · cases h
theorem blX_eq {x : QX} {c : Bool} (h : blX x = some c) : x = .v (.bl c) := by
  unfold blX at h
  split at h
  · cases h; rfl
  · cases h
theorem enGetQ_eq {x y : QX} {w : PV} (h : enGetQ x y = some w) : ∃ xs i, x = .v (.tup xs) ∧ y = .v (.int i) ∧ w = if 0 ≤ i then (xs[i.toNat]?).getD .non else .non := by
  unfold enGetQ at h
  split at h
  · cases h; exact ⟨_, _, rfl, rfl, rfl⟩
  · cases h
theorem cloX_sim [Tb] {env : QEnv} {env' : Env} {i : Nat} {p : Str × List PV} (er : EnvX τ β S env env') (h : cloX env i = some p) : ∃ ps, env'[i]? = some (some (.clo p.1 ps)) ∧ VRs (Alv τ β) S p.2 ps := by
  unfold cloX at h
  split at h
  · rename_i x caps e
    cases h
    obtain ⟨u, e1, ps, rfl, r⟩ := er.2.1 i _ e
    exact ⟨ps, e1, r⟩
  · cases h
theorem xrs_app {A : Nat → Prop} : ∀ {xs ys : List QX} {ps qs : List PV}, XRs A β S xs ps → XRs A β S ys qs → XRs A β S (xs ++ ys) (ps ++ qs)
  | [], _, _, _, h, k => by cases h; exact k
  | x :: xs, _, _, _, ⟨p, r, e, h1, h2⟩, k => by subst e; exact ⟨p, _, rfl, h1, xrs_app h2 k⟩
/-- what a call comes to, ahead of the cut -/
def PM (n sz : Nat) (b : Bool) (x : QX) (τ' : QSt) (β' : List Nat) (p : PV) (S' : Store) : Prop := n ≤ τ'.length ∧ (∃ v, x = .v v ∧ VR (Alv τ' β') S' v p) ∧ (b = true → FX sz τ' β' S' x p)
theorem call_mid {b : Bool} {mA : QR (List QX)} {mA' : Res (List PV)} {mq : List QX → QSt → QR PV} {mp : List PV → Store → Res PV} (hl : β.length = τ.length) (hA : Rl τ β S mA mA' fun xs τ' β' ps S' => τ.length ≤ τ'.length ∧ XRs (Alv τ' β') β' S' xs ps)
    (h : ∀ xs ps τ1 β1 S1, Gr τ β S τ1 β1 S1 → St noZ τ1 β1 S1 → XRs (Alv τ1 β1) β1 S1 xs ps → Rl τ1 β1 S1 (mq xs τ1) (mp ps S1) fun v τ' β' p S' => τ'.length = τ1.length ∧ VR (Alv τ' β') S' v p ∧ (b = true → FX S1.length τ' β' S' (.v v) p)) :
    Rl τ β S (mA.bind fun xs τ1 => (mq xs τ1).bind fun v τ2 => .ok (.v v) τ2) (mA'.bind fun vs S1 => mp vs S1) (PM τ.length S.length b) := by
  refine hA.bind hl fun xs τ1 β1 ps S1 g1 s1 ⟨l1, r1⟩ => ?_
  have h := h xs ps τ1 β1 S1 g1 s1 r1
  show Rl τ1 β1 S1 _ (mp ps S1) _
  cases e : mq xs τ1 with
  | bad => trivial
  | exc c fs τ2 => rw [e] at h; exact h
  | ok v τ2 =>
    rw [e] at h
    obtain ⟨p, S2, β2, e2, g2, s2, l2, rv, hf⟩ := h
    exact ⟨p, S2, β2, e2, g2, s2, by omega, ⟨v, rfl, rv⟩, fun q => (hf q).mono g1.ext⟩
theorem cut_fin {b : Bool} {m : QR QX} {m' : Res PV} (hl : β.length = τ.length) (h : Rl τ β S m m' (PM τ.length S.length b)) : Rl τ β S (cutQ τ.length m) m' (PE τ.length S.length b) := by
  refine Rl.cut hl h ?_
  intro x τ1 β1 p S1 g1 s1 ⟨l1, ⟨v, ev, rv⟩, hf⟩
  subst ev
  have eb : β1.take τ.length = β := by rw [← hl]; exact pre_take g1.pre
  have sub : ∀ y, Alv (τ1.take τ.length) β y → Alv τ1 β1 y := fun y z => by rw [← eb] at z; exact alv_take z
  refine ⟨by rw [List.length_take]; omega, VR.mo (fun x c h n => ⟨h, fun z => n (sub x z)⟩) rv, fun q => ?_⟩
  have hf := hf q
  unfold FX at hf ⊢
  split
  · rename_i xs hxs
    intro a ea
    cases hxs
    obtain ⟨h1, h2, us, h3, h4⟩ := hf a ea
    have h5 := h2.cut τ.length
    rw [eb] at h5
    exact ⟨h1, h5, us, h3, h4.mo fun x c h n => ⟨h, fun z => n (z.imp (sub x) id)⟩⟩
  · rename_i hxs; cases hxs
  · trivial
theorem evalE_mcall {G : Conf} {m : Str} {o : Ex} {es : Exs} {env : Env} {S : Store} : evalE G (.mcall m o es) env S = if G.can then (evalE G o env S).calm.bind fun p S1 => match p with
    | .obj c => if G.hasM c m then (evalEs G es env S1).bind fun vs S2 => (G.mth c m (.obj c :: vs) S2).calm else .bad
    | _ => .bad else .bad := by
  simp only [evalE]
  split
  · cases evalE G o env S with
    | bad => rfl
    | exc _ _ _ => rfl
    | ok p S1 => cases p <;> rfl
  · rfl
mutual
theorem simE [Tb] (C : CSim G G') : ∀ (e : Ex) (env : QEnv) (env' : Env) (τ : QSt) (β : List Nat) (S : Store), St noZ τ β S → EnvX τ β S env env' → Rl τ β S (evalQ G e env τ) (evalE G' e env' S) (PE τ.length S.length (frE G.fr e))
  | .slot i, env, env', τ, β, S, s, er => by
    simp only [evalQ, evalE]
    cases q : env[i]? with
    | none => trivial
    | some o =>
      cases o with
      | none => trivial
      | some x =>
        obtain ⟨p, e, r⟩ := er.2.1 i x q
        rw [e]
        cases x with
        | f _ _ => trivial
        | c k =>
          obtain ⟨a, ea, rfl⟩ := r
          exact .ok s (.nf (x := .c k) ⟨a, ea, rfl⟩ rfl)
        | v v =>
          have hn : isClo p = false := vr_clo r
          simp only [hn, Bool.false_eq_true, if_false]
          exact .ok s (.nf (x := .v v) r rfl)
  | .cst v, env, env', τ, β, S, s, er => by
    simp only [evalQ, evalE]
    split
    · rename_i h; exact .ok s (.nf (cst_vr h) rfl)
    · trivial
  | .glo x, env, env', τ, β, S, s, er => by
    simp only [evalQ, evalE]
    cases q : G.glob x with
    | none => trivial
    | some v =>
      obtain ⟨p, e, r⟩ := C.glob x v q
      rw [e]
      exact .ok s (.nf (r _ _) rfl)
  | .tup es, env, env', τ, β, S, s, er => by
    simp only [evalQ, evalE]
    refine (simEs C es env env' τ β S s er).bind s.len fun xs τ1 β1 ps S1 g1 s1 ⟨l1, r1⟩ => ?_
    refine Rl.frzs s1 r1 fun vs τ2 l2 g2 s2 r2 => ?_
    rw [r2.len]
    split
    · exact .ok s2 (.val (.ofTup r2) (l2.trans l1) fun xs z => by cases z)
    · trivial
  | .lst es, env, env', τ, β, S, s, er => by
    simp only [evalQ, evalE]
    refine (simEs C es env env' τ β S s er).bind s.len fun xs τ1 β1 ps S1 g1 s1 ⟨l1, r1⟩ => ?_
    exact mkLst_rl s1 r1 l1 g1.ext
  | .dsp ks es, env, env', τ, β, S, s, er => by
    simp only [evalQ, evalE]
    refine (simEs C es env env' τ β S s er).bind s.len fun xs τ1 β1 ps S1 g1 s1 ⟨l1, r1⟩ => ?_
    refine Rl.frzs s1 r1 fun vs τ2 l2 g2 s2 r2 => ?_
    rw [r2.len]
    split
    · exact .ok s2 (.val (.ofDct r2) (l2.trans l1) fun xs z => by cases z)
    · trivial
  | .bin op a b, env, env', τ, β, S, s, er => by
    simp only [evalQ, evalE]
    refine (simE C a env env' τ β S s er).bind s.len fun x τ1 β1 p S1 g1 s1 ⟨l1, r1, _⟩ => ?_
    refine (simE C b env env' τ1 β1 S1 s1 (er.gr g1 s.len)).bind s1.len fun y τ2 β2 q S2 g2 s2 ⟨l2, r2, _⟩ => ?_
    refine okO_rl fun z ez => ?_
    obtain ⟨u, v, w, e1, e2, e3, rfl⟩ := bind3 ez
    have := op_rl (b' := frE G.fr (.bin op a b)) s2 (bin_sim (vw_sim s2 (r1.mo (g2.mo s1.len) g2.pre) e1) (vw_sim s2 r2 e2) e3) (fun _ => rfl) (Nat.le_trans g1.ext g2.ext)
    rw [l2, l1] at this
    exact this
  | .neg a, env, env', τ, β, S, s, er => by
    simp only [evalQ, evalE]
    refine (simE C a env env' τ β S s er).bind s.len fun x τ1 β1 p S1 g1 s1 ⟨l1, r1, _⟩ => ?_
    split
    · have r1 : VR _ _ _ _ := r1
      unfold VR at r1; subst r1
      exact .ok s1 (.val .ofInt l1 fun xs z => by cases z)
    · trivial
  | .not a, env, env', τ, β, S, s, er => by
    simp only [evalQ, evalE]
    refine (truB_rl s.len (simE C a env env' τ β S s er)).bind s.len fun t τ1 β1 t' S1 g1 s1 ⟨l1, e⟩ => ?_
    subst e
    exact .ok s1 (.val .ofBl l1 fun xs z => by cases z)
  | .cmp op a b, env, env', τ, β, S, s, er => by
    simp only [evalQ, evalE]
    refine (simE C a env env' τ β S s er).bind s.len fun x τ1 β1 p S1 g1 s1 ⟨l1, r1, _⟩ => ?_
    refine (simE C b env env' τ1 β1 S1 s1 (er.gr g1 s.len)).bind s1.len fun y τ2 β2 q S2 g2 s2 ⟨l2, r2, _⟩ => ?_
    refine okO_rl fun z ez => ?_
    obtain ⟨u, v, w, e1, e2, e3, rfl⟩ := bind3 ez
    have := op_rl (b' := frE G.fr (.cmp op a b)) s2 (cmp_sim (vw_sim s2 (r1.mo (g2.mo s1.len) g2.pre) e1) (vw_sim s2 r2 e2) e3) (fun _ => rfl) (Nat.le_trans g1.ext g2.ext)
    rw [l2, l1] at this
    exact this
  | .chn a b c, env, env', τ, β, S, s, er => by
    simp only [evalQ, evalE]
    refine (simE C a env env' τ β S s er).bind s.len fun x τ1 β1 p S1 g1 s1 ⟨l1, r1, _⟩ => ?_
    refine (simE C b env env' τ1 β1 S1 s1 (er.gr g1 s.len)).bind s1.len fun y τ2 β2 q S2 g2 s2 ⟨l2, r2, _⟩ => ?_
    split
    · have r1 : VR _ _ _ _ := r1
      unfold VR at r1; subst r1
      have r2 : VR _ _ _ _ := r2
      unfold VR at r2; subst r2
      simp only
      split
      · refine (simE C c env env' τ2 β2 S2 s2 ((er.gr g1 s.len).gr g2 s1.len)).bind s2.len fun z τ3 β3 w S3 g3 s3 ⟨l3, r3, _⟩ => ?_
        split
        · have r3 : VR _ _ _ _ := r3
          unfold VR at r3; subst r3
          exact .ok s3 (.val .ofBl (l3.trans (l2.trans l1)) fun xs z => by cases z)
        · trivial
      · exact .ok s2 (.val .ofBl (l2.trans l1) fun xs z => by cases z)
    · trivial
  | .and a b, env, env', τ, β, S, s, er => by
    simp only [evalQ, evalE]
    refine (simE C a env env' τ β S s er).bind s.len fun x τ1 β1 p S1 g1 s1 ⟨l1, r1, _⟩ => ?_
    cases e : truR x τ1 with
    | none => trivial
    | some t =>
      rw [truR_sim s1 r1 e]
      cases t with
      | true => exact (simE C b env env' τ1 β1 S1 s1 (er.gr g1 s.len)).imp fun _ _ _ _ _ _ _ h => l1 ▸ h.weak (fun z => by cases z) g1.ext
      | false => exact .ok s1 (.nf r1 l1)
  | .or a b, env, env', τ, β, S, s, er => by
    simp only [evalQ, evalE]
    refine (simE C a env env' τ β S s er).bind s.len fun x τ1 β1 p S1 g1 s1 ⟨l1, r1, _⟩ => ?_
    cases e : truR x τ1 with
    | none => trivial
    | some t =>
      rw [truR_sim s1 r1 e]
      cases t with
      | false => exact (simE C b env env' τ1 β1 S1 s1 (er.gr g1 s.len)).imp fun _ _ _ _ _ _ _ h => l1 ▸ h.weak (fun z => by cases z) g1.ext
      | true => exact .ok s1 (.nf r1 l1)
  | .ite c a b, env, env', τ, β, S, s, er => by
    simp only [evalQ, evalE]
    refine (truB_rl s.len (simE C c env env' τ β S s er)).bind s.len fun t τ1 β1 t' S1 g1 s1 ⟨l1, e⟩ => ?_
    subst e
    cases t' with
    | true => exact (simE C a env env' τ1 β1 S1 s1 (er.gr g1 s.len)).imp fun _ _ _ _ _ _ _ h => l1 ▸ h.weak (fun z => by cases z) g1.ext
    | false => exact (simE C b env env' τ1 β1 S1 s1 (er.gr g1 s.len)).imp fun _ _ _ _ _ _ _ h => l1 ▸ h.weak (fun z => by cases z) g1.ext
  | .isN a, env, env', τ, β, S, s, er => by
    simp only [evalQ, evalE]
    refine (simE C a env env' τ β S s er).bind s.len fun x τ1 β1 p S1 g1 s1 ⟨l1, r1, _⟩ => ?_
    rw [isN_sim r1]
    exact .ok s1 (.val .ofBl l1 fun xs z => by cases z)
  | .notN a, env, env', τ, β, S, s, er => by
    simp only [evalQ, evalE]
    refine (simE C a env env' τ β S s er).bind s.len fun x τ1 β1 p S1 g1 s1 ⟨l1, r1, _⟩ => ?_
    rw [isN_sim r1]
    exact .ok s1 (.val .ofBl l1 fun xs z => by cases z)
  | .ix a b, env, env', τ, β, S, s, er => by
    simp only [evalQ, evalE]
    refine (simE C a env env' τ β S s er).bind s.len fun x τ1 β1 p S1 g1 s1 ⟨l1, r1, _⟩ => ?_
    refine (simE C b env env' τ1 β1 S1 s1 (er.gr g1 s.len)).bind s1.len fun y τ2 β2 q S2 g2 s2 ⟨l2, r2, _⟩ => ?_
    refine okO_rl fun z ez => ?_
    obtain ⟨u, v, w, e1, e2, e3, rfl⟩ := bind3 ez
    have := op_rl (b' := frE G.fr (.ix a b)) s2 (ix_sim (vw_sim s2 (r1.mo (g2.mo s1.len) g2.pre) e1) (vw_sim s2 r2 e2) e3) (fun z => by cases z) (Nat.le_trans g1.ext g2.ext)
    rw [l2, l1] at this
    exact this
  | .sl a lo hi, env, env', τ, β, S, s, er => by
    simp only [evalQ, evalE]
    refine (simE C a env env' τ β S s er).bind s.len fun x τ1 β1 p S1 g1 s1 ⟨l1, r1, _⟩ => ?_
    refine (part_sim s1.len (simEs C lo env env' τ1 β1 S1 s1 (er.gr g1 s.len))).bind s1.len fun o τ2 β2 o' S2 g2 s2 ⟨l2, e2⟩ => ?_
    refine (part_sim s2.len (simEs C hi env env' τ2 β2 S2 s2 ((er.gr g1 s.len).gr g2 s1.len))).bind s2.len fun o2 τ3 β3 o2' S3 g3 s3 ⟨l3, e3⟩ => ?_
    subst e2; subst e3
    refine okO_rl fun z ez => ?_
    obtain ⟨u, w, e1, e3, rfl⟩ := bind2 ez
    have := op_rl (b' := frE G.fr (.sl a lo hi)) s3 (sl_sim (vw_sim s3 ((r1.mo (g2.mo s1.len) g2.pre).mo (g3.mo s2.len) g3.pre) e1) e3) (fun _ => rfl) (Nat.le_trans g1.ext (Nat.le_trans g2.ext g3.ext))
    rw [l3, l2, l1] at this
    exact this
  | .call f es, env, env', τ, β, S, s, er => by
    simp only [evalQ, evalE, C.can]
    split
    · refine cut_fin s.len (call_mid s.len (simA C es env env' τ β S s er) fun xs ps τ1 β1 S1 g1 s1 r1 => ?_)
      exact C.call τ1 β1 S1 f xs ps s1 (er.gr g1 s.len).2.2 r1
    · trivial
  | .callc f es i, env, env', τ, β, S, s, er => by
    simp only [evalQ, evalE, C.can]
    split
    · cases ei : cloX env i with
      | none => trivial
      | some p =>
        obtain ⟨pcs, e1, rc⟩ := cloX_sim er ei
        simp only [e1]
        refine cut_fin s.len (call_mid (b := frE G.fr (.callc f es i)) (mq := fun xs τ1 => G.call f (xs ++ [.f p.1 p.2]) τ1) (mp := fun ps S1 => G'.call f (ps ++ [.clo p.1 pcs]) S1) s.len (simA C es env env' τ β S s er) fun xs ps τ1 β1 S1 g1 s1 r1 => ?_)
        exact C.call τ1 β1 S1 f _ _ s1 (er.gr g1 s.len).2.2 (xrs_app r1 ⟨_, [], rfl, ⟨pcs, rfl, rc.mo (g1.mo s.len)⟩, rfl⟩)
    · trivial
  | .callv i es, env, env', τ, β, S, s, er => by
    simp only [evalQ, evalE, C.can]
    split
    · cases ei : cloX env i with
      | none => trivial
      | some p =>
        obtain ⟨pcs, e1, rc⟩ := cloX_sim er ei
        simp only [e1]
        refine cut_fin s.len (call_mid (b := frE G.fr (.callv i es)) (mq := fun xs τ1 => calmQ (G.clo p.1 p.2 xs τ1)) (mp := fun ps S1 => (G'.clo p.1 pcs ps S1).calm) s.len (simA C es env env' τ β S s er) fun xs ps τ1 β1 S1 g1 s1 r1 => ?_)
        exact (Rl.calm (C.clo τ1 β1 S1 p.1 p.2 pcs xs ps s1 (er.gr g1 s.len).2.2 (rc.mo (g1.mo s.len)) r1)).imp fun _ _ _ _ _ _ _ h => ⟨h.1, h.2, fun z => by cases z⟩
    · trivial
  | .mcall m o es, env, env', τ, β, S, s, er => by
    rw [evalE_mcall]
    simp only [evalQ, C.can]
    split
    · skip
      refine cut_fin s.len ((Rl.calm (simE C o env env' τ β S s er)).bind s.len fun x τ1 β1 p S1 g1 s1 ⟨l1, r1, _⟩ => ?_)
      cases eo : objX x with
      | none => trivial
      | some c =>
        obtain rfl := objX_eq eo
        have r1 : VR _ _ _ _ := r1
        unfold VR at r1; subst r1
        simp only [C.hasM]
        split
        · refine (call_mid (b := frE G.fr (.mcall m o es)) (mq := fun xs τ1 => calmQ (G.mth c m (.v (.obj c) :: xs) τ1)) (mp := fun ps S1 => (G'.mth c m (.obj c :: ps) S1).calm) s1.len (simA C es env env' τ1 β1 S1 s1 (er.gr g1 s.len)) fun xs ps τ2 β2 S2 g2 s2 r2 => ?_).imp fun _ _ _ _ _ _ _ h => ⟨l1 ▸ h.1, h.2.1, fun z => (h.2.2 z).mono g1.ext⟩
          exact Rl.calm (C.mth τ2 β2 S2 c m _ _ s2 ((er.gr g1 s.len).gr g2 s1.len).2.2 ⟨_, _, rfl, VR.ofObj (A := Alv τ2 β2) (S := S2), r2⟩)
        · trivial
    · trivial
  | .new c, env, env', τ, β, S, s, er => by
    simp only [evalQ, evalE, C.mks]
    split
    · exact .ok s (.nf (x := .v (.obj c)) (VR.ofObj (A := Alv τ β) (S := S)) rfl)
    · trivial
  | .isTru a, env, env', τ, β, S, s, er => by
    simp only [evalQ, evalE]
    refine (simE C a env env' τ β S s er).bind s.len fun x τ1 β1 p S1 g1 s1 ⟨l1, r1, _⟩ => ?_
    refine okO_rl fun z ez => ?_
    cases eb : blX x with
    | none => rw [eb] at ez; cases ez
    | some b =>
      rw [eb] at ez
      cases ez
      obtain rfl := blX_eq eb
      have r1 : VR _ _ _ _ := r1
      unfold VR at r1; subst r1
      exact .ok s1 (.val .ofBl l1 fun xs z => by cases z)
  | .revL a, env, env', τ, β, S, s, er => by
    simp only [evalQ, evalE]
    refine (simE C a env env' τ β S s er).bind s.len fun x τ1 β1 p S1 g1 s1 ⟨l1, r1, _⟩ => ?_
    refine okO_rl fun z ez => ?_
    obtain ⟨u, w, e1, e3, rfl⟩ := bind2 (g := fun xs => QX.v (.vl (List.reverse xs))) ez
    cases u <;> simp only [lstQ] at e3 <;> cases e3
    obtain ⟨a0, ps, rfl, hs, r⟩ := (vw_sim s1 r1 e1).vl
    simp only [hs]
    have := op_rl (b := true) (b' := frE G.fr (.revL a)) s1 (v := .vl w.reverse) (m := .ok (.ref S1.length) (S1 ++ [.lst ps.reverse])) (.inr ⟨_, _, rfl, rfl, r.reverse⟩) (fun _ => rfl) g1.ext
    rw [l1] at this
    exact this
  | .enGet a b, env, env', τ, β, S, s, er => by
    simp only [evalQ, evalE]
    refine (simE C a env env' τ β S s er).bind s.len fun x τ1 β1 p S1 g1 s1 ⟨l1, r1, _⟩ => ?_
    refine (simE C b env env' τ1 β1 S1 s1 (er.gr g1 s.len)).bind s1.len fun y τ2 β2 q S2 g2 s2 ⟨l2, r2, _⟩ => ?_
    refine okO_rl fun z ez => ?_
    cases ew : enGetQ x y with
    | none => rw [ew] at ez; cases ez
    | some w =>
      rw [ew] at ez
      cases ez
      obtain ⟨xs, i, rfl, rfl, rfl⟩ := enGetQ_eq ew
      have r3 : VR (Alv τ2 β2) S2 (.tup xs) p := VR.mo (g2.mo s1.len) r1
      unfold VR at r3
      obtain ⟨ps, e9, r5⟩ := r3
      have r4 : VR _ _ _ _ := r2
      unfold VR at r4; subst r4; subst e9
      simp only
      refine .ok s2 (.nf (x := .v _) ?_ (l2.trans l1))
      by_cases hi : 0 ≤ i
      · rw [if_pos hi, if_pos hi]
        cases e : xs[i.toNat]? with
        | none =>
          rw [r5.none e]
          exact VR.ofNon (A := Alv τ2 β2) (S := S2)
        | some u =>
          obtain ⟨v, e2, rv⟩ := r5.get e
          rw [e2]
          exact rv
      · rw [if_neg hi, if_neg hi]
        exact VR.ofNon (A := Alv τ2 β2) (S := S2)
  | .prim p es, env, env', τ, β, S, s, er => by
    simp only [evalQ, evalE]
    refine (simEs C es env env' τ β S s er).bind s.len fun xs τ1 β1 ps S1 g1 s1 ⟨l1, r1⟩ => ?_
    refine okO_rl fun z ez => ?_
    obtain ⟨u, w, e1, e3, rfl⟩ := bind2 ez
    have := op_rl (b' := frE G.fr (.prim p es)) s1 (prim_sim (vws_sim s1 r1 e1) e3) (fun _ => rfl) g1.ext
    rw [l1] at this
    exact this
  | .lrg es, env, env', τ, β, S, s, er => by
    simp only [evalQ, evalE]
    refine (simEs C es env env' τ β S s er).bind s.len fun xs τ1 β1 ps S1 g1 s1 ⟨l1, r1⟩ => ?_
    refine okO_rl fun z ez => ?_
    obtain ⟨u, w, e1, e3, rfl⟩ := bind2 ez
    have := op_rl (b' := frE G.fr (.lrg es)) s1 (lrg_sim (vws_sim s1 r1 e1) e3) (fun _ => rfl) g1.ext
    rw [l1] at this
    exact this
  | .meth m o es, env, env', τ, β, S, s, er => by
    simp only [evalQ, evalE]
    refine (simE C o env env' τ β S s er).bind s.len fun x τ1 β1 p S1 g1 s1 ⟨l1, r1, _⟩ => ?_
    cases hf : metQ m x && (vw τ1 x).isSome with
    | false => trivial
    | true =>
      rw [Bool.and_eq_true] at hf
      rw [met_for r1 hf.1, lst_for s1 r1 hf.2, Bool.and_self, if_pos rfl]
      simp only [Bool.not_true, Bool.false_eq_true, if_false]
      refine (simEs C es env env' τ1 β1 S1 s1 (er.gr g1 s.len)).bind s1.len fun xs τ2 β2 ps S2 g2 s2 ⟨l2, r2⟩ => ?_
      have r1 := r1.mo (g2.mo s1.len) g2.pre
      cases hm : isCh m with
      | true =>
        simp only [if_true]
        cases x with
        | v x => trivial
        | f _ _ => trivial
        | c k =>
          obtain ⟨a, ea, rfl⟩ := r1
          unfold chQ
          refine Rl.frzs s2 r2 fun vs τ3 l3 g3 s3 r3 => ?_
          cases ek : τ3[k]? with
          | none => trivial
          | some o =>
            cases o with
            | none => trivial
            | some us =>
              obtain ⟨ws, e2, r4⟩ := st_lt s3 ek ea
              have r4' : VRs (Alv τ3 β2) S2 us ws := r4.mo fun x c h n => ⟨h, fun z => n (.inl z)⟩
              simp only
              cases ec : cellQ m us vs with
              | none => trivial
              | some yv =>
                obtain ⟨ys, v⟩ := yv
                obtain ⟨zs, pv, e5, r5, r6⟩ := cell_sim (vs := []) e2 r4' r3 hm ec
                rw [e5]
                obtain ⟨g6, s6, m6⟩ := s3.write ek ea r5
                exact ⟨pv, _, β2, rfl, g6, s6, by rw [List.length_set, l3, l2, l1], r6.mo m6, fun z => by cases z⟩
      | false =>
        simp only [Bool.false_eq_true, if_false]
        refine okO_rl fun z ez => ?_
        obtain ⟨u, us, w, e3, e4, e5, rfl⟩ := bind3 ez
        obtain ⟨_, op⟩ := mth_sim (vw_sim s2 r1 e3) (vws_sim s2 r2 e4) e5
        have := op_rl (b' := frE G.fr (.meth m o es)) s2 op (fun z => by cases z) (Nat.le_trans g1.ext g2.ext)
        rw [l2, l1] at this
        exact this
  | .isT t a, env, env', τ, β, S, s, er => by
    simp only [evalQ, evalE]
    refine (simE C a env env' τ β S s er).bind s.len fun x τ1 β1 p S1 g1 s1 ⟨l1, r1, _⟩ => ?_
    refine okO_rl fun z ez => ?_
    obtain ⟨u, w, e1, e3, rfl⟩ := bind2 (g := fun s => QX.v (.bl (kitS t s))) ez
    unfold isTM
    rw [ty_sim (vw_sim s1 r1 e1) e3]
    exact .ok s1 (.val .ofBl l1 fun xs z => by cases z)
  | .cel a, env, env', τ, β, S, s, er => by
    simp only [evalQ, evalE]
    exact simE C a env env' τ β S s er
  | .comp own tg k src cond elt, env, env', τ, β, S, s, er => by
    simp only [evalQ, evalE]
    refine (simEs C src env env' τ β S s er).bind s.len fun xs τ1 β1 ps S1 g1 s1 ⟨l1, r1⟩ => ?_
    cases e : itmQ k xs τ1 with
    | none => trivial
    | some items =>
      simp only [itm_len s1 r1 e]
      have er1 := er.gr g1 s.len
      have gN : Gr τ1 β1 S1 (τ1 ++ [some []]) (β1 ++ [S1.length]) (S1 ++ [Cell.lst []]) := (Gr.app s1.len).alloc s1.len s1.len (Nat.le_refl _)
      have sN : St noZ (τ1 ++ [some []]) (β1 ++ [S1.length]) (S1 ++ [Cell.lst []]) := (s1.app (Z' := fun b => b = S1.length) fun a ha z => absurd z (by omega)).alloc (fun z => absurd (s1.alt z) (Nat.lt_irrefl _)) get_new .nil
      have h := comp_rl (k := k) (n0 := items.length) (turn := fun v τ2 => match asgQ tg v (wipeQ env own) with
          | none => .bad
          | some e1 => (evalCQ G cond e1 τ2).bind fun b τ3 => if b then (evalQ G elt e1 τ3).bind fun y τ4 => (frz y τ4).bind fun z τ5 => .ok (some z) τ5 else .ok none τ3)
        (turn' := fun v S2 => match asgM tg v (wipeE env' own) with
          | none => .bad
          | some e1 => (evalC G' cond e1 S2).bind fun b S3 => if b then (evalE G' elt e1 S3).bind fun y S4 => .ok (some y) S4 else .ok none S3) s1 r1 (fun v p τ2 β2 S2 g2 s2 rv => by
        cases ea : asgQ tg v (wipeQ env own) with
        | none => trivial
        | some e1 =>
          obtain ⟨e2, ea2, er2⟩ := asgQ_sim ((er1.gr g2 s1.len).wipe own) rv ea
          simp only [ea2]
          refine (simC C cond e1 e2 τ2 β2 S2 s2 er2).bind s2.len fun b τ3 β3 b' S3 g3 s3 ⟨l3, eb⟩ => ?_
          subst eb
          cases b' with
          | false => exact .ok s3 ⟨l3, trivial⟩
          | true =>
            refine (simE C elt e1 e2 τ3 β3 S3 s3 (er2.gr g3 s2.len)).bind s3.len fun y τ4 β4 q S4 g4 s4 ⟨l4, r4, _⟩ => ?_
            refine Rl.frz s4 r4 fun z τ5 l5 g5 s5 r5 => ?_
            exact .ok s5 ⟨l5.trans (l4.trans l3), r5⟩) (items.length + 1) 0 _ _ _ gN sN (by simp) rfl
      show Rl τ1 β1 S1 (QR.bind (compQ (stepQ k xs items.length) _ τ1.length (items.length + 1) 0 (τ1 ++ [some []])) _) (compLoop _ _ _ _ _ _) _
      revert h
      generalize compQ (stepQ k xs items.length) _ τ1.length (items.length + 1) 0 (τ1 ++ [some []]) = m
      intro h
      cases m with
      | bad => trivial
      | exc c fs τ3 => exact h.elim
      | ok v τ3 =>
        obtain ⟨p, S3, e3, g3, s3, pe⟩ := h
        rw [l1] at pe
        exact ⟨p, S3, β1, e3, g3, s3, pe.weak (fun _ => rfl) g1.ext⟩
theorem simEs [Tb] (C : CSim G G') : ∀ (es : Exs) (env : QEnv) (env' : Env) (τ : QSt) (β : List Nat) (S : Store), St noZ τ β S → EnvX τ β S env env' → Rl τ β S (evalQs G es env τ) (evalEs G' es env' S) fun xs τ' β' ps S' => τ'.length = τ.length ∧ XRs (Alv τ' β') β' S' xs ps
  | .nil, env, env', τ, β, S, s, er => by
    simp only [evalQs, evalEs]
    exact .ok s ⟨rfl, rfl⟩
  | .cons e es, env, env', τ, β, S, s, er => by
    simp only [evalQs, evalEs]
    refine (simE C e env env' τ β S s er).bind s.len fun x τ1 β1 p S1 g1 s1 ⟨l1, r1, _⟩ => ?_
    refine (simEs C es env env' τ1 β1 S1 s1 (er.gr g1 s.len)).bind s1.len fun xs τ2 β2 ps S2 g2 s2 ⟨l2, r2⟩ => ?_
    exact .ok s2 ⟨l2.trans l1, p, ps, rfl, r1.mo (g2.mo s1.len) g2.pre, r2⟩
theorem simA [Tb] (C : CSim G G') : ∀ (es : Exs) (env : QEnv) (env' : Env) (τ : QSt) (β : List Nat) (S : Store), St noZ τ β S → EnvX τ β S env env' → Rl τ β S (evalA G es env τ) (evalEs G' es env' S) fun xs τ' β' ps S' => τ.length ≤ τ'.length ∧ XRs (Alv τ' β') β' S' xs ps
  | .nil, env, env', τ, β, S, s, er => by
    simp only [evalA, evalEs]
    exact .ok s ⟨Nat.le_refl _, rfl⟩
  | .cons e es, env, env', τ, β, S, s, er => by
    simp only [evalA, evalEs]
    refine (simE C e env env' τ β S s er).bind' s.len fun x τ1 β1 p S1 g1 s1 ⟨l1, r1, hf⟩ => ?_
    have plain : cellA (isCel G.fr e) x τ1 = (x, τ1) → ∃ τ2 β2, Gr τ β S τ2 β2 S1 ∧ β2.length = τ2.length ∧ Rl τ2 β2 S1 ((evalA G es env (cellA (isCel G.fr e) x τ1).2).bind fun xs τ2 => .ok ((cellA (isCel G.fr e) x τ1).1 :: xs) τ2)
        ((evalEs G' es env' S1).bind fun vs S2 => .ok (p :: vs) S2) fun xs τ' β' ps S' => τ.length ≤ τ'.length ∧ XRs (Alv τ' β') β' S' xs ps := fun ec => by
      rw [ec]
      refine ⟨τ1, β1, g1, s1.len, (simA C es env env' τ1 β1 S1 s1 (er.gr g1 s.len)).bind s1.len fun xs τ2 β2 ps S2 g2 s2 ⟨l2, r2⟩ => ?_⟩
      exact .ok s2 ⟨by omega, p, ps, rfl, r1.mo (g2.mo s1.len) g2.pre, r2⟩
    cases hb : (isCel G.fr e) with
    | false =>
      rw [hb] at plain
      exact plain rfl
    | true =>
      cases x with
      | c k => rw [hb] at plain; exact plain rfl
      | f _ _ => rw [hb] at plain; exact plain rfl
      | v x =>
        cases x with
        | vl ys =>
          have hfe : frE G.fr e = true := by
            cases e <;> first | (simp [isCel] at hb; done) | exact hb
          have r1' : VR (Alv τ1 β1) S1 (.vl ys) p := r1
          unfold VR at r1'
          obtain ⟨a, ps1, rfl, na, ha, ra⟩ := r1'
          obtain ⟨h1, h2, us, h3, h4⟩ := hf hfe a rfl
          have sA := h2.alloc na h3 h4
          have gA := g1.alloc (xs := ys) s.len s1.len h1
          refine ⟨_, _, gA, sA.len, (simA C es env env' _ _ S1 sA (er.gr gA s.len)).bind sA.len fun xs τ2 β2 ps S2 g2 s2 ⟨l2, r2⟩ => ?_⟩
          have hx : XR (Alv (τ1 ++ [some ys]) (β1 ++ [a])) (β1 ++ [a]) S1 (.c τ1.length) (.ref a) := ⟨a, by rw [← s1.len]; simp, rfl⟩
          exact .ok s2 ⟨by rw [List.length_append] at l2; omega, _, ps, rfl, hx.mo (g2.mo sA.len) g2.pre, r2⟩
        | _ => rw [hb] at plain; exact plain rfl
theorem simC [Tb] (C : CSim G G') : ∀ (es : Exs) (env : QEnv) (env' : Env) (τ : QSt) (β : List Nat) (S : Store), St noZ τ β S → EnvX τ β S env env' → Rl τ β S (evalCQ G es env τ) (evalC G' es env' S) fun t τ' β' t' S' => τ'.length = τ.length ∧ t' = t
  | .nil, env, env', τ, β, S, s, er => by
    simp only [evalCQ, evalC]
    exact .ok s ⟨rfl, rfl⟩
  | .cons e .nil, env, env', τ, β, S, s, er => by
    simp only [evalCQ, evalC]
    exact truB_rl s.len (simE C e env env' τ β S s er)
  | .cons e (.cons _ _), env, env', τ, β, S, s, er => by
    simp only [evalCQ, evalC]
    trivial
end
end
end EK

namespace EK
open PySem PySem.Spec PyProof.Rows L2
/-- what is handed back is a list that nothing else holds -/
def FR (n0 s0 : Nat) (τ : QSt) (β : List Nat) (S : Store) (x : QX) (p : PV) : Prop := match x with
  | .c k => n0 ≤ k
  | .v v => FX s0 τ β S (.v v) p
  | .f _ _ => True
def Rs [Tb] (n0 s0 : Nat) (τ : QSt) (β : List Nat) (S : Store) (m : QS) (m' : SRes) : Prop := match m with
  | .nx env τ' => ∃ env' S' β', m' = .nx env' S' ∧ Gr τ β S τ' β' S' ∧ St noZ τ' β' S' ∧ EnvX τ' β' S' env env'
  | .ret x b τ' => ∃ p S' β', m' = .ret p S' ∧ Gr τ β S τ' β' S' ∧ St noZ τ' β' S' ∧ XR (Alv τ' β') β' S' x p ∧ (b = true → FR n0 s0 τ' β' S' x p)
  | .exc c fs env τ' => ∃ ps env' S' β', m' = .exc c ps env' S' ∧ Gr τ β S τ' β' S' ∧ St noZ τ' β' S' ∧ VRs (Alv τ' β') S' fs ps ∧ EnvX τ' β' S' env env'
  | .bad => True
section
variable {n0 s0 : Nat} {τ τ1 τ2 : QSt} {β β1 β2 : List Nat} {S S1 S2 : Store} {G : QConf} {G' : Conf} {env : QEnv} {env' : Env}
theorem Rs.trans [Tb] {m : QS} {m' : SRes} (hl : β.length = τ.length) (hl1 : β1.length = τ1.length) (g : Gr τ β S τ1 β1 S1) (h : Rs n0 s0 τ1 β1 S1 m m') : Rs n0 s0 τ β S m m' := by
  cases m with
  | bad => trivial
  | nx env τ2 => obtain ⟨a, b, c, e, g2, r⟩ := h; exact ⟨a, b, c, e, g.trans hl hl1 g2, r⟩
  | ret x b τ2 => obtain ⟨a, b, c, e, g2, r⟩ := h; exact ⟨a, b, c, e, g.trans hl hl1 g2, r⟩
  | exc c fs env τ2 => obtain ⟨a, b, c, d, e, g2, r⟩ := h; exact ⟨a, b, c, d, e, g.trans hl hl1 g2, r⟩
theorem Rs.sbind [Tb] {α : Type} {m : QR α} {m' : Res PV} {f : α → QSt → QS} {f' : PV → Store → SRes} {P : α → QSt → List Nat → PV → Store → Prop} (er : EnvX τ β S env env') (hl : β.length = τ.length) (h : Rl τ β S m m' P)
    (k : ∀ a τ1 β1 b S1, Gr τ β S τ1 β1 S1 → St noZ τ1 β1 S1 → P a τ1 β1 b S1 → Rs n0 s0 τ β S (f a τ1) (f' b S1)) : Rs n0 s0 τ β S (m.sbind env f) (m'.sbind env' f') := by
  cases m with
  | bad => trivial
  | exc c fs τ1 =>
    obtain ⟨ps, S1, β1, e, g, s, r⟩ := h
    subst e
    exact ⟨ps, env', S1, β1, rfl, g, s, r, er.gr g hl⟩
  | ok a τ1 =>
    obtain ⟨b, S1, β1, e, g, s, p⟩ := h
    subst e
    exact k a τ1 β1 b S1 g s p
theorem Rs.frz [Tb] {x : QX} {p : PV} {f : PV → QSt → QS} {m : SRes} {en : QEnv} (hl : β.length = τ.length) (g : Gr τ β S τ1 β1 S1) (s : St noZ τ1 β1 S1) (h : XR (Alv τ1 β1) β1 S1 x p)
    (k : ∀ q τ2, τ2.length = τ1.length → Gr τ1 β1 S1 τ2 β1 S1 → St noZ τ2 β1 S1 → VR (Alv τ2 β1) S1 q p → Rs n0 s0 τ β S (f q τ2) m) : Rs n0 s0 τ β S ((EK.frz x τ1).sbind en f) m := by
  cases e : EK.frz x τ1 with
  | bad => trivial
  | exc c fs τ1 => exact (frz_exc e).elim
  | ok v τ2 =>
    obtain ⟨l1, g1, s1, r1⟩ := frz_sim s h e
    exact k v τ2 l1 g1 s1 r1
theorem store_sim [Tb] {i : Nat} {x : QX} {p : PV} (hl : β.length = τ.length) (er : EnvX τ β S env env') (g : Gr τ β S τ1 β1 S1) (s : St noZ τ1 β1 S1) (r : XR (Alv τ1 β1) β1 S1 x p) : Rs n0 s0 τ β S (storeQ i x env τ1) (.nx (env'.set i (some p)) S1) := by
  unfold storeQ
  refine Rs.frz hl g s r fun q τ2 l2 g2 s2 r2 => ?_
  have gg := g.trans hl s.len g2
  exact ⟨_, S1, _, rfl, gg, s2, (er.gr gg hl).set (x := .v q) r2 i⟩
theorem new_sim [Tb] {i : Nat} {fresh : Bool} {x : QX} {p : PV} (hl : β.length = τ.length) (er : EnvX τ β S env env') (g : Gr τ β S τ1 β1 S1) (s : St noZ τ1 β1 S1) (r : XR (Alv τ1 β1) β1 S1 x p) (hf : fresh = true → FX S.length τ1 β1 S1 x p) :
    Rs n0 s0 τ β S (newQ i fresh x env τ1) (.nx (env'.set i (some p)) S1) := by
  unfold newQ
  split
  · trivial
  · trivial
  · rename_i xs
    split
    · rename_i hfr
      have r1' : VR (Alv τ1 β1) S1 (.vl xs) p := r
      unfold VR at r1'
      obtain ⟨a, ps1, rfl, na, ha, ra⟩ := r1'
      obtain ⟨h1, h2, us, h3, h4⟩ := hf hfr a rfl
      have sA := h2.alloc na h3 h4
      have gA := g.alloc (xs := xs) hl s.len h1
      exact ⟨_, S1, _, rfl, gA, sA, (er.gr gA hl).set (x := .c τ1.length) ⟨a, by rw [← s.len]; simp, rfl⟩ i⟩
    · exact ⟨_, S1, _, rfl, g, s, (er.gr g hl).set r i⟩
  · exact ⟨_, S1, _, rfl, g, s, (er.gr g hl).set r i⟩
theorem for_sim [Tb] {k : IK} {xs : List QX} {ps : List PV} {m0 : Nat} {t : Tgt} {body : QEnv → QSt → QS} {body' : Env → Store → SRes} (s1 : St noZ τ1 β1 S1) (hx : XRs (Alv τ1 β1) β1 S1 xs ps) (hs : s0 ≤ S1.length)
    (hb : ∀ env env' τ β S, St noZ τ β S → EnvX τ β S env env' → s0 ≤ S.length → Rs n0 s0 τ β S (body env τ) (body' env' S)) :
    ∀ (f i : Nat) (env : QEnv) (env' : Env) (τ2 : QSt) (β2 : List Nat) (S2 : Store), Gr τ1 β1 S1 τ2 β2 S2 → St noZ τ2 β2 S2 → EnvX τ2 β2 S2 env env' → Rs n0 s0 τ2 β2 S2 (forQ (stepQ k xs m0) (asgQ t) body f i env τ2) (forLoop (stepM k ps m0) (asgM t) body' f i env' S2) := by
  intro f
  induction f with
  | zero => intro i env env' τ2 β2 S2 _ _ _; trivial
  | succ f ih =>
    intro i env env' τ2 β2 S2 g s er
    simp only [forQ, forLoop]
    have hst := step_sim (k := k) (n0 := m0) (i := i) s (hx.mo (g.mo s1.len) g.pre)
    cases es : stepQ k xs m0 i τ2 with
    | bad => trivial
    | stop =>
      rw [es] at hst
      rw [show stepM k ps m0 i S2 = .stop from hst]
      exact ⟨env', S2, β2, rfl, .refl s.len, s, er⟩
    | item v =>
      rw [es] at hst
      obtain ⟨p, e1, rv⟩ := hst
      rw [e1]
      simp only
      cases ea : asgQ t v env with
      | none => trivial
      | some e1 =>
        obtain ⟨e2, ea2, er2⟩ := asgQ_sim er rv ea
        simp only [ea2]
        have h := hb e1 e2 τ2 β2 S2 s er2 (Nat.le_trans hs g.ext)
        cases ebq : body e1 τ2 with
        | bad => trivial
        | nx e5 τ5 =>
          rw [ebq] at h
          obtain ⟨e6, S5, β5, e7, g5, s5, er5⟩ := h
          rw [e7]
          exact (ih (i + 1) e5 e6 τ5 β5 S5 (g.trans s1.len s.len g5) s5 er5).trans s.len s5.len g5
        | ret x b τ5 =>
          rw [ebq] at h
          obtain ⟨p, S5, β5, e7, h⟩ := h
          rw [e7]
          exact ⟨p, S5, β5, rfl, h⟩
        | exc c fs e5 τ5 =>
          rw [ebq] at h
          obtain ⟨p, e6, S5, β5, e7, h⟩ := h
          rw [e7]
          exact ⟨p, e6, S5, β5, rfl, h⟩
theorem while_sim [Tb] {test : QEnv → QSt → QR Bool} {test' : Env → Store → Res Bool} {body : QEnv → QSt → QS} {body' : Env → Store → SRes}
    (ht : ∀ env env' τ β S, St noZ τ β S → EnvX τ β S env env' → Rl τ β S (test env τ) (test' env' S) fun t τ' β' t' S' => t' = t)
    (hb : ∀ env env' τ β S, St noZ τ β S → EnvX τ β S env env' → s0 ≤ S.length → Rs n0 s0 τ β S (body env τ) (body' env' S)) :
    ∀ (f : Nat) (env : QEnv) (env' : Env) (τ2 : QSt) (β2 : List Nat) (S2 : Store), s0 ≤ S2.length → St noZ τ2 β2 S2 → EnvX τ2 β2 S2 env env' → Rs n0 s0 τ2 β2 S2 (whileQ test body f env τ2) (whileLoop test' body' f env' S2) := by
  intro f
  induction f with
  | zero => intro env env' τ2 β2 S2 _ _ _; trivial
  | succ f ih =>
    intro env env' τ2 β2 S2 hs s er
    simp only [whileQ, whileLoop]
    have h := ht env env' τ2 β2 S2 s er
    cases et : test env τ2 with
    | bad => trivial
    | exc c fs τ3 =>
      rw [et] at h
      obtain ⟨ps, S3, β3, e, g, s3, r⟩ := h
      rw [e]
      exact ⟨ps, env', S3, β3, rfl, g, s3, r, er.gr g s.len⟩
    | ok t τ3 =>
      rw [et] at h
      obtain ⟨t', S3, β3, e, g, s3, e2⟩ := h
      subst e2
      rw [e]
      cases t' with
      | false => exact ⟨env', S3, β3, rfl, g, s3, er.gr g s.len⟩
      | true =>
        simp only
        have h := hb env env' τ3 β3 S3 s3 (er.gr g s.len) (Nat.le_trans hs g.ext)
        cases ebq : body env τ3 with
        | bad => trivial
        | nx e5 τ5 =>
          rw [ebq] at h
          obtain ⟨e6, S5, β5, e7, g5, s5, er5⟩ := h
          rw [e7]
          exact (ih e5 e6 τ5 β5 S5 (Nat.le_trans hs (Nat.le_trans g.ext g5.ext)) s5 er5).trans s.len s5.len (g.trans s.len s3.len g5)
        | ret x b τ5 =>
          rw [ebq] at h
          obtain ⟨p, S5, β5, e7, h⟩ := h
          rw [e7]
          exact Rs.trans (m := .ret x b τ5) s.len s3.len g ⟨p, S5, β5, rfl, h⟩
        | exc c fs e5 τ5 =>
          rw [ebq] at h
          obtain ⟨p, e6, S5, β5, e7, h⟩ := h
          rw [e7]
          exact Rs.trans (m := .exc c fs e5 τ5) s.len s3.len g ⟨p, e6, S5, β5, rfl, h⟩
theorem capsQ_sim [Tb] {env : QEnv} {env' : Env} (er : EnvX τ β S env env') : ∀ {js : List Nat} {caps : List PV}, capsQ env js = some caps → ∃ ps, capsM env' js = some ps ∧ VRs (Alv τ β) S caps ps
  | [], _, h => by cases h; exact ⟨[], rfl, .nil⟩
  | j :: js, caps, h => by
    simp only [capsQ] at h
    split at h
    · rename_i v e
      cases e1 : capsQ env js with
      | none => rw [e1] at h; cases h
      | some cs =>
        rw [e1] at h
        cases h
        obtain ⟨ps, e2, r⟩ := capsQ_sim er e1
        obtain ⟨p, e3, rv⟩ := er.2.1 j _ e
        have rv : VR (Alv τ β) S v p := rv
        refine ⟨p :: ps, ?_, .cons rv r⟩
        simp only [capsM, e3, vr_clo rv, Bool.false_eq_true, if_false, e2, Option.map_some]
    · cases h
theorem clo_ret [Tb] {x g : Str} {en : QEnv} {en' : Env} {caps pcs : List PV} {mA : QR (List QX)} {mA' : Res (List PV)} {cq : Str → List QX → QSt → QR PV} {cp : Str → List PV → Store → Res PV} {fr : Str → Bool} {b : Bool} (hf : b = true → fr g = true) (s : St noZ τ β S) (er0 : EnvX τ β S env env') (hs : s0 ≤ S.length)
    (hA : Rl τ β S mA mA' fun xs τ' β' ps S' => τ.length ≤ τ'.length ∧ XRs (Alv τ' β') β' S' xs ps) (er : EnvX τ β S en en') (hc : CallSim cq cp fr) (rc : VRs (Alv τ β) S caps pcs) :
    Rs n0 s0 τ β S ((mA.bind fun xs τ1 => calmQ (cq g (xs ++ [.f x caps]) τ1)).sbind en fun v τ2 => .ret (.v v) b τ2) (mA'.sbindL en' fun vs S1 => match (cp g (vs ++ [.clo x pcs]) S1).calm with
      | .ok v S2 => .ret v S2
      | _ => .bad) := by
  cases mA with
  | bad => trivial
  | exc c fs τ1 =>
    obtain ⟨ps, S1, β1, e, g1, s1, r⟩ := hA
    subst e
    exact ⟨ps, en', S1, β1, rfl, g1, s1, r, er.gr g1 s.len⟩
  | ok xs τ1 =>
    obtain ⟨ps, S1, β1, e, g1, s1, l1, r1⟩ := hA
    subst e
    have hx : XRs (Alv τ1 β1) β1 S1 (xs ++ [.f x caps]) (ps ++ [.clo x pcs]) := xrs_app r1 ⟨_, [], rfl, ⟨pcs, rfl, rc.mo (g1.mo s.len)⟩, rfl⟩
    have hcs := hc τ1 β1 S1 g _ _ s1 (er.gr g1 s.len).2.2 hx
    show Rs n0 s0 τ β S ((calmQ (cq g (xs ++ [.f x caps]) τ1)).sbind en fun v τ2 => .ret (.v v) b τ2) (match (cp g (ps ++ [.clo x pcs]) S1).calm with
      | .ok v S2 => .ret v S2
      | _ => .bad)
    cases e : cq g (xs ++ [.f x caps]) τ1 with
    | bad => trivial
    | exc c fs τ2 => trivial
    | ok v τ2 =>
      rw [e] at hcs
      obtain ⟨p, S2, β2, e2, g2, s2, l2, rv, hfx⟩ := hcs
      rw [e2]
      refine ⟨p, S2, β2, rfl, g1.trans s.len s1.len g2, s2, rv, fun hb => ?_⟩
      exact (hfx (hf hb)).mono (Nat.le_trans hs g1.ext)
mutual
theorem simS [Tb] (C : CSim G G') (hn : G.n0 = n0) : ∀ (st : Sm) (env : QEnv) (env' : Env) (τ : QSt) (β : List Nat) (S : Store), St noZ τ β S → EnvX τ β S env env' → s0 ≤ S.length → Rs n0 s0 τ β S (execQ G st env τ) (execS G' st env' S)
  | .asg t e, env, env', τ, β, S, s, er, hs => by
    simp only [execQ, execS]
    refine Rs.sbind er s.len (simE C e env env' τ β S s er) fun x τ1 β1 p S1 g1 s1 ⟨l1, r1, f1⟩ => ?_
    cases t with
    | nm i => exact store_sim s.len er g1 s1 r1
    | tp is =>
      cases x with
      | c k => trivial
      | f _ _ => trivial
      | v v =>
        simp only
        cases ea : asgQ (.tp is) v env with
        | none => trivial
        | some e1 =>
          obtain ⟨e2, ea2, er2⟩ := asgQ_sim (er.gr g1 s.len) r1 ea
          rw [ea2]
          exact ⟨e2, S1, β1, rfl, g1, s1, er2⟩
  | .asgIx o i e, env, env', τ, β, S, s, er, hs => by
    simp only [execQ, execS]
    refine Rs.sbind er s.len (simE C e env env' τ β S s er) fun x τ1 β1 p S1 g1 s1 ⟨l1, r1, _⟩ => ?_
    refine Rs.trans s.len s1.len g1 ?_
    refine Rs.sbind (er.gr g1 s.len) s1.len (simE C o env env' τ1 β1 S1 s1 (er.gr g1 s.len)) fun y τ2 β2 q S2 g2 s2 ⟨l2, r2, _⟩ => ?_
    refine Rs.trans s1.len s2.len g2 ?_
    refine Rs.sbind ((er.gr g1 s.len).gr g2 s1.len) s2.len (simE C i env env' τ2 β2 S2 s2 ((er.gr g1 s.len).gr g2 s1.len)) fun z τ3 β3 w S3 g3 s3 ⟨l3, r3, _⟩ => ?_
    have r1 := (r1.mo (g2.mo s1.len) g2.pre).mo (g3.mo s2.len) g3.pre
    have r2 := r2.mo (g3.mo s2.len) g3.pre
    refine Rs.frz s2.len g3 s3 r1 fun v τ4 l4 g4 s4 r4 => ?_
    split
    · rename_i k j
      obtain ⟨a, ea, rfl⟩ := r2
      have r3 : VR _ _ _ _ := r3
      unfold VR at r3; subst r3
      split
      · rename_i xs hk
        obtain ⟨us, e2, r5⟩ := st_lt s4 hk ea
        have r5' : VRs (Alv τ4 β3) S3 xs us := r5.mo fun x c h n => ⟨h, fun z => n (.inl z)⟩
        split
        · rename_i jj hj
          simp only [setIxM, e2, r5.len, hj]
          obtain ⟨g6, s6, m6⟩ := s4.write hk ea (r5'.set jj r4)
          have gg := (g3.trans s2.len s3.len g4).trans s2.len s4.len g6
          exact ⟨env', _, β3, rfl, gg, s6, ((er.gr g1 s.len).gr g2 s1.len).gr gg s2.len⟩
        · trivial
      · trivial
    · trivial
  | .asgC i e, env, env', τ, β, S, s, er, hs => by
    simp only [execQ, execS]
    refine Rs.sbind er s.len (simE C e env env' τ β S s er) fun x τ1 β1 p S1 g1 s1 ⟨l1, r1, f1⟩ => ?_
    exact new_sim s.len er g1 s1 r1 f1
  | .exp e, env, env', τ, β, S, s, er, hs => by
    simp only [execQ, execS]
    refine Rs.sbind er s.len (simE C e env env' τ β S s er) fun x τ1 β1 p S1 g1 s1 ⟨l1, r1, _⟩ => ?_
    exact ⟨env', S1, β1, rfl, g1, s1, er.gr g1 s.len⟩
  | .ret e, env, env', τ, β, S, s, er, hs => by
    simp only [execQ, execS]
    refine Rs.sbind er s.len (simE C e env env' τ β S s er) fun x τ1 β1 p S1 g1 s1 ⟨l1, r1, f1⟩ => ?_
    refine ⟨p, S1, β1, rfl, g1, s1, r1, fun hb => ?_⟩
    unfold FR
    cases x with
    | f _ _ => trivial
    | c k =>
      simp only [Bool.or_eq_true, decide_eq_true_eq] at hb
      rcases hb with hb | hb
      · exact (f1 hb).elim
      · rw [hn] at hb; exact hb
    | v v =>
      simp only [Bool.or_false] at hb
      exact (f1 hb).mono hs
  | .ifs c a b, env, env', τ, β, S, s, er, hs => by
    simp only [execQ, execS]
    have h := truB_rl s.len (simE C c env env' τ β S s er)
    cases e : truBQ (evalQ G c env τ) with
    | bad => trivial
    | exc cc fs τ1 =>
      rw [e] at h
      obtain ⟨ps, S1, β1, e1, g1, s1, r⟩ := h
      rw [e1]
      exact ⟨ps, env', S1, β1, rfl, g1, s1, r, er.gr g1 s.len⟩
    | ok t τ1 =>
      rw [e] at h
      obtain ⟨t', S1, β1, e1, g1, s1, l1, e2⟩ := h
      subst e2
      rw [e1]
      cases t' with
      | true => exact (simSs C hn a env env' τ1 β1 S1 s1 (er.gr g1 s.len) (Nat.le_trans hs g1.ext)).trans s.len s1.len g1
      | false => exact (simSs C hn b env env' τ1 β1 S1 s1 (er.gr g1 s.len) (Nat.le_trans hs g1.ext)).trans s.len s1.len g1
  | .for t k src body, env, env', τ, β, S, s, er, hs => by
    simp only [execQ, execS]
    have h := simEs C src env env' τ β S s er
    cases e : evalQs G src env τ with
    | bad => trivial
    | exc cc fs τ1 =>
      rw [e] at h
      obtain ⟨ps, S1, β1, e1, g1, s1, r⟩ := h
      rw [e1]
      exact ⟨ps, env', S1, β1, rfl, g1, s1, r, er.gr g1 s.len⟩
    | ok xs τ1 =>
      rw [e] at h
      obtain ⟨ps, S1, β1, e1, g1, s1, l1, r1⟩ := h
      rw [e1]
      simp only
      cases e2 : itmQ k xs τ1 with
      | none => trivial
      | some items =>
        simp only [itm_len s1 r1 e2]
        exact (for_sim s1 r1 (Nat.le_trans hs g1.ext) (fun env env' τ β S s er hs => simSs C hn body env env' τ β S s er hs) (items.length + 1) 0 env env' τ1 β1 S1 (.refl s1.len) s1 (er.gr g1 s.len)).trans s.len s1.len g1
  | .while c body, env, env', τ, β, S, s, er, hs => by
    simp only [execQ, execS]
    exact while_sim (fun env env' τ β S s er => (truB_rl s.len (simE C c env env' τ β S s er)).imp fun _ _ _ _ _ _ _ h => h.2) (fun env env' τ β S s er hs => simSs C hn body env env' τ β S s er hs) whileMost env env' τ β S hs s er
  | .raise c, env, env', τ, β, S, s, er, hs => by
    simp only [execQ, execS]
    exact ⟨[], env', S, β, rfl, .refl s.len, s, .nil, er⟩
  | .pass, env, env', τ, β, S, s, er, hs => by
    simp only [execQ, execS]
    exact ⟨env', S, β, rfl, .refl s.len, s, er⟩
  | .nev, env, env', τ, β, S, s, er, hs => by
    simp only [execQ]
    trivial
  | .tryN body c i, env, env', τ, β, S, s, er, hs => by
    simp only [execQ, execS]
    have h := simSs C hn body env env' τ β S s er hs
    cases e : execQs G body env τ with
    | bad => trivial
    | nx e1 τ1 =>
      rw [e] at h
      obtain ⟨e2, S1, β1, e3, h⟩ := h
      rw [e3]
      exact ⟨e2, S1, β1, rfl, h⟩
    | ret x b τ1 =>
      rw [e] at h
      obtain ⟨p, S1, β1, e3, h⟩ := h
      rw [e3]
      exact ⟨p, S1, β1, rfl, h⟩
    | exc c' fs e1 τ1 =>
      rw [e] at h
      obtain ⟨p, e2, S1, β1, e3, g1, s1, rf, er1⟩ := h
      rw [e3]
      simp only
      by_cases hc : c' = c ∧ fs = []
      · obtain ⟨rfl, rfl⟩ := hc
        unfold VRs at rf
        subst rf
        rw [if_pos ⟨rfl, rfl⟩, if_pos ⟨rfl, rfl⟩]
        exact ⟨_, S1, β1, rfl, g1, s1, er1.set (x := .v .non) (VR.ofNon (A := Alv τ1 β1) (S := S1)) i⟩
      · rw [if_neg hc]
        trivial
  | .cloRet x g es js i, env, env', τ, β, S, s, er, hs => by
    simp only [execQ, execS, C.can]
    by_cases hc : (G'.can && G.tab x) = true
    · rw [if_pos hc]
      simp only [Bool.and_eq_true] at hc
      obtain ⟨a, ea, _⟩ := er.2.2 x (C.tab x hc.2)
      have hany : S.any (isTab x) = true := List.any_eq_true.mpr ⟨_, List.mem_of_getElem? ea, by simp [isTab]⟩
      rw [hc.1, hany, Bool.and_self, if_pos rfl]
      cases ecq : capsQ (env.set i none) js with
      | none => trivial
      | some caps =>
        obtain ⟨pcs, e1, rc⟩ := capsQ_sim (er.wipe1 i) ecq
        simp only [e1]
        exact clo_ret (hf := fun z => z) s er hs (simA C es _ _ τ β S s (er.wipe1 i)) (er.wipe1 i) C.call rc
    · rw [if_neg hc]
      trivial
theorem simSs [Tb] (C : CSim G G') (hn : G.n0 = n0) : ∀ (st : Sms) (env : QEnv) (env' : Env) (τ : QSt) (β : List Nat) (S : Store), St noZ τ β S → EnvX τ β S env env' → s0 ≤ S.length → Rs n0 s0 τ β S (execQs G st env τ) (execSs G' st env' S)
  | .nil, env, env', τ, β, S, s, er, hs => by
    simp only [execQs, execSs]
    exact ⟨env', S, β, rfl, .refl s.len, s, er⟩
  | .cons st ss, env, env', τ, β, S, s, er, hs => by
    simp only [execQs, execSs]
    have h := simS C hn st env env' τ β S s er hs
    cases e : execQ G st env τ with
    | bad => trivial
    | nx e1 τ1 =>
      rw [e] at h
      obtain ⟨e2, S1, β1, e3, g1, s1, er1⟩ := h
      rw [e3]
      exact (simSs C hn ss e1 e2 τ1 β1 S1 s1 er1 (Nat.le_trans hs g1.ext)).trans s.len s1.len g1
    | ret x b τ1 =>
      rw [e] at h
      obtain ⟨p, S1, β1, e3, h⟩ := h
      rw [e3]
      exact ⟨p, S1, β1, rfl, h⟩
    | exc c fs e1 τ1 =>
      rw [e] at h
      obtain ⟨p, e2, S1, β1, e3, h⟩ := h
      rw [e3]
      exact ⟨p, e2, S1, β1, rfl, h⟩
end
/-- how a body's end is told -/
def finQ (fr : Bool) (n : Nat) (m : QS) : QR PV := match m with
  | .ret x b τ1 => if fr && !b then .bad else (frz x τ1).bind fun v τ2 => .ok v (τ2.take n)
  | .nx _ τ1 => if fr then .bad else .ok .non (τ1.take n)
  | .exc c fs _ τ1 => .exc c fs (τ1.take n)
  | _ => .bad
def finP (m : SRes) : Res PV := match m with
  | .ret v S1 => .ok v S1
  | .nx _ S1 => .ok .non S1
  | .exc c fs _ S1 => .exc c fs S1
  | _ => .bad
/-- a def's body -/
theorem fin_sim [Tb] {fr : Bool} {b : Sms} {en : QEnv} {en' : Env} (C : CSim G G') (hn : G.n0 = τ.length) (s : St noZ τ β S) (er : EnvX τ β S en en') :
    Rl τ β S (finQ fr τ.length (execQs G b en τ)) (finP (execSs G' b en' S)) fun v τ' β' p S' => τ'.length = τ.length ∧ VR (Alv τ' β') S' v p ∧ (fr = true → FX S.length τ' β' S' (.v v) p) := by
  unfold finQ finP
  · have h := simSs (s0 := S.length) C hn b _ _ τ β S s er (Nat.le_refl _)
    have cutVR : ∀ {τ1 : QSt} {β1 : List Nat} {S1 : Store} {q p : PV}, β <+: β1 → VR (Alv τ1 β1) S1 q p → VR (Alv (τ1.take τ.length) β) S1 q p := fun {τ1 β1 S1 q p} hp rv => by
      have eb : β1.take τ.length = β := by rw [← s.len]; exact pre_take hp
      exact rv.mo fun x c h n => ⟨h, fun z => n (by rw [← eb] at z; exact alv_take z)⟩
    cases e : execQs G b en τ with
    | bad => trivial
    | nx e1 τ1 =>
      rw [e] at h
      obtain ⟨e2, S1, β1, e3, g1, s1, er1⟩ := h
      rw [e3]
      simp only
      cases fr with
      | true => trivial
      | false =>
        have eb : β1.take τ.length = β := by rw [← s.len]; exact pre_take g1.pre
        have s2 := s1.cut τ.length
        rw [eb] at s2
        refine ⟨.non, S1, β, rfl, g1.cut s.len, s2, ?_, .ofNon, fun z => by cases z⟩
        rw [List.length_take]; have := g1.len; omega
    | exc c fs e1 τ1 =>
      rw [e] at h
      obtain ⟨us, e2, S1, β1, e3, g1, s1, rf, er1⟩ := h
      rw [e3]
      have eb : β1.take τ.length = β := by rw [← s.len]; exact pre_take g1.pre
      have s2 := s1.cut τ.length
      rw [eb] at s2
      exact ⟨us, S1, β, rfl, g1.cut s.len, s2, rf.mo fun x c h n => ⟨h, fun z => n (by rw [← eb] at z; exact alv_take z)⟩⟩
    | ret x b τ1 =>
      rw [e] at h
      obtain ⟨p, S1, β1, e3, g1, s1, rx, hf⟩ := h
      rw [e3]
      simp only
      split
      · trivial
      · rename_i hfr
        have hfr : fr = true → b = true := fun q => by
          subst q
          cases b with
          | true => rfl
          | false => exact (hfr rfl).elim
        cases ef : EK.frz x τ1 with
        | bad => trivial
        | exc c fs τ2 => exact (frz_exc ef).elim
        | ok v τ2 =>
          obtain ⟨l2, g2, s2, r2⟩ := frz_sim s1 rx ef
          have gg := g1.trans s.len s1.len g2
          have eb : β1.take τ.length = β := by rw [← s.len]; exact pre_take g1.pre
          have s3 := s2.cut τ.length
          rw [eb] at s3
          refine ⟨p, S1, β, rfl, gg.cut s.len, s3, ?_, cutVR g1.pre r2, fun q => ?_⟩
          · rw [List.length_take]; have := gg.len; omega
          · have hfx := hf (hfr q)
            cases x with
            | f _ _ => cases ef
            | v w =>
              cases ef
              have hfx : FX S.length τ1 β1 S1 (.v v) p := hfx
              unfold FX at hfx ⊢
              split
              · rename_i ys hys
                cases hys
                intro a ea
                obtain ⟨h1, h2, us, h3, h4⟩ := hfx a ea
                have h5 := h2.cut τ.length
                rw [eb] at h5
                exact ⟨h1, h5, us, h3, h4.mo fun x c h n => ⟨h, fun z => n (z.imp (fun z => by rw [← eb] at z; exact alv_take z) id)⟩⟩
              · rename_i hys; cases hys
              · trivial
            | c k =>
              have hk : τ.length ≤ k := by
                have hfx : S.length ≤ S.length := Nat.le_refl _
                exact hf (hfr q)
              obtain ⟨a, ea, rfl⟩ := rx
              simp only [frz] at ef
              split at ef
              · rename_i ys hky
                cases ef
                have al : Alv τ1 β1 a := ⟨k, ys, ea, hky⟩
                obtain ⟨us, h3, h4⟩ := st_lt s1 hky ea
                have sub : ∀ y, Alv ((τ1.set k none).take τ.length) β y → Alv τ1 β1 y := fun y z => by
                  rw [← eb] at z
                  exact alv_none (k := k) (a := 0) (xs := []) (alv_take z)
                intro b eb2
                cases eb2
                refine ⟨g1.new k a hk ea, ⟨s3.len, fun j zs hj => ?_, s3.inj⟩, us, h3, h4.mo fun x c h n => ⟨h, fun z => n (.inl (z.elim (sub x) fun z => z ▸ al))⟩⟩
                obtain ⟨b, ws, f1, f2, f3⟩ := s3.cell j zs hj
                obtain ⟨hj1, hj2⟩ := take_get hj
                have hjk : j ≠ k := by omega
                rw [List.getElem?_set_ne (fun z => hjk z.symm)] at hj1
                obtain ⟨b', ws', f1', f2', f3'⟩ := s1.cell j zs hj1
                have : β1[j]? = some b := by
                  obtain ⟨t, rfl⟩ := g1.pre
                  rw [List.getElem?_append_left (get_lt' f1)]; exact f1
                rw [this] at f1'; cases f1'
                exact ⟨b, ws', f1, f2', f3'.mo fun x c h n => ⟨h, fun z => n (.inl (z.elim (sub x) fun z => z ▸ al))⟩⟩
              · cases ef
theorem env_app {xs : List QX} {ps : List PV} {n : Nat} (r : XRs (Alv τ β) β S xs ps) : (ps.map some ++ List.replicate n (none : Option PV)).length = (xs.map some ++ List.replicate n (none : Option QX)).length ∧ ∀ (i : Nat) (x : QX), (xs.map some ++ List.replicate n none)[i]? = some (some x) → ∃ p, (ps.map some ++ List.replicate n none)[i]? = some (some p) ∧ XR (Alv τ β) β S x p := by
  refine ⟨by simp [r.len], fun i x h => ?_⟩
  by_cases hi : i < xs.length
  · rw [List.getElem?_append_left (by simpa using hi), List.getElem?_map] at h
    rw [List.getElem?_append_left (by simpa [r.len] using hi), List.getElem?_map]
    cases q : xs[i]? with
    | none => rw [q] at h; cases h
    | some y =>
      rw [q] at h; cases h
      obtain ⟨p, e, rp⟩ := r.get q
      exact ⟨p, by rw [e]; rfl, rp⟩
  · rw [List.getElem?_append_right (by simpa using hi)] at h
    have := List.mem_of_getElem? h
    simp at this
theorem xrs_vals {A : Nat → Prop} {β : List Nat} {S : Store} : ∀ {vs ps : List PV}, VRs A S vs ps → XRs A β S (vs.map .v) ps
  | [], _, h => by unfold VRs at h; exact h
  | x :: xs, _, h => by
    unfold VRs at h
    obtain ⟨p, r, e, h1, h2⟩ := h
    exact ⟨p, r, e, h1, xrs_vals h2⟩
theorem body_sim [Tb] {fr : Bool} {f : FnI} {xs : List QX} {ps : List PV} (C : CSim G G') (hn : G.n0 = τ.length) (s : St noZ τ β S) (tb : TbOk τ β S) (r : XRs (Alv τ β) β S xs ps) :
    Rl τ β S (bodyQ G fr f xs τ) (callBody G' f ps S) fun v τ' β' p S' => τ'.length = τ.length ∧ VR (Alv τ' β') S' v p ∧ (fr = true → FX S.length τ' β' S' (.v v) p) := by
  unfold bodyQ callBody
  rw [r.len]
  split
  · obtain ⟨h1, h2⟩ := env_app (n := f.slots.length - xs.length) r
    exact fin_sim C hn s ⟨h1, h2, tb⟩
  · trivial
theorem bodyX_sim [Tb] {f : FnI} {xs : List QX} {ps caps pcs : List PV} (C : CSim G G') (hn : G.n0 = τ.length) (s : St noZ τ β S) (tb : TbOk τ β S) (rc : VRs (Alv τ β) S caps pcs) (r : XRs (Alv τ β) β S xs ps) :
    Rl τ β S (bodyQX G f caps xs τ) (callBodyX G' f pcs ps S) fun v τ' β' p S' => τ'.length = τ.length ∧ VR (Alv τ' β') S' v p := by
  unfold bodyQX callBodyX
  rw [r.len, rc.len]
  split
  · obtain ⟨h1, h2⟩ := env_app (n := f.slots.length - xs.length - caps.length) (xrs_app r (xrs_vals (β := β) rc))
    have e1 : xs.map some ++ (caps.map (fun v => some (QX.v v)) ++ List.replicate (f.slots.length - xs.length - caps.length) none) = (xs ++ caps.map QX.v).map some ++ List.replicate (f.slots.length - xs.length - caps.length) none := by simp [Function.comp_def]
    have e2 : ps.map some ++ (pcs.map some ++ List.replicate (f.slots.length - xs.length - caps.length) (none : Option PV)) = (ps ++ pcs).map some ++ List.replicate (f.slots.length - xs.length - caps.length) none := by simp
    rw [e1, e2]
    exact (fin_sim (fr := false) C hn s ⟨h1, h2, tb⟩).imp fun _ _ _ _ _ _ _ h => ⟨h.1, h.2.1⟩
  · trivial
end
/-! ### texts -/
mutual
/-- a constant of the text -/
def kon : PV → Bool
  | .non => true
  | .bl _ => true
  | .int _ => true
  | .str _ => true
  | .tup xs => kons xs
  | .dct _ xs => kons xs
  | _ => false
def kons : List PV → Bool
  | [] => true
  | x :: xs => kon x && kons xs
end
mutual
theorem kon_vr {A : Nat → Prop} {S : Store} : ∀ {v : PV}, kon v = true → VR A S v v
  | .non, _ => .ofNon
  | .bl _, _ => .ofBl
  | .int _, _ => .ofInt
  | .str _, _ => .ofStr
  | .tup xs, h => .ofTup (kons_vr (by simpa [kon] using h))
  | .dct ks xs, h => .ofDct (kons_vr (by simpa [kon] using h))
  | .ref _, h => by simp [kon] at h
  | .con _, h => by simp [kon] at h
  | .wt _, h => by simp [kon] at h
  | .clo _ _, h => by simp [kon] at h
  | .vl _, h => by simp [kon] at h
  | .obj _, h => by simp [kon] at h
theorem kons_vr {A : Nat → Prop} {S : Store} : ∀ {v : List PV}, kons v = true → VRs A S v v
  | [], _ => .nil
  | x :: xs, h => by
    simp only [kons, Bool.and_eq_true] at h
    exact .cons (kon_vr h.1) (kons_vr h.2)
end
structure UOk (U : QT) : Prop where
  glob : ∀ x v, U.T.glob x = some v → kon v = true
  dfl : ∀ p ∈ U.T.fns, kons p.2.dfl = true
theorem kons_drop : ∀ {l : List PV} (n : Nat), kons l = true → kons (l.drop n) = true
  | _, 0, h => h
  | [], _ + 1, h => h
  | x :: xs, n + 1, h => by
    simp only [kons, Bool.and_eq_true] at h
    exact kons_drop n h.2
/-- the tables of a text's defs within defs -/
abbrev tbU (U : QT) : Tb := ⟨U.T.clos.map (·.1)⟩
theorem call_sims {U : QT} (hU : UOk U) : ∀ r, @CallSim (tbU U) (callQ U r) (callF U.T r) U.fr ∧ @CloSim (tbU U) (cloQ U r) (fun x caps => callT U.T r (.clo x) caps) ∧ @MthSim (tbU U) (metK U r) (fun c m => callT U.T r (.mt c m) []) U.fr
  | 0 => ⟨fun _ _ _ _ _ _ _ _ _ => trivial, fun _ _ _ _ _ _ _ _ _ _ _ _ => trivial, fun _ _ _ _ _ _ _ _ _ _ => trivial⟩
  | r + 1 => by
    obtain ⟨i1, i2, i3⟩ := call_sims hU r
    letI := tbU U
    have C : ∀ n, @CSim (tbU U) (cQ U r n) (conf U.T r) := fun n => @CSim.mk (tbU U) _ _ rfl (fun x v e => ⟨v, e, fun A S => kon_vr (hU.glob x v e)⟩) i1 i2 i3 rfl rfl fun x h => by
      cases e : U.T.clos.lookup x with
      | none => rw [show (cQ U r n).tab x = (U.T.clos.lookup x).isSome from rfl, e] at h; cases h
      | some p => exact List.mem_map.mpr ⟨_, look_mem e, rfl⟩
    refine ⟨fun τ β S x xs ps s tb h => ?_, fun τ β S x caps pcs xs ps s tb hc h => ?_, fun τ β S c m xs ps s tb h => ?_⟩
    · cases e : U.T.fns.lookup x with
      | none =>
        have e1 : callQ U (r + 1) x xs τ = .bad := by simp only [callQ, callK, e]
        rw [e1]
        trivial
      | some f =>
        rw [callQ_fn e, show callF U.T (r + 1) x ps S = _ from callT_fn e]
        rw [show xs.length = ps.length from h.len.symm]
        exact body_sim (C _) rfl s tb (xrs_app h (xrs_vals (kons_vr (kons_drop _ (hU.dfl _ (look_mem e))))))
    · cases e : U.T.clos.lookup x with
      | none =>
        have e1 : cloQ U (r + 1) x caps xs τ = .bad := by simp only [cloQ, callK, e]
        rw [e1]
        trivial
      | some p =>
        obtain ⟨f, n⟩ := p
        simp only
        rw [cloQ_clo e, callT_clo e, hc.len]
        split
        · exact bodyX_sim (C _) rfl s tb hc h
        · trivial
    · cases e : U.T.mths.lookup (c, m) with
      | none =>
        have e1 : metK U (r + 1) c m xs τ = .bad := by simp only [metK, callK, e]
        rw [e1]
        trivial
      | some f =>
        simp only
        rw [metK_mt e, callT_mt e]
        exact body_sim (C _) rfl s tb h
/-- a law's run, from the run over values -/
theorem yes_of {U : QT} (hU : UOk U) {r : Nat} {x : Str} {ns : List Int} (h : ∃ τ, callQ U r x [.v (.con (ns.map .int))] [] = .ok (.bl true) τ) : lawYes U.T r x ns := by
  obtain ⟨τ, h⟩ := h
  have hc := (call_sims hU r).1 [] [] (tab0 U.T) x [.v (.con (ns.map .int))] [.con (ns.map .int)] ⟨rfl, fun k xs h => by simp at h, fun k k' xs ys a h => by simp at h⟩ (fun y hy => by
    obtain ⟨p, hp, rfl⟩ := List.mem_map.mp hy
    obtain ⟨i, hi⟩ := List.getElem?_of_mem hp
    refine ⟨i, by unfold tab0; rw [List.getElem?_map, hi]; rfl, fun ⟨k, xs, h1, _⟩ => by simp at h1⟩) ⟨_, [], rfl, by
    show VR _ _ _ _
    unfold VR
    exact ⟨_, rfl, vrs_ints fun x hx => by
      obtain ⟨i, _, rfl⟩ := List.mem_map.mp hx
      exact ⟨i, rfl⟩⟩, rfl⟩
  rw [h] at hc
  obtain ⟨p, S', β', e, _, _, _, rv, _⟩ := hc
  unfold VR at rv
  subst rv
  exact ⟨S', e⟩
end EK

namespace EK
open PySem PySem.Spec L2
/-! ### what runs over values come to -/
set_option checkBinderAnnotations false in
/-- what goes on after a value stands as an instance: simp leaves it alone -/
def Ho {α : Type} (o : Option α) [P : α → Prop] : Prop := match o with
  | some a => P a
  | none => False
abbrev XQ := Str → List PV → QSt → Prop
abbrev XX := Str → List PV → QEnv → QSt → Prop
set_option checkBinderAnnotations false in
def Wq {α : Type} (m : QR α) [Q : α → QSt → Prop] [E : XQ] : Prop := match m with
  | .ok a τ => Q a τ
  | .exc c fs τ => E c fs τ
  | .bad => False
set_option checkBinderAnnotations false in
def Wx (m : QS) [N : QEnv → QSt → Prop] [R : QX → Bool → QSt → Prop] [X : XX] : Prop := match m with
  | .nx env τ => N env τ
  | .ret x b τ => R x b τ
  | .exc c fs env τ => X c fs env τ
  | .bad => False
/-- no exception -/
def nQ : XQ := fun _ _ _ => False
def nX : XX := fun _ _ _ _ => False
/-- a name's value -/
def getS (env : QEnv) (i : Nat) : Option QX := match env[i]? with
  | some (some x) => some x
  | _ => none
def cellO (τ : QSt) (k : Nat) : Option (List PV) := match τ[k]? with
  | some (some xs) => some xs
  | _ => none
section
variable {α β γ : Type} {P : α → Prop}
theorem ho_some {a : α} : @Ho _ (some a) P = P a := rfl
theorem ho_none : @Ho _ none P = False := rfl
theorem ho_map {o : Option β} {f : β → α} : @Ho _ (o.map f) P = @Ho _ o fun b => P (f b) := by cases o <;> rfl
theorem ho_bind {o : Option β} {f : β → Option α} : @Ho _ (o.bind f) P = @Ho _ o fun b => @Ho _ (f b) P := by cases o <;> rfl
theorem ho_if {p : Prop} [Decidable p] {a : α} : @Ho _ (if p then some a else none) P = (p ∧ P a) := by
  by_cases h : p
  · rw [if_pos h]; simp [h, Ho]
  · rw [if_neg h]; simp [h, Ho]
theorem Ho.imp {o : Option α} {P' : α → Prop} (h : @Ho _ o P) (k : ∀ a, P a → P' a) : @Ho _ o P' := by
  cases o with
  | none => exact h
  | some a => exact k a h
theorem Ho.mk {o : Option α} {a : α} (e : o = some a) (h : P a) : @Ho _ o P := by rw [e]; exact h
theorem Ho.get {o : Option α} (h : @Ho _ o P) : ∃ a, o = some a ∧ P a := by
  cases o with
  | none => exact h.elim
  | some a => exact ⟨a, rfl, h⟩
end
section
variable {α β : Type} {Q Q' : α → QSt → Prop} {E E' : XQ} {N N' : QEnv → QSt → Prop} {R R' : QX → Bool → QSt → Prop} {X X' : XX} {G : QConf} {env : QEnv} {τ : QSt}
theorem wq_ok {a : α} : @Wq _ (.ok a τ) Q E = Q a τ := rfl
theorem wq_bad : @Wq _ (.bad : QR α) Q E = False := rfl
theorem wq_exc {c : Str} {fs : List PV} : @Wq _ (.exc c fs τ : QR α) Q E = E c fs τ := rfl
theorem wq_bind {m : QR α} {f : α → QSt → QR β} {Q : β → QSt → Prop} : @Wq _ (m.bind f) Q E = @Wq _ m (fun a τ => @Wq _ (f a τ) Q E) E := by cases m <;> rfl
theorem wq_if {p : Prop} [Decidable p] {m : QR α} : @Wq _ (if p then m else .bad) Q E = (p ∧ @Wq _ m Q E) := by
  by_cases h : p
  · rw [if_pos h]; simp [h]
  · rw [if_neg h]; simp [h, Wq]
theorem wq_okO {o : Option α} : @Wq _ (okO o τ) Q E = @Ho _ o fun a => Q a τ := by cases o <;> rfl
theorem wq_cut {m : QR α} {n : Nat} : @Wq _ (cutQ n m) Q E = @Wq _ m (fun a τ => Q a (τ.take n)) (fun c fs τ => E c fs (τ.take n)) := by cases m <;> rfl
theorem Wq.imp {m : QR α} (h : @Wq _ m Q E) (hq : ∀ a τ, Q a τ → Q' a τ) (he : ∀ c fs τ, E c fs τ → E' c fs τ) : @Wq _ m Q' E' := by
  cases m with
  | ok a τ => exact hq _ _ h
  | exc c fs τ => exact he _ _ _ h
  | bad => exact h
theorem Wq.of {m : QR α} (h : @Wq _ m Q nQ) (hq : ∀ a τ, Q a τ → Q' a τ) : @Wq _ m Q' E := h.imp hq fun _ _ _ z => z.elim
theorem Wq.get {m : QR α} (h : @Wq _ m Q nQ) : ∃ a τ, m = .ok a τ ∧ Q a τ := by
  cases m with
  | ok a τ => exact ⟨a, τ, rfl, h⟩
  | exc c fs τ => exact h.elim
  | bad => exact h.elim
theorem Wq.mk {m : QR α} {a : α} (e : m = .ok a τ) (h : Q a τ) : @Wq _ m Q E := by rw [e]; exact h
/-- one answer, nothing changed -/
theorem Wq.eq {m : QR α} {a : α} (h : @Wq _ m (fun b τ' => b = a ∧ τ' = τ) nQ) : m = .ok a τ := by
  obtain ⟨b, τ', e, rfl, rfl⟩ := h.get
  exact e
theorem Wx.imp {m : QS} (h : @Wx m N R X) (hn : ∀ e τ, N e τ → N' e τ) (hr : ∀ v b τ, R v b τ → R' v b τ) (hx : ∀ c fs e τ, X c fs e τ → X' c fs e τ) : @Wx m N' R' X' := by
  cases m with
  | nx e τ => exact hn _ _ h
  | ret v b τ => exact hr _ _ _ h
  | exc c fs e τ => exact hx _ _ _ _ h
  | bad => exact h
theorem wx_nx : @Wx (.nx env τ) N R X = N env τ := rfl
theorem wx_ret {v : QX} {b : Bool} : @Wx (.ret v b τ) N R X = R v b τ := rfl
theorem wx_exc {c : Str} {fs : List PV} : @Wx (.exc c fs env τ) N R X = X c fs env τ := rfl
theorem wx_thn {m : QS} {f : QEnv → QSt → QS} : @Wx (m.thn f) N R X = @Wx m (fun e τ => @Wx (f e τ) N R X) R X := by cases m <;> rfl
theorem wx_sbind {m : QR α} {f : α → QSt → QS} : @Wx (m.sbind env f) N R X = @Wq _ m (fun v τ => @Wx (f v τ) N R X) (fun c fs τ => X c fs env τ) := by cases m <;> rfl
/-! ### statements -/
theorem x_nil : @Wx (execQs G .nil env τ) N R X = N env τ := by simp only [execQs, wx_nx]
theorem x_cons {s : Sm} {ss : Sms} : @Wx (execQs G (.cons s ss) env τ) N R X = @Wx (execQ G s env τ) (fun e τ => @Wx (execQs G ss e τ) N R X) R X := by simp only [execQs, wx_thn]
theorem x_asg {i : Nat} {e : Ex} : @Wx (execQ G (.asg (.nm i) e) env τ) N R X = @Wq _ (evalQ G e env τ) (fun x τ1 => @Wq _ (frz x τ1) (fun v τ2 => N (env.set i (some (.v v))) τ2) (fun c fs τ => X c fs env τ)) (fun c fs τ => X c fs env τ) := by simp only [execQ, wx_sbind, storeQ, wx_nx]
def tupX (x : QX) : Option PV := match x with
  | .v v => some v
  | _ => none
theorem tupX_v {v : PV} {P : PV → Prop} : @Ho _ (tupX (.v v)) P = P v := rfl
theorem x_asgT {is : List Nat} {e : Ex} : @Wx (execQ G (.asg (.tp is) e) env τ) N R X = @Wq _ (evalQ G e env τ) (fun x τ1 => @Ho _ (tupX x) fun v => @Ho _ (asgQ (.tp is) v env) fun e1 => N e1 τ1) (fun c fs τ => X c fs env τ) := by
  simp only [execQ, wx_sbind]
  congr 1
  funext x τ1
  cases x with
  | c k => simp only [tupX, ho_none]; rfl
  | f _ _ => simp only [tupX, ho_none]; rfl
  | v v =>
    simp only [tupX, ho_some]
    cases asgQ (.tp is) v env <;> rfl
theorem x_asgC {i : Nat} {e : Ex} : @Wx (execQ G (.asgC i e) env τ) N R X = @Wq _ (evalQ G e env τ) (fun x τ1 => @Wx (newQ i (frE G.fr e) x env τ1) N R X) (fun c fs τ => X c fs env τ) := by simp only [execQ, wx_sbind]
theorem newQ_vl {i : Nat} {xs : List PV} : @Wx (newQ i true (.v (.vl xs)) env τ) N R X = N (env.set i (some (.c τ.length))) (τ ++ [some xs]) := rfl
theorem x_exp {e : Ex} : @Wx (execQ G (.exp e) env τ) N R X = @Wq _ (evalQ G e env τ) (fun _ τ1 => N env τ1) (fun c fs τ => X c fs env τ) := by simp only [execQ, wx_sbind, wx_nx]
def cGe (n0 : Nat) (x : QX) : Bool := match x with
  | .c k => decide (n0 ≤ k)
  | _ => false
theorem cGe_v {n0 : Nat} {v : PV} : cGe n0 (.v v) = false := rfl
theorem cGe_c {n0 k : Nat} : cGe n0 (.c k) = decide (n0 ≤ k) := rfl
theorem x_ret {e : Ex} : @Wx (execQ G (.ret e) env τ) N R X = @Wq _ (evalQ G e env τ) (fun x τ1 => R x (frE G.fr e || cGe G.n0 x) τ1) (fun c fs τ => X c fs env τ) := by
  simp only [execQ, wx_sbind, wx_ret]
  rfl
theorem wq_truB {m : QR QX} {Q : Bool → QSt → Prop} : @Wq _ (truBQ m) Q E = @Wq _ m (fun x τ => @Ho _ (truR x τ) fun t => Q t τ) E := by
  unfold truBQ
  rw [wq_bind]
  congr 1
  funext x τ
  exact wq_okO
theorem x_ifs {c : Ex} {a b : Sms} : @Wx (execQ G (.ifs c a b) env τ) N R X = @Wq _ (evalQ G c env τ) (fun x τ1 => @Ho _ (truR x τ1) fun t => @Wx (execQs G (if t = true then a else b) env τ1) N R X) (fun c fs τ => X c fs env τ) := by
  have e : @Wq _ (evalQ G c env τ) (fun x τ1 => @Ho _ (truR x τ1) fun t => @Wx (execQs G (if t = true then a else b) env τ1) N R X) (fun c fs τ => X c fs env τ) = @Wq _ (truBQ (evalQ G c env τ)) (fun t τ1 => @Wx (execQs G (if t = true then a else b) env τ1) N R X) (fun c fs τ => X c fs env τ) := wq_truB.symm
  rw [e]
  simp only [execQ]
  cases truBQ (evalQ G c env τ) with
  | ok t τ1 => cases t <;> rfl
  | exc _ _ _ => rfl
  | bad => rfl
theorem x_pass : @Wx (execQ G .pass env τ) N R X = N env τ := by simp only [execQ, wx_nx]
theorem x_raise {c : Str} : @Wx (execQ G (.raise c) env τ) N R X = X c [] env τ := by simp only [execQ, wx_exc]
theorem x_asgIx {o i e : Ex} : @Wx (execQ G (.asgIx o i e) env τ) N R X = @Wq _ (evalQ G e env τ) (fun x τ1 => @Wq _ (evalQ G o env τ1) (fun y τ2 => @Wq _ (evalQ G i env τ2) (fun z τ3 => @Wq _ (frz x τ3) (fun v τ4 => ∃ k i xs j, y = .c k ∧ z = .v (.int i) ∧ cellO τ4 k = some xs ∧ ixN xs.length i = some j ∧ N env (τ4.set k (some (xs.set j v)))) (fun c fs τ => X c fs env τ)) (fun c fs τ => X c fs env τ)) (fun c fs τ => X c fs env τ)) (fun c fs τ => X c fs env τ) := by
  simp only [execQ, wx_sbind]
  congr 1; funext x τ1
  congr 1; funext y τ2
  congr 1; funext z τ3
  congr 1; funext v τ4
  apply propext
  constructor
  · intro h
    split at h
    · rename_i k i
      split at h
      · rename_i xs hk
        split at h
        · rename_i j hj
          exact ⟨k, i, xs, j, rfl, rfl, by unfold cellO; rw [hk], hj, h⟩
        · exact h.elim
      · exact h.elim
    · exact h.elim
  · rintro ⟨k, i, xs, j, rfl, rfl, hk, hj, h⟩
    unfold cellO at hk
    split at hk
    · rename_i ys hk2
      cases hk
      simp only [hk2, hj]
      exact h
    · cases hk
/-- a for: I by what was walked -/
theorem wx_for {t : Tgt} {k : IK} {src : Exs} {body : Sms} (h : @Wq _ (evalQs G src env τ) (fun xs τ1 => ∃ items, itmQ k xs τ1 = some items ∧ ∃ I : List PV → QEnv → QSt → Prop, I [] env τ1 ∧ (∀ e τ2, I items e τ2 → N e τ2) ∧
      (∀ pre e τ2, I pre e τ2 → itmQ k xs τ2 = some items) ∧
      ∀ pre x suf e τ2, items = pre ++ x :: suf → I pre e τ2 → @Ho _ (asgQ t x e) fun e1 => @Wx (execQs G body e1 τ2) (I (pre ++ [x])) R X) (fun c fs τ => X c fs env τ)) :
    @Wx (execQ G (.for t k src body) env τ) N R X := by
  simp only [execQ]
  cases e0 : evalQs G src env τ with
  | exc c fs τ1 => rw [e0] at h; exact h
  | bad => rw [e0] at h; exact h
  | ok xs τ1 =>
    rw [e0] at h
    obtain ⟨items, hi, I, h0, he, hs, hb⟩ := h
    simp only [hi]
    have step : ∀ (i : Nat) (pre : List PV) (e : QEnv) (τ2 : QSt), I pre e τ2 → stepQ k xs items.length i τ2 = stp items i := fun i pre e τ2 q => by
      unfold stepQ
      rw [hs pre e τ2 q]
      cases k <;> first | rfl | exact if_pos rfl
    have go : ∀ (f i : Nat) (e : QEnv) (τ2 : QSt), i + f = items.length + 1 → i ≤ items.length → I (items.take i) e τ2 → @Wx (forQ (stepQ k xs items.length) (asgQ t) (execQs G body) f i e τ2) N R X := by
      intro f
      induction f with
      | zero => intro i e τ2 h1 h2 _; omega
      | succ f ih =>
        intro i e τ2 h1 h2 hI
        simp only [forQ, step i _ e τ2 hI]
        by_cases hin : i = items.length
        · subst hin
          unfold stp
          rw [List.getElem?_eq_none (Nat.le_refl _)]
          rw [List.take_length] at hI
          exact he e τ2 hI
        · have hlt : i < items.length := by omega
          have e2 : items[i]? = some items[i] := List.getElem?_eq_getElem hlt
          have dec : items = items.take i ++ items[i] :: items.drop (i + 1) := by
            conv => lhs; rw [← List.take_append_drop i items, List.drop_eq_getElem_cons hlt]
          have q := hb _ _ _ e τ2 dec hI
          unfold stp
          rw [e2]
          simp only
          obtain ⟨e1, ea, q⟩ := q.get
          rw [ea]
          simp only
          have ht : items.take (i + 1) = items.take i ++ [items[i]] := by rw [List.take_succ, e2]; rfl
          cases eb : execQs G body e1 τ2 with
          | nx e5 τ5 => rw [eb] at q; exact ih (i + 1) e5 τ5 (by omega) (by omega) (by rw [ht]; exact q)
          | ret v5 b τ5 => rw [eb] at q; exact q
          | exc c fs e5 τ5 => rw [eb] at q; exact q
          | bad => rw [eb] at q; exact q.elim
    exact go (items.length + 1) 0 env τ1 (by omega) (Nat.zero_le _) (by simpa using h0)
/-- the same, what is walked told apart -/
theorem wx_forS {t : Tgt} {k : IK} {src : Exs} {body : Sms} {xs : List QX} {items : List PV} {τ1 : QSt} (I : List PV → QEnv → QSt → Prop) (hsrc : @Wq _ (evalQs G src env τ) (fun ys τ' => ys = xs ∧ τ' = τ1 ∧ itmQ k xs τ1 = some items) nQ) (h0 : I [] env τ1)
    (he : ∀ e τ2, I items e τ2 → N e τ2) (hs : ∀ pre e τ2, I pre e τ2 → itmQ k xs τ2 = some items) (hb : ∀ pre x suf e τ2, items = pre ++ x :: suf → I pre e τ2 → @Ho _ (asgQ t x e) fun e1 => @Wx (execQs G body e1 τ2) (I (pre ++ [x])) R X) :
    @Wx (execQ G (.for t k src body) env τ) N R X := by
  refine wx_for (hsrc.of ?_)
  rintro ys τ' ⟨rfl, rfl, hi⟩
  exact ⟨items, hi, I, h0, he, hs, hb⟩
/-- a while: I by a measure -/
theorem wx_while {c : Ex} {body : Sms} (n : Nat) (hn : n < whileMost) (I : Nat → QEnv → QSt → Prop) (h0 : I n env τ)
    (h : ∀ m e τ, I m e τ → @Wq _ (evalQ G c e τ) (fun x τ1 => @Ho _ (truR x τ1) fun t => if t = true then 0 < m ∧ @Wx (execQs G body e τ1) (I (m - 1)) R X else N e τ1) (fun c fs τ => X c fs e τ)) :
    @Wx (execQ G (.while c body) env τ) N R X := by
  simp only [execQ]
  have go : ∀ (f m : Nat) (e : QEnv) (τ : QSt), m < f → I m e τ → @Wx (whileQ (fun env τ => truBQ (evalQ G c env τ)) (execQs G body) f e τ) N R X := by
    intro f
    induction f with
    | zero => intro m e τ h1; omega
    | succ f ih =>
      intro m e τ h1 hI
      have q := h m e τ hI
      simp only [whileQ]
      have q' : @Wq _ (truBQ (evalQ G c e τ)) (fun t τ1 => if t = true then 0 < m ∧ @Wx (execQs G body e τ1) (I (m - 1)) R X else N e τ1) (fun c fs τ => X c fs e τ) := by rw [wq_truB]; exact q
      cases et : truBQ (evalQ G c e τ) with
      | bad => rw [et] at q'; exact q'.elim
      | exc c fs τ1 => rw [et] at q'; exact q'
      | ok t τ1 =>
        rw [et] at q'
        cases t with
        | false => exact q'
        | true =>
          obtain ⟨hm, q'⟩ : 0 < m ∧ @Wx (execQs G body e τ1) (I (m - 1)) R X := q'
          simp only
          cases eb : execQs G body e τ1 with
          | nx e5 τ5 => rw [eb] at q'; exact ih (m - 1) e5 τ5 (by omega) q'
          | ret v5 b τ5 => rw [eb] at q'; exact q'
          | exc c fs e5 τ5 => rw [eb] at q'; exact q'
          | bad => rw [eb] at q'; exact q'.elim
  exact go whileMost n env τ hn h0
/-! ### expressions -/
variable {Q : QX → QSt → Prop}
/-- no def -/
def nfX (x : QX) : Bool := match x with
  | .f _ _ => false
  | _ => true
theorem nf_v {v : PV} : nfX (.v v) = true := rfl
theorem nf_c {k : Nat} : nfX (.c k) = true := rfl
theorem q_slot {i : Nat} : @Wq _ (evalQ G (.slot i) env τ) Q E = @Ho _ (getS env i) fun x => nfX x = true ∧ Q x τ := by
  simp only [evalQ, getS]
  cases env[i]? with
  | none => rfl
  | some o =>
    cases o with
    | none => rfl
    | some x => cases x <;> simp [Ho, nfX, Wq]
theorem q_cst {v : PV} : @Wq _ (evalQ G (.cst v) env τ) Q E = (cstOk v = true ∧ Q (.v v) τ) := by simp only [evalQ, wq_if, wq_ok]
theorem c_non : cstOk .non = true := rfl
theorem c_bl {b : Bool} : cstOk (.bl b) = true := rfl
theorem c_int {b : Int} : cstOk (.int b) = true := rfl
theorem c_str {b : Str} : cstOk (.str b) = true := rfl
theorem q_glo {x : Str} : @Wq _ (evalQ G (.glo x) env τ) Q E = @Ho _ (G.glob x) fun v => Q (.v v) τ := by
  simp only [evalQ]
  cases G.glob x <;> rfl
theorem q_nil {Q : List QX → QSt → Prop} : @Wq _ (evalQs G .nil env τ) Q E = Q [] τ := by simp only [evalQs, wq_ok]
theorem q_cons {Q : List QX → QSt → Prop} {e : Ex} {es : Exs} : @Wq _ (evalQs G (.cons e es) env τ) Q E = @Wq _ (evalQ G e env τ) (fun v τ1 => @Wq _ (evalQs G es env τ1) (fun vs τ2 => Q (v :: vs) τ2) E) E := by simp only [evalQs, wq_bind, wq_ok]
theorem q_anil {Q : List QX → QSt → Prop} : @Wq _ (evalA G .nil env τ) Q E = Q [] τ := by simp only [evalA, wq_ok]
theorem q_acons {Q : List QX → QSt → Prop} {e : Ex} {es : Exs} : @Wq _ (evalA G (.cons e es) env τ) Q E = @Wq _ (evalQ G e env τ) (fun x τ1 => @Wq _ (evalA G es env (cellA (isCel G.fr e) x τ1).2) (fun vs τ2 => Q ((cellA (isCel G.fr e) x τ1).1 :: vs) τ2) E) E := by simp only [evalA, wq_bind, wq_ok]
theorem cellA_f {x : QX} : cellA false x τ = (x, τ) := by cases x <;> rfl
theorem cellA_v {ys : List PV} : cellA true (.v (.vl ys)) τ = (.c τ.length, τ ++ [some ys]) := rfl
theorem frz_v {x : PV} {Q : PV → QSt → Prop} : @Wq _ (frz (.v x) τ) Q E = Q x τ := rfl
theorem frz_c {k : Nat} {Q : PV → QSt → Prop} : @Wq _ (frz (.c k) τ) Q E = @Ho _ (cellO τ k) fun xs => Q (.vl xs) (τ.set k none) := by
  simp only [frz, cellO]
  cases τ[k]? with
  | none => rfl
  | some o => cases o <;> rfl
theorem frzs_n {Q : List PV → QSt → Prop} : @Wq _ (frzs [] τ) Q E = Q [] τ := rfl
theorem frzs_c {x : QX} {xs : List QX} {Q : List PV → QSt → Prop} : @Wq _ (frzs (x :: xs) τ) Q E = @Wq _ (frz x τ) (fun v τ1 => @Wq _ (frzs xs τ1) (fun vs τ2 => Q (v :: vs) τ2) E) E := by simp only [frzs, wq_bind, wq_ok]
theorem q_tup {es : Exs} : @Wq _ (evalQ G (.tup es) env τ) Q E = @Wq _ (evalQs G es env τ) (fun xs τ1 => @Wq _ (frzs xs τ1) (fun vs τ2 => vs.length ≤ sizeLine ∧ Q (.v (.tup vs)) τ2) E) E := by simp only [evalQ, wq_bind, wq_if, wq_ok]
theorem q_lst {es : Exs} : @Wq _ (evalQ G (.lst es) env τ) Q E = @Wq _ (evalQs G es env τ) (fun xs τ1 => @Wq _ (frzs xs τ1) (fun vs τ2 => vs.length ≤ sizeLine ∧ Q (.v (.vl vs)) τ2) E) E := by simp only [evalQ, wq_bind, wq_if, wq_ok]
theorem q_dsp {ks : List Str} {es : Exs} : @Wq _ (evalQ G (.dsp ks es) env τ) Q E = @Wq _ (evalQs G es env τ) (fun xs τ1 => @Wq _ (frzs xs τ1) (fun vs τ2 => vs.length = ks.length ∧ Q (.v (.dct ks vs)) τ2) E) E := by simp only [evalQ, wq_bind, wq_if, wq_ok]
theorem q_bin {op : BOp} {a b : Ex} : @Wq _ (evalQ G (.bin op a b) env τ) Q E = @Wq _ (evalQ G a env τ) (fun x τ1 => @Wq _ (evalQ G b env τ1) (fun y τ2 => @Ho _ (vw τ2 x) fun p => @Ho _ (vw τ2 y) fun q => @Ho _ (binQ op p q) fun v => Q (.v v) τ2) E) E := by simp only [evalQ, wq_bind, wq_okO, ho_bind, ho_map]
theorem q_cmp {op : COp} {a b : Ex} : @Wq _ (evalQ G (.cmp op a b) env τ) Q E = @Wq _ (evalQ G a env τ) (fun x τ1 => @Wq _ (evalQ G b env τ1) (fun y τ2 => @Ho _ (vw τ2 x) fun p => @Ho _ (vw τ2 y) fun q => @Ho _ (cmpQ op p q) fun v => Q (.v v) τ2) E) E := by simp only [evalQ, wq_bind, wq_okO, ho_bind, ho_map]
theorem q_ix {a b : Ex} : @Wq _ (evalQ G (.ix a b) env τ) Q E = @Wq _ (evalQ G a env τ) (fun x τ1 => @Wq _ (evalQ G b env τ1) (fun y τ2 => @Ho _ (vw τ2 x) fun p => @Ho _ (vw τ2 y) fun q => @Ho _ (ixQ p q) fun v => Q (.v v) τ2) E) E := by simp only [evalQ, wq_bind, wq_okO, ho_bind, ho_map]
def intX (x : QX) : Option Int := match x with
  | .v (.int i) => some i
  | _ => none
theorem intX_i {i : Int} {P : Int → Prop} : @Ho _ (intX (.v (.int i))) P = P i := rfl
theorem q_neg {a : Ex} : @Wq _ (evalQ G (.neg a) env τ) Q E = @Wq _ (evalQ G a env τ) (fun x τ1 => @Ho _ (intX x) fun i => Q (.v (.int (-i))) τ1) E := by
  simp only [evalQ, wq_bind]
  congr 1; funext x τ1
  cases x with
  | c k => rfl
  | f _ _ => rfl
  | v x => cases x <;> rfl
theorem q_not {a : Ex} : @Wq _ (evalQ G (.not a) env τ) Q E = @Wq _ (evalQ G a env τ) (fun x τ1 => @Ho _ (truR x τ1) fun t => Q (.v (.bl (!t))) τ1) E := by simp only [evalQ, wq_bind, wq_truB, wq_ok]
theorem q_chn {a b c : Ex} : @Wq _ (evalQ G (.chn a b c) env τ) Q E = @Wq _ (evalQ G a env τ) (fun x τ1 => @Wq _ (evalQ G b env τ1) (fun y τ2 => @Ho _ (intX x) fun i => @Ho _ (intX y) fun j => @Wq _ (if i < j then (evalQ G c env τ2).bind fun z τ3 => okO ((intX z).map fun k => .v (.bl (decide (j < k)))) τ3 else .ok (.v (.bl false)) τ2) Q E) E) E := by
  simp only [evalQ, wq_bind]
  congr 1; funext x τ1
  congr 1; funext y τ2
  cases x with
  | c k => rfl
  | f _ _ => rfl
  | v x =>
    cases x <;> try rfl
    cases y with
    | c k => rfl
    | f _ _ => rfl
    | v y =>
      cases y <;> try rfl
      simp only [intX, ho_some]
      split
      · rw [wq_bind, wq_bind]
        congr 1; funext z τ3
        cases z with
        | c k => rfl
        | f _ _ => rfl
        | v z => cases z <;> rfl
      · rfl
theorem q_bnd {m : QR α} {f : α → QSt → QR QX} : @Wq _ (m.bind f) Q E = @Wq _ m (fun a τ => @Wq _ (f a τ) Q E) E := wq_bind
theorem q_okO {o : Option QX} : @Wq _ (okO o τ) Q E = @Ho _ o fun a => Q a τ := wq_okO
theorem q_and {a b : Ex} : @Wq _ (evalQ G (.and a b) env τ) Q E = @Wq _ (evalQ G a env τ) (fun x τ1 => @Ho _ (truR x τ1) fun t => @Wq _ (if t = true then evalQ G b env τ1 else .ok x τ1) Q E) E := by
  simp only [evalQ, wq_bind]
  congr 1; funext x τ1
  cases truR x τ1 with
  | none => rfl
  | some t => cases t <;> rfl
theorem q_or {a b : Ex} : @Wq _ (evalQ G (.or a b) env τ) Q E = @Wq _ (evalQ G a env τ) (fun x τ1 => @Ho _ (truR x τ1) fun t => @Wq _ (if t = true then .ok x τ1 else evalQ G b env τ1) Q E) E := by
  simp only [evalQ, wq_bind]
  congr 1; funext x τ1
  cases truR x τ1 with
  | none => rfl
  | some t => cases t <;> rfl
theorem q_ite {c a b : Ex} : @Wq _ (evalQ G (.ite c a b) env τ) Q E = @Wq _ (evalQ G c env τ) (fun x τ1 => @Ho _ (truR x τ1) fun t => @Wq _ (if t = true then evalQ G a env τ1 else evalQ G b env τ1) Q E) E := by
  simp only [evalQ, wq_bind, wq_truB]
theorem q_isN {a : Ex} : @Wq _ (evalQ G (.isN a) env τ) Q E = @Wq _ (evalQ G a env τ) (fun x τ1 => Q (.v (.bl (nonX x))) τ1) E := by simp only [evalQ, wq_bind, wq_ok]
theorem q_notN {a : Ex} : @Wq _ (evalQ G (.notN a) env τ) Q E = @Wq _ (evalQ G a env τ) (fun x τ1 => Q (.v (.bl (!nonX x))) τ1) E := by simp only [evalQ, wq_bind, wq_ok]
theorem q_part {es : Exs} {Q : Option Int → QSt → Prop} : @Wq _ (partQ (evalQs G es env τ)) Q E = @Wq _ (evalQs G es env τ) (fun xs τ1 => @Ho _ (vws τ1 xs) fun ps => @Ho _ (partM ps) fun o => Q o τ1) E := by simp only [partQ, wq_bind, wq_okO, ho_bind]
theorem q_sl {a : Ex} {lo hi : Exs} : @Wq _ (evalQ G (.sl a lo hi) env τ) Q E = @Wq _ (evalQ G a env τ) (fun x τ1 => @Wq _ (partQ (evalQs G lo env τ1)) (fun l τ2 => @Wq _ (partQ (evalQs G hi env τ2)) (fun h τ3 => @Ho _ (vw τ3 x) fun p => @Ho _ (slQ p l h) fun v => Q (.v v) τ3) E) E) E := by simp only [evalQ, wq_bind, wq_okO, ho_bind, ho_map]
theorem q_prim {p : Prim} {es : Exs} : @Wq _ (evalQ G (.prim p es) env τ) Q E = @Wq _ (evalQs G es env τ) (fun xs τ1 => @Ho _ (vws τ1 xs) fun ps => @Ho _ (primQ p ps) fun v => Q (.v v) τ1) E := by simp only [evalQ, wq_bind, wq_okO, ho_bind, ho_map]
theorem q_lrg {es : Exs} : @Wq _ (evalQ G (.lrg es) env τ) Q E = @Wq _ (evalQs G es env τ) (fun xs τ1 => @Ho _ (vws τ1 xs) fun ps => @Ho _ (lrgQ ps) fun v => Q (.v v) τ1) E := by simp only [evalQ, wq_bind, wq_okO, ho_bind, ho_map]
theorem q_meth {m : Mth} {o : Ex} {es : Exs} : @Wq _ (evalQ G (.meth m o es) env τ) Q E = @Wq _ (evalQ G o env τ) (fun x τ1 => (metQ m x && (vw τ1 x).isSome) = true ∧ @Wq _ (evalQs G es env τ1) (fun xs τ2 => if isCh m = true then @Wq _ (chQ m x xs τ2) Q E else @Ho _ (vw τ2 x) fun p => @Ho _ (vws τ2 xs) fun ps => @Ho _ (mthQ m p ps) fun v => Q (.v v) τ2) E) E := by
  simp only [evalQ, wq_bind]
  congr 1; funext x τ1
  cases (metQ m x && (vw τ1 x).isSome) with
  | false => simp only [Bool.not_false, if_true, wq_bad, Bool.false_eq_true, false_and]
  | true =>
    simp only [Bool.not_true, Bool.false_eq_true, if_false, true_and, wq_bind]
    congr 1; funext xs τ2
    cases isCh m with
    | true => rfl
    | false => simp only [Bool.false_eq_true, if_false, wq_okO, ho_bind, ho_map]
theorem q_ch {m : Mth} {k : Nat} {vs : List QX} : @Wq _ (chQ m (.c k) vs τ) Q E = @Wq _ (frzs vs τ) (fun ps τ1 => @Ho _ (cellO τ1 k) fun xs => @Ho _ (cellQ m xs ps) fun r => Q (.v r.2) (τ1.set k (some r.1))) E := by
  simp only [chQ, wq_bind]
  congr 1; funext ps τ1
  simp only [cellO]
  cases τ1[k]? with
  | none => rfl
  | some o =>
    cases o with
    | none => rfl
    | some xs =>
      simp only [ho_some]
      cases cellQ m xs ps with
      | none => rfl
      | some r => rfl
theorem q_isT {t : TN} {a : Ex} : @Wq _ (evalQ G (.isT t a) env τ) Q E = @Wq _ (evalQ G a env τ) (fun x τ1 => @Ho _ (vw τ1 x) fun p => @Ho _ (tyQ p) fun s => Q (.v (.bl (kitS t s))) τ1) E := by simp only [evalQ, wq_bind, wq_okO, ho_bind, ho_map]
theorem q_cel {a : Ex} : @Wq _ (evalQ G (.cel a) env τ) Q E = @Wq _ (evalQ G a env τ) Q E := by simp only [evalQ]
theorem q_c0 {Q : Bool → QSt → Prop} : @Wq _ (evalCQ G .nil env τ) Q E = Q true τ := by simp only [evalCQ, wq_ok]
theorem q_c1 {e : Ex} {Q : Bool → QSt → Prop} : @Wq _ (evalCQ G (.cons e .nil) env τ) Q E = @Wq _ (evalQ G e env τ) (fun x τ1 => @Ho _ (truR x τ1) fun t => Q t τ1) E := by simp only [evalCQ, wq_truB]
theorem q_call {U : QT} {r n0 : Nat} {f : Str} {es : Exs} : @Wq _ (evalQ (cQ U (r + 1) n0) (.call f es) env τ) Q E = @Wq _ (evalA (cQ U (r + 1) n0) es env τ) (fun xs τ1 => @Wq _ (callQ U (r + 1) f xs τ1) (fun v τ2 => Q (.v v) (τ2.take τ.length)) (fun c fs τ' => E c fs (τ'.take τ.length))) (fun c fs τ' => E c fs (τ'.take τ.length)) := by
  simp only [evalQ]
  rw [if_pos (show (r + 1 != 0) = true from rfl), wq_cut]
  simp only [wq_bind, wq_ok]
theorem wq_calm {α : Type} {m : QR α} {Q : α → QSt → Prop} : @Wq _ (calmQ m) Q E = @Wq _ m Q nQ := by cases m <;> rfl
theorem q_isTru {a : Ex} : @Wq _ (evalQ G (.isTru a) env τ) Q E = @Wq _ (evalQ G a env τ) (fun x τ1 => @Ho _ (blX x) fun b => Q (.v (.bl b)) τ1) E := by simp only [evalQ, wq_bind, wq_okO, ho_map]
theorem q_revL {a : Ex} : @Wq _ (evalQ G (.revL a) env τ) Q E = @Wq _ (evalQ G a env τ) (fun x τ1 => @Ho _ (vw τ1 x) fun p => @Ho _ (lstQ p) fun xs => Q (.v (.vl xs.reverse)) τ1) E := by simp only [evalQ, wq_bind, wq_okO, ho_bind, ho_map]
theorem q_enGet {a b : Ex} : @Wq _ (evalQ G (.enGet a b) env τ) Q E = @Wq _ (evalQ G a env τ) (fun x τ1 => @Wq _ (evalQ G b env τ1) (fun y τ2 => @Ho _ (enGetQ x y) fun w => Q (.v w) τ2) E) E := by simp only [evalQ, wq_bind, wq_okO, ho_map]
theorem q_new {c : Str} : @Wq _ (evalQ G (.new c) env τ) Q E = (G.mks c = true ∧ Q (.v (.obj c)) τ) := by simp only [evalQ, wq_if, wq_ok]
theorem q_mcall {U : QT} {r n0 : Nat} {m : Str} {o : Ex} {es : Exs} : @Wq _ (evalQ (cQ U (r + 1) n0) (.mcall m o es) env τ) Q E = @Wq _ (evalQ (cQ U (r + 1) n0) o env τ) (fun x τ1 => @Ho _ (objX x) fun c => (U.T.mths.lookup (c, m)).isSome = true ∧ @Wq _ (evalA (cQ U (r + 1) n0) es env τ1) (fun xs τ2 => @Wq _ (metK U (r + 1) c m (.v (.obj c) :: xs) τ2) (fun v τ3 => Q (.v v) (τ3.take τ.length)) nQ) (fun c fs τ' => E c fs (τ'.take τ.length))) nQ := by
  simp only [evalQ]
  rw [if_pos (show (r + 1 != 0) = true from rfl), wq_cut, wq_bind, wq_calm]
  congr 1
  funext x τ1
  cases objX x with
  | none => rfl
  | some c =>
    simp only [ho_some, wq_if, wq_bind, wq_calm, wq_ok]
theorem q_callc {U : QT} {r n0 i : Nat} {f : Str} {es : Exs} : @Wq _ (evalQ (cQ U (r + 1) n0) (.callc f es i) env τ) Q E = @Ho _ (cloX env i) fun p => @Wq _ (evalA (cQ U (r + 1) n0) es env τ) (fun xs τ1 => @Wq _ (callQ U (r + 1) f (xs ++ [.f p.1 p.2]) τ1) (fun v τ2 => Q (.v v) (τ2.take τ.length)) (fun c fs τ' => E c fs (τ'.take τ.length))) (fun c fs τ' => E c fs (τ'.take τ.length)) := by
  simp only [evalQ]
  rw [if_pos (show (r + 1 != 0) = true from rfl)]
  cases cloX env i with
  | none => rfl
  | some p => simp only [ho_some, wq_cut, wq_bind, wq_ok]
theorem q_callv {U : QT} {r n0 i : Nat} {es : Exs} : @Wq _ (evalQ (cQ U (r + 1) n0) (.callv i es) env τ) Q E = @Ho _ (cloX env i) fun p => @Wq _ (evalA (cQ U (r + 1) n0) es env τ) (fun xs τ1 => @Wq _ (cloQ U (r + 1) p.1 p.2 xs τ1) (fun v τ2 => Q (.v v) (τ2.take τ.length)) nQ) (fun c fs τ' => E c fs (τ'.take τ.length)) := by
  simp only [evalQ]
  rw [if_pos (show (r + 1 != 0) = true from rfl)]
  cases cloX env i with
  | none => rfl
  | some p => simp only [ho_some, wq_cut, wq_bind, wq_calm, wq_ok]
theorem x_nev : @Wx (execQ G .nev env τ) N R X = False := by simp only [execQ]; rfl
theorem x_tryN {body : Sms} {c : Str} {i : Nat} : @Wx (execQ G (.tryN body c i) env τ) N R X = @Wx (execQs G body env τ) N R (fun c' fs env' τ' => (c' = c ∧ fs = []) ∧ N (env'.set i (some (.v .non))) τ') := by
  simp only [execQ]
  cases execQs G body env τ with
  | exc c' fs e τ' =>
    simp only [wx_exc]
    by_cases h : c' = c ∧ fs = []
    · rw [if_pos h, wx_nx]; simp [h]
    · rw [if_neg h]; simp only [h, false_and]; rfl
  | _ => rfl
theorem x_cloRet {U : QT} {r n0 i : Nat} {x g : Str} {es : Exs} {js : List Nat} : @Wx (execQ (cQ U (r + 1) n0) (.cloRet x g es js i) env τ) N R X = ((U.T.clos.lookup x).isSome = true ∧ @Ho _ (capsQ (env.set i none) js) fun caps => @Wq _ (evalA (cQ U (r + 1) n0) es (env.set i none) τ) (fun xs τ1 => @Wq _ (callQ U (r + 1) g (xs ++ [.f x caps]) τ1) (fun v τ2 => R (.v v) (U.fr g) τ2) nQ) (fun c fs τ => X c fs (env.set i none) τ)) := by
  simp only [execQ]
  have e : ((r + 1 != 0) && (U.T.clos.lookup x).isSome) = (U.T.clos.lookup x).isSome := rfl
  rw [e]
  by_cases h : (U.T.clos.lookup x).isSome = true
  · rw [if_pos h]
    simp only [h, true_and]
    cases capsQ (env.set i none) js with
    | none => rfl
    | some caps => simp only [ho_some, wx_sbind, wq_bind, wq_calm, wx_ret]
  · rw [if_neg h]
    simp only [h, Bool.false_eq_true, false_and]
    rfl
/-- a comprehension: I by what was walked, with the list so far -/
theorem wq_comp {own : List Nat} {tg : Tgt} {k : IK} {src cond : Exs} {elt : Ex} (h : @Wq _ (evalQs G src env τ) (fun xs τ1 => ∃ items, itmQ k xs τ1 = some items ∧ items.length ≤ sizeLine ∧ ∃ I : List PV → List PV → QSt → Prop, I [] [] τ1 ∧
      (∀ l τ2, I items l τ2 → Q (.v (.vl l)) τ2) ∧
      (∀ pre l τ2, I pre l τ2 → τ2.length = τ1.length ∧ l.length ≤ pre.length ∧ itmQ k xs (τ2 ++ [some l]) = some items) ∧
      ∀ pre x suf l τ2, items = pre ++ x :: suf → I pre l τ2 → @Ho _ (asgQ tg x (wipeQ env own)) fun e1 => @Wq _ (evalCQ G cond e1 (τ2 ++ [some l])) (fun b τ3 => if b = true then @Wq _ (evalQ G elt e1 τ3) (fun y τ4 => @Wq _ (frz y τ4) (fun z τ5 => ∃ τ6, τ5 = τ6 ++ [some l] ∧ I (pre ++ [x]) (l ++ [z]) τ6) nQ) nQ else ∃ τ6, τ3 = τ6 ++ [some l] ∧ I (pre ++ [x]) l τ6) nQ) E) :
    @Wq _ (evalQ G (.comp own tg k src cond elt) env τ) Q E := by
  simp only [evalQ, wq_bind]
  cases e0 : evalQs G src env τ with
  | exc c fs τ1 => rw [e0] at h; exact h
  | bad => rw [e0] at h; exact h
  | ok xs τ1 =>
    rw [e0] at h
    obtain ⟨items, hi, hz, I, h0, he, hs, hb⟩ := h
    rw [wq_ok]
    simp only [hi, wq_bind, wq_ok]
    have step : ∀ (i : Nat) (pre l : List PV) (τ2 : QSt), I pre l τ2 → stepQ k xs items.length i (τ2 ++ [some l]) = stp items i := fun i pre l τ2 q => by
      unfold stepQ
      rw [(hs pre l τ2 q).2.2]
      cases k <;> first | rfl | exact if_pos rfl
    have go : ∀ (f i : Nat) (l : List PV) (τ2 : QSt), i + f = items.length + 1 → i ≤ items.length → I (items.take i) l τ2 → @Wq _ (compQ (stepQ k xs items.length) (fun v τ2 => match asgQ tg v (wipeQ env own) with
        | none => .bad
        | some e1 => (evalCQ G cond e1 τ2).bind fun b τ3 => if b = true then (evalQ G elt e1 τ3).bind fun y τ4 => (frz y τ4).bind fun z τ5 => .ok (some z) τ5 else .ok none τ3) τ1.length f i (τ2 ++ [some l])) (fun v τ2 => Q (.v v) τ2) E := by
      intro f
      induction f with
      | zero => intro i l τ2 h1 h2 _; omega
      | succ f ih =>
        intro i l τ2 h1 h2 hI
        obtain ⟨hlen, hll, _⟩ := hs _ _ _ hI
        rw [List.length_take] at hll
        have cell : ∀ (τ6 : QSt) (l : List PV), τ6.length = τ1.length → (τ6 ++ [some l])[τ1.length]? = some (some l) := fun τ6 l e => by rw [← e]; simp
        simp only [compQ, step i _ _ τ2 hI]
        by_cases hin : i = items.length
        · subst hin
          unfold stp
          rw [List.getElem?_eq_none (Nat.le_refl _)]
          simp only [cell τ2 l hlen]
          rw [List.take_length] at hI
          rw [wq_ok, ← hlen, List.take_left' rfl]
          exact he l τ2 hI
        · have hlt : i < items.length := by omega
          have e2 : items[i]? = some items[i] := List.getElem?_eq_getElem hlt
          have dec : items = items.take i ++ items[i] :: items.drop (i + 1) := by
            conv => lhs; rw [← List.take_append_drop i items, List.drop_eq_getElem_cons hlt]
          obtain ⟨e1, ea, q⟩ := (hb _ _ _ l τ2 dec hI).get
          have ht : items.take (i + 1) = items.take i ++ [items[i]] := by rw [List.take_succ, e2]; rfl
          unfold stp
          rw [e2]
          simp only [ea]
          cases ec : evalCQ G cond e1 (τ2 ++ [some l]) with
          | bad => rw [ec] at q; exact q.elim
          | exc c fs τ3 => rw [ec] at q; exact q.elim
          | ok b τ3 =>
            rw [ec, wq_ok] at q
            cases b with
            | false =>
              obtain ⟨τ6, rfl, q⟩ := q
              simp only [QR.bind, Bool.false_eq_true, if_false]
              exact ih (i + 1) l τ6 (by omega) (by omega) (by rw [ht]; exact q)
            | true =>
              rw [if_pos rfl] at q
              simp only [QR.bind, if_true]
              cases ee : evalQ G elt e1 τ3 with
              | bad => rw [ee] at q; exact q.elim
              | exc c fs τ4 => rw [ee] at q; exact q.elim
              | ok y τ4 =>
                rw [ee, wq_ok] at q
                simp only
                cases ef : frz y τ4 with
                | bad => rw [ef] at q; exact q.elim
                | exc c fs τ5 => rw [ef] at q; exact q.elim
                | ok z τ5 =>
                  rw [ef, wq_ok] at q
                  obtain ⟨τ6, rfl, q⟩ := q
                  have hl6 : τ6.length = τ1.length := (hs _ _ _ q).1
                  simp only [cell τ6 l hl6]
                  rw [if_pos (by omega)]
                  have es : (τ6 ++ [some l]).set τ1.length (some (l ++ [z])) = τ6 ++ [some (l ++ [z])] := by rw [← hl6]; simp
                  rw [es]
                  exact ih (i + 1) (l ++ [z]) τ6 (by omega) (by omega) (by rw [ht]; exact q)
    exact go (items.length + 1) 0 [] τ1 (by omega) (Nat.zero_le _) (by simpa using h0)
end
section
variable {Q : QX → QSt → Prop} {E : XQ} {G : QConf} {env : QEnv} {τ : QSt}
/-- a comprehension whose turns leave all as it is -/
theorem q_map {own : List Nat} {tg : Tgt} {k : IK} {src : Exs} {elt : Ex} (f : PV → PV) (h : @Wq _ (evalQs G src env τ) (fun xs τ1 => ∃ items, itmQ k xs τ1 = some items ∧ (∀ l, itmQ k xs (τ1 ++ [some l]) = some items) ∧ items.length ≤ sizeLine ∧
      (∀ x τ', x ∈ items → @Ho _ (asgQ tg x (wipeQ env own)) fun e1 => @Wq _ (evalQ G elt e1 τ') (fun y τ4 => y = .v (f x) ∧ τ4 = τ') nQ) ∧ Q (.v (.vl (items.map f))) τ1) E) :
    @Wq _ (evalQ G (.comp own tg k src .nil elt) env τ) Q E := by
  refine wq_comp (h.imp (fun xs τ1 h => ?_) fun _ _ _ z => z)
  obtain ⟨items, hi, hi2, hz, he, hq⟩ := h
  refine ⟨items, hi, hz, fun pre l τ2 => l = pre.map f ∧ τ2 = τ1, ⟨rfl, rfl⟩, ?_, ?_, ?_⟩
  · rintro l τ2 ⟨rfl, rfl⟩; exact hq
  · rintro pre l τ2 ⟨rfl, rfl⟩; exact ⟨rfl, by simp, hi2 _⟩
  · rintro pre x suf l τ2 hx ⟨rfl, rfl⟩
    obtain ⟨e1, ea, h1⟩ := (he x (τ2 ++ [some (pre.map f)]) (by rw [hx]; simp)).get
    rw [ea, ho_some, q_c0]
    refine h1.imp ?_ fun _ _ _ z => z
    rintro y τ4 ⟨rfl, rfl⟩
    rw [frz_v]
    exact ⟨τ2, rfl, by simp, rfl⟩
/-- the same, with a test -/
theorem q_filter {own : List Nat} {tg : Tgt} {k : IK} {src : Exs} {cond elt : Ex} (f : PV → PV) (p : PV → Bool) (h : @Wq _ (evalQs G src env τ) (fun xs τ1 => ∃ items, itmQ k xs τ1 = some items ∧ (∀ l, itmQ k xs (τ1 ++ [some l]) = some items) ∧ items.length ≤ sizeLine ∧
      (∀ x τ', x ∈ items → @Ho _ (asgQ tg x (wipeQ env own)) fun e1 => @Wq _ (evalQ G cond e1 τ') (fun t τ4 => @Ho _ (truR t τ4) fun b => b = p x ∧ τ4 = τ' ∧ (b = true → @Wq _ (evalQ G elt e1 τ') (fun y τ4 => y = .v (f x) ∧ τ4 = τ') nQ)) nQ) ∧ Q (.v (.vl ((items.filter p).map f))) τ1) E) :
    @Wq _ (evalQ G (.comp own tg k src (.cons cond .nil) elt) env τ) Q E := by
  refine wq_comp (h.imp (fun xs τ1 h => ?_) fun _ _ _ z => z)
  obtain ⟨items, hi, hi2, hz, he, hq⟩ := h
  refine ⟨items, hi, hz, fun pre l τ2 => l = (pre.filter p).map f ∧ τ2 = τ1, ⟨rfl, rfl⟩, ?_, ?_, ?_⟩
  · rintro l τ2 ⟨rfl, rfl⟩; exact hq
  · rintro pre l τ2 ⟨rfl, rfl⟩; exact ⟨rfl, by simpa using List.length_filter_le _ _, hi2 _⟩
  · rintro pre x suf l τ2 hx ⟨rfl, rfl⟩
    obtain ⟨e1, ea, h1⟩ := (he x (τ2 ++ [some ((pre.filter p).map f)]) (by rw [hx]; simp)).get
    rw [ea, ho_some, q_c1]
    refine h1.imp ?_ fun _ _ _ z => z
    intro t τ4 h2
    obtain ⟨b, eb, hb, rfl, h3⟩ := h2.get
    rw [eb, ho_some]
    cases b with
    | false =>
      simp only [Bool.false_eq_true, if_false]
      exact ⟨τ2, rfl, by simp [List.filter_append, List.filter_cons, ← hb], rfl⟩
    | true =>
      simp only [if_true]
      refine (h3 rfl).imp ?_ fun _ _ _ z => z
      rintro y τ5 ⟨rfl, rfl⟩
      rw [frz_v]
      exact ⟨τ2, rfl, by simp [List.filter_append, List.filter_cons, ← hb], rfl⟩
end
/-! ### cells by place -/
section
variable {α : Type} {P : α → Prop} {τ l : QSt} {n : Nat}
theorem getS_z {x : Option QX} {e : QEnv} : getS (x :: e) 0 = x := by unfold getS; cases x <;> rfl
theorem getS_s {x : Option QX} {e : QEnv} {i : Nat} : getS (x :: e) (i + 1) = getS e i := rfl
theorem bx_v {b : Bool} {P : Bool → Prop} : @Ho _ (blX (.v (.bl b))) P = P b := rfl
theorem ob_v {c : Str} {P : Str → Prop} : @Ho _ (objX (.v (.obj c))) P = P c := rfl
theorem eg_v {xs : List PV} {i : Int} {P : PV → Prop} : @Ho _ (enGetQ (.v (.tup xs)) (.v (.int i))) P = P (if 0 ≤ i then (xs[i.toNat]?).getD .non else .non) := rfl
theorem cl_z {x : Str} {caps : List PV} {e : QEnv} {P : Str × List PV → Prop} : @Ho _ (cloX (some (.f x caps) :: e) 0) P = P (x, caps) := rfl
theorem cl_s {x : Option QX} {e : QEnv} {i : Nat} : cloX (x :: e) (i + 1) = cloX e i := rfl
theorem cp_n {e : QEnv} {P : List PV → Prop} : @Ho _ (capsQ e []) P = P [] := rfl
theorem cp_c {e : QEnv} {j : Nat} {js : List Nat} {P : List PV → Prop} : @Ho _ (capsQ e (j :: js)) P = @Ho _ (getS e j) fun x => @Ho _ (tupX x) fun v => @Ho _ (capsQ e js) fun vs => P (v :: vs) := by
  simp only [capsQ, getS]
  cases e[j]? with
  | none => rfl
  | some o =>
    cases o with
    | none => rfl
    | some x =>
      cases x with
      | v v =>
        simp only [ho_some, tupX]
        cases capsQ e js <;> rfl
      | _ => rfl
theorem vw_v {x : PV} {P : PV → Prop} : @Ho _ (vw τ (.v x)) P = P x := rfl
theorem vw_c {k : Nat} {P : PV → Prop} : @Ho _ (vw τ (.c k)) P = @Ho _ (cellO τ k) fun xs => P (.vl xs) := by
  simp only [vw, cellO]
  cases τ[k]? with
  | none => rfl
  | some o => cases o <;> rfl
theorem vs_v {x : PV} : (vw τ (.v x)).isSome = true := rfl
theorem vs_c {k : Nat} : (vw τ (.c k)).isSome = (cellO τ k).isSome := by
  simp only [vw, cellO]
  cases τ[k]? with
  | none => rfl
  | some o => cases o <;> rfl
theorem vws_n {P : List PV → Prop} : @Ho _ (vws τ []) P = P [] := rfl
theorem vws_s {x : QX} {xs : List QX} {P : List PV → Prop} : @Ho _ (vws τ (x :: xs)) P = @Ho _ (vw τ x) fun v => @Ho _ (vws τ xs) fun vs => P (v :: vs) := by
  simp only [vws]
  cases vw τ x with
  | none => rfl
  | some v =>
    simp only [ho_some]
    cases vws τ xs <;> rfl
theorem tru_r {x : QX} {P : Bool → Prop} : @Ho _ (truR x τ) P = @Ho _ (vw τ x) fun p => @Ho _ (truQ p) P := by simp only [truR, ho_bind]
theorem co_z {xs : List PV} : cellO (some xs :: l) 0 = some xs := rfl
theorem co_s {x : Option (List PV)} {k : Nat} : cellO (x :: l) (k + 1) = cellO l k := rfl
theorem co_a {xs : List PV} : cellO (τ ++ some xs :: l) τ.length = some xs := by unfold cellO; simp
theorem co_a1 {x : Option (List PV)} {k : Nat} : cellO (τ ++ x :: l) (τ.length + (k + 1)) = cellO (τ ++ l) (τ.length + k) := by
  unfold cellO
  rw [List.getElem?_append_right (by omega), List.getElem?_append_right (by omega)]
  simp [Nat.add_sub_cancel_left]
theorem set_a {x y : Option (List PV)} : (τ ++ x :: l).set τ.length y = τ ++ y :: l := by simp
theorem take_a {l : QSt} : (τ ++ l).take τ.length = τ := by simp
theorem take_an {l : QSt} {n : Nat} : (τ ++ l).take (τ.length + n) = τ ++ l.take n := by
  rw [List.take_append, List.take_of_length_le (by omega)]
  simp
theorem nQ_cut {n : Nat} : (fun c fs (τ : QSt) => nQ c fs (τ.take n)) = nQ := rfl
end
/-! ### the single deeds -/
section
variable {P : PV → Prop}
theorem b_addI {i j : Int} : @Ho _ (binQ .add (.int i) (.int j)) P = P (.int (i + j)) := rfl
theorem b_subI {i j : Int} : @Ho _ (binQ .sub (.int i) (.int j)) P = P (.int (i - j)) := rfl
theorem b_mulI {i j : Int} : @Ho _ (binQ .mul (.int i) (.int j)) P = (mulOk i j = true ∧ P (.int (i * j))) := by simp only [binQ, intQ2, intQ, ho_map, ho_if]
theorem b_divI {i j : Int} : @Ho _ (binQ .fdiv (.int i) (.int j)) P = ((0 < j ∧ j.natAbs < 2 ^ 200) ∧ P (.int (i / j))) := by simp only [binQ, intQ2, intQ, ho_map, ho_if, Bool.and_eq_true, decide_eq_true_eq]
theorem b_modI {i j : Int} : @Ho _ (binQ .mod (.int i) (.int j)) P = (0 < j ∧ P (.int (i % j))) := by simp only [binQ, intQ2, intQ, ho_map, ho_if]
theorem b_powI {i j : Int} : @Ho _ (binQ .pow (.int i) (.int j)) P = (((0 ≤ j ∧ j ≤ 1000000) ∧ i.natAbs < 2 ^ 64) ∧ P (.int (i ^ j.toNat))) := by simp only [binQ, intQ2, intQ, ho_map, ho_if, Bool.and_eq_true, decide_eq_true_eq]
theorem b_addT {xs ys : List PV} : @Ho _ (binQ .add (.tup xs) (.tup ys)) P = (xs.length + ys.length ≤ sizeLine ∧ P (.tup (xs ++ ys))) := by simp only [binQ, addQ, ho_if]
theorem b_addL {xs ys : List PV} : @Ho _ (binQ .add (.vl xs) (.vl ys)) P = (xs.length + ys.length ≤ sizeLine ∧ P (.vl (xs ++ ys))) := by simp only [binQ, addQ, ho_if]
theorem b_addS {xs ys : Str} : @Ho _ (binQ .add (.str xs) (.str ys)) P = (xs.length + ys.length ≤ sizeLine ∧ P (.str (xs ++ ys))) := by simp only [binQ, addQ, ho_if]
theorem o_ltI {i j : Int} : @Ho _ (cmpQ .lt (.int i) (.int j)) P = P (.bl (decide (i < j))) := rfl
theorem o_leI {i j : Int} : @Ho _ (cmpQ .le (.int i) (.int j)) P = P (.bl (decide (i ≤ j))) := rfl
theorem o_gtI {i j : Int} : @Ho _ (cmpQ .gt (.int i) (.int j)) P = P (.bl (decide (j < i))) := rfl
theorem o_geI {i j : Int} : @Ho _ (cmpQ .ge (.int i) (.int j)) P = P (.bl (decide (j ≤ i))) := rfl
theorem o_eq {x y : PV} : @Ho _ (cmpQ .eq x y) P = (cmpOk x y = true ∧ P (.bl (beqPV x y))) := by simp only [cmpQ, eqQ, ho_map, ho_if]
theorem o_ne {x y : PV} : @Ho _ (cmpQ .ne x y) P = (cmpOk x y = true ∧ P (.bl (!beqPV x y))) := by simp only [cmpQ, eqQ, ho_map, ho_if]
theorem ok_ints {i j : Int} : cmpOk (.int i) (.int j) = true := by simp [cmpOk, clean, depth]
theorem ok_strs {a b : Str} (h1 : strOkB a = true) (h2 : strOkB b = true) : cmpOk (.str a) (.str b) = true := by simp [cmpOk, clean, depth, h1, h2]
theorem o_eqI {i j : Int} : @Ho _ (cmpQ .eq (.int i) (.int j)) P = P (.bl (decide (i = j))) := by rw [o_eq]; simp [ok_ints, beqPV]
theorem o_neI {i j : Int} : @Ho _ (cmpQ .ne (.int i) (.int j)) P = P (.bl (!decide (i = j))) := by rw [o_ne]; simp [ok_ints, beqPV]
theorem o_eqS {a b : Str} : @Ho _ (cmpQ .eq (.str a) (.str b)) P = ((strOkB a = true ∧ strOkB b = true) ∧ P (.bl (decide (a = b)))) := by rw [o_eq]; simp [cmpOk, clean, depth, beqPV]
theorem o_neS {a b : Str} : @Ho _ (cmpQ .ne (.str a) (.str b)) P = ((strOkB a = true ∧ strOkB b = true) ∧ P (.bl (!decide (a = b)))) := by rw [o_ne]; simp [cmpOk, clean, depth, beqPV]
theorem o_in {x y : PV} : @Ho _ (cmpQ .isIn x y) P = @Ho _ (inQ x y) fun b => P (.bl b) := by simp only [cmpQ, ho_map]
theorem o_nin {x y : PV} : @Ho _ (cmpQ .notIn x y) P = @Ho _ (inQ x y) fun b => P (.bl (!b)) := by simp only [cmpQ, ho_map]
theorem i_tup {x : PV} {xs : List PV} {P : Bool → Prop} : @Ho _ (inQ x (.tup xs)) P = ((((clean x = true ∧ cleans xs = true) ∧ depth x ≤ 150) ∧ depths xs ≤ 150) ∧ P (xs.any fun y => beqPV y x)) := by simp only [inQ, ho_if, Bool.and_eq_true, decide_eq_true_eq]
theorem i_vl {x : PV} {xs : List PV} {P : Bool → Prop} : @Ho _ (inQ x (.vl xs)) P = ((((clean x = true ∧ cleans xs = true) ∧ depth x ≤ 150) ∧ depths xs ≤ 150) ∧ P (xs.any fun y => beqPV y x)) := by simp only [inQ, ho_if, Bool.and_eq_true, decide_eq_true_eq]
theorem i_dct {k : Str} {ks : List Str} {xs : List PV} {P : Bool → Prop} : @Ho _ (inQ (.str k) (.dct ks xs)) P = P (ks.contains k) := rfl
theorem i_s2 {a b c : Str} {P : Bool → Prop} : @Ho _ (inQ (.str a) (.tup [.str b, .str c])) P = ((strOkB a = true ∧ strOkB b = true ∧ strOkB c = true) ∧ P (decide (b = a) || decide (c = a))) := by
  rw [i_tup]; simp [clean, cleans, depth, depths, beqPV]
theorem i_s3 {a b c d : Str} {P : Bool → Prop} : @Ho _ (inQ (.str a) (.tup [.str b, .str c, .str d])) P = ((strOkB a = true ∧ strOkB b = true ∧ strOkB c = true ∧ strOkB d = true) ∧ P (decide (b = a) || (decide (c = a) || decide (d = a)))) := by
  rw [i_tup]; simp [clean, cleans, depth, depths, beqPV]
theorem i_s4 {a b c d e : Str} {P : Bool → Prop} : @Ho _ (inQ (.str a) (.tup [.str b, .str c, .str d, .str e])) P = ((strOkB a = true ∧ strOkB b = true ∧ strOkB c = true ∧ strOkB d = true ∧ strOkB e = true) ∧ P (decide (b = a) || (decide (c = a) || (decide (d = a) || decide (e = a))))) := by
  rw [i_tup]; simp [clean, cleans, depth, depths, beqPV]
theorem x_T {xs : List PV} {i : Int} : @Ho _ (ixQ (.tup xs) (.int i)) P = @Ho _ (atI xs i) P := rfl
theorem x_L {xs : List PV} {i : Int} : @Ho _ (ixQ (.vl xs) (.int i)) P = @Ho _ (atI xs i) P := rfl
theorem x_C {xs : List PV} {i : Int} : @Ho _ (ixQ (.con xs) (.int i)) P = @Ho _ (atI xs i) P := rfl
theorem x_D {ks : List Str} {vs : List PV} {k : Str} : @Ho _ (ixQ (.dct ks vs) (.str k)) P = @Ho _ (lookD k ks vs) P := rfl
theorem d_z {k : Str} {ks : List Str} {v : PV} {vs : List PV} : lookD k (k :: ks) (v :: vs) = some v := by simp [lookD]
theorem d_c {k q : Str} {ks : List Str} {v : PV} {vs : List PV} : lookD k (q :: ks) (v :: vs) = if k = q then some v else lookD k ks vs := rfl
theorem d_s {k q : Str} {ks : List Str} {v : PV} {vs : List PV} (h : (k = q) = False) : lookD k (q :: ks) (v :: vs) = lookD k ks vs := by simp [lookD, h]
theorem s_T {xs : List PV} {l h : Option Int} : @Ho _ (slQ (.tup xs) l h) P = P (.tup (cutP xs l h)) := rfl
theorem s_L {xs : List PV} {l h : Option Int} : @Ho _ (slQ (.vl xs) l h) P = P (.vl (cutP xs l h)) := rfl
theorem s_C {xs : List PV} {l h : Option Int} : @Ho _ (slQ (.con xs) l h) P = P (.vl (cutP xs l h)) := rfl
theorem p_lenT {xs : List PV} : @Ho _ (primQ .len [.tup xs]) P = P (.int xs.length) := rfl
theorem p_lenL {xs : List PV} : @Ho _ (primQ .len [.vl xs]) P = P (.int xs.length) := rfl
theorem p_lenC {xs : List PV} : @Ho _ (primQ .len [.con xs]) P = P (.int xs.length) := rfl
theorem p_intI {i : Int} : @Ho _ (primQ .int [.int i]) P = P (.int i) := rfl
theorem p_intB {i : Bool} : @Ho _ (primQ .int [.bl i]) P = P (.int (if i then 1 else 0)) := rfl
theorem p_abs {i : Int} : @Ho _ (primQ .abs [.int i]) P = P (.int (if i < 0 then -i else i)) := rfl
theorem p_max {i j : Int} : @Ho _ (primQ .max2 [.int i, .int j]) P = P (.int (if j > i then j else i)) := rfl
theorem p_min {i j : Int} : @Ho _ (primQ .min2 [.int i, .int j]) P = P (.int (if j < i then j else i)) := rfl
theorem p_sum {ns : List Int} : @Ho _ (primQ .sum [.vl (ns.map .int)]) P = P (.int ns.sum) := by simp only [primQ, lstQ, Option.bind_some, ints_map, ho_some]
theorem p_tupT {xs : List PV} : @Ho _ (primQ .tuple [.tup xs]) P = P (.tup xs) := rfl
theorem p_tupL {xs : List PV} : @Ho _ (primQ .tuple [.vl xs]) P = P (.tup xs) := rfl
theorem p_lstT {xs : List PV} : @Ho _ (primQ .list [.tup xs]) P = P (.vl xs) := rfl
theorem p_lstL {xs : List PV} : @Ho _ (primQ .list [.vl xs]) P = P (.vl xs) := rfl
theorem bls_map : ∀ ns : List Bool, blsP (ns.map .bl) = some ns
  | [] => rfl
  | n :: ns => by simp only [List.map_cons, blsP, bls_map ns, Option.map_some]
theorem p_any {ns : List Bool} : @Ho _ (primQ .any [.vl (ns.map .bl)]) P = P (.bl (ns.any id)) := by simp only [primQ, lstQ, Option.bind_some, bls_map, ho_some]
theorem p_all {ns : List Bool} : @Ho _ (primQ .all [.vl (ns.map .bl)]) P = P (.bl (ns.all id)) := by simp only [primQ, lstQ, Option.bind_some, bls_map, ho_some]
theorem p_srt {a b : Str} : @Ho _ (primQ .sorted [.vl [.str a, .str b]]) P = @Ho _ (srt2 a b) fun l => P (.vl l) := by
  simp only [primQ, ho_map]
theorem p_lrg {j : Int} : @Ho _ (lrgQ [.int j]) P = ((0 ≤ j ∧ j ≤ 16777216) ∧ P (.vl (rangeP 0 j.toNat))) := by
  simp only [lrgQ, ho_if]
  rw [fitsL_iff]
theorem m_ixT2 {xs : List PV} {x : PV} : @Ho _ (mthQ .index (.tup xs) [x]) P = @Ho _ (idxQ x xs) P := rfl
theorem m_ixL2 {xs : List PV} {x : PV} : @Ho _ (mthQ .index (.vl xs) [x]) P = @Ho _ (idxQ x xs) P := rfl
theorem m_get1 {ks : List Str} {ws : List PV} {k : Str} : @Ho _ (mthQ .get (.dct ks ws) [.str k]) P = P ((lookD k ks ws).getD .non) := rfl
theorem m_get2 {ks : List Str} {ws : List PV} {k : Str} {d : PV} : @Ho _ (mthQ .get (.dct ks ws) [.str k, d]) P = (isVl d = false ∧ P ((lookD k ks ws).getD d)) := by
  simp only [mthQ]
  cases isVl d <;> simp [Ho]
theorem k_app {xs : List PV} {v : PV} {P : List PV × PV → Prop} : @Ho _ (cellQ .append xs [v]) P = (xs.length < sizeLine ∧ P (xs ++ [v], .non)) := by simp only [cellQ, ho_if]
theorem k_ext {xs ys : List PV} {P : List PV × PV → Prop} : @Ho _ (cellQ .extend xs [.vl ys]) P = (xs.length + ys.length ≤ sizeLine ∧ P (xs ++ ys, .non)) := by simp only [cellQ, ho_if]
theorem k_pop0 {x : PV} {xs : List PV} {P : List PV × PV → Prop} : @Ho _ (cellQ .pop (x :: xs) [.int 0]) P = P (xs, x) := rfl
theorem k_pop {x : PV} {xs : List PV} {P : List PV × PV → Prop} : @Ho _ (cellQ .pop (xs ++ [x]) []) P = P (xs, x) := by simp [cellQ, Ho]
theorem k_clr {xs : List PV} {P : List PV × PV → Prop} : @Ho _ (cellQ .clear xs []) P = P ([], .non) := rfl
theorem u_bl {b : Bool} {P : Bool → Prop} : @Ho _ (truQ (.bl b)) P = P b := rfl
theorem u_int {b : Int} {P : Bool → Prop} : @Ho _ (truQ (.int b)) P = P (b != 0) := rfl
theorem u_non {P : Bool → Prop} : @Ho _ (truQ .non) P = P false := rfl
theorem u_tup {xs : List PV} {P : Bool → Prop} : @Ho _ (truQ (.tup xs)) P = P (!xs.isEmpty) := rfl
theorem u_vl {xs : List PV} {P : Bool → Prop} : @Ho _ (truQ (.vl xs)) P = P (!xs.isEmpty) := rfl
theorem g_nm {i : Nat} {v : PV} {env : QEnv} {P : QEnv → Prop} : @Ho _ (asgQ (.nm i) v env) P = P (env.set i (some (.v v))) := rfl
theorem g_tp {is : List Nat} {vs : List PV} {env : QEnv} {P : QEnv → Prop} : @Ho _ (asgQ (.tp is) (.tup vs) env) P = @Ho _ (setQ env is vs) P := rfl
theorem g_wt {is : List Nat} {vs : List PV} {env : QEnv} {P : QEnv → Prop} : @Ho _ (asgQ (.tp is) (.wt vs) env) P = @Ho _ (setQ env is vs) P := rfl
theorem g_s0 {env : QEnv} {P : QEnv → Prop} : @Ho _ (setQ env [] []) P = P env := rfl
theorem g_s1 {i : Nat} {is : List Nat} {v : PV} {vs : List PV} {env : QEnv} {P : QEnv → Prop} : @Ho _ (setQ env (i :: is) (v :: vs)) P = @Ho _ (setQ (env.set i (some (.v v))) is vs) P := rfl
theorem n_v {p : PV} : nonX (.v p) = isNonP p := by cases p <;> rfl
theorem n_c {k : Nat} : nonX (.c k) = false := rfl
theorem y_non {P : String → Prop} : @Ho _ (tyQ .non) P = P "NoneType" := rfl
theorem y_bl {b : Bool} {P : String → Prop} : @Ho _ (tyQ (.bl b)) P = P "bool" := rfl
theorem y_int {b : Int} {P : String → Prop} : @Ho _ (tyQ (.int b)) P = P "int" := rfl
theorem y_str {b : Str} {P : String → Prop} : @Ho _ (tyQ (.str b)) P = P "str" := rfl
theorem y_tup {b : List PV} {P : String → Prop} : @Ho _ (tyQ (.tup b)) P = P "tuple" := rfl
theorem y_vl {b : List PV} {P : String → Prop} : @Ho _ (tyQ (.vl b)) P = P "list" := rfl
theorem pm_0 {P : Option Int → Prop} : @Ho _ (partM []) P = P none := rfl
theorem pm_1 {i : Int} {P : Option Int → Prop} : @Ho _ (partM [.int i]) P = P (some i) := rfl
theorem non_vl {i : List PV} : isNonP (.vl i) = false := rfl
theorem mq_app {k : Nat} : metQ .append (.c k) = true := rfl
theorem mq_ext {k : Nat} : metQ .extend (.c k) = true := rfl
theorem mq_pop {k : Nat} : metQ .pop (.c k) = true := rfl
theorem mq_clr {k : Nat} : metQ .clear (.c k) = true := rfl
theorem mq_ixC {k : Nat} : metQ .index (.c k) = true := rfl
theorem mq_ixT {xs : List PV} : metQ .index (.v (.tup xs)) = true := rfl
theorem mq_ixV {xs : List PV} : metQ .index (.v (.vl xs)) = true := rfl
theorem mq_get {ks : List Str} {xs : List PV} : metQ .get (.v (.dct ks xs)) = true := rfl
theorem im_o {v : PV} {τ : QSt} : itmQ .over [.v v] τ = seqQ v := rfl
theorem im_oc {k : Nat} {τ : QSt} : itmQ .over [.c k] τ = cellO τ k := by
  simp only [itmQ, vws, vw, cellO]
  cases τ[k]? with
  | none => rfl
  | some o => cases o <;> rfl
theorem im_e {v : PV} {τ : QSt} : itmQ .enum [.v v] τ = (enQ v).map enumF := rfl
theorem en_l {xs : List PV} : enQ (.vl xs) = some xs := rfl
theorem en_t {xs : List PV} : enQ (.tup xs) = some xs := rfl
theorem opt_map {α β : Type} {a : α} {f : α → β} : (some a).map f = some (f a) := rfl
theorem im_ec {k : Nat} {τ : QSt} : itmQ .enum [.c k] τ = (cellO τ k).map enumF := by
  simp only [itmQ, vws, vw, cellO]
  cases τ[k]? with
  | none => rfl
  | some o => cases o <;> rfl
theorem sq_t {xs : List PV} : seqQ (.tup xs) = some xs := rfl
theorem sq_l {xs : List PV} : seqQ (.vl xs) = some xs := rfl
theorem ls_l {xs : List PV} : lstQ (.vl xs) = some xs := rfl
theorem im_r {i : Int} {τ : QSt} : itmQ .range [.v (.int i)] τ = rangeM [.int i] := rfl
theorem im_r2 {i j : Int} {τ : QSt} : itmQ .range [.v (.int i), .v (.int j)] τ = rangeM [.int i, .int j] := rfl
theorem im_r3 {i j k : Int} {τ : QSt} : itmQ .range [.v (.int i), .v (.int j), .v (.int k)] τ = rangeM [.int i, .int j, .int k] := rfl
theorem im_zT {xs ys : List PV} {τ : QSt} : itmQ .zip [.v (.tup xs), .v (.tup ys)] τ = some (zipP xs ys) := rfl
theorem im_zL {xs ys : List PV} {τ : QSt} : itmQ .zip [.v (.vl xs), .v (.vl ys)] τ = some (zipP xs ys) := rfl
theorem im_v {xs : List PV} {τ : QSt} : itmQ .rev [.v (.vl xs)] τ = some xs.reverse := rfl
end
/-! ### lengths -/
theorem sz_0 : (0 ≤ sizeLine) = True := eq_true (by rw [sizeLine_eq]; omega)
theorem sz_1 : (1 ≤ sizeLine) = True := eq_true (by rw [sizeLine_eq]; omega)
theorem sz_2 : (2 ≤ sizeLine) = True := eq_true (by rw [sizeLine_eq]; omega)
theorem sz_3 : (3 ≤ sizeLine) = True := eq_true (by rw [sizeLine_eq]; omega)
theorem sz_4 : (4 ≤ sizeLine) = True := eq_true (by rw [sizeLine_eq]; omega)
theorem sz_5 : (5 ≤ sizeLine) = True := eq_true (by rw [sizeLine_eq]; omega)
theorem sz_6 : (6 ≤ sizeLine) = True := eq_true (by rw [sizeLine_eq]; omega)
theorem sz_7 : (7 ≤ sizeLine) = True := eq_true (by rw [sizeLine_eq]; omega)
theorem sz_8 : (8 ≤ sizeLine) = True := eq_true (by rw [sizeLine_eq]; omega)
theorem sz_9 : (9 ≤ sizeLine) = True := eq_true (by rw [sizeLine_eq]; omega)
theorem sz_10 : (10 ≤ sizeLine) = True := eq_true (by rw [sizeLine_eq]; omega)
theorem sz_11 : (11 ≤ sizeLine) = True := eq_true (by rw [sizeLine_eq]; omega)
theorem sz_12 : (12 ≤ sizeLine) = True := eq_true (by rw [sizeLine_eq]; omega)
/-! ### defs -/
structure HasFn (U : QT) (x : Str) (f : FnI) (fr : Bool) : Prop where
  /-- up to the names' names -/
  fn : (U.T.fns.lookup x).map (fun g => (g.params.length, g.slots.length, g.dfl, g.body)) = some (f.params.length, f.slots.length, f.dfl, f.body)
  fr : U.fr x = fr
theorem wq_fin {fr : Bool} {n : Nat} {m : QS} {Q : PV → QSt → Prop} {E : XQ} (h : @Wx m (fun _ τ1 => fr = false ∧ Q .non (τ1.take n)) (fun y b τ1 => (fr = true → b = true) ∧ @Wq _ (frz y τ1) (fun v τ2 => Q v (τ2.take n)) nQ) (fun c fs _ τ1 => E c fs (τ1.take n))) : @Wq _ (finQ fr n m) Q E := by
  unfold finQ
  cases m with
  | nx e5 τ5 =>
    obtain ⟨h1, h2⟩ := h
    simp only [h1, Bool.false_eq_true, if_false]
    exact h2
  | ret v5 b τ5 =>
    obtain ⟨h1, h2⟩ := h
    have hb : (fr && !b) = false := by
      cases fr with
      | false => rfl
      | true => rw [h1 rfl]; rfl
    simp only [hb, Bool.false_eq_true, if_false]
    rw [wq_bind]
    exact h2.of fun _ _ q => q
  | exc c fs e5 τ5 => exact h
  | bad => exact h.elim
theorem wq_call {U : QT} {r : Nat} {x : Str} {f : FnI} {fr : Bool} {xs ys : List QX} {τ : QSt} {Q : PV → QSt → Prop} {E : XQ} (hf : HasFn U x f fr) (hw : xs ++ (f.dfl.drop (f.dfl.length - (f.params.length - xs.length))).map .v = ys) (hl : ys.length = f.params.length)
    (h : @Wx (execQs (cQ U r τ.length) f.body (ys.map some ++ List.replicate (f.slots.length - ys.length) none) τ) (fun _ τ1 => fr = false ∧ Q .non (τ1.take τ.length)) (fun y b τ1 => (fr = true → b = true) ∧ @Wq _ (frz y τ1) (fun v τ2 => Q v (τ2.take τ.length)) nQ) (fun c fs _ τ1 => E c fs (τ1.take τ.length))) : @Wq _ (callQ U (r + 1) x xs τ) Q E := by
  have h0 := hf.fn
  cases e : U.T.fns.lookup x with
  | none => rw [e] at h0; cases h0
  | some g =>
    rw [e] at h0
    simp only [Option.map_some, Option.some.injEq, Prod.mk.injEq] at h0
    obtain ⟨e1, e2, e3, e4⟩ := h0
    rw [callQ_fn e, hf.fr]
    rw [e3, e1, hw]
    unfold bodyQ
    rw [e1, e2, e4, if_pos hl]
    exact wq_fin h
structure HasMt (U : QT) (c m : Str) (f : FnI) (fr : Bool) : Prop where
  fn : U.T.mths.lookup (c, m) = some f
  fr : U.fr m = fr
theorem wq_met {U : QT} {r : Nat} {c m : Str} {f : FnI} {fr : Bool} {xs : List QX} {τ : QSt} {Q : PV → QSt → Prop} {E : XQ} (hf : HasMt U c m f fr) (hl : xs.length = f.params.length)
    (h : @Wx (execQs (cQ U r τ.length) f.body (xs.map some ++ List.replicate (f.slots.length - xs.length) none) τ) (fun _ τ1 => fr = false ∧ Q .non (τ1.take τ.length)) (fun y b τ1 => (fr = true → b = true) ∧ @Wq _ (frz y τ1) (fun v τ2 => Q v (τ2.take τ.length)) nQ) (fun c fs _ τ1 => E c fs (τ1.take τ.length))) : @Wq _ (metK U (r + 1) c m xs τ) Q E := by
  rw [metK_mt hf.fn, hf.fr]
  unfold bodyQ
  rw [if_pos hl]
  exact wq_fin h
theorem wq_clo {U : QT} {r n : Nat} {x : Str} {f : FnI} {caps : List PV} {xs : List QX} {τ : QSt} {Q : PV → QSt → Prop} {E : XQ} (hf : U.T.clos.lookup x = some (f, n)) (hc : caps.length = n) (hl : xs.length = f.params.length)
    (h : @Wx (execQs (cQ U r τ.length) f.body (xs.map some ++ (caps.map (fun v => some (QX.v v)) ++ List.replicate (f.slots.length - xs.length - caps.length) none)) τ) (fun _ τ1 => false = false ∧ Q .non (τ1.take τ.length)) (fun y b τ1 => (false = true → b = true) ∧ @Wq _ (frz y τ1) (fun v τ2 => Q v (τ2.take τ.length)) nQ) (fun c fs _ τ1 => E c fs (τ1.take τ.length))) : @Wq _ (cloQ U (r + 1) x caps xs τ) Q E := by
  rw [cloQ_clo hf, if_pos hc]
  unfold bodyQX
  rw [if_pos hl]
  exact wq_fin h
end EK

namespace EK.Law
open PySem PySem.Spec PyProof.Rows L2 EK
/-! ### the terms of the defs -/
def f_first_inner : FnI := ⟨["program"], ["program"], [],
  (.cons (.ret (.meth .get (.glo "FIRST_INNER") (.cons (.ix (.slot 0) (.cst (.int 0))) (.cons (.cst (.int 1)) .nil)))) .nil)⟩
def f_inner : FnI := ⟨["program"], ["program"], [],
  (.cons (.ret (.prim .list (.cons (.sl (.slot 0) (.cons (.call "first_inner" (.cons (.slot 0) .nil)) .nil) .nil) .nil))) .nil)⟩
def f_need : FnI := ⟨["kind", "word"], ["kind", "word"], [],
  (.cons (.ifs (.cmp .ne (.ix (.slot 0) (.cst (.int 0))) (.slot 1)) (.cons (.raise "NoKind") .nil) .nil) (.cons (.ret (.slot 0)) .nil))⟩
def f_same_kind : FnI := ⟨["one", "other"], ["one", "other"], [],
  (.cons (.ifs (.cmp .ne (.slot 0) (.slot 1)) (.cons (.raise "NoKind") .nil) .nil) (.cons (.ret (.slot 0)) .nil))⟩
def f_kind_of_case : FnI := ⟨["program", "names"], ["program", "names", "asked", "one"], [],
  (.cons (.asg (.nm 2) (.call "need" (.cons (.call "kind_of" (.cons (.ix (.slot 0) (.cst (.int 1))) (.cons (.slot 1) .nil))) (.cons (.cst (.str "either")) .nil)))) (.cons (.asg (.nm 3) (.call "kind_of" (.cons (.ix (.slot 0) (.cst (.int 2))) (.cons (.bin .add (.tup (.cons (.ix (.slot 2) (.cst (.int 1))) .nil)) (.slot 1)) .nil)))) (.cons (.ret (.call "same_kind" (.cons (.slot 3) (.cons (.call "kind_of" (.cons (.ix (.slot 0) (.cst (.int 3))) (.cons (.bin .add (.tup (.cons (.ix (.slot 2) (.cst (.int 2))) .nil)) (.slot 1)) .nil))) .nil)))) .nil)))⟩
def f_kind_of_use : FnI := ⟨["program", "names"], ["program", "names", "word", "told"], [],
  (.cons (.asg (.nm 2) (.ix (.slot 0) (.cst (.int 0)))) (.cons (.ifs (.cmp .eq (.slot 2) (.cst (.str "never"))) (.cons (.exp (.call "need" (.cons (.call "kind_of" (.cons (.ix (.slot 0) (.cst (.int 2))) (.cons (.slot 1) .nil))) (.cons (.cst (.str "none")) .nil)))) (.cons (.ret (.ix (.slot 0) (.cst (.int 1)))) .nil)) .nil) (.cons (.asg (.nm 3) (.call "kind_of" (.cons (.ix (.slot 0) (.cst (.int 1))) (.cons (.slot 1) .nil)))) (.cons (.ifs (.cmp .eq (.slot 2) (.cst (.str "first"))) (.cons (.ret (.ix (.call "need" (.cons (.slot 3) (.cons (.cst (.str "both")) .nil))) (.cst (.int 1)))) .nil) .nil) (.cons (.ifs (.cmp .eq (.slot 2) (.cst (.str "second"))) (.cons (.ret (.ix (.call "need" (.cons (.slot 3) (.cons (.cst (.str "both")) .nil))) (.cst (.int 2)))) .nil) .nil) (.cons (.ifs (.cmp .eq (.slot 2) (.cst (.str "let"))) (.cons (.ret (.call "kind_of" (.cons (.ix (.slot 0) (.cst (.int 2))) (.cons (.bin .add (.tup (.cons (.slot 3) .nil)) (.slot 1)) .nil)))) .nil) .nil) (.cons (.exp (.call "same_kind" (.cons (.ix (.call "need" (.cons (.slot 3) (.cons (.cst (.str "way")) .nil))) (.cst (.int 1))) (.cons (.call "kind_of" (.cons (.ix (.slot 0) (.cst (.int 2))) (.cons (.slot 1) .nil))) .nil)))) (.cons (.ret (.ix (.slot 3) (.cst (.int 2)))) .nil))))))))⟩
def f_kind_of : FnI := ⟨["program", "names"], ["program", "names", "word"], [],
  (.cons (.asg (.nm 2) (.ix (.slot 0) (.cst (.int 0)))) (.cons (.ifs (.cmp .eq (.slot 2) (.cst (.str "name"))) (.cons (.ifs (.cmp .ge (.ix (.slot 0) (.cst (.int 1))) (.prim .len (.cons (.slot 1) .nil))) (.cons (.raise "NoKind") .nil) .nil) (.cons (.ret (.ix (.slot 1) (.ix (.slot 0) (.cst (.int 1))))) .nil)) .nil) (.cons (.ifs (.cmp .eq (.slot 2) (.cst (.str "star"))) (.cons (.ret (.tup (.cons (.cst (.str "one")) .nil))) .nil) .nil) (.cons (.ifs (.cmp .eq (.slot 2) (.cst (.str "pair"))) (.cons (.ret (.tup (.cons (.cst (.str "both")) (.cons (.call "kind_of" (.cons (.ix (.slot 0) (.cst (.int 1))) (.cons (.slot 1) .nil))) (.cons (.call "kind_of" (.cons (.ix (.slot 0) (.cst (.int 2))) (.cons (.slot 1) .nil))) .nil))))) .nil) .nil) (.cons (.ifs (.cmp .eq (.slot 2) (.cst (.str "left"))) (.cons (.ret (.tup (.cons (.cst (.str "either")) (.cons (.call "kind_of" (.cons (.ix (.slot 0) (.cst (.int 2))) (.cons (.slot 1) .nil))) (.cons (.ix (.slot 0) (.cst (.int 1))) .nil))))) .nil) .nil) (.cons (.ifs (.cmp .eq (.slot 2) (.cst (.str "right"))) (.cons (.ret (.tup (.cons (.cst (.str "either")) (.cons (.ix (.slot 0) (.cst (.int 1))) (.cons (.call "kind_of" (.cons (.ix (.slot 0) (.cst (.int 2))) (.cons (.slot 1) .nil))) .nil))))) .nil) .nil) (.cons (.ifs (.cmp .eq (.slot 2) (.cst (.str "way"))) (.cons (.ret (.tup (.cons (.cst (.str "way")) (.cons (.ix (.slot 0) (.cst (.int 1))) (.cons (.call "kind_of" (.cons (.ix (.slot 0) (.cst (.int 2))) (.cons (.bin .add (.tup (.cons (.ix (.slot 0) (.cst (.int 1))) .nil)) (.slot 1)) .nil))) .nil))))) .nil) .nil) (.cons (.ifs (.cmp .eq (.slot 2) (.cst (.str "case"))) (.cons (.ret (.call "kind_of_case" (.cons (.slot 0) (.cons (.slot 1) .nil)))) .nil) .nil) (.cons (.ret (.call "kind_of_use" (.cons (.slot 0) (.cons (.slot 1) .nil)))) .nil)))))))))⟩
def f_crossed : FnI := ⟨["some", "others"], ["some", "others", "found", "one", "other"], [],
  (.cons (.asgC 2 (.lst .nil)) (.cons (.for (.nm 3) .over (.cons (.slot 0) .nil) (.cons (.for (.nm 4) .over (.cons (.slot 1) .nil) (.cons (.exp (.meth .append (.slot 2) (.cons (.tup (.cons (.slot 3) (.cons (.slot 4) .nil))) .nil))) .nil)) .nil)) (.cons (.ret (.slot 2)) .nil)))⟩
def f_powers : FnI := ⟨["some", "many"], ["some", "many", "found", "k", "row", "one"], [],
  (.cons (.asg (.nm 2) (.lst (.cons (.tup .nil) .nil))) (.cons (.for (.nm 3) .range (.cons (.slot 1) .nil) (.cons (.asg (.nm 2) (.comp [4, 5] (.tp [4, 5]) .over (.cons (.call "crossed" (.cons (.slot 2) (.cons (.slot 0) .nil))) .nil) .nil (.bin .add (.slot 4) (.tup (.cons (.slot 5) .nil))))) .nil)) (.cons (.ret (.slot 2)) .nil)))⟩
def f_told : FnI := ⟨["program", "row", "names"], ["program", "row", "names"], [],
  (.cons (.ret (.ix (.mcall "told" (.new "World") (.cons (.slot 0) (.cons (.slot 1) (.cons (.slot 2) .nil)))) (.cst (.int 1)))) .nil)⟩
def f_rows : FnI := ⟨["names"], ["names"], [],
  (.cons (.ret (.mcall "rows" (.new "World") (.cons (.slot 0) .nil))) .nil)⟩
def f_table : FnI := ⟨["program", "names"], ["program", "names", "row"], [],
  (.cons (.ret (.comp [2] (.nm 2) .over (.cons (.call "rows" (.cons (.slot 1) .nil)) .nil) .nil (.call "told" (.cons (.slot 0) (.cons (.slot 2) (.cons (.slot 1) .nil)))))) .nil)⟩
def f_ways : FnI := ⟨["many", "things_given"], ["many", "things_given", "found", "turn"], [],
  (.cons (.asg (.nm 2) (.lst (.cons (.tup .nil) .nil))) (.cons (.for (.nm 3) .range (.cons (.slot 0) .nil) (.cons (.asg (.nm 2) (.call "longer" (.cons (.slot 2) (.cons (.slot 1) .nil)))) .nil)) (.cons (.ret (.slot 2)) .nil)))⟩
def f_longer : FnI := ⟨["rows", "some"], ["rows", "some", "found", "row", "thing"], [],
  (.cons (.asgC 2 (.lst .nil)) (.cons (.for (.nm 3) .over (.cons (.slot 0) .nil) (.cons (.exp (.meth .extend (.slot 2) (.cons (.comp [4] (.nm 4) .over (.cons (.slot 1) .nil) .nil (.bin .add (.slot 3) (.tup (.cons (.slot 4) .nil)))) .nil))) .nil)) (.cons (.ret (.slot 2)) .nil)))⟩
def f_pairs : FnI := ⟨["some", "others"], ["some", "others", "found", "one", "other"], [],
  (.cons (.asgC 2 (.lst .nil)) (.cons (.for (.nm 3) .over (.cons (.slot 0) .nil) (.cons (.exp (.meth .extend (.slot 2) (.cons (.comp [4] (.nm 4) .over (.cons (.slot 1) .nil) .nil (.tup (.cons (.cst (.str "p")) (.cons (.slot 3) (.cons (.slot 4) .nil))))) .nil))) .nil)) (.cons (.ret (.slot 2)) .nil)))⟩
def f_things : FnI := ⟨["kind"], ["kind", "one", "other", "thing", "row"], [],
  (.cons (.ifs (.cmp .eq (.ix (.slot 0) (.cst (.int 0))) (.cst (.str "none"))) (.cons (.ret (.lst .nil)) .nil) .nil) (.cons (.ifs (.cmp .eq (.ix (.slot 0) (.cst (.int 0))) (.cst (.str "one"))) (.cons (.ret (.lst (.cons (.tup .nil) .nil))) .nil) .nil) (.cons (.asg (.nm 1) (.call "things" (.cons (.ix (.slot 0) (.cst (.int 1))) .nil))) (.cons (.asg (.nm 2) (.call "things" (.cons (.ix (.slot 0) (.cst (.int 2))) .nil))) (.cons (.ifs (.cmp .eq (.ix (.slot 0) (.cst (.int 0))) (.cst (.str "either"))) (.cons (.ret (.bin .add (.comp [3] (.nm 3) .over (.cons (.slot 1) .nil) .nil (.tup (.cons (.cst (.str "l")) (.cons (.slot 3) .nil)))) (.comp [3] (.nm 3) .over (.cons (.slot 2) .nil) .nil (.tup (.cons (.cst (.str "r")) (.cons (.slot 3) .nil)))))) .nil) .nil) (.cons (.ifs (.cmp .eq (.ix (.slot 0) (.cst (.int 0))) (.cst (.str "both"))) (.cons (.ret (.call "pairs" (.cons (.slot 1) (.cons (.slot 2) .nil)))) .nil) .nil) (.cons (.ret (.comp [4] (.nm 4) .over (.cons (.call "ways" (.cons (.prim .len (.cons (.slot 1) .nil)) (.cons (.slot 2) .nil))) .nil) .nil (.tup (.cons (.cst (.str "w")) (.cons (.slot 4) .nil))))) .nil)))))))⟩
def f_law_mixed : FnI := ⟨["_law_number_here", "_law_k"], ["_law_number_here", "_law_k"], [],
  (.cons (.asg (.nm 0) (.bin .mod (.bin .add (.bin .add (.bin .mul (.bin .mod (.slot 0) (.cst (.int 2147483629))) (.cst (.int 48271))) (.bin .mul (.cst (.int 7919)) (.slot 1))) (.cst (.int 13))) (.cst (.int 2147483629)))) (.cons (.asg (.nm 0) (.bin .mod (.bin .add (.bin .mul (.slot 0) (.bin .add (.bin .fdiv (.slot 0) (.cst (.int 5))) (.slot 1))) (.bin .mul (.cst (.int 16807)) (.slot 1))) (.cst (.int 2147483587)))) (.cons (.ret (.bin .mod (.bin .add (.bin .mul (.slot 0) (.cst (.int 69621))) (.bin .fdiv (.slot 0) (.cst (.int 127)))) (.cst (.int 2147483647)))) .nil)))⟩
def f_law_deck : FnI := ⟨["_law_script"], ["_law_script", "_law_deck_here", "_law_k", "_law_cell", "_law_number_here", "_law_j", "_law_total"], [],
  (.cons (.asgC 1 (.lst .nil)) (.cons (.for (.tp [2, 3]) .enum (.cons (.sl (.slot 0) .nil (.cons (.cst (.int 63)) .nil)) .nil) (.cons (.asg (.nm 4) (.prim .abs (.cons (.slot 3) .nil))) (.cons (.ifs (.cmp .lt (.slot 4) (.bin .pow (.cst (.int 10)) (.cst (.int 18)))) (.cons (.exp (.meth .append (.slot 1) (.cons (.call "_law_mixed" (.cons (.slot 4) (.cons (.slot 2) .nil))) .nil))) .nil) (.cons (.for (.nm 5) .range (.cons (.cst (.int 60)) .nil) (.cons (.ifs (.cmp .gt (.slot 4) (.cst (.int 0))) (.cons (.exp (.meth .append (.slot 1) (.cons (.bin .mod (.slot 4) (.cst (.int 2147483647))) .nil))) (.cons (.asg (.nm 4) (.bin .fdiv (.slot 4) (.cst (.int 2147483647)))) .nil)) .nil) .nil)) .nil)) .nil))) (.cons (.asg (.nm 6) (.prim .sum (.cons (.sl (.slot 1) .nil (.cons (.cst (.int 20)) .nil)) .nil))) (.cons (.for (.nm 2) .range (.cons (.cst (.int 120)) .nil) (.cons (.exp (.meth .append (.slot 1) (.cons (.call "_law_mixed" (.cons (.bin .add (.slot 6) (.bin .mul (.cst (.int 31)) (.slot 2))) (.cons (.slot 2) .nil))) .nil))) .nil)) (.cons (.ret (.sl (.slot 1) .nil (.cons (.cst (.int 200)) .nil))) .nil)))))⟩
def f_law_next : FnI := ⟨["_law_deck_here", "_law_many"], ["_law_deck_here", "_law_many"], [],
  (.cons (.ifs (.cmp .eq (.prim .len (.cons (.slot 0) .nil)) (.cst (.int 0))) (.cons (.ret (.cst (.int 0))) .nil) .nil) (.cons (.ret (.bin .mod (.meth .pop (.slot 0) (.cons (.cst (.int 0)) .nil)) (.slot 1))) .nil))⟩
def f_law_wide : FnI := ⟨["_law_kind_here", "_law_word"], ["_law_kind_here", "_law_word", "_law_one", "_law_other", "_law_twice", "_law_many", "_law_k"], [],
  (.cons (.ifs (.cmp .eq (.ix (.slot 0) (.cst (.int 0))) (.cst (.str "none"))) (.cons (.ret (.prim .int (.cons (.cmp .eq (.slot 1) (.cst (.str "never"))) .nil))) .nil) .nil) (.cons (.ifs (.cmp .eq (.ix (.slot 0) (.cst (.int 0))) (.cst (.str "one"))) (.cons (.ret (.bin .add (.cst (.int 1)) (.prim .int (.cons (.cmp .eq (.slot 1) (.cst (.str "star"))) .nil)))) .nil) .nil) (.cons (.asg (.nm 2) (.call "_law_wide" (.cons (.ix (.slot 0) (.cst (.int 1))) (.cons (.slot 1) .nil)))) (.cons (.asg (.nm 3) (.call "_law_wide" (.cons (.ix (.slot 0) (.cst (.int 2))) (.cons (.slot 1) .nil)))) (.cons (.asg (.nm 4) (.cmp .eq (.ix (.dsp ["either", "both", "way"] (.cons (.cst (.str "split")) (.cons (.cst (.str "pair")) (.cons (.cst (.str "way")) .nil)))) (.ix (.slot 0) (.cst (.int 0)))) (.slot 1))) (.cons (.asg (.nm 5) (.ix (.dsp ["either", "both", "way"] (.cons (.bin .add (.slot 2) (.slot 3)) (.cons (.bin .mul (.slot 2) (.slot 3)) (.cons (.cst (.int 1)) .nil)))) (.ix (.slot 0) (.cst (.int 0))))) (.cons (.for (.nm 6) .range (.cons (.bin .mul (.prim .min2 (.cons (.slot 2) (.cons (.cst (.int 9)) .nil))) (.prim .int (.cons (.cmp .eq (.ix (.slot 0) (.cst (.int 0))) (.cst (.str "way"))) .nil))) .nil) (.cons (.asg (.nm 5) (.prim .min2 (.cons (.cst (.int 1000)) (.cons (.bin .mul (.slot 5) (.slot 3)) .nil)))) .nil)) (.cons (.ret (.bin .mul (.slot 5) (.bin .add (.cst (.int 1)) (.prim .int (.cons (.slot 4) .nil))))) .nil))))))))⟩
def f_law_is_small : FnI := ⟨["_law_kind_here"], ["_law_kind_here", "_law_word"], [],
  (.cons (.ret (.cmp .le (.prim .max1 (.cons (.comp [1] (.nm 1) .over (.cons (.lst (.cons (.cst (.str "let")) (.cons (.cst (.str "star")) (.cons (.cst (.str "split")) (.cons (.cst (.str "pair")) (.cons (.cst (.str "way")) (.cons (.cst (.str "never")) .nil))))))) .nil) .nil (.call "_law_wide" (.cons (.slot 0) (.cons (.slot 1) .nil)))) .nil)) (.cst (.int 24)))) .nil)⟩
def f_law_any_kind : FnI := ⟨["_law_deck_here", "_law_deep"], ["_law_deck_here", "_law_deep", "_law_way", "_law_one"], [],
  (.cons (.asg (.nm 2) (.call "_law_next" (.cons (.slot 0) (.cons (.cst (.int 9)) .nil)))) (.cons (.ifs (.or (.cmp .eq (.slot 1) (.cst (.int 0))) (.cmp .lt (.slot 2) (.cst (.int 3)))) (.cons (.ret (.ix (.lst (.cons (.tup (.cons (.cst (.str "one")) .nil)) (.cons (.tup (.cons (.cst (.str "none")) .nil)) .nil))) (.prim .int (.cons (.cmp .eq (.slot 2) (.cst (.int 2))) .nil)))) .nil) .nil) (.cons (.asg (.nm 3) (.call "_law_any_kind" (.cons (.slot 0) (.cons (.bin .sub (.slot 1) (.cst (.int 1))) .nil)))) (.cons (.ret (.tup (.cons (.ix (.lst (.cons (.cst (.str "either")) (.cons (.cst (.str "both")) (.cons (.cst (.str "way")) .nil)))) (.bin .mod (.slot 2) (.cst (.int 3)))) (.cons (.slot 3) (.cons (.call "_law_any_kind" (.cons (.slot 0) (.cons (.bin .sub (.slot 1) (.cst (.int 1))) .nil))) .nil))))) .nil))))⟩
def f_law_kind : FnI := ⟨["_law_deck_here", "_law_names_here"], ["_law_deck_here", "_law_names_here", "_law_kind_here"], [],
  (.cons (.asg (.nm 2) (.call "_law_any_kind" (.cons (.slot 0) (.cons (.bin .add (.cst (.int 1)) (.call "_law_next" (.cons (.slot 0) (.cons (.cst (.int 2)) .nil)))) .nil)))) (.cons (.ifs (.or (.not (.call "_law_is_small" (.cons (.slot 2) .nil))) (.isN (.call "_law_least" (.cons (.slot 1) (.cons (.slot 2) .nil))))) (.cons (.ret (.ix (.lst (.cons (.tup (.cons (.cst (.str "one")) .nil)) (.cons (.tup (.cons (.cst (.str "either")) (.cons (.tup (.cons (.cst (.str "one")) .nil)) (.cons (.tup (.cons (.cst (.str "one")) .nil)) .nil)))) .nil))) (.call "_law_next" (.cons (.slot 0) (.cons (.cst (.int 2)) .nil))))) .nil) .nil) (.cons (.ret (.slot 2)) .nil)))⟩
def f_law_least : FnI := ⟨["_law_names_here", "_law_kind_here"], ["_law_names_here", "_law_kind_here", "_law_under", "_law_one", "_law_other"], [],
  (.cons (.ifs (.cmp .isIn (.slot 1) (.slot 0)) (.cons (.ret (.tup (.cons (.cst (.str "name")) (.cons (.meth .index (.slot 0) (.cons (.slot 1) .nil)) .nil)))) .nil) .nil) (.cons (.ifs (.cmp .eq (.ix (.slot 1) (.cst (.int 0))) (.cst (.str "one"))) (.cons (.ret (.tup (.cons (.cst (.str "star")) .nil))) .nil) .nil) (.cons (.ifs (.cmp .isIn (.tup (.cons (.cst (.str "none")) .nil)) (.slot 0)) (.cons (.ret (.tup (.cons (.cst (.str "never")) (.cons (.slot 1) (.cons (.tup (.cons (.cst (.str "name")) (.cons (.meth .index (.slot 0) (.cons (.tup (.cons (.cst (.str "none")) .nil)) .nil)) .nil))) .nil))))) .nil) .nil) (.cons (.ifs (.cmp .eq (.ix (.slot 1) (.cst (.int 0))) (.cst (.str "none"))) (.cons (.ret (.cst .non)) .nil) .nil) (.cons (.ifs (.cmp .eq (.ix (.slot 1) (.cst (.int 0))) (.cst (.str "way"))) (.cons (.asg (.nm 2) (.call "_law_least" (.cons (.bin .add (.tup (.cons (.ix (.slot 1) (.cst (.int 1))) .nil)) (.slot 0)) (.cons (.ix (.slot 1) (.cst (.int 2))) .nil)))) (.cons (.ret (.ite (.isN (.slot 2)) (.cst .non) (.tup (.cons (.cst (.str "way")) (.cons (.ix (.slot 1) (.cst (.int 1))) (.cons (.slot 2) .nil)))))) .nil)) .nil) (.cons (.asg (.nm 3) (.call "_law_least" (.cons (.slot 0) (.cons (.ix (.slot 1) (.cst (.int 1))) .nil)))) (.cons (.asg (.nm 4) (.call "_law_least" (.cons (.slot 0) (.cons (.ix (.slot 1) (.cst (.int 2))) .nil)))) (.cons (.ifs (.cmp .eq (.ix (.slot 1) (.cst (.int 0))) (.cst (.str "both"))) (.cons (.ret (.ite (.or (.isN (.slot 3)) (.isN (.slot 4))) (.cst .non) (.tup (.cons (.cst (.str "pair")) (.cons (.slot 3) (.cons (.slot 4) .nil)))))) .nil) .nil) (.cons (.ifs (.notN (.slot 3)) (.cons (.ret (.tup (.cons (.cst (.str "left")) (.cons (.ix (.slot 1) (.cst (.int 2))) (.cons (.slot 3) .nil))))) .nil) .nil) (.cons (.ret (.ite (.isN (.slot 4)) (.cst .non) (.tup (.cons (.cst (.str "right")) (.cons (.ix (.slot 1) (.cst (.int 1))) (.cons (.slot 4) .nil)))))) .nil))))))))))⟩
def f_law_made : FnI := ⟨["_law_deck_here", "_law_names_here", "_law_kind_here", "_law_deep"], ["_law_deck_here", "_law_names_here", "_law_kind_here", "_law_deep", "_law_own", "_law_one", "_law_sides", "_law_side", "_law_k"], [],
  (.cons (.asg (.nm 4) (.comp [8] (.nm 8) .range (.cons (.prim .len (.cons (.slot 1) .nil)) .nil) (.cons (.cmp .eq (.ix (.slot 1) (.slot 8)) (.slot 2)) .nil) (.slot 8))) (.cons (.ifs (.and (.cmp .ne (.slot 4) (.lst .nil)) (.cmp .eq (.call "_law_next" (.cons (.slot 0) (.cons (.cst (.int 3)) .nil))) (.cst (.int 0)))) (.cons (.ret (.tup (.cons (.cst (.str "name")) (.cons (.ix (.slot 4) (.call "_law_next" (.cons (.slot 0) (.cons (.prim .len (.cons (.slot 4) .nil)) .nil)))) .nil)))) .nil) .nil) (.cons (.ifs (.cmp .eq (.ix (.slot 2) (.cst (.int 0))) (.cst (.str "one"))) (.cons (.ret (.tup (.cons (.cst (.str "star")) .nil))) .nil) .nil) (.cons (.ifs (.and (.cmp .eq (.ix (.slot 2) (.cst (.int 0))) (.cst (.str "both"))) (.and (.call "_law_least" (.cons (.slot 1) (.cons (.ix (.slot 2) (.cst (.int 1))) .nil))) (.call "_law_least" (.cons (.slot 1) (.cons (.ix (.slot 2) (.cst (.int 2))) .nil))))) (.cons (.asg (.nm 5) (.call "_law_grown" (.cons (.slot 0) (.cons (.slot 1) (.cons (.ix (.slot 2) (.cst (.int 1))) (.cons (.bin .sub (.slot 3) (.cst (.int 1))) .nil)))))) (.cons (.ret (.tup (.cons (.cst (.str "pair")) (.cons (.slot 5) (.cons (.call "_law_grown" (.cons (.slot 0) (.cons (.slot 1) (.cons (.ix (.slot 2) (.cst (.int 2))) (.cons (.bin .sub (.slot 3) (.cst (.int 1))) .nil))))) .nil))))) .nil)) .nil) (.cons (.ifs (.and (.cmp .eq (.ix (.slot 2) (.cst (.int 0))) (.cst (.str "way"))) (.call "_law_least" (.cons (.bin .add (.tup (.cons (.ix (.slot 2) (.cst (.int 1))) .nil)) (.slot 1)) (.cons (.ix (.slot 2) (.cst (.int 2))) .nil)))) (.cons (.ret (.tup (.cons (.cst (.str "way")) (.cons (.ix (.slot 2) (.cst (.int 1))) (.cons (.call "_law_grown" (.cons (.slot 0) (.cons (.bin .add (.tup (.cons (.ix (.slot 2) (.cst (.int 1))) .nil)) (.slot 1)) (.cons (.ix (.slot 2) (.cst (.int 2))) (.cons (.bin .sub (.slot 3) (.cst (.int 1))) .nil))))) .nil))))) .nil) .nil) (.cons (.ifs (.cmp .eq (.ix (.slot 2) (.cst (.int 0))) (.cst (.str "either"))) (.cons (.asg (.nm 6) (.comp [8] (.nm 8) .over (.cons (.lst (.cons (.cst (.int 1)) (.cons (.cst (.int 2)) .nil))) .nil) (.cons (.call "_law_least" (.cons (.slot 1) (.cons (.ix (.slot 2) (.slot 8)) .nil))) .nil) (.slot 8))) (.cons (.ifs (.cmp .ne (.slot 6) (.lst .nil)) (.cons (.asg (.nm 7) (.ix (.slot 6) (.call "_law_next" (.cons (.slot 0) (.cons (.prim .len (.cons (.slot 6) .nil)) .nil))))) (.cons (.ret (.tup (.cons (.ix (.lst (.cons (.cst (.str "left")) (.cons (.cst (.str "right")) .nil))) (.bin .sub (.slot 7) (.cst (.int 1)))) (.cons (.ix (.slot 2) (.bin .sub (.cst (.int 3)) (.slot 7))) (.cons (.call "_law_grown" (.cons (.slot 0) (.cons (.slot 1) (.cons (.ix (.slot 2) (.slot 7)) (.cons (.bin .sub (.slot 3) (.cst (.int 1))) .nil))))) .nil))))) .nil)) .nil) .nil)) .nil) (.cons (.ret (.call "_law_least" (.cons (.slot 1) (.cons (.slot 2) .nil)))) .nil)))))))⟩
def f_law_grown : FnI := ⟨["_law_deck_here", "_law_names_here", "_law_kind_here", "_law_deep"], ["_law_deck_here", "_law_names_here", "_law_kind_here", "_law_deep", "_law_way", "_law_more", "_law_both", "_law_word", "_law_one", "_law_other", "_law_left"], [],
  (.cons (.asg (.nm 4) (.call "_law_next" (.cons (.slot 0) (.cons (.cst (.int 12)) .nil)))) (.cons (.ifs (.or (.cmp .lt (.slot 3) (.cst (.int 1))) (.cmp .lt (.slot 4) (.cst (.int 4)))) (.cons (.ret (.ite (.cmp .gt (.slot 3) (.cst (.int 0))) (.call "_law_made" (.cons (.slot 0) (.cons (.slot 1) (.cons (.slot 2) (.cons (.prim .max2 (.cons (.cst (.int 1)) (.cons (.slot 3) .nil))) .nil))))) (.call "_law_least" (.cons (.slot 1) (.cons (.slot 2) .nil))))) .nil) .nil) (.cons (.asg (.nm 5) (.call "_law_kind" (.cons (.slot 0) (.cons (.slot 1) .nil)))) (.cons (.ifs (.and (.cmp .lt (.slot 4) (.cst (.int 6))) (.call "_law_is_small" (.cons (.tup (.cons (.cst (.str "both")) (.cons (.slot 2) (.cons (.slot 5) .nil)))) .nil))) (.cons (.asg (.nm 6) (.ix (.lst (.cons (.tup (.cons (.cst (.str "both")) (.cons (.slot 2) (.cons (.slot 5) .nil)))) (.cons (.tup (.cons (.cst (.str "both")) (.cons (.slot 5) (.cons (.slot 2) .nil)))) .nil))) (.bin .sub (.slot 4) (.cst (.int 4))))) (.cons (.asg (.nm 7) (.ix (.lst (.cons (.cst (.str "first")) (.cons (.cst (.str "second")) .nil))) (.bin .sub (.slot 4) (.cst (.int 4))))) (.cons (.ret (.tup (.cons (.slot 7) (.cons (.call "_law_grown" (.cons (.slot 0) (.cons (.slot 1) (.cons (.slot 6) (.cons (.bin .sub (.slot 3) (.cst (.int 1))) .nil))))) .nil)))) .nil))) .nil) (.cons (.ifs (.and (.cmp .lt (.slot 4) (.cst (.int 8))) (.call "_law_is_small" (.cons (.tup (.cons (.cst (.str "way")) (.cons (.slot 5) (.cons (.slot 2) .nil)))) .nil))) (.cons (.asg (.nm 8) (.call "_law_grown" (.cons (.slot 0) (.cons (.slot 1) (.cons (.tup (.cons (.cst (.str "way")) (.cons (.slot 5) (.cons (.slot 2) .nil)))) (.cons (.bin .sub (.slot 3) (.cst (.int 1))) .nil)))))) (.cons (.ret (.tup (.cons (.cst (.str "give")) (.cons (.slot 8) (.cons (.call "_law_grown" (.cons (.slot 0) (.cons (.slot 1) (.cons (.slot 5) (.cons (.bin .sub (.slot 3) (.cst (.int 1))) .nil))))) .nil))))) .nil)) .nil) (.cons (.ifs (.cmp .lt (.slot 4) (.cst (.int 10))) (.cons (.asg (.nm 8) (.call "_law_grown" (.cons (.slot 0) (.cons (.slot 1) (.cons (.slot 5) (.cons (.bin .sub (.slot 3) (.cst (.int 1))) .nil)))))) (.cons (.ret (.tup (.cons (.cst (.str "let")) (.cons (.slot 8) (.cons (.call "_law_grown" (.cons (.slot 0) (.cons (.bin .add (.tup (.cons (.slot 5) .nil)) (.slot 1)) (.cons (.slot 2) (.cons (.bin .sub (.slot 3) (.cst (.int 1))) .nil))))) .nil))))) .nil)) .nil) (.cons (.asg (.nm 9) (.tup (.cons (.cst (.str "none")) .nil))) (.cons (.ifs (.cmp .gt (.call "_law_next" (.cons (.slot 0) (.cons (.cst (.int 5)) .nil))) (.cst (.int 0))) (.cons (.asg (.nm 9) (.call "_law_kind" (.cons (.slot 0) (.cons (.slot 1) .nil)))) .nil) .nil) (.cons (.ifs (.not (.call "_law_is_small" (.cons (.tup (.cons (.cst (.str "either")) (.cons (.slot 5) (.cons (.slot 9) .nil)))) .nil))) (.cons (.ret (.call "_law_made" (.cons (.slot 0) (.cons (.slot 1) (.cons (.slot 2) (.cons (.slot 3) .nil)))))) .nil) .nil) (.cons (.asg (.nm 8) (.call "_law_grown" (.cons (.slot 0) (.cons (.slot 1) (.cons (.tup (.cons (.cst (.str "either")) (.cons (.slot 5) (.cons (.slot 9) .nil)))) (.cons (.bin .sub (.slot 3) (.cst (.int 1))) .nil)))))) (.cons (.asg (.nm 10) (.call "_law_grown" (.cons (.slot 0) (.cons (.bin .add (.tup (.cons (.slot 5) .nil)) (.slot 1)) (.cons (.slot 2) (.cons (.bin .sub (.slot 3) (.cst (.int 1))) .nil)))))) (.cons (.ret (.tup (.cons (.cst (.str "case")) (.cons (.slot 8) (.cons (.slot 10) (.cons (.call "_law_grown" (.cons (.slot 0) (.cons (.bin .add (.tup (.cons (.slot 9) .nil)) (.slot 1)) (.cons (.slot 2) (.cons (.bin .sub (.slot 3) (.cst (.int 1))) .nil))))) .nil)))))) .nil))))))))))))⟩
def f_law_names : FnI := ⟨["_law_deck_here"], ["_law_deck_here", "_law_names_here", "_law_k", "_law_kind_here", "_law_words", "_law_counts", "_law_word"], [],
  (.cons (.asg (.nm 1) (.tup .nil)) (.cons (.for (.nm 2) .range (.cons (.call "_law_next" (.cons (.slot 0) (.cons (.cst (.int 3)) .nil))) .nil) (.cons (.asg (.nm 3) (.call "_law_any_kind" (.cons (.slot 0) (.cons (.call "_law_next" (.cons (.slot 0) (.cons (.cst (.int 3)) .nil))) .nil)))) (.cons (.asg (.nm 4) (.lst (.cons (.cst (.str "let")) (.cons (.cst (.str "star")) (.cons (.cst (.str "split")) (.cons (.cst (.str "pair")) (.cons (.cst (.str "way")) (.cons (.cst (.str "never")) .nil)))))))) (.cons (.asg (.nm 5) (.comp [6] (.nm 6) .over (.cons (.slot 4) .nil) .nil (.bin .mul (.call "_law_wide" (.cons (.slot 3) (.cons (.slot 6) .nil))) (.ite (.cmp .gt (.prim .len (.cons (.slot 1) .nil)) (.cst (.int 0))) (.call "_law_wide" (.cons (.ix (.slot 1) (.cst (.int 0))) (.cons (.slot 6) .nil))) (.cst (.int 1)))))) (.cons (.ifs (.or (.cmp .gt (.prim .max1 (.cons (.slot 5) .nil)) (.cst (.int 16))) (.and (.cmp .eq (.ix (.slot 5) (.cst (.int 0))) (.cst (.int 0))) (.cmp .gt (.call "_law_next" (.cons (.slot 0) (.cons (.cst (.int 3)) .nil))) (.cst (.int 0))))) (.cons (.asg (.nm 3) (.tup (.cons (.cst (.str "one")) .nil))) .nil) .nil) (.cons (.asg (.nm 1) (.bin .add (.slot 1) (.tup (.cons (.slot 3) .nil)))) .nil)))))) (.cons (.ret (.slot 1)) .nil)))⟩
def f_law_number : FnI := ⟨["_law_names_here", "_law_row"], ["_law_names_here", "_law_row", "_law_number_here", "_law_kind_here", "_law_thing", "_law_some"], [],
  (.cons (.asg (.nm 2) (.cst (.int 0))) (.cons (.for (.tp [3, 4]) .zip (.cons (.slot 0) (.cons (.slot 1) .nil)) (.cons (.asg (.nm 5) (.call "things" (.cons (.slot 3) .nil))) (.cons (.asg (.nm 2) (.bin .add (.bin .mul (.slot 2) (.prim .len (.cons (.slot 5) .nil))) (.meth .index (.slot 5) (.cons (.slot 4) .nil)))) .nil))) (.cons (.ret (.slot 2)) .nil)))⟩
def f_law_right : FnI := ⟨["_law_program", "_law_names_here"], ["_law_program", "_law_names_here", "_law_found", "_law_many", "_law_kind_here", "_law_k", "_law_row", "_law_told_all"], [],
  (.cons (.asgC 2 (.call "rows" (.cons (.slot 1) .nil))) (.cons (.asg (.nm 3) (.cst (.int 1))) (.cons (.for (.nm 4) .over (.cons (.slot 1) .nil) (.cons (.asg (.nm 3) (.bin .mul (.slot 3) (.prim .len (.cons (.call "things" (.cons (.slot 4) .nil)) .nil)))) .nil)) (.cons (.ifs (.or (.not (.isT .list (.slot 2))) (.cmp .ne (.prim .len (.cons (.slot 2) .nil)) (.slot 3))) (.cons (.ret (.cst (.bl false))) .nil) .nil) (.cons (.for (.tp [5, 6]) .enum (.cons (.slot 2) .nil) (.cons (.ifs (.or (.not (.isT .tuple (.slot 6))) (.or (.cmp .ne (.prim .len (.cons (.slot 6) .nil)) (.prim .len (.cons (.slot 1) .nil))) (.cmp .ne (.call "_law_number" (.cons (.slot 1) (.cons (.slot 6) .nil))) (.slot 5)))) (.cons (.ret (.cst (.bl false))) .nil) .nil) .nil)) (.cons (.asgC 7 (.call "table" (.cons (.slot 0) (.cons (.slot 1) .nil)))) (.cons (.ifs (.or (.not (.isT .list (.slot 7))) (.cmp .ne (.slot 7) (.comp [6] (.nm 6) .over (.cons (.slot 2) .nil) .nil (.call "told" (.cons (.slot 0) (.cons (.slot 6) (.cons (.slot 1) .nil))))))) (.cons (.ret (.cst (.bl false))) .nil) .nil) (.cons (.exp (.meth .clear (.slot 2) .nil)) (.cons (.exp (.meth .append (.slot 7) (.cons (.cst (.int 7)) .nil))) (.cons (.ret (.cst (.bl true))) .nil))))))))))⟩
def f_law_parts : FnI := ⟨["_law_program"], ["_law_program", "_law_one"], [],
  (.cons (.ret (.bin .add (.cst (.int 1)) (.prim .sum (.cons (.comp [1] (.nm 1) .over (.cons (.call "inner" (.cons (.slot 0) .nil)) .nil) .nil (.call "_law_parts" (.cons (.slot 1) .nil))) .nil)))) .nil)⟩
def f_law_fit : FnI := ⟨["_law_program", "_law_names_here", "_law_kind_here"], ["_law_program", "_law_names_here", "_law_kind_here"], [],
  (.cons (.ret (.ite (.cmp .le (.call "_law_parts" (.cons (.slot 0) .nil)) (.cst (.int 140))) (.slot 0) (.call "_law_least" (.cons (.slot 1) (.cons (.slot 2) .nil))))) .nil)⟩
def f_law : FnI := ⟨["_law_script"], ["_law_script", "_law_deck_here", "_law_names_here", "_law_two", "_law_three", "_law_kind_here", "_law_program"], [],
  (.cons (.asgC 1 (.call "_law_deck" (.cons (.slot 0) .nil))) (.cons (.asg (.nm 2) (.call "_law_names" (.cons (.slot 1) .nil))) (.cons (.ifs (.cmp .eq (.call "_law_next" (.cons (.slot 1) (.cons (.cst (.int 8)) .nil))) (.cst (.int 0))) (.cons (.asg (.nm 3) (.tup (.cons (.cst (.str "either")) (.cons (.tup (.cons (.cst (.str "one")) .nil)) (.cons (.tup (.cons (.cst (.str "one")) .nil)) .nil))))) (.cons (.asg (.nm 4) (.tup (.cons (.cst (.str "either")) (.cons (.tup (.cons (.cst (.str "one")) .nil)) (.cons (.slot 3) .nil))))) (.cons (.asg (.nm 2) (.ix (.lst (.cons (.tup (.cons (.slot 3) (.cons (.slot 4) (.cons (.slot 3) .nil)))) (.cons (.tup (.cons (.slot 4) (.cons (.slot 3) (.cons (.slot 3) .nil)))) (.cons (.tup (.cons (.slot 3) (.cons (.slot 3) (.cons (.slot 4) .nil)))) .nil)))) (.call "_law_next" (.cons (.slot 1) (.cons (.cst (.int 3)) .nil))))) .nil))) .nil) (.cons (.asg (.nm 5) (.call "_law_kind" (.cons (.slot 1) (.cons (.slot 2) .nil)))) (.cons (.asg (.nm 6) (.call "_law_fit" (.cons (.call "_law_grown" (.cons (.slot 1) (.cons (.slot 2) (.cons (.slot 5) (.cons (.cst (.int 3)) .nil))))) (.cons (.slot 2) (.cons (.slot 5) .nil))))) (.cons (.ret (.and (.call "_law_right" (.cons (.slot 6) (.cons (.slot 2) .nil))) (.call "_law_right" (.cons (.slot 6) (.cons (.slot 2) .nil))))) .nil))))))⟩
def m_World_things : FnI := ⟨["self", "kind"], ["self", "kind", "some", "others"], [],
  (.cons (.ifs (.cmp .eq (.ix (.slot 1) (.cst (.int 0))) (.cst (.str "none"))) (.cons (.ret (.mcall "none_things" (.slot 0) .nil)) .nil) .nil) (.cons (.ifs (.cmp .eq (.ix (.slot 1) (.cst (.int 0))) (.cst (.str "one"))) (.cons (.ret (.mcall "one_things" (.slot 0) .nil)) .nil) .nil) (.cons (.asg (.nm 2) (.mcall "things" (.slot 0) (.cons (.ix (.slot 1) (.cst (.int 1))) .nil))) (.cons (.asg (.nm 3) (.mcall "things" (.slot 0) (.cons (.ix (.slot 1) (.cst (.int 2))) .nil))) (.cons (.ifs (.cmp .eq (.ix (.slot 1) (.cst (.int 0))) (.cst (.str "either"))) (.cons (.ret (.mcall "either_things" (.slot 0) (.cons (.slot 2) (.cons (.slot 3) .nil)))) .nil) .nil) (.cons (.ifs (.cmp .eq (.ix (.slot 1) (.cst (.int 0))) (.cst (.str "both"))) (.cons (.ret (.mcall "both_things" (.slot 0) (.cons (.slot 2) (.cons (.slot 3) .nil)))) .nil) .nil) (.cons (.ret (.mcall "way_things" (.slot 0) (.cons (.slot 2) (.cons (.slot 3) .nil)))) .nil)))))))⟩
def m_World_none_things : FnI := ⟨["self"], ["self"], [],
  (.cons (.ret (.lst .nil)) .nil)⟩
def m_World_one_things : FnI := ⟨["self"], ["self"], [],
  (.cons (.ret (.lst (.cons (.tup .nil) .nil))) .nil)⟩
def m_World_either_things : FnI := ⟨["self", "some", "others"], ["self", "some", "others", "one"], [],
  (.cons (.ret (.bin .add (.comp [3] (.nm 3) .over (.cons (.slot 1) .nil) .nil (.tup (.cons (.cst (.str "l")) (.cons (.slot 3) .nil)))) (.comp [3] (.nm 3) .over (.cons (.slot 2) .nil) .nil (.tup (.cons (.cst (.str "r")) (.cons (.slot 3) .nil)))))) .nil)⟩
def m_World_both_things : FnI := ⟨["self", "some", "others"], ["self", "some", "others", "one", "other"], [],
  (.cons (.ret (.comp [3, 4] (.tp [3, 4]) .over (.cons (.call "crossed" (.cons (.slot 1) (.cons (.slot 2) .nil))) .nil) .nil (.tup (.cons (.cst (.str "p")) (.cons (.slot 3) (.cons (.slot 4) .nil)))))) .nil)⟩
def m_World_way_things : FnI := ⟨["self", "some", "others"], ["self", "some", "others", "row"], [],
  (.cons (.ret (.comp [3] (.nm 3) .over (.cons (.call "powers" (.cons (.slot 2) (.cons (.prim .len (.cons (.slot 1) .nil)) .nil))) .nil) .nil (.tup (.cons (.cst (.str "w")) (.cons (.slot 3) .nil))))) .nil)⟩
def m_World_star : FnI := ⟨["self"], ["self"], [],
  (.cons (.ret (.tup .nil)) .nil)⟩
def m_World_paired : FnI := ⟨["self", "one", "other"], ["self", "one", "other"], [],
  (.cons (.ret (.tup (.cons (.cst (.str "p")) (.cons (.slot 1) (.cons (.slot 2) .nil))))) .nil)⟩
def m_World_first_of : FnI := ⟨["self", "kind", "thing"], ["self", "kind", "thing"], [],
  (.cons (.ret (.ix (.slot 2) (.cst (.int 1)))) .nil)⟩
def m_World_second_of : FnI := ⟨["self", "kind", "thing"], ["self", "kind", "thing"], [],
  (.cons (.ret (.ix (.slot 2) (.cst (.int 2)))) .nil)⟩
def m_World_to_left : FnI := ⟨["self", "kind", "thing"], ["self", "kind", "thing"], [],
  (.cons (.ret (.tup (.cons (.cst (.str "l")) (.cons (.slot 2) .nil)))) .nil)⟩
def m_World_to_right : FnI := ⟨["self", "kind", "thing"], ["self", "kind", "thing"], [],
  (.cons (.ret (.tup (.cons (.cst (.str "r")) (.cons (.slot 2) .nil)))) .nil)⟩
def m_World_parted : FnI := ⟨["self", "kind", "thing"], ["self", "kind", "thing"], [],
  (.cons (.ret (.tup (.cons (.prim .int (.cons (.cmp .eq (.ix (.slot 2) (.cst (.int 0))) (.cst (.str "r"))) .nil)) (.cons (.ix (.slot 2) (.cst (.int 1))) .nil)))) .nil)⟩
def m_World_woven : FnI := ⟨["self", "kind", "row"], ["self", "kind", "row"], [],
  (.cons (.ret (.tup (.cons (.cst (.str "w")) (.cons (.slot 2) .nil)))) .nil)⟩
def m_World_given_by : FnI := ⟨["self", "kind", "thing", "handed"], ["self", "kind", "thing", "handed"], [],
  (.cons (.ret (.ix (.ix (.slot 2) (.cst (.int 1))) (.meth .index (.mcall "things" (.slot 0) (.cons (.ix (.slot 1) (.cst (.int 1))) .nil)) (.cons (.slot 3) .nil)))) .nil)⟩
def m_World_bound : FnI := ⟨["self", "kind", "thing"], ["self", "kind", "thing"], [],
  (.cons (.ret (.slot 2)) .nil)⟩
def m_World_never : FnI := ⟨["self", "kind"], ["self", "kind"], [],
  (.cons (.ret (.cst .non)) .nil)⟩
def m_World_rows : FnI := ⟨["self", "names"], ["self", "names", "found", "kind", "row", "one"], [],
  (.cons (.asgC 2 (.lst (.cons (.tup .nil) .nil))) (.cons (.for (.nm 3) .over (.cons (.slot 1) .nil) (.cons (.asgC 2 (.comp [4, 5] (.tp [4, 5]) .over (.cons (.call "crossed" (.cons (.slot 2) (.cons (.mcall "things" (.slot 0) (.cons (.slot 3) .nil)) .nil))) .nil) .nil (.bin .add (.slot 4) (.tup (.cons (.slot 5) .nil))))) .nil)) (.cons (.ret (.slot 2)) .nil)))⟩
def m_World_told : FnI := ⟨["self", "program", "row", "names"], ["self", "program", "row", "names", "word", "kind", "thing", "side", "inside", "other", "handed"], [],
  (.cons (.asg (.nm 4) (.ix (.slot 1) (.cst (.int 0)))) (.cons (.ifs (.cmp .eq (.slot 4) (.cst (.str "name"))) (.cons (.ret (.tup (.cons (.ix (.slot 3) (.ix (.slot 1) (.cst (.int 1)))) (.cons (.ix (.slot 2) (.ix (.slot 1) (.cst (.int 1)))) .nil)))) .nil) .nil) (.cons (.ifs (.cmp .eq (.slot 4) (.cst (.str "star"))) (.cons (.ret (.tup (.cons (.glo "ONE") (.cons (.mcall "star" (.slot 0) .nil) .nil)))) .nil) .nil) (.cons (.ifs (.or (.cmp .eq (.slot 4) (.cst (.str "left"))) (.cmp .eq (.slot 4) (.cst (.str "right")))) (.cons (.ret (.mcall "told_side" (.slot 0) (.cons (.slot 1) (.cons (.slot 2) (.cons (.slot 3) .nil))))) .nil) .nil) (.cons (.ifs (.cmp .eq (.slot 4) (.cst (.str "way"))) (.cons (.ret (.mcall "told_way" (.slot 0) (.cons (.slot 1) (.cons (.slot 2) (.cons (.slot 3) .nil))))) .nil) .nil) (.cons (.ifs (.cmp .eq (.slot 4) (.cst (.str "never"))) (.cons (.ret (.tup (.cons (.ix (.slot 1) (.cst (.int 1))) (.cons (.mcall "never" (.slot 0) (.cons (.ix (.slot 1) (.cst (.int 1))) .nil)) .nil)))) .nil) .nil) (.cons (.asg (.tp [5, 6]) (.mcall "told" (.slot 0) (.cons (.ix (.slot 1) (.cst (.int 1))) (.cons (.slot 2) (.cons (.slot 3) .nil))))) (.cons (.ifs (.cmp .eq (.slot 4) (.cst (.str "first"))) (.cons (.ret (.tup (.cons (.ix (.slot 5) (.cst (.int 1))) (.cons (.mcall "first_of" (.slot 0) (.cons (.slot 5) (.cons (.slot 6) .nil))) .nil)))) .nil) .nil) (.cons (.ifs (.cmp .eq (.slot 4) (.cst (.str "second"))) (.cons (.ret (.tup (.cons (.ix (.slot 5) (.cst (.int 2))) (.cons (.mcall "second_of" (.slot 0) (.cons (.slot 5) (.cons (.slot 6) .nil))) .nil)))) .nil) .nil) (.cons (.ifs (.cmp .eq (.slot 4) (.cst (.str "case"))) (.cons (.asg (.tp [7, 8]) (.mcall "parted" (.slot 0) (.cons (.slot 5) (.cons (.slot 6) .nil)))) (.cons (.ret (.mcall "told" (.slot 0) (.cons (.ix (.slot 1) (.bin .add (.cst (.int 2)) (.slot 7))) (.cons (.bin .add (.tup (.cons (.slot 8) .nil)) (.slot 2)) (.cons (.bin .add (.tup (.cons (.ix (.slot 5) (.bin .add (.cst (.int 1)) (.slot 7))) .nil)) (.slot 3)) .nil))))) .nil)) .nil) (.cons (.ifs (.cmp .eq (.slot 4) (.cst (.str "let"))) (.cons (.ret (.mcall "told" (.slot 0) (.cons (.ix (.slot 1) (.cst (.int 2))) (.cons (.bin .add (.tup (.cons (.mcall "bound" (.slot 0) (.cons (.slot 5) (.cons (.slot 6) .nil))) .nil)) (.slot 2)) (.cons (.bin .add (.tup (.cons (.slot 5) .nil)) (.slot 3)) .nil))))) .nil) .nil) (.cons (.asg (.tp [9, 10]) (.mcall "told" (.slot 0) (.cons (.ix (.slot 1) (.cst (.int 2))) (.cons (.slot 2) (.cons (.slot 3) .nil))))) (.cons (.ifs (.cmp .eq (.slot 4) (.cst (.str "pair"))) (.cons (.ret (.tup (.cons (.tup (.cons (.cst (.str "both")) (.cons (.slot 5) (.cons (.slot 9) .nil)))) (.cons (.mcall "paired" (.slot 0) (.cons (.slot 6) (.cons (.slot 10) .nil))) .nil)))) .nil) .nil) (.cons (.ret (.tup (.cons (.ix (.slot 5) (.cst (.int 2))) (.cons (.mcall "given_by" (.slot 0) (.cons (.slot 5) (.cons (.slot 6) (.cons (.slot 10) .nil)))) .nil)))) .nil))))))))))))))⟩
def m_World_told_side : FnI := ⟨["self", "program", "row", "names"], ["self", "program", "row", "names", "own", "thing", "kind"], [],
  (.cons (.asg (.tp [4, 5]) (.mcall "told" (.slot 0) (.cons (.ix (.slot 1) (.cst (.int 2))) (.cons (.slot 2) (.cons (.slot 3) .nil))))) (.cons (.ifs (.cmp .eq (.ix (.slot 1) (.cst (.int 0))) (.cst (.str "left"))) (.cons (.asg (.nm 6) (.tup (.cons (.cst (.str "either")) (.cons (.slot 4) (.cons (.ix (.slot 1) (.cst (.int 1))) .nil))))) (.cons (.ret (.tup (.cons (.slot 6) (.cons (.mcall "to_left" (.slot 0) (.cons (.slot 6) (.cons (.slot 5) .nil))) .nil)))) .nil)) .nil) (.cons (.asg (.nm 6) (.tup (.cons (.cst (.str "either")) (.cons (.ix (.slot 1) (.cst (.int 1))) (.cons (.slot 4) .nil))))) (.cons (.ret (.tup (.cons (.slot 6) (.cons (.mcall "to_right" (.slot 0) (.cons (.slot 6) (.cons (.slot 5) .nil))) .nil)))) .nil))))⟩
def m_World_told_way : FnI := ⟨["self", "program", "row", "names"], ["self", "program", "row", "names", "inner", "kind", "found", "thing"], [],
  (.cons (.asg (.nm 4) (.bin .add (.tup (.cons (.ix (.slot 1) (.cst (.int 1))) .nil)) (.slot 3))) (.cons (.asg (.nm 5) (.tup (.cons (.cst (.str "way")) (.cons (.ix (.slot 1) (.cst (.int 1))) (.cons (.call "kind_of" (.cons (.ix (.slot 1) (.cst (.int 2))) (.cons (.slot 4) .nil))) .nil))))) (.cons (.asgC 6 (.lst .nil)) (.cons (.for (.nm 7) .over (.cons (.mcall "things" (.slot 0) (.cons (.ix (.slot 1) (.cst (.int 1))) .nil)) .nil) (.cons (.exp (.meth .append (.slot 6) (.cons (.ix (.mcall "told" (.slot 0) (.cons (.ix (.slot 1) (.cst (.int 2))) (.cons (.bin .add (.tup (.cons (.slot 7) .nil)) (.slot 2)) (.cons (.slot 4) .nil)))) (.cst (.int 1))) .nil))) .nil)) (.cons (.ret (.tup (.cons (.slot 5) (.cons (.mcall "woven" (.slot 0) (.cons (.slot 5) (.cons (.prim .tuple (.cons (.slot 6) .nil)) .nil))) .nil)))) .nil)))))⟩
def gl : List (Str × PV) := [("FIRST_INNER", (.dct ["name", "star", "left", "right", "way", "never"] [(.int 2), (.int 1), (.int 2), (.int 2), (.int 2), (.int 2)])), ("ONE", (.tup [(.str "one")]))]
def T : Text := ⟨[("first_inner", f_first_inner),
  ("inner", f_inner),
  ("need", f_need),
  ("same_kind", f_same_kind),
  ("kind_of_case", f_kind_of_case),
  ("kind_of_use", f_kind_of_use),
  ("kind_of", f_kind_of),
  ("crossed", f_crossed),
  ("powers", f_powers),
  ("told", f_told),
  ("rows", f_rows),
  ("table", f_table),
  ("ways", f_ways),
  ("longer", f_longer),
  ("pairs", f_pairs),
  ("things", f_things),
  ("_law_mixed", f_law_mixed),
  ("_law_deck", f_law_deck),
  ("_law_next", f_law_next),
  ("_law_wide", f_law_wide),
  ("_law_is_small", f_law_is_small),
  ("_law_any_kind", f_law_any_kind),
  ("_law_kind", f_law_kind),
  ("_law_least", f_law_least),
  ("_law_made", f_law_made),
  ("_law_grown", f_law_grown),
  ("_law_names", f_law_names),
  ("_law_number", f_law_number),
  ("_law_right", f_law_right),
  ("_law_parts", f_law_parts),
  ("_law_fit", f_law_fit),
  ("law", f_law)], fun x => gl.lookup x, ["NoKind"], ["World"],
  [(("World", "things"), m_World_things),
  (("World", "none_things"), m_World_none_things),
  (("World", "one_things"), m_World_one_things),
  (("World", "either_things"), m_World_either_things),
  (("World", "both_things"), m_World_both_things),
  (("World", "way_things"), m_World_way_things),
  (("World", "star"), m_World_star),
  (("World", "paired"), m_World_paired),
  (("World", "first_of"), m_World_first_of),
  (("World", "second_of"), m_World_second_of),
  (("World", "to_left"), m_World_to_left),
  (("World", "to_right"), m_World_to_right),
  (("World", "parted"), m_World_parted),
  (("World", "woven"), m_World_woven),
  (("World", "given_by"), m_World_given_by),
  (("World", "bound"), m_World_bound),
  (("World", "never"), m_World_never),
  (("World", "rows"), m_World_rows),
  (("World", "told"), m_World_told),
  (("World", "told_side"), m_World_told_side),
  (("World", "told_way"), m_World_told_way)],
  []⟩
def U : QT := ⟨T, fun x => (["_law_deck", "rows", "table"] : List Str).contains x⟩
theorem uok : UOk U := ⟨fun x v h => by
  have e : (gl.all fun p => kon p.2) = true := by decide +kernel
  have h2 : gl.lookup x = some v := h
  exact List.all_eq_true.mp e (x, v) (look_mem h2), fun p hp => by
  have e : (T.fns.all fun p => kons p.2.dfl) = true := by decide +kernel
  exact List.all_eq_true.mp e p hp⟩
/-! ### the head -/
def top (i : Nat) : Stmt := PySem.Challenge.pw_evenkinds_k34_rows_and_tables.main.body.getD i (.Pass ⟨0, 0, 0, 0⟩)
def dd (x : Str) (i : Nat) (dfl : List He.Dv) : He.DefD := ⟨(x, none), x, x, defArgs (top i), defBody (top i), defScope (top i), dfl, []⟩
def clB : Stmt → List Stmt
  | .ClassDef (body := b) .. => b
  | _ => []
def mtop (i j : Nat) : Stmt := (clB (top i)).getD j (.Pass ⟨0, 0, 0, 0⟩)
def dm (c o m : Str) (i j : Nat) : He.DefD := ⟨(c, some m), m, o ++ "." ++ m, defArgs (mtop i j), defBody (mtop i j), defScope (mtop i j), [], []⟩
def df_first_inner : He.DefD := dd "first_inner" 5 []
def df_inner : He.DefD := dd "inner" 6 []
def df_need : He.DefD := dd "need" 7 []
def df_same_kind : He.DefD := dd "same_kind" 8 []
def df_kind_of_case : He.DefD := dd "kind_of_case" 9 []
def df_kind_of_use : He.DefD := dd "kind_of_use" 10 []
def df_kind_of : He.DefD := dd "kind_of" 11 []
def df_crossed : He.DefD := dd "crossed" 14 []
def df_powers : He.DefD := dd "powers" 15 []
def df_told : He.DefD := dd "told" 17 []
def df_rows : He.DefD := dd "rows" 19 []
def df_table : He.DefD := dd "table" 20 []
def df_ways : He.DefD := dd "ways" 22 []
def df_longer : He.DefD := dd "longer" 23 []
def df_pairs : He.DefD := dd "pairs" 24 []
def df_things : He.DefD := dd "things" 25 []
def df_law_mixed : He.DefD := dd "_law_mixed" 27 []
def df_law_deck : He.DefD := dd "_law_deck" 28 []
def df_law_next : He.DefD := dd "_law_next" 29 []
def df_law_wide : He.DefD := dd "_law_wide" 30 []
def df_law_is_small : He.DefD := dd "_law_is_small" 31 []
def df_law_any_kind : He.DefD := dd "_law_any_kind" 32 []
def df_law_kind : He.DefD := dd "_law_kind" 33 []
def df_law_least : He.DefD := dd "_law_least" 34 []
def df_law_made : He.DefD := dd "_law_made" 35 []
def df_law_grown : He.DefD := dd "_law_grown" 36 []
def df_law_names : He.DefD := dd "_law_names" 37 []
def df_law_number : He.DefD := dd "_law_number" 38 []
def df_law_right : He.DefD := dd "_law_right" 39 []
def df_law_parts : He.DefD := dd "_law_parts" 40 []
def df_law_fit : He.DefD := dd "_law_fit" 41 []
def df_law : He.DefD := dd "law" 42 []
def dm_World_things : He.DefD := dm "World" "World" "things" 16 0
def dm_World_none_things : He.DefD := dm "World" "World" "none_things" 16 1
def dm_World_one_things : He.DefD := dm "World" "World" "one_things" 16 2
def dm_World_either_things : He.DefD := dm "World" "World" "either_things" 16 3
def dm_World_both_things : He.DefD := dm "World" "World" "both_things" 16 4
def dm_World_way_things : He.DefD := dm "World" "World" "way_things" 16 5
def dm_World_star : He.DefD := dm "World" "World" "star" 16 6
def dm_World_paired : He.DefD := dm "World" "World" "paired" 16 7
def dm_World_first_of : He.DefD := dm "World" "World" "first_of" 16 8
def dm_World_second_of : He.DefD := dm "World" "World" "second_of" 16 9
def dm_World_to_left : He.DefD := dm "World" "World" "to_left" 16 10
def dm_World_to_right : He.DefD := dm "World" "World" "to_right" 16 11
def dm_World_parted : He.DefD := dm "World" "World" "parted" 16 12
def dm_World_woven : He.DefD := dm "World" "World" "woven" 16 13
def dm_World_given_by : He.DefD := dm "World" "World" "given_by" 16 14
def dm_World_bound : He.DefD := dm "World" "World" "bound" 16 15
def dm_World_never : He.DefD := dm "World" "World" "never" 16 16
def dm_World_rows : He.DefD := dm "World" "World" "rows" 16 17
def dm_World_told : He.DefD := dm "World" "World" "told" 16 18
def dm_World_told_side : He.DefD := dm "World" "World" "told_side" 16 19
def dm_World_told_way : He.DefD := dm "World" "World" "told_way" 16 20
def fn : List He.DefD := [df_first_inner, df_inner, df_need, df_same_kind, df_kind_of_case, df_kind_of_use, df_kind_of, df_crossed, df_powers, df_told, df_rows, df_table, df_ways, df_longer, df_pairs, df_things, df_law_mixed, df_law_deck, df_law_next, df_law_wide, df_law_is_small, df_law_any_kind, df_law_kind, df_law_least, df_law_made, df_law_grown, df_law_names, df_law_number, df_law_right, df_law_parts, df_law_fit, df_law]
def fm : List He.DefD := [dm_World_things, dm_World_none_things, dm_World_one_things, dm_World_either_things, dm_World_both_things, dm_World_way_things, dm_World_star, dm_World_paired, dm_World_first_of, dm_World_second_of, dm_World_to_left, dm_World_to_right, dm_World_parted, dm_World_woven, dm_World_given_by, dm_World_bound, dm_World_never, dm_World_rows, dm_World_told, dm_World_told_side, dm_World_told_way]
def qs : List CloD := []
def more : List He.Fa := []
theorem chk : chkText T T.fns fn = true := by decide +kernel
theorem chkM : chkMths T T.mths fm = true := by decide +kernel
theorem chkC : chkCls T T.clos qs = true := by decide +kernel
theorem bf_first_inner : BindOk df_first_inner f_first_inner := bind_all rfl rfl fun _ _ _ _ _ _ us hl => match us, hl with | [_], _ => rfl
theorem bf_inner : BindOk df_inner f_inner := bind_all rfl rfl fun _ _ _ _ _ _ us hl => match us, hl with | [_], _ => rfl
theorem bf_need : BindOk df_need f_need := bind_all rfl rfl fun _ _ _ _ _ _ us hl => match us, hl with | [_, _], _ => rfl
theorem bf_same_kind : BindOk df_same_kind f_same_kind := bind_all rfl rfl fun _ _ _ _ _ _ us hl => match us, hl with | [_, _], _ => rfl
theorem bf_kind_of_case : BindOk df_kind_of_case f_kind_of_case := bind_all rfl rfl fun _ _ _ _ _ _ us hl => match us, hl with | [_, _], _ => rfl
theorem bf_kind_of_use : BindOk df_kind_of_use f_kind_of_use := bind_all rfl rfl fun _ _ _ _ _ _ us hl => match us, hl with | [_, _], _ => rfl
theorem bf_kind_of : BindOk df_kind_of f_kind_of := bind_all rfl rfl fun _ _ _ _ _ _ us hl => match us, hl with | [_, _], _ => rfl
theorem bf_crossed : BindOk df_crossed f_crossed := bind_all rfl rfl fun _ _ _ _ _ _ us hl => match us, hl with | [_, _], _ => rfl
theorem bf_powers : BindOk df_powers f_powers := bind_all rfl rfl fun _ _ _ _ _ _ us hl => match us, hl with | [_, _], _ => rfl
theorem bf_told : BindOk df_told f_told := bind_all rfl rfl fun _ _ _ _ _ _ us hl => match us, hl with | [_, _, _], _ => rfl
theorem bf_rows : BindOk df_rows f_rows := bind_all rfl rfl fun _ _ _ _ _ _ us hl => match us, hl with | [_], _ => rfl
theorem bf_table : BindOk df_table f_table := bind_all rfl rfl fun _ _ _ _ _ _ us hl => match us, hl with | [_, _], _ => rfl
theorem bf_ways : BindOk df_ways f_ways := bind_all rfl rfl fun _ _ _ _ _ _ us hl => match us, hl with | [_, _], _ => rfl
theorem bf_longer : BindOk df_longer f_longer := bind_all rfl rfl fun _ _ _ _ _ _ us hl => match us, hl with | [_, _], _ => rfl
theorem bf_pairs : BindOk df_pairs f_pairs := bind_all rfl rfl fun _ _ _ _ _ _ us hl => match us, hl with | [_, _], _ => rfl
theorem bf_things : BindOk df_things f_things := bind_all rfl rfl fun _ _ _ _ _ _ us hl => match us, hl with | [_], _ => rfl
theorem bf_law_mixed : BindOk df_law_mixed f_law_mixed := bind_all rfl rfl fun _ _ _ _ _ _ us hl => match us, hl with | [_, _], _ => rfl
theorem bf_law_deck : BindOk df_law_deck f_law_deck := bind_all rfl rfl fun _ _ _ _ _ _ us hl => match us, hl with | [_], _ => rfl
theorem bf_law_next : BindOk df_law_next f_law_next := bind_all rfl rfl fun _ _ _ _ _ _ us hl => match us, hl with | [_, _], _ => rfl
theorem bf_law_wide : BindOk df_law_wide f_law_wide := bind_all rfl rfl fun _ _ _ _ _ _ us hl => match us, hl with | [_, _], _ => rfl
theorem bf_law_is_small : BindOk df_law_is_small f_law_is_small := bind_all rfl rfl fun _ _ _ _ _ _ us hl => match us, hl with | [_], _ => rfl
theorem bf_law_any_kind : BindOk df_law_any_kind f_law_any_kind := bind_all rfl rfl fun _ _ _ _ _ _ us hl => match us, hl with | [_, _], _ => rfl
theorem bf_law_kind : BindOk df_law_kind f_law_kind := bind_all rfl rfl fun _ _ _ _ _ _ us hl => match us, hl with | [_, _], _ => rfl
theorem bf_law_least : BindOk df_law_least f_law_least := bind_all rfl rfl fun _ _ _ _ _ _ us hl => match us, hl with | [_, _], _ => rfl
theorem bf_law_made : BindOk df_law_made f_law_made := bind_all rfl rfl fun _ _ _ _ _ _ us hl => match us, hl with | [_, _, _, _], _ => rfl
theorem bf_law_grown : BindOk df_law_grown f_law_grown := bind_all rfl rfl fun _ _ _ _ _ _ us hl => match us, hl with | [_, _, _, _], _ => rfl
theorem bf_law_names : BindOk df_law_names f_law_names := bind_all rfl rfl fun _ _ _ _ _ _ us hl => match us, hl with | [_], _ => rfl
theorem bf_law_number : BindOk df_law_number f_law_number := bind_all rfl rfl fun _ _ _ _ _ _ us hl => match us, hl with | [_, _], _ => rfl
theorem bf_law_right : BindOk df_law_right f_law_right := bind_all rfl rfl fun _ _ _ _ _ _ us hl => match us, hl with | [_, _], _ => rfl
theorem bf_law_parts : BindOk df_law_parts f_law_parts := bind_all rfl rfl fun _ _ _ _ _ _ us hl => match us, hl with | [_], _ => rfl
theorem bf_law_fit : BindOk df_law_fit f_law_fit := bind_all rfl rfl fun _ _ _ _ _ _ us hl => match us, hl with | [_, _, _], _ => rfl
theorem bf_law : BindOk df_law f_law := bind_all rfl rfl fun _ _ _ _ _ _ us hl => match us, hl with | [_], _ => rfl
theorem bm_World_things : BindOk dm_World_things m_World_things := bind_all rfl rfl fun _ _ _ _ _ _ us hl => match us, hl with | [_, _], _ => rfl
theorem bm_World_none_things : BindOk dm_World_none_things m_World_none_things := bind_all rfl rfl fun _ _ _ _ _ _ us hl => match us, hl with | [_], _ => rfl
theorem bm_World_one_things : BindOk dm_World_one_things m_World_one_things := bind_all rfl rfl fun _ _ _ _ _ _ us hl => match us, hl with | [_], _ => rfl
theorem bm_World_either_things : BindOk dm_World_either_things m_World_either_things := bind_all rfl rfl fun _ _ _ _ _ _ us hl => match us, hl with | [_, _, _], _ => rfl
theorem bm_World_both_things : BindOk dm_World_both_things m_World_both_things := bind_all rfl rfl fun _ _ _ _ _ _ us hl => match us, hl with | [_, _, _], _ => rfl
theorem bm_World_way_things : BindOk dm_World_way_things m_World_way_things := bind_all rfl rfl fun _ _ _ _ _ _ us hl => match us, hl with | [_, _, _], _ => rfl
theorem bm_World_star : BindOk dm_World_star m_World_star := bind_all rfl rfl fun _ _ _ _ _ _ us hl => match us, hl with | [_], _ => rfl
theorem bm_World_paired : BindOk dm_World_paired m_World_paired := bind_all rfl rfl fun _ _ _ _ _ _ us hl => match us, hl with | [_, _, _], _ => rfl
theorem bm_World_first_of : BindOk dm_World_first_of m_World_first_of := bind_all rfl rfl fun _ _ _ _ _ _ us hl => match us, hl with | [_, _, _], _ => rfl
theorem bm_World_second_of : BindOk dm_World_second_of m_World_second_of := bind_all rfl rfl fun _ _ _ _ _ _ us hl => match us, hl with | [_, _, _], _ => rfl
theorem bm_World_to_left : BindOk dm_World_to_left m_World_to_left := bind_all rfl rfl fun _ _ _ _ _ _ us hl => match us, hl with | [_, _, _], _ => rfl
theorem bm_World_to_right : BindOk dm_World_to_right m_World_to_right := bind_all rfl rfl fun _ _ _ _ _ _ us hl => match us, hl with | [_, _, _], _ => rfl
theorem bm_World_parted : BindOk dm_World_parted m_World_parted := bind_all rfl rfl fun _ _ _ _ _ _ us hl => match us, hl with | [_, _, _], _ => rfl
theorem bm_World_woven : BindOk dm_World_woven m_World_woven := bind_all rfl rfl fun _ _ _ _ _ _ us hl => match us, hl with | [_, _, _], _ => rfl
theorem bm_World_given_by : BindOk dm_World_given_by m_World_given_by := bind_all rfl rfl fun _ _ _ _ _ _ us hl => match us, hl with | [_, _, _, _], _ => rfl
theorem bm_World_bound : BindOk dm_World_bound m_World_bound := bind_all rfl rfl fun _ _ _ _ _ _ us hl => match us, hl with | [_, _, _], _ => rfl
theorem bm_World_never : BindOk dm_World_never m_World_never := bind_all rfl rfl fun _ _ _ _ _ _ us hl => match us, hl with | [_, _], _ => rfl
theorem bm_World_rows : BindOk dm_World_rows m_World_rows := bind_all rfl rfl fun _ _ _ _ _ _ us hl => match us, hl with | [_, _], _ => rfl
theorem bm_World_told : BindOk dm_World_told m_World_told := bind_all rfl rfl fun _ _ _ _ _ _ us hl => match us, hl with | [_, _, _, _], _ => rfl
theorem bm_World_told_side : BindOk dm_World_told_side m_World_told_side := bind_all rfl rfl fun _ _ _ _ _ _ us hl => match us, hl with | [_, _, _, _], _ => rfl
theorem bm_World_told_way : BindOk dm_World_told_way m_World_told_way := bind_all rfl rfl fun _ _ _ _ _ _ us hl => match us, hl with | [_, _, _, _], _ => rfl
theorem binds : BindAll T.fns fn := ⟨bf_first_inner, bf_inner, bf_need, bf_same_kind, bf_kind_of_case, bf_kind_of_use, bf_kind_of, bf_crossed, bf_powers, bf_told, bf_rows, bf_table, bf_ways, bf_longer, bf_pairs, bf_things, bf_law_mixed, bf_law_deck, bf_law_next, bf_law_wide, bf_law_is_small, bf_law_any_kind, bf_law_kind, bf_law_least, bf_law_made, bf_law_grown, bf_law_names, bf_law_number, bf_law_right, bf_law_parts, bf_law_fit, bf_law, trivial⟩
theorem bindsM : BindMths T.mths fm := ⟨bm_World_things, bm_World_none_things, bm_World_one_things, bm_World_either_things, bm_World_both_things, bm_World_way_things, bm_World_star, bm_World_paired, bm_World_first_of, bm_World_second_of, bm_World_to_left, bm_World_to_right, bm_World_parted, bm_World_woven, bm_World_given_by, bm_World_bound, bm_World_never, bm_World_rows, bm_World_told, bm_World_told_side, bm_World_told_way, trivial⟩
theorem bindsC : BindCls fn T.clos qs := trivial
abbrev R : PySem.W.OpenRow := PySem.W.OpenLaw.row PySem.Challenge.rw_evenkinds_k34_rows_and_tables
def tf : List He.Defn := T.clos.map fun p => (p.1, none)
noncomputable def ex (K : PySem.W.Frag) : Bool := exT T K && gl.all fun p => glB K p.1 p.2
noncomputable abbrev hk : PySem.W.Hook := He.hookX 5 (faOf T more) (fn ++ fm) (tabsOf gl) tf ex
noncomputable def ob (s : PySem.W.SharedT) : He.AlX := He.obsX 5 (faOf T more) (fn ++ fm) (tabsOf gl) tf ex (HandSHeadRun.getT s)
theorem ob_eq (s : PySem.W.SharedT) : ob s = hk.obs s.abs := He.obsX_eq (HandSHeadRun.getT_eq s)
def loose : List Str := (["EvenError", "NoKind", "FIRST_INNER", "first_inner", "inner", "need", "same_kind", "kind_of_case", "kind_of_use", "kind_of", "ONE", "crossed", "powers", "World", "told", "rows", "table", "ways", "longer", "pairs"] : List Str) ++ (["things", "_law_mixed", "_law_deck", "_law_next", "_law_wide", "_law_is_small", "_law_any_kind", "_law_kind", "_law_least", "_law_made", "_law_grown", "_law_names", "_law_number", "_law_right", "_law_parts", "_law_fit"] : List Str)
theorem run_true (w : World) : HandSHeadRun.RunEq R (PySem.W.view R.prog [42]) hk ob 6450 loose (setF w "special-get-raises" true) := by
  intro os
  kernel_rfl
theorem run_false (w : World) : HandSHeadRun.RunEq R (PySem.W.view R.prog [42]) hk ob 6450 loose (setF w "special-get-raises" false) := by
  intro os
  kernel_rfl
theorem run (w : World) : HandSHeadRun.RunEq R (PySem.W.view R.prog [42]) hk ob 6450 loose w := by
  cases h : w.params.followText "special-get-raises" with
  | true => exact (setF_eq h) ▸ run_true w
  | false => exact (setF_eq h) ▸ run_false w
theorem noE : (("" : Str) ∈ T.clos.map (·.1)) = False := by decide
theorem facts {h : Heap} {w : World} {mg : Str → Option Value} (Y : hk.says w h) (G : h.Ns mainGlobals mg) : ∃ K : PySem.W.Frag, K.In h ∧ Facts T K mg w ∧ (tabsAt T K).Nodup ∧ ∀ x ∈ T.clos.map (·.1), PySem.W.codeHdIn K (He.cT K (x, none)).1 (He.cT K (x, none)).2 = true ∧ K.lookup (He.cT K (x, none)).2 = none ∧ h.get? (He.cT K (x, none)).2 = some { cls := .none, data := .fields #[] } := by
  obtain ⟨K, KX, c⟩ := Y
  exact ⟨K, KX, facts_ofX KX G c chk binds chkM bindsM chkC bindsC noE rfl⟩
end EK.Law

open PySem PySem.W PySem.Calls PyProof.Rows
theorem law_ends (hY : ∀ ns : List Int, ns.length ≤ 63 → EK.lawYes EK.Law.T 221 "law" ns) : PySem.Challenge.rw_evenkinds_k34_rows_and_tables.Holds := by
  w_on; o_law
  refine HandSHeadRun.head_any (r := OpenLaw.row PySem.Challenge.rw_evenkinds_k34_rows_and_tables) (q := view (OpenLaw.row PySem.Challenge.rw_evenkinds_k34_rows_and_tables).prog [42]) (H := EK.Law.hk) (ob := EK.Law.ob) (M := 6450) (loose := EK.Law.loose) (d := HandSHeadRun.topDef (OpenLaw.row PySem.Challenge.rw_evenkinds_k34_rows_and_tables).prog 42) (kwd := []) EK.Law.ob_eq
    (by kernel_rfl) (fun s => by kernel_rfl) EK.Law.run (by kernel_rfl) (by kernel_rfl) (by kernel_rfl) (by rfl) (by first | assumption | decide +kernel) (by decide +kernel) ⟨rfl, rfl, rfl, rfl, rfl, by decide +kernel⟩ ?hw ?hc
  case hw => w_witness2
  case hc =>
    have en : (HandSHeadRun.topDef (OpenLaw.row PySem.Challenge.rw_evenkinds_k34_rows_and_tables).prog 42).name = ("law" : PySem.Str) := by kernel_rfl
    refine EK.law_walk (l := PySem.Challenge.rw_evenkinds_k34_rows_and_tables) (T := EK.Law.T) (n := 63) (r := 220) (p := "_law_script") (f := EK.Law.f_law) rfl (by decide) (by kernel_rfl) (by decide) (by rw [en]; rfl) rfl rfl (fun w mg h Y G => EK.Law.facts Y G) fun ns hl => ?_
    rw [en]
    exact hY ns hl


namespace EK
open PySem PySem.Spec L2
/-! ### kinds and their things -/
inductive Kd where
  | none | one | either (a b : Kd) | both (a b : Kd) | way (a b : Kd)
  deriving DecidableEq, Inhabited
namespace Kd
def dep : Kd → Nat
  | none => 0
  | one => 0
  | either a b => max a.dep b.dep + 1
  | both a b => max a.dep b.dep + 1
  | way a b => max a.dep b.dep + 1
/-- how many things -/
def cnt : Kd → Nat
  | none => 0
  | one => 1
  | either a b => a.cnt + b.cnt
  | both a b => a.cnt * b.cnt
  | way a b => b.cnt ^ a.cnt
/-- it and its parts have at most m -/
def le (m : Nat) : Kd → Prop
  | none => True
  | one => 1 ≤ m
  | either a b => a.cnt + b.cnt ≤ m ∧ a.le m ∧ b.le m
  | both a b => a.cnt * b.cnt ≤ m ∧ a.le m ∧ b.le m
  | way a b => b.cnt ^ a.cnt ≤ m ∧ a.le m ∧ b.le m
theorem le.cnt {m : Nat} : ∀ {k : Kd}, k.le m → k.cnt ≤ m
  | none, _ => Nat.zero_le _
  | one, h => h
  | either _ _, h => h.1
  | both _ _, h => h.1
  | way _ _, h => h.1
theorem le.mono {m n : Nat} (hm : m ≤ n) : ∀ {k : Kd}, k.le m → k.le n
  | none, _ => trivial
  | one, h => Nat.le_trans h hm
  | either _ _, h => ⟨Nat.le_trans h.1 hm, h.2.1.mono hm, h.2.2.mono hm⟩
  | both _ _, h => ⟨Nat.le_trans h.1 hm, h.2.1.mono hm, h.2.2.mono hm⟩
  | way _ _, h => ⟨Nat.le_trans h.1 hm, h.2.1.mono hm, h.2.2.mono hm⟩
end Kd
def K : Kd → PV
  | .none => .tup [.str "none"]
  | .one => .tup [.str "one"]
  | .either a b => .tup [.str "either", K a, K b]
  | .both a b => .tup [.str "both", K a, K b]
  | .way a b => .tup [.str "way", K a, K b]
def ap1 (x t : PV) : PV := match x with
  | .tup row => .tup (row ++ [t])
  | _ => .non
def wys (bs : List PV) : Nat → List PV
  | 0 => [.tup []]
  | n + 1 => (wys bs n).flatMap fun x => bs.map (ap1 x)
def ths : Kd → List PV
  | .none => []
  | .one => [.tup []]
  | .either a b => (ths a).map (fun x => .tup [.str "l", x]) ++ (ths b).map (fun x => .tup [.str "r", x])
  | .both a b => (ths a).flatMap fun x => (ths b).map fun y => .tup [.str "p", x, y]
  | .way a b => (wys (ths b) (ths a).length).map fun x => .tup [.str "w", x]
theorem flat_len {α β γ : Type} (f : α → β → γ) (bs : List β) : ∀ pre : List α, (pre.flatMap fun x => bs.map (f x)).length = pre.length * bs.length
  | [] => by simp
  | x :: pre => by rw [List.flatMap_cons, List.length_append, List.length_map, flat_len f bs pre, List.length_cons, Nat.add_mul]; omega
theorem wys_len (bs : List PV) : ∀ n, (wys bs n).length = bs.length ^ n
  | 0 => rfl
  | n + 1 => by rw [wys, flat_len, wys_len bs n, Nat.pow_succ]
theorem ths_len : ∀ k : Kd, (ths k).length = k.cnt
  | .none => rfl
  | .one => rfl
  | .either a b => by simp only [ths, List.length_append, List.length_map, ths_len a, ths_len b, Kd.cnt]
  | .both a b => by rw [ths, flat_len, ths_len a, ths_len b, Kd.cnt]
  | .way a b => by simp only [ths, List.length_map, wys_len, ths_len a, ths_len b, Kd.cnt]
theorem wys_tup (bs : List PV) : ∀ (n : Nat) {x : PV}, x ∈ wys bs n → ∃ l, x = .tup l ∧ l.length = n ∧ ∀ y ∈ l, y ∈ bs
  | 0, x, h => by
    simp only [wys, List.mem_singleton] at h
    exact ⟨[], h, rfl, by simp⟩
  | n + 1, x, h => by
    simp only [wys, List.mem_flatMap, List.mem_map] at h
    obtain ⟨y, hy, t, ht, rfl⟩ := h
    obtain ⟨l, rfl, hl, hm⟩ := wys_tup bs n hy
    exact ⟨l ++ [t], rfl, by simp [hl], fun z hz => by
      rcases List.mem_append.mp hz with hz | hz
      · exact hm z hz
      · simp at hz; subst hz; exact ht⟩
theorem big {n : Nat} (h : n ≤ 1000000) : n ≤ sizeLine := by rw [sizeLine_eq]; omega
theorem pow_mid {b i n : Nat} (hi : i ≤ n) : b ^ i ≤ max 1 (b ^ n) := by
  rcases Nat.eq_zero_or_pos b with rfl | hb
  · cases i with
    | zero => simp; omega
    | succ i => simp
  · exact Nat.le_trans (Nat.pow_le_pow_right hb hi) (Nat.le_max_right _ _)
theorem range_len (lo : Int) (n : Nat) : (rangeP lo n).length = n := by simp [rangeP]
theorem e62 : (2 : Int) ^ 62 = 4611686018427387904 := by decide +kernel
theorem fits_of {i : Int} (h1 : -1000000000 ≤ i) (h2 : i ≤ 1000000000) : fits i = true := fits_iff.mpr (by rw [e62]; omega)
theorem range_nat {n : Nat} (h : n ≤ 1000000000) : rangeM [.int (n : Nat)] = some (rangeP 0 n) := by
  unfold rangeM
  simp only [fits_of (i := (n : Nat)) (by omega) (by omega), if_true, Int.toNat_natCast]
theorem mulOk_l {i j : Int} (h : i.natAbs < 2 ^ 63) : mulOk i j = true := by simp [mulOk, h]
theorem mulOk_r {i j : Int} (h : j.natAbs < 2 ^ 63) : mulOk i j = true := by simp [mulOk, h]
theorem range_nat2 {i j : Nat} (h : i ≤ 1000000000) (h' : j ≤ 1000000000) : rangeM [.int (i : Nat), .int (j : Nat)] = some (rangeP (i : Nat) (j - i)) := by
  have h5 : ((j : Int) - (i : Int)).toNat = j - i := by omega
  unfold rangeM
  simp only [fits_of (i := (i : Nat)) (by omega) (by omega), fits_of (i := (j : Nat)) (by omega) (by omega), Bool.and_self, if_true, h5]
theorem range_downD {n : Nat} (h : n ≤ 1000000) : rangeM [.int ((n : Nat) - 1), .int (-1), .int (-1)] = some (rangeD ((n : Nat) - 1) n) := by
  have h3 : ((n : Int) - 1 - -1).toNat = n := by omega
  unfold rangeM
  simp only [fits_of (i := (n : Nat) - 1) (by omega) (by omega), fits_of (i := -1) (by omega) (by omega), decide_true, Bool.and_self, if_true, h3]
theorem rangeD_mid {hi : Int} {n : Nat} {pre : List PV} {x : PV} {suf : List PV} (h : rangeD hi n = pre ++ x :: suf) : pre.length < n ∧ x = .int (hi + (pre.length : Nat) * (-1)) := by
  have hl := congrArg List.length h
  rw [show (rangeD hi n).length = n by simp [rangeD], List.length_append, List.length_cons] at hl
  have hp : pre.length < n := by omega
  refine ⟨hp, ?_⟩
  have e : (rangeD hi n)[pre.length]? = some x := by rw [h]; simp
  unfold rangeD at e
  rw [List.getElem?_map, List.getElem?_range hp] at e
  exact (Option.some.inj e).symm
theorem range_mid {lo : Int} {n : Nat} {pre : List PV} {x : PV} {suf : List PV} (h : rangeP lo n = pre ++ x :: suf) : pre.length < n ∧ x = .int (lo + (pre.length : Nat)) := by
  have hl := congrArg List.length h
  rw [range_len, List.length_append, List.length_cons] at hl
  have hp : pre.length < n := by omega
  refine ⟨hp, ?_⟩
  have e : (rangeP lo n)[pre.length]? = some x := by rw [h]; simp
  unfold rangeP at e
  rw [List.getElem?_map, List.getElem?_range hp] at e
  exact (Option.some.inj e).symm
/-- its parts have at most m -/
def Kd.sub (m : Nat) : Kd → Prop
  | .none => True
  | .one => True
  | .either a b => a.le m ∧ b.le m
  | .both a b => a.le m ∧ b.le m
  | .way a b => a.le m ∧ b.le m
theorem Kd.le.sub {m : Nat} : ∀ {k : Kd}, k.le m → k.sub m
  | .none, _ => trivial
  | .one, _ => trivial
  | .either _ _, h => h.2
  | .both _ _, h => h.2
  | .way _ _, h => h.2
theorem enum_mid {xs pre : List PV} {x : PV} {suf : List PV} (h : enumF xs = pre ++ x :: suf) : ∃ y, xs[pre.length]? = some y ∧ x = .wt [.int (pre.length : Nat), y] := by
  have e : (enumF xs)[pre.length]? = some x := by rw [h]; simp
  unfold enumF at e
  rw [List.getElem?_mapIdx] at e
  cases q : xs[pre.length]? with
  | none => rw [q] at e; cases e
  | some y =>
    rw [q] at e
    exact ⟨y, rfl, (Option.some.inj e).symm⟩
theorem cut_ints (ns : List Int) (l h : Option Int) : ∃ ms : List Int, cutP (ns.map .int) l h = ms.map .int ∧ ms.length ≤ ns.length := by
  unfold cutP
  rw [← List.map_drop, ← List.map_take]
  exact ⟨_, rfl, by rw [List.length_take, List.length_drop]; omega⟩
theorem ints_at {ms : List Int} {i : Nat} {y : PV} (h : (ms.map PV.int)[i]? = some y) : ∃ z : Int, y = .int z := by
  rw [List.getElem?_map] at h
  cases q : ms[i]? with
  | none => rw [q] at h; cases h
  | some z => rw [q] at h; exact ⟨z, (Option.some.inj h).symm⟩
theorem e10 : (10 : Int) ^ (18 : Int).toNat = 1000000000000000000 := by decide +kernel
/-! ### plain equality -/
mutual
theorem beq_refl : ∀ x : PV, clean x = true → beqPV x x = true
  | .non, _ => rfl
  | .int i, _ => by simp [beqPV]
  | .str x, _ => by simp [beqPV]
  | .tup xs, h => by
    unfold beqPV
    exact beqs_refl xs (by simpa [clean] using h)
  | .bl _, h => by simp [clean] at h
  | .ref _, h => by simp [clean] at h
  | .dct _ _, h => by simp [clean] at h
  | .con _, h => by simp [clean] at h
  | .wt _, h => by simp [clean] at h
  | .clo _ _, h => by simp [clean] at h
  | .obj _, h => by simp [clean] at h
  | .vl xs, h => by
    unfold beqPV
    exact beqs_refl xs (by simpa [clean] using h)
theorem beqs_refl : ∀ xs : List PV, cleans xs = true → beqPVs xs xs = true
  | [], _ => rfl
  | x :: xs, h => by
    simp only [cleans, Bool.and_eq_true] at h
    unfold beqPVs
    simp only [beq_refl x h.1, beqs_refl xs h.2, Bool.and_self]
end
mutual
theorem beq_eq : ∀ x y : PV, clean x = true → beqPV x y = true → x = y
  | .non, y, _, h => by cases y <;> first | rfl | (simp [beqPV] at h)
  | .int i, y, _, h => by cases y <;> first | (simp [beqPV] at h; done) | (simp [beqPV] at h; rw [h])
  | .str i, y, _, h => by cases y <;> first | (simp [beqPV] at h; done) | (simp [beqPV] at h; rw [h])
  | .tup xs, y, hc, h => by
    cases y with
    | tup ys =>
      unfold beqPV at h
      rw [beqs_eq xs ys (by simpa [clean] using hc) h]
    | _ => simp [beqPV] at h
  | .bl _, _, h, _ => by simp [clean] at h
  | .ref _, _, h, _ => by simp [clean] at h
  | .dct _ _, _, h, _ => by simp [clean] at h
  | .con _, _, h, _ => by simp [clean] at h
  | .wt _, _, h, _ => by simp [clean] at h
  | .clo _ _, _, h, _ => by simp [clean] at h
  | .obj _, _, h, _ => by simp [clean] at h
  | .vl xs, y, hc, h => by
    cases y with
    | vl ys =>
      unfold beqPV at h
      rw [beqs_eq xs ys (by simpa [clean] using hc) h]
    | _ => simp [beqPV] at h
theorem beqs_eq : ∀ xs ys : List PV, cleans xs = true → beqPVs xs ys = true → xs = ys
  | [], ys, _, h => by cases ys <;> first | rfl | (simp [beqPVs] at h)
  | x :: xs, ys, hc, h => by
    simp only [cleans, Bool.and_eq_true] at hc
    cases ys with
    | nil => simp [beqPVs] at h
    | cons y ys =>
      simp only [beqPVs, Bool.and_eq_true] at h
      rw [beq_eq x y hc.1 h.1, beqs_eq xs ys hc.2 h.2]
end
theorem beq_iff {x y : PV} (h : clean x = true) : beqPV x y = true ↔ x = y := ⟨beq_eq x y h, fun e => e ▸ beq_refl x h⟩
theorem cleans_iff : ∀ {xs : List PV}, cleans xs = true ↔ ∀ x ∈ xs, clean x = true
  | [] => by simp [cleans]
  | x :: xs => by simp [cleans, cleans_iff (xs := xs)]
theorem depths_le {n : Nat} : ∀ {xs : List PV}, depths xs ≤ n ↔ ∀ x ∈ xs, depth x ≤ n
  | [] => by simp [depths]
  | x :: xs => by
    simp only [depths, List.mem_cons, forall_eq_or_imp, ← depths_le (xs := xs)]
    omega
theorem eq_same {S : Store} {x : PV} (h : clean x = true) (hd : depth x ≤ 150) : eqM S x x = some true := by
  rw [eq_clean h h hd, beq_refl x h]
theorem eq_dec {S : Store} {x y : PV} [Decidable (x = y)] (h : clean x = true) (h2 : clean y = true) (hd : depth x ≤ 150) : eqM S x y = some (decide (x = y)) := by
  rw [eq_clean h h2 hd]
  congr 1
  rw [Bool.eq_iff_iff]
  simp [beq_iff h]
theorem find_at {x : PV} (hx : clean x = true) : ∀ {xs : List PV} {i : Nat}, xs.Nodup → (∀ y ∈ xs, clean y = true) → xs[i]? = some x → (xs.findIdx? fun y => beqPV y x) = some i
  | [], _, _, _, h => by simp at h
  | y :: ys, 0, _, _, h => by
    have e : y = x := by simpa using h
    subst e
    simp [List.findIdx?_cons, beq_refl y hx]
  | y :: ys, i + 1, hn, hc, h => by
    have hn' := List.nodup_cons.mp hn
    have h' : ys[i]? = some x := by simpa using h
    have : beqPV y x = false := by
      cases q : beqPV y x with
      | false => rfl
      | true =>
        have := beq_eq y x (hc y List.mem_cons_self) q
        subst this
        exact absurd (List.mem_of_getElem? h') hn'.1
    simp [List.findIdx?_cons, this, find_at hx hn'.2 (fun z hz => hc z (List.mem_cons_of_mem _ hz)) h']
theorem idx_at {S : Store} {x : PV} {xs : List PV} {i : Nat} (hn : xs.Nodup) (hc : ∀ y ∈ xs, clean y = true) (hd : depth x ≤ 150) (h : xs[i]? = some x) : idxEq S x xs = some i := by
  have hx := hc x (List.mem_of_getElem? h)
  unfold idxEq
  rw [if_pos (by simp [hx, cleans_iff.mpr hc, hd])]
  exact find_at hx hn hc h
/-! ### things are apart -/
theorem nodup_map' {α β : Type} {f : α → β} : ∀ {l : List α}, l.Nodup → (∀ x ∈ l, ∀ y ∈ l, f x = f y → x = y) → (l.map f).Nodup
  | [], _, _ => by simp
  | x :: l, h, hi => by
    have h' := List.nodup_cons.mp h
    rw [List.map_cons, List.nodup_cons]
    refine ⟨fun hm => ?_, nodup_map' h'.2 fun a ha b hb => hi a (List.mem_cons_of_mem _ ha) b (List.mem_cons_of_mem _ hb)⟩
    obtain ⟨y, hy, e⟩ := List.mem_map.mp hm
    have := hi x List.mem_cons_self y (List.mem_cons_of_mem _ hy) e.symm
    subst this
    exact h'.1 hy
theorem nodup_prod {α β γ : Type} {f : α → β → γ} {bs : List β} (hb : bs.Nodup) : ∀ {as : List α}, as.Nodup → (∀ x ∈ as, ∀ x' ∈ as, ∀ y ∈ bs, ∀ y' ∈ bs, f x y = f x' y' → x = x' ∧ y = y') → (as.flatMap fun x => bs.map (f x)).Nodup
  | [], _, _ => by simp
  | x :: as, ha, hi => by
    have h' := List.nodup_cons.mp ha
    rw [List.flatMap_cons, List.nodup_append]
    refine ⟨nodup_map' hb fun y hy y' hy' e => (hi x List.mem_cons_self x List.mem_cons_self y hy y' hy' e).2, nodup_prod hb h'.2 fun a ha b hb => hi a (List.mem_cons_of_mem _ ha) b (List.mem_cons_of_mem _ hb), fun u hu v hv e => ?_⟩
    obtain ⟨y, hy, rfl⟩ := List.mem_map.mp hu
    obtain ⟨x', hx', hv⟩ := List.mem_flatMap.mp hv
    obtain ⟨y', hy', rfl⟩ := List.mem_map.mp hv
    have := (hi x List.mem_cons_self x' (List.mem_cons_of_mem _ hx') y hy y' hy' e).1
    subst this
    exact h'.1 hx'
theorem nodup_wys {bs : List PV} (hb : bs.Nodup) : ∀ n, (wys bs n).Nodup
  | 0 => by simp [wys]
  | n + 1 => nodup_prod hb (nodup_wys hb n) fun x hx x' hx' y hy y' hy' e => by
    obtain ⟨l, rfl, _⟩ := wys_tup bs n hx
    obtain ⟨l', rfl, _⟩ := wys_tup bs n hx'
    simp only [ap1, PV.tup.injEq] at e
    have := List.append_inj' e rfl
    exact ⟨by rw [this.1], by simpa using this.2⟩
theorem nodup_ths : ∀ k : Kd, (ths k).Nodup
  | .none => by simp [ths]
  | .one => by simp [ths]
  | .either a b => by
    rw [ths, List.nodup_append]
    refine ⟨nodup_map' (nodup_ths a) fun x _ y _ e => by simpa using e, nodup_map' (nodup_ths b) fun x _ y _ e => by simpa using e, fun u hu v hv e => ?_⟩
    obtain ⟨x, _, rfl⟩ := List.mem_map.mp hu
    obtain ⟨y, _, rfl⟩ := List.mem_map.mp hv
    simp only [PV.tup.injEq, List.cons.injEq, PV.str.injEq] at e
    exact absurd e.1 (by decide)
  | .both a b => nodup_prod (nodup_ths b) (nodup_ths a) fun x _ x' _ y _ y' _ e => by simpa using e
  | .way a b => by
    rw [ths]
    exact nodup_map' (nodup_wys (nodup_ths b) _) fun x _ y _ e => by simpa using e
theorem ok_ths : ∀ (k : Kd) {x : PV}, x ∈ ths k → clean x = true ∧ depth x ≤ 2 * k.dep + 1
  | .none, x, h => by simp [ths] at h
  | .one, x, h => by
    simp [ths] at h
    subst h
    exact ⟨rfl, by simp [depth, depths]⟩
  | .either a b, x, h => by
    rw [ths, List.mem_append] at h
    have e : (Kd.either a b).dep = max a.dep b.dep + 1 := rfl
    rcases h with h | h
    · obtain ⟨y, hy, rfl⟩ := List.mem_map.mp h
      obtain ⟨h1, h2⟩ := ok_ths a hy
      exact ⟨by simp [clean, cleans, h1, ok_l], by simp only [depth, depths]; omega⟩
    · obtain ⟨y, hy, rfl⟩ := List.mem_map.mp h
      obtain ⟨h1, h2⟩ := ok_ths b hy
      exact ⟨by simp [clean, cleans, h1, ok_r], by simp only [depth, depths]; omega⟩
  | .both a b, x, h => by
    have e : (Kd.both a b).dep = max a.dep b.dep + 1 := rfl
    rw [ths] at h
    obtain ⟨y, hy, h⟩ := List.mem_flatMap.mp h
    obtain ⟨z, hz, rfl⟩ := List.mem_map.mp h
    obtain ⟨h1, h2⟩ := ok_ths a hy
    obtain ⟨h3, h4⟩ := ok_ths b hz
    exact ⟨by simp [clean, cleans, h1, h3, ok_p], by simp only [depth, depths]; omega⟩
  | .way a b, x, h => by
    have e : (Kd.way a b).dep = max a.dep b.dep + 1 := rfl
    rw [ths] at h
    obtain ⟨y, hy, rfl⟩ := List.mem_map.mp h
    obtain ⟨l, rfl, _, hl⟩ := wys_tup _ _ hy
    have h1 : cleans l = true := cleans_iff.mpr fun z hz => (ok_ths b (hl z hz)).1
    have h2 : depths l ≤ 2 * b.dep + 1 := depths_le.mpr fun z hz => (ok_ths b (hl z hz)).2
    exact ⟨by simp [clean, cleans, h1, ok_w], by simp only [depth, depths]; omega⟩
theorem ok_K : ∀ k : Kd, clean (K k) = true ∧ depth (K k) ≤ k.dep + 1
  | .none => ⟨by simp [K, clean, cleans, ok_none], by simp [K, depth, depths]⟩
  | .one => ⟨by simp [K, clean, cleans, ok_one], by simp [K, depth, depths]⟩
  | .either a b => ⟨by simp [K, clean, cleans, ok_either, (ok_K a).1, (ok_K b).1], by have := (ok_K a).2; have := (ok_K b).2; simp only [K, depth, depths, Kd.dep]; omega⟩
  | .both a b => ⟨by simp [K, clean, cleans, ok_both, (ok_K a).1, (ok_K b).1], by have := (ok_K a).2; have := (ok_K b).2; simp only [K, depth, depths, Kd.dep]; omega⟩
  | .way a b => ⟨by simp [K, clean, cleans, ok_way, (ok_K a).1, (ok_K b).1], by have := (ok_K a).2; have := (ok_K b).2; simp only [K, depth, depths, Kd.dep]; omega⟩
theorem K_inj : ∀ a b : Kd, K a = K b → a = b
  | .none, b, h => by cases b <;> first | rfl | (simp [K] at h) <;> (first | exact absurd h (by decide) | exact absurd h.1 (by decide))
  | .one, b, h => by cases b <;> first | rfl | (simp [K] at h) <;> (first | exact absurd h (by decide) | exact absurd h.1 (by decide))
  | .either a1 a2, b, h => by
    cases b with
    | either b1 b2 =>
      simp [K] at h
      rw [K_inj a1 b1 h.1, K_inj a2 b2 h.2]
    | _ => simp [K] at h <;> exact absurd h.1 (by decide)
  | .both a1 a2, b, h => by
    cases b with
    | both b1 b2 =>
      simp [K] at h
      rw [K_inj a1 b1 h.1, K_inj a2 b2 h.2]
    | _ => simp [K] at h <;> exact absurd h.1 (by decide)
  | .way a1 a2, b, h => by
    cases b with
    | way b1 b2 =>
      simp [K] at h
      rw [K_inj a1 b1 h.1, K_inj a2 b2 h.2]
    | _ => simp [K] at h <;> exact absurd h.1 (by decide)
/-- its count can be reckoned -/
def Kd.fit : Kd → Prop
  | .none => True
  | .one => True
  | .either a b => a.fit ∧ b.fit
  | .both a b => a.fit ∧ b.fit ∧ mulOk (a.cnt : Nat) (b.cnt : Nat) = true
  | .way a b => a.fit ∧ b.fit ∧ a.cnt ≤ 1000 ∧ b.cnt < 2 ^ 62
theorem Kd.le.fit {m : Nat} (hm : m ≤ 1000) : ∀ {k : Kd}, k.le m → k.fit
  | .none, _ => trivial
  | .one, _ => trivial
  | .either a b, h => ⟨h.2.1.fit hm, h.2.2.fit hm⟩
  | .both a b, h => ⟨h.2.1.fit hm, h.2.2.fit hm, mulOk_l (by have := h.2.1.cnt; omega)⟩
  | .way a b, h => ⟨h.2.1.fit hm, h.2.2.fit hm, by have := h.2.1.cnt; omega, by have := h.2.2.cnt; omega⟩
/-- the deck's cell -/
def Dk (ds : List Int) : Option (List PV) := some (ds.map .int)
theorem co_dk {ds : List Int} {τ : QSt} : cellO (Dk ds :: τ) 0 = some (ds.map .int) := rfl
theorem keep_app {σ τ l : QSt} (h : σ.take τ.length = τ) : (σ ++ l).take τ.length = τ := by
  have := congrArg List.length h
  rw [List.length_take] at this
  rw [List.take_append_of_le_length (by omega)]
  exact h
theorem ints_snoc (ds : List Int) (a : Int) : ds.map PV.int ++ [PV.int a] = (ds ++ [a]).map PV.int := by simp
theorem ints_snoc2 (ds : List Int) (a b : Int) : ds.map PV.int ++ [PV.int a, PV.int b] = (ds ++ [a, b]).map PV.int := by simp
theorem ints_append (a b : List Int) : a.map PV.int ++ b.map PV.int = (a ++ b).map PV.int := by simp
theorem map_mid {α β : Type} {f : α → β} {l : List α} {pre suf : List β} {y : β} (h : l.map f = pre ++ y :: suf) : ∃ p x s, l = p ++ x :: s ∧ pre = p.map f ∧ y = f x := by
  obtain ⟨p, q, rfl, hp, hq⟩ := List.map_eq_append_iff.mp h
  obtain ⟨x, s, rfl, hx, hs⟩ := List.map_eq_cons_iff.mp hq
  exact ⟨p, x, s, rfl, hp.symm, hx.symm⟩
end EK

namespace EK
open PySem PySem.Spec L2
/-! ### programs -/
inductive Pg where
  | name (n : Nat) | star | pair (a b : Pg) | left (k : Kd) (a : Pg) | right (k : Kd) (a : Pg) | way (k : Kd) (a : Pg)
  | case (c a b : Pg) | first (a : Pg) | second (a : Pg) | give (a b : Pg) | lets (a b : Pg) | never (k : Kd) (a : Pg)
  deriving DecidableEq, Inhabited
/-- as the program writes it -/
def PP : Pg → PV
  | .name n => .tup [.str "name", .int (n : Nat)]
  | .star => .tup [.str "star"]
  | .pair a b => .tup [.str "pair", PP a, PP b]
  | .left k a => .tup [.str "left", K k, PP a]
  | .right k a => .tup [.str "right", K k, PP a]
  | .way k a => .tup [.str "way", K k, PP a]
  | .case c a b => .tup [.str "case", PP c, PP a, PP b]
  | .first a => .tup [.str "first", PP a]
  | .second a => .tup [.str "second", PP a]
  | .give a b => .tup [.str "give", PP a, PP b]
  | .lets a b => .tup [.str "let", PP a, PP b]
  | .never k a => .tup [.str "never", K k, PP a]
namespace Pg
/-- what stands ahead of the inner ones -/
def hdr : Pg → List PV
  | name n => [.str "name", .int (n : Nat)]
  | star => [.str "star"]
  | pair _ _ => [.str "pair"]
  | left k _ => [.str "left", K k]
  | right k _ => [.str "right", K k]
  | way k _ => [.str "way", K k]
  | case _ _ _ => [.str "case"]
  | first _ => [.str "first"]
  | second _ => [.str "second"]
  | give _ _ => [.str "give"]
  | lets _ _ => [.str "let"]
  | never k _ => [.str "never", K k]
def kids : Pg → List Pg
  | name _ => []
  | star => []
  | pair a b => [a, b]
  | left _ a => [a]
  | right _ a => [a]
  | way _ a => [a]
  | case c a b => [c, a, b]
  | first a => [a]
  | second a => [a]
  | give a b => [a, b]
  | lets a b => [a, b]
  | never _ a => [a]
/-- how deep, kinds too -/
def pd : Pg → Nat
  | name _ => 0
  | star => 0
  | pair a b => max a.pd b.pd + 1
  | left k a => max k.dep a.pd + 1
  | right k a => max k.dep a.pd + 1
  | way k a => max k.dep a.pd + 1
  | case c a b => max c.pd (max a.pd b.pd) + 1
  | first a => a.pd + 1
  | second a => a.pd + 1
  | give a b => max a.pd b.pd + 1
  | lets a b => max a.pd b.pd + 1
  | never k a => max k.dep a.pd + 1
def parts : Pg → Nat
  | name _ => 1
  | star => 1
  | pair a b => 1 + (a.parts + b.parts)
  | left _ a => 1 + a.parts
  | right _ a => 1 + a.parts
  | way _ a => 1 + a.parts
  | case c a b => 1 + (c.parts + (a.parts + b.parts))
  | first a => 1 + a.parts
  | second a => 1 + a.parts
  | give a b => 1 + (a.parts + b.parts)
  | lets a b => 1 + (a.parts + b.parts)
  | never _ a => 1 + a.parts
end Pg
theorem PP_eq (p : Pg) : PP p = .tup (p.hdr ++ p.kids.map PP) := by cases p <;> rfl
theorem kids_pd {p q : Pg} (h : q ∈ p.kids) : q.pd < p.pd := by
  cases p <;> simp only [Pg.kids, List.mem_cons, List.not_mem_nil, or_false] at h <;> simp only [Pg.pd] <;> first | (subst h; omega) | (rcases h with rfl | rfl | rfl <;> omega) | (rcases h with rfl | rfl <;> omega)
theorem kids_parts (p : Pg) : p.parts = 1 + (p.kids.map Pg.parts).sum := by
  cases p <;> simp [Pg.parts, Pg.kids] 
theorem kids_len (p : Pg) : p.kids.length ≤ 3 := by cases p <;> simp [Pg.kids]
theorem hdr_len (p : Pg) : 1 ≤ p.hdr.length ∧ p.hdr.length ≤ 2 := by cases p <;> simp [Pg.hdr]
theorem ok_PP : ∀ p : Pg, clean (PP p) = true ∧ depth (PP p) ≤ p.pd + 2
  | .name n => ⟨by simp [PP, clean, cleans, ok_name], by simp [PP, depth, depths, Pg.pd]⟩
  | .star => ⟨by simp [PP, clean, cleans, ok_star], by simp [PP, depth, depths, Pg.pd]⟩
  | .pair a b => by
    have ha := ok_PP a; have hb := ok_PP b
    exact ⟨by simp [PP, clean, cleans, ok_pair, ha.1, hb.1], by simp only [PP, depth, depths, Pg.pd]; omega⟩
  | .left k a => by
    have ha := ok_PP a; have hk := ok_K k
    exact ⟨by simp [PP, clean, cleans, ok_left, ha.1, hk.1], by simp only [PP, depth, depths, Pg.pd]; omega⟩
  | .right k a => by
    have ha := ok_PP a; have hk := ok_K k
    exact ⟨by simp [PP, clean, cleans, ok_right, ha.1, hk.1], by simp only [PP, depth, depths, Pg.pd]; omega⟩
  | .way k a => by
    have ha := ok_PP a; have hk := ok_K k
    exact ⟨by simp [PP, clean, cleans, ok_way, ha.1, hk.1], by simp only [PP, depth, depths, Pg.pd]; omega⟩
  | .case c a b => by
    have hc := ok_PP c; have ha := ok_PP a; have hb := ok_PP b
    exact ⟨by simp [PP, clean, cleans, ok_case, hc.1, ha.1, hb.1], by simp only [PP, depth, depths, Pg.pd]; omega⟩
  | .first a => by
    have ha := ok_PP a
    exact ⟨by simp [PP, clean, cleans, ok_first, ha.1], by simp only [PP, depth, depths, Pg.pd]; omega⟩
  | .second a => by
    have ha := ok_PP a
    exact ⟨by simp [PP, clean, cleans, ok_second, ha.1], by simp only [PP, depth, depths, Pg.pd]; omega⟩
  | .give a b => by
    have ha := ok_PP a; have hb := ok_PP b
    exact ⟨by simp [PP, clean, cleans, ok_give, ha.1, hb.1], by simp only [PP, depth, depths, Pg.pd]; omega⟩
  | .lets a b => by
    have ha := ok_PP a; have hb := ok_PP b
    exact ⟨by simp [PP, clean, cleans, ok_let, ha.1, hb.1], by simp only [PP, depth, depths, Pg.pd]; omega⟩
  | .never k a => by
    have ha := ok_PP a; have hk := ok_K k
    exact ⟨by simp [PP, clean, cleans, ok_never, ha.1, hk.1], by simp only [PP, depth, depths, Pg.pd]; omega⟩
/-- a kind with things; none stands within ways and eithers alone -/
def Kd.Gd : Kd → Prop
  | .none => False
  | .one => True
  | .either a b => (a.Gd ∨ a = .none) ∧ (b.Gd ∨ b = .none) ∧ (a.Gd ∨ b.Gd)
  | .both a b => a.Gd ∧ b.Gd
  | .way a b => (a.Gd ∨ a = .none) ∧ b.Gd
theorem Kd.Gd.cnt : ∀ {k : Kd}, k.Gd → 1 ≤ k.cnt
  | .one, _ => Nat.le_refl _
  | .either a b, h => by
    have h := h.2.2
    simp only [Kd.cnt]
    rcases h with h | h
    · have := h.cnt; omega
    · have := h.cnt; omega
  | .both a b, h => Nat.mul_pos h.1.cnt h.2.cnt
  | .way a b, h => Nat.pow_pos h.2.cnt
/-! ### kinds of programs -/
def TyP (P : Kd → Prop) : List Kd → Pg → Kd → Prop
  | ns, .name n, k => P k ∧ ns[n]? = some k
  | _, .star, k => P k ∧ k = .one
  | ns, .pair a b, k => P k ∧ ∃ ka kb, k = .both ka kb ∧ TyP P ns a ka ∧ TyP P ns b kb
  | ns, .left kb a, k => P k ∧ ∃ ka, k = .either ka kb ∧ TyP P ns a ka
  | ns, .right ka b, k => P k ∧ ∃ kb, k = .either ka kb ∧ TyP P ns b kb
  | ns, .way ka b, k => P k ∧ ∃ kb, k = .way ka kb ∧ TyP P (ka :: ns) b kb
  | ns, .case c a b, k => P k ∧ ∃ ka kb, TyP P ns c (.either ka kb) ∧ TyP P (ka :: ns) a k ∧ TyP P (kb :: ns) b k
  | ns, .first a, k => P k ∧ ∃ kb, TyP P ns a (.both k kb)
  | ns, .second a, k => P k ∧ ∃ ka, TyP P ns a (.both ka k)
  | ns, .give f x, k => P k ∧ ∃ ka, TyP P ns f (.way ka k) ∧ TyP P ns x ka
  | ns, .lets a b, k => P k ∧ ∃ ka, TyP P ns a ka ∧ TyP P (ka :: ns) b k
  | ns, .never k' a, k => P k ∧ k' = k ∧ TyP P ns a .none
abbrev Ty := TyP (fun k => k.dep ≤ 100)
theorem TyP.here {P : Kd → Prop} : ∀ {ns : List Kd} {p : Pg} {k : Kd}, TyP P ns p k → P k
  | _, .name _, _, h => h.1
  | _, .star, _, h => h.1
  | _, .pair _ _, _, h => h.1
  | _, .left _ _, _, h => h.1
  | _, .right _ _, _, h => h.1
  | _, .way _ _, _, h => h.1
  | _, .case _ _ _, _, h => h.1
  | _, .first _, _, h => h.1
  | _, .second _, _, h => h.1
  | _, .give _ _, _, h => h.1
  | _, .lets _ _, _, h => h.1
  | _, .never _ _, _, h => h.1
theorem Ty.dep {ns : List Kd} {p : Pg} {k : Kd} (h : Ty ns p k) : k.dep ≤ 100 := h.here
/-- the least program of a kind with things -/
def leastP : Kd → Pg
  | .none => .name 0
  | .one => .star
  | .both a b => .pair (leastP a) (leastP b)
  | .way a b => .way a (leastP b)
  | .either a b => if 0 < a.cnt then .left b (leastP a) else .right a (leastP b)
theorem least_pd : ∀ k : Kd, (leastP k).pd ≤ k.dep
  | .none => Nat.le_refl _
  | .one => Nat.le_refl _
  | .both a b => by
    have := least_pd a; have := least_pd b
    simp only [leastP, Pg.pd, Kd.dep]; omega
  | .way a b => by
    have := least_pd b
    simp only [leastP, Pg.pd, Kd.dep]; omega
  | .either a b => by
    have := least_pd a; have := least_pd b
    simp only [leastP]
    split <;> (simp only [Pg.pd, Kd.dep]; omega)
theorem least_parts : ∀ k : Kd, (leastP k).parts + 1 ≤ 2 ^ (k.dep + 1)
  | .none => by simp [leastP, Pg.parts, Kd.dep]
  | .one => by simp [leastP, Pg.parts, Kd.dep]
  | .both a b => by
    have h1 := least_parts a; have h2 := least_parts b
    have h3 : 2 ^ (a.dep + 1) ≤ 2 ^ (max a.dep b.dep + 1) := Nat.pow_le_pow_right (by decide) (by omega)
    have h4 : 2 ^ (b.dep + 1) ≤ 2 ^ (max a.dep b.dep + 1) := Nat.pow_le_pow_right (by decide) (by omega)
    simp only [leastP, Pg.parts, Kd.dep]
    rw [Nat.pow_succ 2 (max a.dep b.dep + 1)]
    omega
  | .way a b => by
    have h2 := least_parts b
    have h4 : 2 ^ (b.dep + 1) ≤ 2 ^ (max a.dep b.dep + 1) := Nat.pow_le_pow_right (by decide) (by omega)
    have h5 : 1 ≤ 2 ^ (b.dep + 1) := Nat.pow_pos (by decide)
    simp only [leastP, Pg.parts, Kd.dep]
    rw [Nat.pow_succ 2 (max a.dep b.dep + 1)]
    omega
  | .either a b => by
    have h1 := least_parts a; have h2 := least_parts b
    have h3 : 2 ^ (a.dep + 1) ≤ 2 ^ (max a.dep b.dep + 1) := Nat.pow_le_pow_right (by decide) (by omega)
    have h4 : 2 ^ (b.dep + 1) ≤ 2 ^ (max a.dep b.dep + 1) := Nat.pow_le_pow_right (by decide) (by omega)
    have h5 : 1 ≤ 2 ^ (b.dep + 1) := Nat.pow_pos (by decide)
    simp only [leastP, Kd.dep]
    rw [Nat.pow_succ 2 (max a.dep b.dep + 1)]
    split <;> (simp only [Pg.parts]; omega)
theorem Kd.Gd.of_cnt {a : Kd} (h : a.Gd ∨ a = .none) (h0 : 0 < a.cnt) : a.Gd := by
  rcases h with h | rfl
  · exact h
  · simp [Kd.cnt] at h0
theorem Kd.Gd.ne {a : Kd} (h : a.Gd) : a ≠ .none := by rintro rfl; exact h
theorem least_ty : ∀ (k : Kd) (ns : List Kd), k.Gd → k.dep ≤ 100 → Ty ns (leastP k) k
  | .one, _, _, hd => ⟨hd, rfl⟩
  | .both a b, ns, h, hd => ⟨hd, a, b, rfl, least_ty a ns h.1 (by simp only [Kd.dep] at hd; omega), least_ty b ns h.2 (by simp only [Kd.dep] at hd; omega)⟩
  | .way a b, ns, h, hd => ⟨hd, b, rfl, least_ty b (a :: ns) h.2 (by simp only [Kd.dep] at hd; omega)⟩
  | .either a b, ns, h, hd => by
    simp only [leastP]
    have hd2 : a.dep ≤ 100 ∧ b.dep ≤ 100 := by simp only [Kd.dep] at hd; omega
    split
    · rename_i h0
      exact ⟨hd, a, rfl, least_ty a ns (Kd.Gd.of_cnt h.1 h0) hd2.1⟩
    · rename_i h0
      refine ⟨hd, b, rfl, least_ty b ns ?_ hd2.2⟩
      rcases h.2.2 with h | h
      · have := h.cnt; omega
      · exact h
/-- names that the laws draw -/
structure NsOk (n : Nat) (ns : List Kd) : Prop where
  len : ns.length ≤ n
  dep : ∀ k ∈ ns, k.dep ≤ 10
theorem NsOk.mono {n m : Nat} {ns : List Kd} (h : NsOk n ns) (hm : n ≤ m) : NsOk m ns := ⟨by have := h.len; omega, h.dep⟩
theorem NsOk.cons {n : Nat} {ns : List Kd} {k : Kd} (h : NsOk n ns) (hk : k.dep ≤ 10) : NsOk (n + 1) (k :: ns) := ⟨by have := h.len; simp; omega, by simp [hk]; exact h.dep⟩
theorem NsOk.clean {n : Nat} {ns : List Kd} (_ : NsOk n ns) : cleans (ns.map K) = true := cleans_iff.mpr fun x hx => by
  obtain ⟨k, _, rfl⟩ := List.mem_map.mp hx
  exact (ok_K k).1
theorem NsOk.depth {n : Nat} {ns : List Kd} (h : NsOk n ns) : depths (ns.map K) ≤ 20 := depths_le.mpr fun x hx => by
  obtain ⟨k, hk, rfl⟩ := List.mem_map.mp hx
  have := (ok_K k).2; have := h.dep k hk; omega
theorem cmp_of {x y : PV} (hx : clean x = true) (hy : clean y = true) (dx : depth x ≤ 140) (dy : depth y ≤ 140) : cmpOk x y = true := by
  simp only [cmpOk, hx, hy, Bool.true_and, Bool.or_eq_true, Bool.and_eq_true, decide_eq_true_eq]
  exact .inl ⟨by omega, by omega⟩
theorem cmp_K {a b : Kd} (ha : a.dep ≤ 100) (hb : b.dep ≤ 100) : cmpOk (K a) (K b) = true :=
  cmp_of (ok_K a).1 (ok_K b).1 (by have := (ok_K a).2; omega) (by have := (ok_K b).2; omega)
theorem beq_K {a b : Kd} : beqPV (K a) (K b) = decide (a = b) := by
  by_cases h : a = b
  · subst h; simp [beq_refl _ (ok_K a).1]
  · simp only [h, decide_false]
    cases e : beqPV (K a) (K b) with
    | false => rfl
    | true => exact (h (K_inj _ _ (beq_eq _ _ (ok_K a).1 e))).elim
/-- where none stands among the names -/
theorem idx_none {n : Nat} {ns : List Kd} (h : NsOk n ns) (hm : .none ∈ ns) : ∃ i : Nat, idxQ (K .none) (ns.map K) = some (.int (i : Nat)) ∧ ns[i]? = some .none := by
  have e : ((ns.map K).findIdx? fun y => beqPV y (K .none)) = ns.findIdx? fun k => decide (k = .none) := by
    rw [List.findIdx?_map]
    congr 1
    funext k
    exact beq_K
  cases q : ns.findIdx? fun k => decide (k = .none) with
  | none =>
    rw [List.findIdx?_eq_none_iff] at q
    have := q _ hm
    simp at this
  | some i =>
    refine ⟨i, ?_, ?_⟩
    · unfold idxQ
      rw [if_pos (by have := h.depth; have h2 := ok_K .none; simp [h.clean, h2.1]; exact ⟨by have := h2.2; simp [Kd.dep] at this; omega, by omega⟩), e, q]
      rfl
    · rw [List.findIdx?_eq_some_iff_getElem] at q
      obtain ⟨hi, hp, _⟩ := q
      rw [List.getElem?_eq_getElem hi]
      simp at hp
      rw [hp]
theorem any_none {ns : List Kd} : ((ns.map K).any fun y => beqPV y (K .none)) = decide (.none ∈ ns) := by
  rw [List.any_map]
  induction ns with
  | nil => rfl
  | cons a ns ih => 
    rw [List.any_cons, ih]
    simp only [Function.comp_apply, beq_K, List.mem_cons]
    by_cases h : a = .none
    · subst h; simp
    · have : ¬ Kd.none = a := fun e => h e.symm
      simp [h, this]
end EK

namespace EK
open PySem PySem.Spec L2
/-! ### names turned -/
/-- names more at the k-th inner one -/
def Pg.und : Pg → Nat → Nat
  | .way _ _, _ => 1
  | .lets _ _, k => if k = 1 then 1 else 0
  | .case _ _ _, k => if k = 0 then 0 else 1
  | _, _ => 0
def tn (f : Nat → Nat → Pg) : Pg → Nat → Pg
  | .name n, d => f n d
  | .star, _ => .star
  | .pair a b, d => .pair (tn f a d) (tn f b d)
  | .left k a, d => .left k (tn f a d)
  | .right k a, d => .right k (tn f a d)
  | .way k a, d => .way k (tn f a (d + 1))
  | .case c a b, d => .case (tn f c d) (tn f a (d + 1)) (tn f b (d + 1))
  | .first a, d => .first (tn f a d)
  | .second a, d => .second (tn f a d)
  | .give a b, d => .give (tn f a d) (tn f b d)
  | .lets a b, d => .lets (tn f a d) (tn f b (d + 1))
  | .never k a, d => .never k (tn f a d)
def lfF (m l n d : Nat) : Pg := if d + l ≤ n then .name (n + m) else .name n
def lf (m l : Nat) (p : Pg) : Pg := tn (lfF m l) p 0
def ptF (o : Pg) (n d : Nat) : Pg := if n < d then .name n else if n = d then lf d 0 o else .name (n - 1)
def pt (p o : Pg) : Pg := tn (ptF o) p 0
theorem tn_kids {f : Nat → Nat → Pg} {p : Pg} {d : Nat} (h : ∀ n, p ≠ .name n) : (tn f p d).hdr = p.hdr ∧ (tn f p d).kids.length = p.kids.length ∧ ∀ (k : Nat) q, p.kids[k]? = some q → (tn f p d).kids[k]? = some (tn f q (d + p.und k)) := by
  cases p with
  | name n => exact (h n rfl).elim
  | star => exact ⟨rfl, rfl, fun k q e => by simp [Pg.kids] at e⟩
  | way _ a => exact ⟨rfl, rfl, fun k q e => by
    match k, e with
    | 0, e => cases e; rfl⟩
  | left _ a => exact ⟨rfl, rfl, fun k q e => by
    match k, e with
    | 0, e => cases e; rfl⟩
  | right _ a => exact ⟨rfl, rfl, fun k q e => by
    match k, e with
    | 0, e => cases e; rfl⟩
  | never _ a => exact ⟨rfl, rfl, fun k q e => by
    match k, e with
    | 0, e => cases e; rfl⟩
  | first a => exact ⟨rfl, rfl, fun k q e => by
    match k, e with
    | 0, e => cases e; rfl⟩
  | second a => exact ⟨rfl, rfl, fun k q e => by
    match k, e with
    | 0, e => cases e; rfl⟩
  | pair a b => exact ⟨rfl, rfl, fun k q e => by
    match k, e with
    | 0, e => cases e; rfl
    | 1, e => cases e; rfl⟩
  | give a b => exact ⟨rfl, rfl, fun k q e => by
    match k, e with
    | 0, e => cases e; rfl
    | 1, e => cases e; rfl⟩
  | lets a b => exact ⟨rfl, rfl, fun k q e => by
    match k, e with
    | 0, e => cases e; rfl
    | 1, e => cases e; rfl⟩
  | case c a b => exact ⟨rfl, rfl, fun k q e => by
    match k, e with
    | 0, e => cases e; rfl
    | 1, e => cases e; rfl
    | 2, e => cases e; rfl⟩
theorem tn_tn {f g : Nat → Nat → Pg} {c : Nat} : ∀ (p : Pg) (d : Nat), tn g (tn f p d) (d + c) = tn (fun n d => tn g (f n d) (d + c)) p d
  | .name n, d => rfl
  | .star, _ => rfl
  | .pair a b, d => by simp only [tn]; rw [tn_tn a d, tn_tn b d]
  | .left k a, d => by simp only [tn]; rw [tn_tn a d]
  | .right k a, d => by simp only [tn]; rw [tn_tn a d]
  | .way k a, d => by simp only [tn]; rw [Nat.add_right_comm, tn_tn a (d + 1)]
  | .case e a b, d => by simp only [tn]; rw [tn_tn e d, Nat.add_right_comm, tn_tn a (d + 1), tn_tn b (d + 1)]
  | .first a, d => by simp only [tn]; rw [tn_tn a d]
  | .second a, d => by simp only [tn]; rw [tn_tn a d]
  | .give a b, d => by simp only [tn]; rw [tn_tn a d, tn_tn b d]
  | .lets a b, d => by simp only [tn]; rw [tn_tn a d, Nat.add_right_comm, tn_tn b (d + 1)]
  | .never k a, d => by simp only [tn]; rw [tn_tn a d]
theorem tn_congr {f g : Nat → Nat → Pg} (h : ∀ n d, f n d = g n d) (p : Pg) (d : Nat) : tn f p d = tn g p d := by
  have : f = g := by funext n d; exact h n d
  rw [this]
theorem tn_id {f : Nat → Nat → Pg} (h : ∀ n d, f n d = .name n) : ∀ (p : Pg) (d : Nat), tn f p d = p
  | .name n, d => h n d
  | .star, _ => rfl
  | .pair a b, d => by simp only [tn, tn_id h a, tn_id h b]
  | .left k a, d => by simp only [tn, tn_id h a]
  | .right k a, d => by simp only [tn, tn_id h a]
  | .way k a, d => by simp only [tn, tn_id h a]
  | .case e a b, d => by simp only [tn, tn_id h e, tn_id h a, tn_id h b]
  | .first a, d => by simp only [tn, tn_id h a]
  | .second a, d => by simp only [tn, tn_id h a]
  | .give a b, d => by simp only [tn, tn_id h a, tn_id h b]
  | .lets a b, d => by simp only [tn, tn_id h a, tn_id h b]
  | .never k a, d => by simp only [tn, tn_id h a]
theorem pt_lf (p o : Pg) : pt (lf 1 0 p) o = p := by
  unfold pt lf
  rw [show (0 : Nat) = 0 + 0 from rfl, tn_tn]
  refine tn_id (fun n d => ?_) p _
  unfold lfF
  split
  · simp only [tn, ptF]
    rw [if_neg (by omega), if_neg (by omega)]
    rfl
  · simp only [tn, ptF]
    rw [if_pos (by omega)]
theorem pt_lf1 (p : Pg) : pt (lf 1 1 p) (.name 0) = p := by
  unfold pt lf
  rw [show (0 : Nat) = 0 + 0 from rfl, tn_tn]
  refine tn_id (fun n d => ?_) p _
  unfold lfF
  split
  · simp only [tn, ptF]
    rw [if_neg (by omega), if_neg (by omega)]
    rfl
  · simp only [tn, ptF]
    by_cases h : n < d
    · rw [if_pos (by omega)]
    · rw [if_neg (by omega), if_pos (by omega)]
      simp only [lf, tn, lfF]
      rw [if_pos (by omega)]
      congr 1
      omega
theorem lf_lf (m l d : Nat) (o : Pg) (e : Nat) : tn (lfF m l) (tn (lfF d 0) o e) (e + d) = tn (lfF d 0) (tn (lfF m l) o e) e := by
  rw [tn_tn, show tn (lfF d 0) (tn (lfF m l) o e) e = tn (lfF d 0) (tn (lfF m l) o e) (e + 0) from rfl, tn_tn]
  refine tn_congr (fun n e => ?_) o e
  unfold lfF
  by_cases h1 : e + 0 ≤ n <;> by_cases h2 : e + l ≤ n
  · rw [if_pos h1, if_pos h2]
    simp only [tn]
    rw [if_pos (by omega), if_pos (by omega)]
    congr 1
    omega
  · rw [if_pos h1, if_neg h2]
    simp only [tn]
    rw [if_neg (by omega), if_pos (by omega)]
  · omega
  · rw [if_neg h1, if_neg h2]
    simp only [tn]
    rw [if_neg (by omega), if_neg (by omega)]
theorem lf_pt (h o : Pg) (m l : Nat) : lf m l (pt h o) = pt (lf m (l + 1) h) (lf m l o) := by
  unfold pt
  rw [show lf m l (tn (ptF o) h 0) = tn (lfF m l) (tn (ptF o) h 0) (0 + 0) from rfl, tn_tn, show lf m (l + 1) h = tn (lfF m (l + 1)) h 0 from rfl,
    show ∀ q, tn (ptF (lf m l o)) q 0 = tn (ptF (lf m l o)) q (0 + 0) from fun _ => rfl, tn_tn]
  refine tn_congr (fun n d => ?_) h 0
  rw [Nat.add_zero]
  unfold ptF
  by_cases h1 : n < d
  · rw [if_pos h1]
    simp only [tn, lfF]
    rw [if_neg (by omega), if_neg (by omega)]
    simp only [tn]
    rw [if_pos h1]
  · rw [if_neg h1]
    by_cases h2 : n = d
    · rw [if_pos h2]
      simp only [lfF]
      rw [if_neg (by omega)]
      simp only [tn]
      rw [if_neg h1, if_pos h2]
      have := lf_lf m l d o 0
      rw [Nat.zero_add] at this
      exact this
    · rw [if_neg h2]
      simp only [tn, lfF]
      by_cases h3 : d + (l + 1) ≤ n
      · rw [if_pos (by omega), if_pos h3]
        simp only [tn]
        rw [if_neg (by omega), if_neg (by omega)]
        congr 1
        omega
      · rw [if_neg (by omega), if_neg h3]
        simp only [tn]
        rw [if_neg h1, if_neg h2]
theorem lf_more (m m2 l : Nat) (p : Pg) : lf m2 l (lf m l p) = lf (m + m2) l p := by
  unfold lf
  rw [show tn (lfF m2 l) (tn (lfF m l) p 0) 0 = tn (lfF m2 l) (tn (lfF m l) p 0) (0 + 0) from rfl, tn_tn]
  refine tn_congr (fun n d => ?_) p 0
  unfold lfF
  by_cases h : d + l ≤ n
  · rw [if_pos h, if_pos h]
    simp only [tn]
    rw [if_pos (by omega)]
    congr 1
    omega
  · rw [if_neg h, if_neg h]
    simp only [tn]
    rw [if_neg (by omega)]
theorem lf_none {l : Nat} {p : Pg} : lf 0 l p = p := tn_id (fun n d => by unfold lfF; split <;> rfl) p 0
/-- beyond all names -/
theorem lf_far {P : Kd → Prop} (m l : Nat) : ∀ (p : Pg) (k : Kd) (ns : List Kd) (d : Nat), TyP P ns p k → ns.length ≤ d + l → tn (lfF m l) p d = p
  | .name n, k, ns, d, h, hl => by
    have := (List.getElem?_eq_some_iff.mp h.2).1
    simp only [tn, lfF]
    rw [if_neg (by omega)]
  | .star, _, _, _, _, _ => rfl
  | .pair a b, k, ns, d, ⟨_, ka, kb, _, ha, hb⟩, hl => by simp only [tn, lf_far m l a ka ns d ha hl, lf_far m l b kb ns d hb hl]
  | .left k' a, k, ns, d, ⟨_, ka, _, ha⟩, hl => by simp only [tn, lf_far m l a ka ns d ha hl]
  | .right k' a, k, ns, d, ⟨_, ka, _, ha⟩, hl => by simp only [tn, lf_far m l a ka ns d ha hl]
  | .way k' a, k, ns, d, ⟨_, ka, _, ha⟩, hl => by simp only [tn, lf_far m l a ka (k' :: ns) (d + 1) ha (by simp; omega)]
  | .case c a b, k, ns, d, ⟨_, ka, kb, hc, ha, hb⟩, hl => by simp only [tn, lf_far m l c _ ns d hc hl, lf_far m l a k (ka :: ns) (d + 1) ha (by simp; omega), lf_far m l b k (kb :: ns) (d + 1) hb (by simp; omega)]
  | .first a, k, ns, d, ⟨_, _, ha⟩, hl => by simp only [tn, lf_far m l a _ ns d ha hl]
  | .second a, k, ns, d, ⟨_, _, ha⟩, hl => by simp only [tn, lf_far m l a _ ns d ha hl]
  | .give a b, k, ns, d, ⟨_, _, ha, hb⟩, hl => by simp only [tn, lf_far m l a _ ns d ha hl, lf_far m l b _ ns d hb hl]
  | .lets a b, k, ns, d, ⟨_, ka, ha, hb⟩, hl => by simp only [tn, lf_far m l a _ ns d ha hl, lf_far m l b _ (ka :: ns) (d + 1) hb (by simp; omega)]
  | .never k' a, k, ns, d, ⟨_, _, ha⟩, hl => by simp only [tn, lf_far m l a _ ns d ha hl]
/-! ### kinds stay -/
theorem lf_ty {P : Kd → Prop} (b c : List Kd) (l : Nat) : ∀ (p : Pg) (k : Kd) (a : List Kd) (d : Nat), TyP P (a ++ c) p k → a.length = d + l → TyP P (a ++ (b ++ c)) (tn (lfF b.length l) p d) k
  | .name n, k, a, d, h, hl => by
    obtain ⟨hk, h⟩ : P k ∧ (a ++ c)[n]? = some k := h
    simp only [tn, lfF]
    split
    · refine ⟨hk, ?_⟩
      show (a ++ (b ++ c))[n + b.length]? = some k
      rw [List.getElem?_append_right (by omega)] at h
      rw [List.getElem?_append_right (by omega), List.getElem?_append_right (by omega), ← h]
      congr 1
      omega
    · refine ⟨hk, ?_⟩
      show (a ++ (b ++ c))[n]? = some k
      rw [List.getElem?_append_left (by omega)] at h
      rw [List.getElem?_append_left (by omega), h]
  | .star, _, _, _, h, _ => h
  | .pair x y, k, a, d, ⟨hk, ka, kb, e, hx, hy⟩, hl => ⟨hk, ka, kb, e, lf_ty b c l x ka a d hx hl, lf_ty b c l y kb a d hy hl⟩
  | .left k' x, k, a, d, ⟨hk, ka, e, hx⟩, hl => ⟨hk, ka, e, lf_ty b c l x ka a d hx hl⟩
  | .right k' x, k, a, d, ⟨hk, ka, e, hx⟩, hl => ⟨hk, ka, e, lf_ty b c l x ka a d hx hl⟩
  | .way k' x, k, a, d, ⟨hk, ka, e, hx⟩, hl => ⟨hk, ka, e, lf_ty b c l x ka (k' :: a) (d + 1) hx (by simp; omega)⟩
  | .case z x y, k, a, d, ⟨hk, ka, kb, hz, hx, hy⟩, hl => ⟨hk, ka, kb, lf_ty b c l z _ a d hz hl, lf_ty b c l x k (ka :: a) (d + 1) hx (by simp; omega), lf_ty b c l y k (kb :: a) (d + 1) hy (by simp; omega)⟩
  | .first x, k, a, d, ⟨hk, kb, hx⟩, hl => ⟨hk, kb, lf_ty b c l x _ a d hx hl⟩
  | .second x, k, a, d, ⟨hk, kb, hx⟩, hl => ⟨hk, kb, lf_ty b c l x _ a d hx hl⟩
  | .give x y, k, a, d, ⟨hk, ka, hx, hy⟩, hl => ⟨hk, ka, lf_ty b c l x _ a d hx hl, lf_ty b c l y _ a d hy hl⟩
  | .lets x y, k, a, d, ⟨hk, ka, hx, hy⟩, hl => ⟨hk, ka, lf_ty b c l x _ a d hx hl, lf_ty b c l y k (ka :: a) (d + 1) hy (by simp; omega)⟩
  | .never k' x, k, a, d, ⟨hk, e, hx⟩, hl => ⟨hk, e, lf_ty b c l x _ a d hx hl⟩
theorem pt_ty {P : Kd → Prop} (c : List Kd) (o : Pg) (ko : Kd) (ho : TyP P c o ko) : ∀ (p : Pg) (k : Kd) (a : List Kd) (d : Nat), TyP P (a ++ ko :: c) p k → a.length = d → TyP P (a ++ c) (tn (ptF o) p d) k
  | .name n, k, a, d, h, hl => by
    obtain ⟨hk, h⟩ : P k ∧ (a ++ ko :: c)[n]? = some k := h
    simp only [tn, ptF]
    split
    · refine ⟨hk, ?_⟩
      show (a ++ c)[n]? = some k
      rw [List.getElem?_append_left (by omega)] at h
      rw [List.getElem?_append_left (by omega), h]
    · split
      · rename_i h2
        rw [List.getElem?_append_right (by omega), show n - a.length = 0 by omega] at h
        have e : ko = k := by simpa using h
        rw [← e]
        have := lf_ty a c 0 o ko [] 0 ho rfl
        rw [hl] at this
        exact this
      · refine ⟨hk, ?_⟩
        show (a ++ c)[n - 1]? = some k
        rw [List.getElem?_append_right (by omega), show n - a.length = (n - 1 - a.length) + 1 by omega, List.getElem?_cons_succ] at h
        rw [List.getElem?_append_right (by omega), h]
  | .star, _, _, _, h, _ => h
  | .pair x y, k, a, d, ⟨hk, ka, kb, e, hx, hy⟩, hl => ⟨hk, ka, kb, e, pt_ty c o ko ho x ka a d hx hl, pt_ty c o ko ho y kb a d hy hl⟩
  | .left k' x, k, a, d, ⟨hk, ka, e, hx⟩, hl => ⟨hk, ka, e, pt_ty c o ko ho x ka a d hx hl⟩
  | .right k' x, k, a, d, ⟨hk, ka, e, hx⟩, hl => ⟨hk, ka, e, pt_ty c o ko ho x ka a d hx hl⟩
  | .way k' x, k, a, d, ⟨hk, ka, e, hx⟩, hl => ⟨hk, ka, e, pt_ty c o ko ho x ka (k' :: a) (d + 1) hx (by simp; omega)⟩
  | .case z x y, k, a, d, ⟨hk, ka, kb, hz, hx, hy⟩, hl => ⟨hk, ka, kb, pt_ty c o ko ho z _ a d hz hl, pt_ty c o ko ho x k (ka :: a) (d + 1) hx (by simp; omega), pt_ty c o ko ho y k (kb :: a) (d + 1) hy (by simp; omega)⟩
  | .first x, k, a, d, ⟨hk, kb, hx⟩, hl => ⟨hk, kb, pt_ty c o ko ho x _ a d hx hl⟩
  | .second x, k, a, d, ⟨hk, kb, hx⟩, hl => ⟨hk, kb, pt_ty c o ko ho x _ a d hx hl⟩
  | .give x y, k, a, d, ⟨hk, ka, hx, hy⟩, hl => ⟨hk, ka, pt_ty c o ko ho x _ a d hx hl, pt_ty c o ko ho y _ a d hy hl⟩
  | .lets x y, k, a, d, ⟨hk, ka, hx, hy⟩, hl => ⟨hk, ka, pt_ty c o ko ho x _ a d hx hl, pt_ty c o ko ho y k (ka :: a) (d + 1) hy (by simp; omega)⟩
  | .never k' x, k, a, d, ⟨hk, e, hx⟩, hl => ⟨hk, e, pt_ty c o ko ho x _ a d hx hl⟩
/-! ### depth -/
theorem tn_pd {f : Nat → Nat → Pg} {c : Nat} (h : ∀ n d, (f n d).pd ≤ c) : ∀ (p : Pg) (d : Nat), (tn f p d).pd ≤ p.pd + c
  | .name n, d => by have := h n d; simp only [tn, Pg.pd]; omega
  | .star, _ => by simp [tn, Pg.pd]
  | .pair a b, d => by have := tn_pd h a d; have := tn_pd h b d; simp only [tn, Pg.pd]; omega
  | .left k a, d => by have := tn_pd h a d; simp only [tn, Pg.pd]; omega
  | .right k a, d => by have := tn_pd h a d; simp only [tn, Pg.pd]; omega
  | .way k a, d => by have := tn_pd h a (d + 1); simp only [tn, Pg.pd]; omega
  | .case e a b, d => by have := tn_pd h e d; have := tn_pd h a (d + 1); have := tn_pd h b (d + 1); simp only [tn, Pg.pd]; omega
  | .first a, d => by have := tn_pd h a d; simp only [tn, Pg.pd]; omega
  | .second a, d => by have := tn_pd h a d; simp only [tn, Pg.pd]; omega
  | .give a b, d => by have := tn_pd h a d; have := tn_pd h b d; simp only [tn, Pg.pd]; omega
  | .lets a b, d => by have := tn_pd h a d; have := tn_pd h b (d + 1); simp only [tn, Pg.pd]; omega
  | .never k a, d => by have := tn_pd h a d; simp only [tn, Pg.pd]; omega
theorem lf_pd (m l : Nat) (p : Pg) : (lf m l p).pd ≤ p.pd := tn_pd (c := 0) (fun n d => by unfold lfF; split <;> simp [Pg.pd]) p 0
theorem pt_pd (p o : Pg) : (pt p o).pd ≤ p.pd + o.pd := tn_pd (fun n d => by
  unfold ptF
  split
  · simp [Pg.pd]
  · split
    · exact lf_pd _ _ _
    · simp [Pg.pd]) p 0
end EK

namespace EK
open PySem PySem.Spec L2
local macro_rules | `(tactic| walk_at "q") => `(tactic| (try simp (config := {decide := true}) only [ho_some, ho_none, wq_ok, wq_exc, x_nil, x_cons, x_asg, tupX_v, x_asgT, x_asgC, newQ_vl, x_exp, cGe_v, cGe_c, x_ret, x_ifs, x_pass, x_raise, x_asgIx, q_slot, vs_v, vs_c, Option.isSome_some, nf_v, nf_c, q_isTru, q_revL, q_enGet, q_new, q_mcall, q_callc, q_callv, x_tryN, x_cloRet, bx_v, ob_v, eg_v, cl_z, cl_s, cp_n, cp_c, q_cst, c_non, c_bl, c_int, c_str, q_glo, q_nil, q_cons, q_anil, q_acons, cellA_f, cellA_v, frz_v, frz_c, frzs_n, frzs_c, q_tup, q_lst, q_dsp, q_bin, q_cmp, q_ix, intX_i, q_neg, q_not, q_chn, q_and, q_or, q_ite, q_isN, q_notN, q_part, q_sl, q_prim, q_lrg, q_meth, q_ch, q_isT, q_cel, q_c0, q_c1, q_call, getS_z, getS_s, vw_v, vw_c, vws_n, vws_s, tru_r, co_z, co_s, co_a, co_a1, take_a, nQ_cut, b_addI, b_subI, b_mulI, b_divI, b_modI, b_powI, b_addT, b_addL, b_addS, o_ltI, o_leI, o_gtI, o_geI, o_eqI, o_neI, o_eqS, o_neS, o_in, o_nin, i_s2, i_s3, i_s4, x_T, x_L, x_C, x_D, d_c, s_T, s_L, s_C, p_lenT, p_lenL, p_lenC, p_intI, p_intB, p_abs, p_max, p_min, p_sum, p_tupT, p_tupL, p_lstT, p_lstL, p_any, p_all, p_lrg, m_ixT2, m_ixL2, m_get1, m_get2, k_app, k_ext, k_pop0, k_pop, k_clr, u_bl, u_int, u_non, u_tup, u_vl, g_nm, g_tp, g_wt, g_s0, g_s1, n_v, n_c, y_non, y_bl, y_int, y_str, y_tup, y_vl, pm_0, pm_1, non_vl, mq_app, mq_ext, mq_pop, mq_clr, mq_ixC, mq_ixT, mq_ixV, mq_get, im_o, im_oc, im_e, im_ec, sq_t, sq_l, ls_l, im_r, im_r2, im_r3, im_zT, im_zL, im_v, ok_both, ok_case, ok_either, ok_first, ok_give, ok_k, ok_kp, ok_l, ok_left, ok_let, ok_name, ok_never, ok_none, ok_odd, ok_one, ok_other, ok_p, ok_pair, ok_r, ok_right, ok_second, ok_split, ok_star, ok_w, ok_way, ok_within, ok_without, ok_wrong, ok_yes, ok_no, ok_n, ok_led, ok_lr, ok_pp, ok_ppp, non_int, non_non, non_tup, non_str, non_ref, non_bl, kit_tuple_NoneType, kit_tuple_bool, kit_tuple_int, kit_tuple_str, kit_tuple_tuple, kit_tuple_list, kit_list_NoneType, kit_list_bool, kit_list_int, kit_list_str, kit_list_tuple, kit_list_list, kit_int_NoneType, kit_int_bool, kit_int_int, kit_int_str, kit_int_tuple, kit_int_list, kit_bool_NoneType, kit_bool_bool, kit_bool_int, kit_bool_str, kit_bool_tuple, kit_bool_list, kit_str_NoneType, kit_str_bool, kit_str_int, kit_str_str, kit_str_tuple, kit_str_list, at_0, at_1, at_2, at_3, List.set_cons_zero, List.set_cons_succ, Option.some.injEq, exists_eq_left', true_and, and_true, and_self, decide_eq_true_eq, ↓reduceIte, if_true, if_false, decide_true, decide_false, Bool.false_eq_true, reduceCtorEq, List.length_cons, List.length_nil, List.map_cons, List.map_nil, Nat.zero_add, Int.reduceSub, Int.reduceAdd, Int.reduceNeg, Int.reduceMul, Nat.reduceAdd, Nat.reduceSub, Bool.not_true, Bool.not_false, Bool.or_false, Bool.or_true, Bool.true_or, Bool.false_or, Bool.and_true, Bool.and_false, Bool.true_and, Bool.false_and, List.replicate_succ, List.replicate_zero, List.cons_append, List.nil_append, List.append_assoc, List.take_length, List.take_succ_cons, List.length_append, isCel, frE, isCh, wipeQ, List.drop_nil, List.drop_zero, false_implies, true_implies, implies_true, forall_const, QX.v.injEq, sz_0, sz_1, sz_2, sz_3, sz_4, sz_5, sz_6, sz_7, sz_8, sz_9, sz_10, sz_11, sz_12, p_srt, co_dk, List.length_map, set_a, take_an, List.take_zero, List.take_nil, q_bnd, q_okO, ho_map, en_l, en_t, opt_map]))
section
variable {Q : QX → QSt → Prop} {E : XQ} {G : QConf} {env : QEnv} {τ : QSt}
/-- a comprehension over things told by g, each turned by h -/
theorem q_mapL {α : Type} {own : List Nat} {tg : Tgt} {k : IK} {src : Exs} {elt : Ex} (L : List α) (g h : α → PV) (H : @Wq _ (evalQs G src env τ) (fun xs τ1 => itmQ k xs τ1 = some (L.map g) ∧ (∀ l, itmQ k xs (τ1 ++ [some l]) = some (L.map g)) ∧ L.length ≤ sizeLine ∧
      (∀ a τ', a ∈ L → @Ho _ (asgQ tg (g a) (wipeQ env own)) fun e1 => @Wq _ (evalQ G elt e1 τ') (fun y τ4 => y = .v (h a) ∧ τ4 = τ') nQ) ∧ Q (.v (.vl (L.map h))) τ1) E) :
    @Wq _ (evalQ G (.comp own tg k src .nil elt) env τ) Q E := by
  refine wq_comp (H.imp (fun xs τ1 H => ?_) fun _ _ _ z => z)
  obtain ⟨hi, hi2, hz, he, hq⟩ := H
  refine ⟨L.map g, hi, by rw [List.length_map]; exact hz, fun pre l τ2 => ∃ p s, L = p ++ s ∧ pre = p.map g ∧ l = p.map h ∧ τ2 = τ1, ⟨[], L, rfl, rfl, rfl, rfl⟩, ?_, ?_, ?_⟩
  · rintro l τ2 ⟨p, s, e1, e2, rfl, rfl⟩
    have e3 := congrArg List.length e2
    rw [List.length_map, List.length_map] at e3
    have e4 := congrArg List.length e1
    rw [List.length_append] at e4
    have : s = [] := List.length_eq_zero_iff.mp (by omega)
    subst this
    rw [List.append_nil] at e1
    subst e1
    exact hq
  · rintro pre l τ2 ⟨p, s, e1, rfl, rfl, rfl⟩; exact ⟨rfl, by simp, hi2 _⟩
  · rintro pre x suf l τ2 hx ⟨p, s, e1, rfl, rfl, rfl⟩
    rw [e1, List.map_append] at hx
    have hx := List.append_cancel_left hx
    cases s with
    | nil => cases hx
    | cons a s =>
      rw [List.map_cons] at hx
      cases hx
      obtain ⟨e2, ea, h1⟩ := (he a (τ2 ++ [some (p.map h)]) (by rw [e1]; simp)).get
      rw [ea, ho_some, q_c0]
      refine h1.imp ?_ fun _ _ _ z => z
      rintro y τ4 ⟨rfl, rfl⟩
      rw [frz_v]
      exact ⟨τ2, rfl, p ++ [a], s, by rw [e1]; simp, by simp, by simp, rfl⟩
/-- the same with a test, the list told apart -/
theorem q_filterL {own : List Nat} {tg : Tgt} {k : IK} {src : Exs} {cond elt : Ex} (f : PV → PV) (p : PV → Bool) (h : @Wq _ (evalQs G src env τ) (fun xs τ1 => ∃ items, itmQ k xs τ1 = some items ∧ (∀ l, itmQ k xs (τ1 ++ [some l]) = some items) ∧ items.length ≤ sizeLine ∧
      (∀ x τ', x ∈ items → @Ho _ (asgQ tg x (wipeQ env own)) fun e1 => @Wq _ (evalQ G cond e1 τ') (fun t τ4 => @Ho _ (truR t τ4) fun b => b = p x ∧ τ4 = τ' ∧ (b = true → @Wq _ (evalQ G elt e1 τ') (fun y τ4 => y = .v (f x) ∧ τ4 = τ') nQ)) nQ) ∧ ∀ L, L = (items.filter p).map f → Q (.v (.vl L)) τ1) E) :
    @Wq _ (evalQ G (.comp own tg k src (.cons cond .nil) elt) env τ) Q E :=
  q_filter f p (h.imp (fun _ _ ⟨items, h1, h2, h3, h4, h5⟩ => ⟨items, h1, h2, h3, h4, h5 _ rfl⟩) fun _ _ _ z => z)
end
end EK

namespace EK
open PySem PySem.Spec L2
local macro_rules | `(tactic| walk_at "q") => `(tactic| (try simp (config := {decide := true}) only [ho_some, ho_none, wq_ok, wq_exc, x_nil, x_cons, x_asg, tupX_v, x_asgT, x_asgC, newQ_vl, x_exp, cGe_v, cGe_c, x_ret, x_ifs, x_pass, x_raise, x_asgIx, q_slot, vs_v, vs_c, Option.isSome_some, nf_v, nf_c, q_isTru, q_revL, q_enGet, q_new, q_mcall, q_callc, q_callv, x_tryN, x_cloRet, bx_v, ob_v, eg_v, cl_z, cl_s, cp_n, cp_c, q_cst, c_non, c_bl, c_int, c_str, q_glo, q_nil, q_cons, q_anil, q_acons, cellA_f, cellA_v, frz_v, frz_c, frzs_n, frzs_c, q_tup, q_lst, q_dsp, q_bin, q_cmp, q_ix, intX_i, q_neg, q_not, q_chn, q_and, q_or, q_ite, q_isN, q_notN, q_part, q_sl, q_prim, q_lrg, q_meth, q_ch, q_isT, q_cel, q_c0, q_c1, q_call, getS_z, getS_s, vw_v, vw_c, vws_n, vws_s, tru_r, co_z, co_s, co_a, co_a1, take_a, nQ_cut, b_addI, b_subI, b_mulI, b_divI, b_modI, b_powI, b_addT, b_addL, b_addS, o_ltI, o_leI, o_gtI, o_geI, o_eqI, o_neI, o_eqS, o_neS, o_in, o_nin, i_s2, i_s3, i_s4, x_T, x_L, x_C, x_D, d_c, s_T, s_L, s_C, p_lenT, p_lenL, p_lenC, p_intI, p_intB, p_abs, p_max, p_min, p_sum, p_tupT, p_tupL, p_lstT, p_lstL, p_any, p_all, p_lrg, m_ixT2, m_ixL2, m_get1, m_get2, k_app, k_ext, k_pop0, k_pop, k_clr, u_bl, u_int, u_non, u_tup, u_vl, g_nm, g_tp, g_wt, g_s0, g_s1, n_v, n_c, y_non, y_bl, y_int, y_str, y_tup, y_vl, pm_0, pm_1, non_vl, mq_app, mq_ext, mq_pop, mq_clr, mq_ixC, mq_ixT, mq_ixV, mq_get, im_o, im_oc, im_e, im_ec, sq_t, sq_l, ls_l, im_r, im_r2, im_r3, im_zT, im_zL, im_v, ok_both, ok_case, ok_either, ok_first, ok_give, ok_k, ok_kp, ok_l, ok_left, ok_let, ok_name, ok_never, ok_none, ok_odd, ok_one, ok_other, ok_p, ok_pair, ok_r, ok_right, ok_second, ok_split, ok_star, ok_w, ok_way, ok_within, ok_without, ok_wrong, ok_yes, ok_no, ok_n, ok_led, ok_lr, ok_pp, ok_ppp, non_int, non_non, non_tup, non_str, non_ref, non_bl, kit_tuple_NoneType, kit_tuple_bool, kit_tuple_int, kit_tuple_str, kit_tuple_tuple, kit_tuple_list, kit_list_NoneType, kit_list_bool, kit_list_int, kit_list_str, kit_list_tuple, kit_list_list, kit_int_NoneType, kit_int_bool, kit_int_int, kit_int_str, kit_int_tuple, kit_int_list, kit_bool_NoneType, kit_bool_bool, kit_bool_int, kit_bool_str, kit_bool_tuple, kit_bool_list, kit_str_NoneType, kit_str_bool, kit_str_int, kit_str_str, kit_str_tuple, kit_str_list, at_0, at_1, at_2, at_3, List.set_cons_zero, List.set_cons_succ, Option.some.injEq, exists_eq_left', true_and, and_true, and_self, decide_eq_true_eq, ↓reduceIte, if_true, if_false, decide_true, decide_false, Bool.false_eq_true, reduceCtorEq, List.length_cons, List.length_nil, List.map_cons, List.map_nil, Nat.zero_add, Int.reduceSub, Int.reduceAdd, Int.reduceNeg, Int.reduceMul, Nat.reduceAdd, Nat.reduceSub, Bool.not_true, Bool.not_false, Bool.or_false, Bool.or_true, Bool.true_or, Bool.false_or, Bool.and_true, Bool.and_false, Bool.true_and, Bool.false_and, List.replicate_succ, List.replicate_zero, List.cons_append, List.nil_append, List.append_assoc, List.take_length, List.take_succ_cons, List.length_append, isCel, frE, isCh, wipeQ, List.drop_nil, List.drop_zero, false_implies, true_implies, implies_true, forall_const, QX.v.injEq, sz_0, sz_1, sz_2, sz_3, sz_4, sz_5, sz_6, sz_7, sz_8, sz_9, sz_10, sz_11, sz_12, p_srt, co_dk, List.length_map, set_a, take_an, List.take_zero, List.take_nil, q_bnd, q_okO, ho_map, en_l, en_t, opt_map]))
namespace Lib
def f_first_inner : FnI := ⟨["program"], ["program"], [],
  (.cons (.ret (.meth .get (.glo "FIRST_INNER") (.cons (.ix (.slot 0) (.cst (.int 0))) (.cons (.cst (.int 1)) .nil)))) .nil)⟩
def f_inner : FnI := ⟨["program"], ["program"], [],
  (.cons (.ret (.prim .list (.cons (.sl (.slot 0) (.cons (.call "first_inner" (.cons (.slot 0) .nil)) .nil) .nil) .nil))) .nil)⟩
end Lib
open Lib
/-- the constant of the program's inner places -/
def firstD : PV := .dct ["name", "star", "left", "right", "way", "never"] [.int 2, .int 1, .int 2, .int 2, .int 2, .int 2]
structure HasFi (U : QT) : Prop where
  glob : U.T.glob "FIRST_INNER" = some firstD
  first_inner : HasFn U "first_inner" f_first_inner false
/-- its word -/
def Pg.wd : Pg → Str
  | .name _ => "name" | .star => "star" | .pair _ _ => "pair" | .left _ _ => "left" | .right _ _ => "right" | .way _ _ => "way"
  | .case _ _ _ => "case" | .first _ => "first" | .second _ => "second" | .give _ _ => "give" | .lets _ _ => "let" | .never _ _ => "never"
section
variable {U : QT} {r : Nat} {τ : QSt} {P : PV → Prop}
theorem ok_wd (p : Pg) : strOkB p.wd = true := by cases p <;> simp only [Pg.wd, ok_name, ok_star, ok_pair, ok_left, ok_right, ok_way, ok_case, ok_first, ok_second, ok_give, ok_let, ok_never]
theorem wd_name {p : Pg} (h : ∀ n, p ≠ .name n) : (p.wd = "name") = False := by
  cases p <;> first | exact (h _ rfl).elim | (simp only [Pg.wd]; decide)
theorem x_PP {p : Pg} : @Ho _ (ixQ (PP p) (.int 0)) P = P (.str p.wd) := by
  cases p <;> simp only [PP, x_T, at_0, ho_some, Pg.wd]
theorem s_PPk {p : Pg} : @Ho _ (slQ (PP p) (some (p.hdr.length : Nat)) none) P = P (.tup (p.kids.map PP)) := by
  cases p <;> rfl
theorem s_PPh {p : Pg} : @Ho _ (slQ (PP p) none (some (p.hdr.length : Nat))) P = P (.tup p.hdr) := by
  cases p <;> rfl
theorem l_PP {p : Pg} : @Ho _ (primQ .len [PP p]) P = P (.int ((p.hdr.length + p.kids.length : Nat) : Int)) := by
  cases p <;> rfl
theorem q_finner (hf : HasFi U) (p : Pg) : callQ U (r + 1) "first_inner" [.v (PP p)] τ = .ok (.int (p.hdr.length : Nat)) τ := by
  refine Wq.eq (wq_call hf.first_inner rfl rfl ?_)
  simp only [f_first_inner]
  cases p <;> simp only [PP, Pg.hdr] <;> (walk_at "q"; repeat (simp only [hf.glob, firstD]; walk_at "q")) <;> rfl
theorem drop_kids (p : Pg) : cutP (p.hdr ++ p.kids.map PP) (some (p.hdr.length : Nat)) none = p.kids.map PP := by
  cases p <;> rfl
theorem q_innerF {b : Bool} (hf : HasFi U) (hi : HasFn U "inner" f_inner b) (p : Pg) : callQ U (r + 2) "inner" [.v (PP p)] τ = .ok (.vl (p.kids.map PP)) τ := by
  refine Wq.eq (wq_call hi rfl rfl ?_)
  simp only [f_inner]
  walk_at "q"
  rw [q_finner hf]
  (walk_at "q"; repeat (simp only [s_PPk]; walk_at "q"))
end
end EK

namespace EK
open PySem PySem.Spec L2
/-! ### the kind of a program, or none -/
def kdOf : List Kd → Pg → Option Kd
  | ns, .name n => ns[n]?
  | _, .star => some .one
  | ns, .pair a b => match kdOf ns a with
    | some ka => match kdOf ns b with
      | some kb => some (.both ka kb)
      | none => none
    | none => none
  | ns, .left kb a => match kdOf ns a with
    | some ka => some (.either ka kb)
    | none => none
  | ns, .right ka b => match kdOf ns b with
    | some kb => some (.either ka kb)
    | none => none
  | ns, .way ka b => match kdOf (ka :: ns) b with
    | some kb => some (.way ka kb)
    | none => none
  | ns, .case c a b => match kdOf ns c with
    | some (.either ka kb) => match kdOf (ka :: ns) a with
      | some k => match kdOf (kb :: ns) b with
        | some k' => if k = k' then some k else none
        | none => none
      | none => none
    | _ => none
  | ns, .first a => match kdOf ns a with
    | some (.both ka _) => some ka
    | _ => none
  | ns, .second a => match kdOf ns a with
    | some (.both _ kb) => some kb
    | _ => none
  | ns, .give f x => match kdOf ns f with
    | some (.way ka kb) => match kdOf ns x with
      | some k => if ka = k then some kb else none
      | none => none
    | _ => none
  | ns, .lets a b => match kdOf ns a with
    | some k => kdOf (k :: ns) b
    | none => none
  | ns, .never k a => match kdOf ns a with
    | some .none => some k
    | _ => none
/-- all kinds that are met are shallow -/
def KOk : List Kd → Pg → Prop
  | ns, .name n => (∀ k ∈ ns, k.dep ≤ 100)
  | _, .star => True
  | ns, .pair a b => (∀ k, kdOf ns (.pair a b) = some k → k.dep ≤ 100) ∧ KOk ns a ∧ KOk ns b
  | ns, .left k a => (∀ k', kdOf ns (.left k a) = some k' → k'.dep ≤ 100) ∧ KOk ns a
  | ns, .right k a => (∀ k', kdOf ns (.right k a) = some k' → k'.dep ≤ 100) ∧ KOk ns a
  | ns, .way k a => (∀ k', kdOf ns (.way k a) = some k' → k'.dep ≤ 100) ∧ KOk (k :: ns) a
  | ns, .case c a b => KOk ns c ∧ ∀ ka kb, kdOf ns c = some (.either ka kb) → KOk (ka :: ns) a ∧ KOk (kb :: ns) b
  | ns, .first a => KOk ns a
  | ns, .second a => KOk ns a
  | ns, .give f x => KOk ns f ∧ KOk ns x
  | ns, .lets a b => KOk ns a ∧ ∀ k, kdOf ns a = some k → KOk (k :: ns) b
  | ns, .never k a => (kdOf ns (.never k a) = some k → k.dep ≤ 100) ∧ KOk ns a
theorem KOk.dep : ∀ {p : Pg} {ns : List Kd} {k : Kd}, KOk ns p → kdOf ns p = some k → k.dep ≤ 100
  | .name n, ns, k, h, e => h k (List.mem_of_getElem? e)
  | .star, _, _, _, e => by cases e; decide
  | .pair a b, _, _, h, e => h.1 _ e
  | .left _ a, _, _, h, e => h.1 _ e
  | .right _ a, _, _, h, e => h.1 _ e
  | .way _ a, _, _, h, e => h.1 _ e
  | .case c a b, ns, k, h, e => by
    simp only [kdOf] at e
    split at e
    · rename_i ka kb ec
      split at e
      · rename_i k1 ea
        split at e
        · split at e
          · cases e
            exact KOk.dep (h.2 _ _ ec).1 ea
          · cases e
        · cases e
      · cases e
    · cases e
  | .first a, ns, k, h, e => by
    simp only [kdOf] at e
    split at e
    · rename_i ka kb ea
      cases e
      have := KOk.dep (p := a) h ea
      simp only [Kd.dep] at this
      omega
    · cases e
  | .second a, ns, k, h, e => by
    simp only [kdOf] at e
    split at e
    · rename_i ka kb ea
      cases e
      have := KOk.dep (p := a) h ea
      simp only [Kd.dep] at this
      omega
    · cases e
  | .give f x, ns, k, h, e => by
    simp only [kdOf] at e
    split at e
    · rename_i ka kb ea
      split at e
      · split at e
        · cases e
          have := KOk.dep (p := f) h.1 ea
          simp only [Kd.dep] at this
          omega
        · cases e
      · cases e
    · cases e
  | .lets a b, ns, k, h, e => by
    simp only [kdOf] at e
    split at e
    · rename_i ka ea
      exact KOk.dep (h.2 _ ea) e
    · cases e
  | .never k' a, ns, k, h, e => by
    have e0 := e
    simp only [kdOf] at e
    split at e
    · cases e
      exact h.1 e0
    · cases e
theorem TyP.kd {P : Kd → Prop} : ∀ {p : Pg} {ns : List Kd} {k : Kd}, TyP P ns p k → kdOf ns p = some k
  | .name n, ns, k, h => h.2
  | .star, _, _, h => by rw [h.2]; rfl
  | .pair a b, ns, k, ⟨_, ka, kb, e, ha, hb⟩ => by simp only [kdOf, ha.kd, hb.kd, e]
  | .left _ a, ns, k, ⟨_, ka, e, ha⟩ => by simp only [kdOf, ha.kd, e]
  | .right _ a, ns, k, ⟨_, ka, e, ha⟩ => by simp only [kdOf, ha.kd, e]
  | .way _ a, ns, k, ⟨_, ka, e, ha⟩ => by simp only [kdOf, ha.kd, e]
  | .case c a b, ns, k, ⟨_, ka, kb, hc, ha, hb⟩ => by simp only [kdOf, hc.kd, ha.kd, hb.kd, if_true]
  | .first a, ns, k, ⟨_, kb, ha⟩ => by simp only [kdOf, ha.kd]
  | .second a, ns, k, ⟨_, kb, ha⟩ => by simp only [kdOf, ha.kd]
  | .give f x, ns, k, ⟨_, ka, hf, hx⟩ => by simp only [kdOf, hf.kd, hx.kd, if_true]
  | .lets a b, ns, k, ⟨_, ka, ha, hb⟩ => by simp only [kdOf, ha.kd, hb.kd]
  | .never _ a, ns, k, ⟨_, e, ha⟩ => by simp only [kdOf, ha.kd, e]
theorem TyP.kok {P : Kd → Prop} (hP : ∀ k, P k → k.dep ≤ 100) : ∀ {p : Pg} {ns : List Kd} {k : Kd}, (∀ k ∈ ns, k.dep ≤ 100) → TyP P ns p k → KOk ns p
  | .name n, ns, k, hn, h => hn
  | .star, _, _, _, h => trivial
  | .pair a b, ns, k, hn, h => by
    obtain ⟨hd, ka, kb, e, ha, hb⟩ := id h
    exact ⟨fun k' e' => by rw [h.kd] at e'; cases e'; exact hP _ hd, ha.kok hP hn, hb.kok hP hn⟩
  | .left _ a, ns, k, hn, h => by
    obtain ⟨hd, ka, e, ha⟩ := id h
    exact ⟨fun k' e' => by rw [h.kd] at e'; cases e'; exact hP _ hd, ha.kok hP hn⟩
  | .right _ a, ns, k, hn, h => by
    obtain ⟨hd, ka, e, ha⟩ := id h
    exact ⟨fun k' e' => by rw [h.kd] at e'; cases e'; exact hP _ hd, ha.kok hP hn⟩
  | .way k0 a, ns, k, hn, h => by
    obtain ⟨hd, ka, e, ha⟩ := id h
    refine ⟨fun k' e' => by rw [h.kd] at e'; cases e'; exact hP _ hd, ha.kok hP ?_⟩
    intro k' hk'
    rcases List.mem_cons.mp hk' with rfl | hk'
    · rw [e] at hd
      have hd := hP _ hd
      simp only [Kd.dep] at hd
      omega
    · exact hn k' hk'
  | .case c a b, ns, k, hn, h => by
    obtain ⟨hd, ka, kb, hc, ha, hb⟩ := id h
    have hcd := hP _ hc.here
    simp only [Kd.dep] at hcd
    refine ⟨hc.kok hP hn, fun ka' kb' e' => ?_⟩
    rw [hc.kd] at e'
    cases e'
    refine ⟨ha.kok hP fun k' hk' => ?_, hb.kok hP fun k' hk' => ?_⟩
    · rcases List.mem_cons.mp hk' with rfl | hk'
      · omega
      · exact hn k' hk'
    · rcases List.mem_cons.mp hk' with rfl | hk'
      · omega
      · exact hn k' hk'
  | .first a, ns, k, hn, ⟨_, kb, ha⟩ => TyP.kok hP (p := a) hn ha
  | .second a, ns, k, hn, ⟨_, kb, ha⟩ => TyP.kok hP (p := a) hn ha
  | .give f x, ns, k, hn, ⟨_, ka, hf, hx⟩ => ⟨hf.kok hP hn, hx.kok hP hn⟩
  | .lets a b, ns, k, hn, ⟨_, ka, ha, hb⟩ => ⟨ha.kok hP hn, fun k' e' => by
    rw [ha.kd] at e'
    cases e'
    refine hb.kok hP fun k' hk' => ?_
    rcases List.mem_cons.mp hk' with rfl | hk'
    · exact hP _ ha.here
    · exact hn k' hk'⟩
  | .never _ a, ns, k, hn, ⟨hd, e, ha⟩ => ⟨fun _ => by rw [e]; exact hP _ hd, ha.kok hP hn⟩
end EK

namespace EK
open PySem PySem.Spec L2
local macro_rules | `(tactic| walk_at "q") => `(tactic| (try simp (config := {decide := true}) only [ho_some, ho_none, wq_ok, wq_exc, x_nil, x_cons, x_asg, tupX_v, x_asgT, x_asgC, newQ_vl, x_exp, cGe_v, cGe_c, x_ret, x_ifs, x_pass, x_raise, x_asgIx, q_slot, vs_v, vs_c, Option.isSome_some, nf_v, nf_c, q_isTru, q_revL, q_enGet, q_new, q_mcall, q_callc, q_callv, x_tryN, x_cloRet, bx_v, ob_v, eg_v, cl_z, cl_s, cp_n, cp_c, q_cst, c_non, c_bl, c_int, c_str, q_glo, q_nil, q_cons, q_anil, q_acons, cellA_f, cellA_v, frz_v, frz_c, frzs_n, frzs_c, q_tup, q_lst, q_dsp, q_bin, q_cmp, q_ix, intX_i, q_neg, q_not, q_chn, q_and, q_or, q_ite, q_isN, q_notN, q_part, q_sl, q_prim, q_lrg, q_meth, q_ch, q_isT, q_cel, q_c0, q_c1, q_call, getS_z, getS_s, vw_v, vw_c, vws_n, vws_s, tru_r, co_z, co_s, co_a, co_a1, take_a, nQ_cut, b_addI, b_subI, b_mulI, b_divI, b_modI, b_powI, b_addT, b_addL, b_addS, o_ltI, o_leI, o_gtI, o_geI, o_eqI, o_neI, o_eqS, o_neS, o_in, o_nin, i_s2, i_s3, i_s4, x_T, x_L, x_C, x_D, d_c, s_T, s_L, s_C, p_lenT, p_lenL, p_lenC, p_intI, p_intB, p_abs, p_max, p_min, p_sum, p_tupT, p_tupL, p_lstT, p_lstL, p_any, p_all, p_lrg, m_ixT2, m_ixL2, m_get1, m_get2, k_app, k_ext, k_pop0, k_pop, k_clr, u_bl, u_int, u_non, u_tup, u_vl, g_nm, g_tp, g_wt, g_s0, g_s1, n_v, n_c, y_non, y_bl, y_int, y_str, y_tup, y_vl, pm_0, pm_1, non_vl, mq_app, mq_ext, mq_pop, mq_clr, mq_ixC, mq_ixT, mq_ixV, mq_get, im_o, im_oc, im_e, im_ec, sq_t, sq_l, ls_l, im_r, im_r2, im_r3, im_zT, im_zL, im_v, ok_both, ok_case, ok_either, ok_first, ok_give, ok_k, ok_kp, ok_l, ok_left, ok_let, ok_name, ok_never, ok_none, ok_odd, ok_one, ok_other, ok_p, ok_pair, ok_r, ok_right, ok_second, ok_split, ok_star, ok_w, ok_way, ok_within, ok_without, ok_wrong, ok_yes, ok_no, ok_n, ok_led, ok_lr, ok_pp, ok_ppp, non_int, non_non, non_tup, non_str, non_ref, non_bl, kit_tuple_NoneType, kit_tuple_bool, kit_tuple_int, kit_tuple_str, kit_tuple_tuple, kit_tuple_list, kit_list_NoneType, kit_list_bool, kit_list_int, kit_list_str, kit_list_tuple, kit_list_list, kit_int_NoneType, kit_int_bool, kit_int_int, kit_int_str, kit_int_tuple, kit_int_list, kit_bool_NoneType, kit_bool_bool, kit_bool_int, kit_bool_str, kit_bool_tuple, kit_bool_list, kit_str_NoneType, kit_str_bool, kit_str_int, kit_str_str, kit_str_tuple, kit_str_list, at_0, at_1, at_2, at_3, List.set_cons_zero, List.set_cons_succ, Option.some.injEq, exists_eq_left', true_and, and_true, and_self, decide_eq_true_eq, ↓reduceIte, if_true, if_false, decide_true, decide_false, Bool.false_eq_true, reduceCtorEq, List.length_cons, List.length_nil, List.map_cons, List.map_nil, Nat.zero_add, Int.reduceSub, Int.reduceAdd, Int.reduceNeg, Int.reduceMul, Nat.reduceAdd, Nat.reduceSub, Bool.not_true, Bool.not_false, Bool.or_false, Bool.or_true, Bool.true_or, Bool.false_or, Bool.and_true, Bool.and_false, Bool.true_and, Bool.false_and, List.replicate_succ, List.replicate_zero, List.cons_append, List.nil_append, List.append_assoc, List.take_length, List.take_succ_cons, List.length_append, isCel, frE, isCh, wipeQ, List.drop_nil, List.drop_zero, false_implies, true_implies, implies_true, forall_const, QX.v.injEq, sz_0, sz_1, sz_2, sz_3, sz_4, sz_5, sz_6, sz_7, sz_8, sz_9, sz_10, sz_11, sz_12, p_srt, co_dk, List.length_map, set_a, take_an, List.take_zero, List.take_nil, q_bnd, q_okO, ho_map, en_l, en_t, opt_map]))
namespace Lib
def f_need : FnI := ⟨["kind", "word"], ["kind", "word"], [],
  (.cons (.ifs (.cmp .ne (.ix (.slot 0) (.cst (.int 0))) (.slot 1)) (.cons (.raise "NoKind") .nil) .nil) (.cons (.ret (.slot 0)) .nil))⟩
def f_same_kind : FnI := ⟨["one", "other"], ["one", "other"], [],
  (.cons (.ifs (.cmp .ne (.slot 0) (.slot 1)) (.cons (.raise "NoKind") .nil) .nil) (.cons (.ret (.slot 0)) .nil))⟩
def f_kind_of_case : FnI := ⟨["program", "names"], ["program", "names", "asked", "one"], [],
  (.cons (.asg (.nm 2) (.call "need" (.cons (.call "kind_of" (.cons (.ix (.slot 0) (.cst (.int 1))) (.cons (.slot 1) .nil))) (.cons (.cst (.str "either")) .nil)))) (.cons (.asg (.nm 3) (.call "kind_of" (.cons (.ix (.slot 0) (.cst (.int 2))) (.cons (.bin .add (.tup (.cons (.ix (.slot 2) (.cst (.int 1))) .nil)) (.slot 1)) .nil)))) (.cons (.ret (.call "same_kind" (.cons (.slot 3) (.cons (.call "kind_of" (.cons (.ix (.slot 0) (.cst (.int 3))) (.cons (.bin .add (.tup (.cons (.ix (.slot 2) (.cst (.int 2))) .nil)) (.slot 1)) .nil))) .nil)))) .nil)))⟩
def f_kind_of_use : FnI := ⟨["program", "names"], ["program", "names", "word", "told"], [],
  (.cons (.asg (.nm 2) (.ix (.slot 0) (.cst (.int 0)))) (.cons (.ifs (.cmp .eq (.slot 2) (.cst (.str "never"))) (.cons (.exp (.call "need" (.cons (.call "kind_of" (.cons (.ix (.slot 0) (.cst (.int 2))) (.cons (.slot 1) .nil))) (.cons (.cst (.str "none")) .nil)))) (.cons (.ret (.ix (.slot 0) (.cst (.int 1)))) .nil)) .nil) (.cons (.asg (.nm 3) (.call "kind_of" (.cons (.ix (.slot 0) (.cst (.int 1))) (.cons (.slot 1) .nil)))) (.cons (.ifs (.cmp .eq (.slot 2) (.cst (.str "first"))) (.cons (.ret (.ix (.call "need" (.cons (.slot 3) (.cons (.cst (.str "both")) .nil))) (.cst (.int 1)))) .nil) .nil) (.cons (.ifs (.cmp .eq (.slot 2) (.cst (.str "second"))) (.cons (.ret (.ix (.call "need" (.cons (.slot 3) (.cons (.cst (.str "both")) .nil))) (.cst (.int 2)))) .nil) .nil) (.cons (.ifs (.cmp .eq (.slot 2) (.cst (.str "let"))) (.cons (.ret (.call "kind_of" (.cons (.ix (.slot 0) (.cst (.int 2))) (.cons (.bin .add (.tup (.cons (.slot 3) .nil)) (.slot 1)) .nil)))) .nil) .nil) (.cons (.exp (.call "same_kind" (.cons (.ix (.call "need" (.cons (.slot 3) (.cons (.cst (.str "way")) .nil))) (.cst (.int 1))) (.cons (.call "kind_of" (.cons (.ix (.slot 0) (.cst (.int 2))) (.cons (.slot 1) .nil))) .nil)))) (.cons (.ret (.ix (.slot 3) (.cst (.int 2)))) .nil))))))))⟩
def f_kind_of : FnI := ⟨["program", "names"], ["program", "names", "word"], [],
  (.cons (.asg (.nm 2) (.ix (.slot 0) (.cst (.int 0)))) (.cons (.ifs (.cmp .eq (.slot 2) (.cst (.str "name"))) (.cons (.ifs (.cmp .ge (.ix (.slot 0) (.cst (.int 1))) (.prim .len (.cons (.slot 1) .nil))) (.cons (.raise "NoKind") .nil) .nil) (.cons (.ret (.ix (.slot 1) (.ix (.slot 0) (.cst (.int 1))))) .nil)) .nil) (.cons (.ifs (.cmp .eq (.slot 2) (.cst (.str "star"))) (.cons (.ret (.tup (.cons (.cst (.str "one")) .nil))) .nil) .nil) (.cons (.ifs (.cmp .eq (.slot 2) (.cst (.str "pair"))) (.cons (.ret (.tup (.cons (.cst (.str "both")) (.cons (.call "kind_of" (.cons (.ix (.slot 0) (.cst (.int 1))) (.cons (.slot 1) .nil))) (.cons (.call "kind_of" (.cons (.ix (.slot 0) (.cst (.int 2))) (.cons (.slot 1) .nil))) .nil))))) .nil) .nil) (.cons (.ifs (.cmp .eq (.slot 2) (.cst (.str "left"))) (.cons (.ret (.tup (.cons (.cst (.str "either")) (.cons (.call "kind_of" (.cons (.ix (.slot 0) (.cst (.int 2))) (.cons (.slot 1) .nil))) (.cons (.ix (.slot 0) (.cst (.int 1))) .nil))))) .nil) .nil) (.cons (.ifs (.cmp .eq (.slot 2) (.cst (.str "right"))) (.cons (.ret (.tup (.cons (.cst (.str "either")) (.cons (.ix (.slot 0) (.cst (.int 1))) (.cons (.call "kind_of" (.cons (.ix (.slot 0) (.cst (.int 2))) (.cons (.slot 1) .nil))) .nil))))) .nil) .nil) (.cons (.ifs (.cmp .eq (.slot 2) (.cst (.str "way"))) (.cons (.ret (.tup (.cons (.cst (.str "way")) (.cons (.ix (.slot 0) (.cst (.int 1))) (.cons (.call "kind_of" (.cons (.ix (.slot 0) (.cst (.int 2))) (.cons (.bin .add (.tup (.cons (.ix (.slot 0) (.cst (.int 1))) .nil)) (.slot 1)) .nil))) .nil))))) .nil) .nil) (.cons (.ifs (.cmp .eq (.slot 2) (.cst (.str "case"))) (.cons (.ret (.call "kind_of_case" (.cons (.slot 0) (.cons (.slot 1) .nil)))) .nil) .nil) (.cons (.ret (.call "kind_of_use" (.cons (.slot 0) (.cons (.slot 1) .nil)))) .nil)))))))))⟩
end Lib
open Lib
structure HasKo (U : QT) : Prop where
  need : HasFn U "need" f_need false
  same_kind : HasFn U "same_kind" f_same_kind false
  kind_of_case : HasFn U "kind_of_case" f_kind_of_case false
  kind_of_use : HasFn U "kind_of_use" f_kind_of_use false
  kind_of : HasFn U "kind_of" f_kind_of false
/-- a kind, or NoKind -/
def koR (o : Option Kd) (τ : QSt) : QR PV := match o with
  | some k => .ok (K k) τ
  | none => .exc "NoKind" [] τ
def Kd.wd : Kd → Str
  | .none => "none" | .one => "one" | .either _ _ => "either" | .both _ _ => "both" | .way _ _ => "way"
section
variable {U : QT} {r : Nat} {τ : QSt} {P : PV → Prop}
theorem ok_kwd (k : Kd) : strOkB k.wd = true := by cases k <;> simp only [Kd.wd, ok_none, ok_one, ok_either, ok_both, ok_way]
theorem x_K {k : Kd} : @Ho _ (ixQ (K k) (.int 0)) P = P (.str k.wd) := by
  cases k <;> simp only [K, x_T, at_0, ho_some, Kd.wd]
theorem koR_of {m : QR PV} {o : Option Kd} (h : @Wq _ m (fun v τ' => (∃ k, o = some k ∧ v = K k) ∧ τ' = τ) (fun c fs τ' => (c = "NoKind" ∧ fs = []) ∧ o = none ∧ τ' = τ)) : m = koR o τ := by
  cases m with
  | ok v τ' => obtain ⟨⟨k, rfl, rfl⟩, rfl⟩ := h; rfl
  | exc c fs τ' => obtain ⟨⟨rfl, rfl⟩, rfl, rfl⟩ := h; rfl
  | bad => exact h.elim
theorem q_need (hf : HasKo U) {k : Kd} {w : Str} (hw : strOkB w = true) : callQ U (r + 1) "need" [.v (K k), .v (.str w)] τ = koR (if k.wd = w then some k else none) τ := by
  refine koR_of (wq_call hf.need rfl rfl ?_)
  simp only [f_need]
  have okk := ok_kwd k
  by_cases h : k.wd = w
  · (walk_at "q"; repeat (simp only [x_K, okk, hw, h]; walk_at "q"))
  · (walk_at "q"; repeat (simp only [x_K, okk, hw, h]; walk_at "q"))
theorem q_same (hf : HasKo U) {a b : Kd} (ha : a.dep ≤ 100) (hb : b.dep ≤ 100) : callQ U (r + 1) "same_kind" [.v (K a), .v (K b)] τ = koR (if a = b then some a else none) τ := by
  refine koR_of (wq_call hf.same_kind rfl rfl ?_)
  simp only [f_same_kind]
  by_cases h : a = b
  · walk_at "q"
    rw [o_ne]
    refine ⟨cmp_K ha hb, ?_⟩
    (walk_at "q"; repeat (simp only [beq_K, h]; walk_at "q"))
  · walk_at "q"
    rw [o_ne]
    refine ⟨cmp_K ha hb, ?_⟩
    (walk_at "q"; repeat (simp only [beq_K, h]; walk_at "q"))
theorem map_cons1 {k : Kd} {ns : List Kd} : PV.tup (K k :: ns.map K) = .tup ((k :: ns).map K) := rfl
theorem q_kof (hf : HasKo U) : ∀ (m : Nat) (p : Pg) (ns : List Kd) (r : Nat) (τ : QSt), p.pd < m → KOk ns p → ns.length + p.pd ≤ 100000 → 2 * p.pd + 2 ≤ r → callQ U (r + 1) "kind_of" [.v (PP p), .v (.tup (ns.map K))] τ = koR (kdOf ns p) τ := by
  intro m
  induction m with
  | zero => intro p ns r τ h; omega
  | succ m ih =>
    intro p ns r τ hm hk hn hr
    obtain ⟨r, rfl⟩ : ∃ r', r = r' + 2 := ⟨r - 2, by omega⟩
    refine koR_of (wq_call hf.kind_of rfl rfl ?_)
    simp only [f_kind_of]
    cases p with
    | name n =>
      simp only [PP]
      by_cases h : ((ns.length : Nat) : Int) ≤ (n : Int)
      · (walk_at "q"; repeat (simp only [h]; walk_at "q"))
        simp only [kdOf, List.getElem?_eq_none (show ns.length ≤ n by omega)]
      · have hlt : n < ns.length := by omega
        have ea : atI (ns.map K) (n : Int) = some (K ns[n]) := at_nat (by rw [List.getElem?_map, List.getElem?_eq_getElem hlt]; rfl)
        (walk_at "q"; repeat (simp only [h, ea]; walk_at "q"))
        exact ⟨ns[n], List.getElem?_eq_getElem hlt, rfl⟩
    | star =>
      simp only [PP]
      walk_at "q"
      exact ⟨.one, rfl, rfl⟩
    | pair a b =>
      obtain ⟨_, ha, hb⟩ := hk
      simp only [Pg.pd] at hm hn hr
      simp only [PP]
      walk_at "q"
      rw [ih a ns _ _ (by omega) ha (by omega) (by omega)]
      cases ea : kdOf ns a with
      | none =>
        simp only [koR]
        walk_at "q"
        simp only [kdOf, ea]
      | some ka =>
        simp only [koR]
        walk_at "q"
        rw [ih b ns _ _ (by omega) hb (by omega) (by omega)]
        cases eb : kdOf ns b with
        | none =>
          simp only [koR]
          walk_at "q"
          simp only [kdOf, ea, eb]
        | some kb =>
          simp only [koR]
          walk_at "q"
          exact ⟨.both ka kb, by simp only [kdOf, ea, eb], rfl⟩
    | left k a =>
      obtain ⟨_, ha⟩ := hk
      simp only [Pg.pd] at hm hn hr
      simp only [PP]
      walk_at "q"
      rw [ih a ns _ _ (by omega) ha (by omega) (by omega)]
      cases ea : kdOf ns a with
      | none =>
        simp only [koR]
        walk_at "q"
        simp only [kdOf, ea]
      | some ka =>
        simp only [koR]
        walk_at "q"
        exact ⟨.either ka k, by simp only [kdOf, ea], rfl⟩
    | right k a =>
      obtain ⟨_, ha⟩ := hk
      simp only [Pg.pd] at hm hn hr
      simp only [PP]
      walk_at "q"
      rw [ih a ns _ _ (by omega) ha (by omega) (by omega)]
      cases ea : kdOf ns a with
      | none =>
        simp only [koR]
        walk_at "q"
        simp only [kdOf, ea]
      | some ka =>
        simp only [koR]
        walk_at "q"
        exact ⟨.either k ka, by simp only [kdOf, ea], rfl⟩
    | way k a =>
      obtain ⟨_, ha⟩ := hk
      simp only [Pg.pd] at hm hn hr
      simp only [PP]
      walk_at "q"
      refine ⟨big (by first | omega | (simp; omega)), ?_⟩
      rw [map_cons1, ih a (k :: ns) _ _ (by omega) ha (by simp; omega) (by omega)]
      cases ea : kdOf (k :: ns) a with
      | none =>
        simp only [koR]
        walk_at "q"
        simp only [kdOf, ea]
      | some ka =>
        simp only [koR]
        walk_at "q"
        exact ⟨.way k ka, by simp only [kdOf, ea], rfl⟩
    | case c a b =>
      obtain ⟨hc, hab⟩ := hk
      simp only [Pg.pd] at hm hn hr
      simp only [PP]
      walk_at "q"
      refine wq_call hf.kind_of_case rfl rfl ?_
      simp only [f_kind_of_case]
      walk_at "q"
      rw [ih c ns _ _ (by omega) hc (by omega) (by omega)]
      cases ec : kdOf ns c with
      | none =>
        simp only [koR]
        walk_at "q"
        simp only [kdOf, ec]
      | some kc =>
        simp only [koR]
        walk_at "q"
        rw [q_need hf ok_either]
        by_cases hw : kc.wd = "either"
        · cases kc with
          | either ka kb =>
            obtain ⟨h1, h2⟩ := hab _ _ ec
            rw [if_pos hw]
            simp only [koR, K]
            walk_at "q"
            refine ⟨big (by first | omega | (simp; omega)), ?_⟩
            rw [map_cons1, ih a (ka :: ns) _ _ (by omega) h1 (by simp; omega) (by omega)]
            cases ea : kdOf (ka :: ns) a with
            | none =>
              simp only [koR]
              walk_at "q"
              simp only [kdOf, ec, ea]
            | some k1 =>
              simp only [koR]
              walk_at "q"
              refine ⟨big (by first | omega | (simp; omega)), ?_⟩
              rw [map_cons1, ih b (kb :: ns) _ _ (by omega) h2 (by simp; omega) (by omega)]
              cases eb : kdOf (kb :: ns) b with
              | none =>
                simp only [koR]
                walk_at "q"
                simp only [kdOf, ec, ea, eb]
              | some k2 =>
                simp only [koR]
                walk_at "q"
                rw [q_same hf (h1.dep ea) (h2.dep eb)]
                by_cases h12 : k1 = k2
                · rw [if_pos h12]
                  simp only [koR]
                  walk_at "q"
                  exact ⟨k1, by simp only [kdOf, ec, ea, eb, h12, if_true], rfl⟩
                · rw [if_neg h12]
                  simp only [koR]
                  walk_at "q"
                  simp only [kdOf, ec, ea, eb, h12, if_false]
          | _ => simp only [Kd.wd] at hw; exact absurd hw (by decide)
        · rw [if_neg hw]
          simp only [koR]
          walk_at "q"
          simp only [kdOf, ec]
          cases kc <;> first | rfl | exact (hw rfl).elim
    | never k a =>
      obtain ⟨_, ha⟩ := hk
      simp only [Pg.pd] at hm hn hr
      simp only [PP]
      walk_at "q"
      refine wq_call hf.kind_of_use rfl rfl ?_
      simp only [f_kind_of_use]
      walk_at "q"
      rw [ih a ns _ _ (by omega) ha (by omega) (by omega)]
      cases ea : kdOf ns a with
      | none =>
        simp only [koR]
        walk_at "q"
        simp only [kdOf, ea]
      | some ka =>
        simp only [koR]
        walk_at "q"
        rw [q_need hf ok_none]
        by_cases hw : ka.wd = "none"
        · cases ka with
          | none =>
            rw [if_pos hw]
            simp only [koR]
            walk_at "q"
            exact ⟨k, by simp only [kdOf, ea], rfl⟩
          | _ => simp only [Kd.wd] at hw; exact absurd hw (by decide)
        · rw [if_neg hw]
          simp only [koR]
          walk_at "q"
          simp only [kdOf, ea]
          cases ka <;> first | rfl | exact (hw rfl).elim
    | first a =>
      have ha : KOk ns a := hk
      simp only [Pg.pd] at hm hn hr
      simp only [PP]
      walk_at "q"
      refine wq_call hf.kind_of_use rfl rfl ?_
      simp only [f_kind_of_use]
      walk_at "q"
      rw [ih a ns _ _ (by omega) ha (by omega) (by omega)]
      cases ea : kdOf ns a with
      | none =>
        simp only [koR]
        walk_at "q"
        simp only [kdOf, ea]
      | some ka =>
        simp only [koR]
        walk_at "q"
        rw [q_need hf ok_both]
        by_cases hw : ka.wd = "both"
        · cases ka with
          | both x y =>
            rw [if_pos hw]
            simp only [koR, K]
            walk_at "q"
            exact ⟨x, by simp only [kdOf, ea], rfl⟩
          | _ => simp only [Kd.wd] at hw; exact absurd hw (by decide)
        · rw [if_neg hw]
          simp only [koR]
          walk_at "q"
          simp only [kdOf, ea]
          cases ka <;> first | rfl | exact (hw rfl).elim
    | second a =>
      have ha : KOk ns a := hk
      simp only [Pg.pd] at hm hn hr
      simp only [PP]
      walk_at "q"
      refine wq_call hf.kind_of_use rfl rfl ?_
      simp only [f_kind_of_use]
      walk_at "q"
      rw [ih a ns _ _ (by omega) ha (by omega) (by omega)]
      cases ea : kdOf ns a with
      | none =>
        simp only [koR]
        walk_at "q"
        simp only [kdOf, ea]
      | some ka =>
        simp only [koR]
        walk_at "q"
        rw [q_need hf ok_both]
        by_cases hw : ka.wd = "both"
        · cases ka with
          | both x y =>
            rw [if_pos hw]
            simp only [koR, K]
            walk_at "q"
            exact ⟨y, by simp only [kdOf, ea], rfl⟩
          | _ => simp only [Kd.wd] at hw; exact absurd hw (by decide)
        · rw [if_neg hw]
          simp only [koR]
          walk_at "q"
          simp only [kdOf, ea]
          cases ka <;> first | rfl | exact (hw rfl).elim
    | lets a b =>
      obtain ⟨ha, hb⟩ := hk
      simp only [Pg.pd] at hm hn hr
      simp only [PP]
      walk_at "q"
      refine wq_call hf.kind_of_use rfl rfl ?_
      simp only [f_kind_of_use]
      walk_at "q"
      rw [ih a ns _ _ (by omega) ha (by omega) (by omega)]
      cases ea : kdOf ns a with
      | none =>
        simp only [koR]
        walk_at "q"
        simp only [kdOf, ea]
      | some ka =>
        simp only [koR]
        walk_at "q"
        refine ⟨big (by first | omega | (simp; omega)), ?_⟩
        rw [map_cons1, ih b (ka :: ns) _ _ (by omega) (hb _ ea) (by simp; omega) (by omega)]
        cases eb : kdOf (ka :: ns) b with
        | none =>
          simp only [koR]
          walk_at "q"
          simp only [kdOf, ea, eb]
        | some kb =>
          simp only [koR]
          walk_at "q"
          exact ⟨kb, by simp only [kdOf, ea, eb], rfl⟩
    | give f x =>
      obtain ⟨ha, hb⟩ := hk
      simp only [Pg.pd] at hm hn hr
      simp only [PP]
      walk_at "q"
      refine wq_call hf.kind_of_use rfl rfl ?_
      simp only [f_kind_of_use]
      walk_at "q"
      rw [ih f ns _ _ (by omega) ha (by omega) (by omega)]
      cases ea : kdOf ns f with
      | none =>
        simp only [koR]
        walk_at "q"
        simp only [kdOf, ea]
      | some ka =>
        simp only [koR]
        walk_at "q"
        rw [q_need hf ok_way]
        by_cases hw : ka.wd = "way"
        · cases ka with
          | way y z =>
            have hd := ha.dep ea
            simp only [Kd.dep] at hd
            rw [if_pos hw]
            simp only [koR, K]
            walk_at "q"
            rw [ih x ns _ _ (by omega) hb (by omega) (by omega)]
            cases eb : kdOf ns x with
            | none =>
              simp only [koR]
              walk_at "q"
              simp only [kdOf, ea, eb]
            | some kb =>
              simp only [koR]
              walk_at "q"
              rw [q_same hf (by omega) (hb.dep eb)]
              by_cases h12 : y = kb
              · rw [if_pos h12]
                simp only [koR]
                walk_at "q"
                exact ⟨z, by simp only [kdOf, ea, eb, h12, if_true], rfl⟩
              · rw [if_neg h12]
                simp only [koR]
                walk_at "q"
                simp only [kdOf, ea, eb, h12, if_false]
          | _ => simp only [Kd.wd] at hw; exact absurd hw (by decide)
        · rw [if_neg hw]
          simp only [koR]
          walk_at "q"
          simp only [kdOf, ea]
          cases ka <;> first | rfl | exact (hw rfl).elim
/-- of a program that has a kind -/
theorem q_kofT (hf : HasKo U) {p : Pg} {ns : List Kd} {k : Kd} (h : Ty ns p k) (hn : ∀ k ∈ ns, k.dep ≤ 100) (hl : ns.length + p.pd ≤ 100000) (hr : 2 * p.pd + 2 ≤ r) : callQ U (r + 1) "kind_of" [.v (PP p), .v (.tup (ns.map K))] τ = .ok (K k) τ := by
  rw [q_kof hf _ p ns r τ (Nat.lt_succ_self _) ((TyP.kok (fun _ z => z) hn h)) hl hr, h.kd]
  rfl
end
end EK

namespace EK
open PySem PySem.Spec L2
/-! ### worlds -/
structure WS where
  non : List PV
  one : List PV
  eit : List PV → List PV → List PV
  bot : List PV → List PV → List PV
  wty : List PV → List PV → List PV
  star : PV
  paired : PV → PV → PV
  fst : Kd → PV → PV
  snd : Kd → PV → PV
  lft : Kd → PV → PV
  rgt : Kd → PV → PV
  prt : Kd → PV → Bool × PV
  wov : Kd → List PV → PV
  giv : Kd → PV → PV → PV
  bnd : Kd → PV → PV
  nev : Kd → PV
def Kd.a : Kd → Kd
  | .either a _ => a
  | .both a _ => a
  | .way a _ => a
  | k => k
def Kd.b : Kd → Kd
  | .either _ b => b
  | .both _ b => b
  | .way _ b => b
  | k => k
def kd' (ns : List Kd) (p : Pg) : Kd := (kdOf ns p).getD .none
theorem TyP.kd' {P : Kd → Prop} {ns : List Kd} {p : Pg} {k : Kd} (h : TyP P ns p k) : kd' ns p = k := by unfold EK.kd'; rw [h.kd]; rfl
namespace WS
variable (W : WS)
/-- the things of a kind -/
def ths : Kd → List PV
  | .none => W.non
  | .one => W.one
  | .either a b => W.eit (ths a) (ths b)
  | .both a b => W.bot (ths a) (ths b)
  | .way a b => W.wty (ths a) (ths b)
/-- what a program tells at a row -/
def ev : List Kd → Pg → List PV → PV
  | _, .name n, row => row.getD n .non
  | _, .star, _ => W.star
  | ns, .pair a b, row => W.paired (ev ns a row) (ev ns b row)
  | ns, .left k a, row => W.lft (.either (kd' ns a) k) (ev ns a row)
  | ns, .right k a, row => W.rgt (.either k (kd' ns a)) (ev ns a row)
  | ns, .way k a, row => W.wov (.way k (kd' (k :: ns) a)) ((W.ths k).map fun x => ev (k :: ns) a (x :: row))
  | ns, .case c a b, row => if (W.prt (kd' ns c) (ev ns c row)).1 = true then ev ((kd' ns c).b :: ns) b ((W.prt (kd' ns c) (ev ns c row)).2 :: row) else ev ((kd' ns c).a :: ns) a ((W.prt (kd' ns c) (ev ns c row)).2 :: row)
  | ns, .first a, row => W.fst (kd' ns a) (ev ns a row)
  | ns, .second a, row => W.snd (kd' ns a) (ev ns a row)
  | ns, .give f x, row => W.giv (kd' ns f) (ev ns f row) (ev ns x row)
  | ns, .lets a b, row => ev (kd' ns a :: ns) b (W.bnd (kd' ns a) (ev ns a row) :: row)
  | _, .never k _, _ => W.nev k
/-- a row of names -/
def RI : List Kd → List PV → Prop
  | [], row => row = []
  | k :: ns, row => ∃ x r, row = x :: r ∧ x ∈ W.ths k ∧ RI ns r
/-- its deeds keep to the things -/
structure Ok (F : Kd → Prop) : Prop where
  star_in : W.star ∈ W.one
  paired_in : ∀ a b x y, F (.both a b) → x ∈ W.ths a → y ∈ W.ths b → W.paired x y ∈ W.ths (.both a b)
  fst_in : ∀ a b x, F (.both a b) → x ∈ W.ths (.both a b) → W.fst (.both a b) x ∈ W.ths a
  snd_in : ∀ a b x, F (.both a b) → x ∈ W.ths (.both a b) → W.snd (.both a b) x ∈ W.ths b
  lft_in : ∀ a b x, F (.either a b) → x ∈ W.ths a → W.lft (.either a b) x ∈ W.ths (.either a b)
  rgt_in : ∀ a b x, F (.either a b) → x ∈ W.ths b → W.rgt (.either a b) x ∈ W.ths (.either a b)
  prt_in : ∀ a b x, F (.either a b) → x ∈ W.ths (.either a b) → (W.prt (.either a b) x).2 ∈ if (W.prt (.either a b) x).1 = true then W.ths b else W.ths a
  wov_in : ∀ a b (vs : List PV), F (.way a b) → vs.length = (W.ths a).length → (∀ v ∈ vs, v ∈ W.ths b) → W.wov (.way a b) vs ∈ W.ths (.way a b)
  giv_in : ∀ a b f x, F (.way a b) → f ∈ W.ths (.way a b) → x ∈ W.ths a → W.giv (.way a b) f x ∈ W.ths b
  bnd_in : ∀ k x, F k → x ∈ W.ths k → W.bnd k x ∈ W.ths k
  nev_in : ∀ k x, F k → x ∈ W.non → W.nev k ∈ W.ths k
variable {W}
theorem RI.nil : W.RI [] [] := rfl
theorem RI.cons {k : Kd} {ns : List Kd} {x : PV} {row : List PV} (hx : x ∈ W.ths k) (h : W.RI ns row) : W.RI (k :: ns) (x :: row) := ⟨x, row, rfl, hx, h⟩
theorem RI.len : ∀ {ns : List Kd} {row : List PV}, W.RI ns row → row.length = ns.length
  | [], _, h => by rw [show _ = [] from h]; rfl
  | k :: ns, _, ⟨x, r, e, _, h⟩ => by rw [e, List.length_cons, List.length_cons, RI.len h]
theorem RI.get : ∀ {ns : List Kd} {row : List PV} {n : Nat} {k : Kd}, W.RI ns row → ns[n]? = some k → ∃ x, row[n]? = some x ∧ x ∈ W.ths k
  | [], _, _, _, _, e => by simp at e
  | k :: ns, _, n, k', ⟨x, r, e0, hx, h⟩, e => by
    subst e0
    cases n with
    | zero => cases e; exact ⟨x, rfl, hx⟩
    | succ n => exact RI.get (n := n) h (by simpa using e)
theorem ev_in {F : Kd → Prop} (ok : W.Ok F) : ∀ {p : Pg} {ns : List Kd} {k : Kd} {row : List PV}, TyP F ns p k → W.RI ns row → W.ev ns p row ∈ W.ths k
  | .name n, ns, k, row, h, hr => by
    obtain ⟨x, e, hx⟩ := hr.get h.2
    simp only [ev, List.getD_eq_getElem?_getD, e]
    exact hx
  | .star, ns, k, row, h, hr => by rw [h.2]; exact ok.star_in
  | .pair a b, ns, k, row, ⟨hF, ka, kb, e, ha, hb⟩, hr => by
    subst e
    exact ok.paired_in _ _ _ _ hF (ev_in ok ha hr) (ev_in ok hb hr)
  | .left kb a, ns, k, row, ⟨hF, ka, e, ha⟩, hr => by
    subst e
    simp only [ev, ha.kd']
    exact ok.lft_in _ _ _ hF (ev_in ok ha hr)
  | .right ka b, ns, k, row, ⟨hF, kb, e, hb⟩, hr => by
    subst e
    simp only [ev, hb.kd']
    exact ok.rgt_in _ _ _ hF (ev_in ok hb hr)
  | .way ka b, ns, k, row, ⟨hF, kb, e, hb⟩, hr => by
    subst e
    simp only [ev, hb.kd']
    refine ok.wov_in _ _ _ hF (by simp) fun v hv => ?_
    obtain ⟨x, hx, rfl⟩ := List.mem_map.mp hv
    exact ev_in ok hb (hr.cons hx)
  | .case c a b, ns, k, row, ⟨hF, ka, kb, hc, ha, hb⟩, hr => by
    have h := ok.prt_in _ _ _ hc.here (ev_in ok hc hr)
    simp only [ev, hc.kd']
    split
    · rename_i e
      rw [if_pos e] at h
      exact ev_in ok hb (hr.cons h)
    · rename_i e
      rw [if_neg e] at h
      exact ev_in ok ha (hr.cons h)
  | .first a, ns, k, row, ⟨hF, kb, ha⟩, hr => by
    simp only [ev, ha.kd']
    exact ok.fst_in _ _ _ ha.here (ev_in ok ha hr)
  | .second a, ns, k, row, ⟨hF, kb, ha⟩, hr => by
    simp only [ev, ha.kd']
    exact ok.snd_in _ _ _ ha.here (ev_in ok ha hr)
  | .give f x, ns, k, row, ⟨hF, ka, hf, hx⟩, hr => by
    simp only [ev, hf.kd']
    exact ok.giv_in _ _ _ _ hf.here (ev_in ok hf hr) (ev_in ok hx hr)
  | .lets a b, ns, k, row, ⟨hF, ka, ha, hb⟩, hr => by
    simp only [ev, ha.kd']
    exact ev_in ok hb (hr.cons (ok.bnd_in _ _ ha.here (ev_in ok ha hr)))
  | .never k' a, ns, k, row, ⟨hF, e, ha⟩, hr => by
    subst e
    exact ok.nev_in _ _ hF (ev_in ok ha hr)
/-! ### rows -/
/-- all rows, sorted by the first, then the second and so on -/
def rws (W : WS) : List Kd → List (List PV)
  | [] => [[]]
  | k :: ns => (W.ths k).flatMap fun x => (rws W ns).map (x :: ·)
/-- rows by one name more behind -/
def snoc (W : WS) (acc : List (List PV)) (k : Kd) : List (List PV) := acc.flatMap fun row => (W.ths k).map fun x => row ++ [x]
theorem snoc_app (a b : List (List PV)) (k : Kd) : W.snoc (a ++ b) k = W.snoc a k ++ W.snoc b k := by simp [snoc]
theorem snoc_map (x : PV) (a : List (List PV)) (k : Kd) : W.snoc (a.map (x :: ·)) k = (W.snoc a k).map (x :: ·) := by
  simp only [snoc, List.flatMap_map, List.map_flatMap, List.map_map]
  rfl
theorem snoc_flat (xs : List PV) (f : PV → List (List PV)) (k : Kd) : W.snoc (xs.flatMap f) k = xs.flatMap fun x => W.snoc (f x) k := by
  induction xs with
  | nil => rfl
  | cons x xs ih => rw [List.flatMap_cons, List.flatMap_cons, snoc_app, ih]
theorem rws_snoc (ns : List Kd) (k : Kd) : W.rws (ns ++ [k]) = W.snoc (W.rws ns) k := by
  induction ns with
  | nil =>
    simp only [List.nil_append, rws, snoc, List.map_cons, List.map_nil, List.flatMap_cons, List.flatMap_nil, List.append_nil]
    induction W.ths k with
    | nil => rfl
    | cons x xs ih => simp [ih]
  | cons a ns ih =>
    show (W.ths a).flatMap (fun x => (W.rws (ns ++ [k])).map (x :: ·)) = _
    rw [ih]
    show _ = W.snoc ((W.ths a).flatMap fun x => (W.rws ns).map (x :: ·)) k
    rw [snoc_flat]
    congr 1
    funext x
    rw [snoc_map]
theorem rws_mem : ∀ {ns : List Kd} {row : List PV}, row ∈ W.rws ns ↔ W.RI ns row
  | [], row => by simp [rws, RI]
  | k :: ns, row => by
    simp only [rws, List.mem_flatMap, List.mem_map, RI]
    constructor
    · rintro ⟨x, hx, r, hr, rfl⟩
      exact ⟨x, r, rfl, hx, rws_mem.mp hr⟩
    · rintro ⟨x, r, rfl, hx, hr⟩
      exact ⟨x, hx, r, rws_mem.mpr hr, rfl⟩
theorem rws_len : ∀ ns : List Kd, (W.rws ns).length = (ns.map fun k => (W.ths k).length).prod
  | [] => rfl
  | k :: ns => by
    rw [List.map_cons, List.prod_cons, ← rws_len ns]
    simp only [rws]
    induction W.ths k with
    | nil => simp
    | cons x xs ih => rw [List.flatMap_cons, List.length_append, ih, List.length_cons, Nat.add_mul, List.length_map]; omega
end WS
/-! ### the plain world -/
def ixP (xs : List PV) (x : PV) : Nat := (xs.findIdx? fun y => beqPV y x).getD 0
def itP (v : PV) (i : Nat) : PV := match v with
  | .tup xs => xs.getD i .non
  | _ => .non
def tupP (v : PV) : List PV := match v with
  | .tup xs => xs
  | _ => []
def wP : WS where
  non := []
  one := [.tup []]
  eit a b := a.map (fun x => .tup [.str "l", x]) ++ b.map (fun x => .tup [.str "r", x])
  bot a b := a.flatMap fun x => b.map fun y => .tup [.str "p", x, y]
  wty a b := (wys b a.length).map fun x => .tup [.str "w", x]
  star := .tup []
  paired x y := .tup [.str "p", x, y]
  fst _ x := itP x 1
  snd _ x := itP x 2
  lft _ x := .tup [.str "l", x]
  rgt _ x := .tup [.str "r", x]
  prt _ x := (match x with
    | .tup (.str w :: _) => decide (w = "r")
    | _ => false, itP x 1)
  wov _ vs := .tup [.str "w", .tup vs]
  giv k f x := (tupP (itP f 1)).getD (ixP (EK.ths k.a) x) .non
  bnd _ x := x
  nev _ := .non
theorem ths_P : ∀ k : Kd, wP.ths k = EK.ths k
  | .none => rfl
  | .one => rfl
  | .either a b => by simp only [WS.ths, EK.ths, ths_P a, ths_P b]; rfl
  | .both a b => by simp only [WS.ths, EK.ths, ths_P a, ths_P b]; rfl
  | .way a b => by simp only [WS.ths, EK.ths, ths_P a, ths_P b]; rfl
theorem wys_mem {bs : List PV} : ∀ {n : Nat} {l : List PV}, l.length = n → (∀ y ∈ l, y ∈ bs) → PV.tup l ∈ wys bs n
  | 0, l, h, _ => by
    rw [List.length_eq_zero_iff.mp h]
    simp [wys]
  | n + 1, l, h, hl => by
    have hne : l ≠ [] := by rintro rfl; simp at h
    have e := List.dropLast_concat_getLast hne
    simp only [wys, List.mem_flatMap, List.mem_map]
    refine ⟨.tup l.dropLast, wys_mem (by simp [h]) fun y hy => hl y (by rw [List.dropLast_eq_take] at hy; exact List.mem_of_mem_take hy), l.getLast hne, hl _ (List.getLast_mem hne), ?_⟩
    simp only [ap1]
    rw [e]
theorem ixP_at {xs : List PV} {i : Nat} {x : PV} (hn : xs.Nodup) (hc : ∀ y ∈ xs, clean y = true) (h : xs[i]? = some x) : ixP xs x = i := by
  unfold ixP
  rw [find_at (hc x (List.mem_of_getElem? h)) hn hc h]
  rfl
theorem wP_ok {F : Kd → Prop} : wP.Ok F where
  star_in := by simp [wP]
  paired_in a b x y _ hx hy := by
    rw [ths_P] at hx hy ⊢
    simp only [EK.ths, List.mem_flatMap, List.mem_map]
    exact ⟨x, hx, y, hy, rfl⟩
  fst_in a b x _ hx := by
    rw [ths_P] at hx ⊢
    simp only [EK.ths, List.mem_flatMap, List.mem_map] at hx
    obtain ⟨u, hu, v, hv, rfl⟩ := hx
    exact hu
  snd_in a b x _ hx := by
    rw [ths_P] at hx ⊢
    simp only [EK.ths, List.mem_flatMap, List.mem_map] at hx
    obtain ⟨u, hu, v, hv, rfl⟩ := hx
    exact hv
  lft_in a b x _ hx := by
    rw [ths_P] at hx ⊢
    simp only [EK.ths, List.mem_append, List.mem_map]
    exact .inl ⟨x, hx, rfl⟩
  rgt_in a b x _ hx := by
    rw [ths_P] at hx ⊢
    simp only [EK.ths, List.mem_append, List.mem_map]
    exact .inr ⟨x, hx, rfl⟩
  prt_in a b x _ hx := by
    rw [ths_P] at hx
    simp only [EK.ths, List.mem_append, List.mem_map] at hx
    rcases hx with ⟨u, hu, rfl⟩ | ⟨u, hu, rfl⟩
    · rw [if_neg (show ¬ (wP.prt (.either a b) (.tup [.str "l", u])).1 = true by show ¬ decide (("l" : Str) = "r") = true; decide), ths_P]; exact hu
    · rw [if_pos (show (wP.prt (.either a b) (.tup [.str "r", u])).1 = true by show decide (("r" : Str) = "r") = true; decide), ths_P]; exact hu
  wov_in a b vs _ hl hv := by
    simp only [ths_P] at hl hv ⊢
    simp only [EK.ths, List.mem_map]
    exact ⟨.tup vs, wys_mem hl hv, rfl⟩
  giv_in a b f x _ hf hx := by
    simp only [ths_P] at hf hx ⊢
    simp only [EK.ths, List.mem_map] at hf
    obtain ⟨t, ht, rfl⟩ := hf
    obtain ⟨l, rfl, hl, hm⟩ := wys_tup _ _ ht
    obtain ⟨i, hi⟩ := List.getElem?_of_mem hx
    have hix : ixP (EK.ths a) x = i := ixP_at (nodup_ths a) (fun y hy => (ok_ths a hy).1) hi
    have hlt := (List.getElem?_eq_some_iff.mp hi).1
    show l.getD (ixP (EK.ths (Kd.way a b).a) x) .non ∈ _
    rw [show (Kd.way a b).a = a from rfl, hix, List.getD_eq_getElem?_getD, List.getElem?_eq_getElem (by omega)]
    exact hm _ (List.getElem_mem _)
  bnd_in k x _ hx := hx
  nev_in k x _ hx := by simp [wP] at hx
end EK

namespace EK
open PySem PySem.Spec L2
local macro_rules | `(tactic| walk_at "q") => `(tactic| (try simp (config := {decide := true}) only [ho_some, ho_none, wq_ok, wq_exc, x_nil, x_cons, x_asg, tupX_v, x_asgT, x_asgC, newQ_vl, x_exp, cGe_v, cGe_c, x_ret, x_ifs, x_pass, x_raise, x_asgIx, q_slot, vs_v, vs_c, Option.isSome_some, nf_v, nf_c, q_isTru, q_revL, q_enGet, q_new, q_mcall, q_callc, q_callv, x_tryN, x_cloRet, bx_v, ob_v, eg_v, cl_z, cl_s, cp_n, cp_c, q_cst, c_non, c_bl, c_int, c_str, q_glo, q_nil, q_cons, q_anil, q_acons, cellA_f, cellA_v, frz_v, frz_c, frzs_n, frzs_c, q_tup, q_lst, q_dsp, q_bin, q_cmp, q_ix, intX_i, q_neg, q_not, q_chn, q_and, q_or, q_ite, q_isN, q_notN, q_part, q_sl, q_prim, q_lrg, q_meth, q_ch, q_isT, q_cel, q_c0, q_c1, q_call, getS_z, getS_s, vw_v, vw_c, vws_n, vws_s, tru_r, co_z, co_s, co_a, co_a1, take_a, nQ_cut, b_addI, b_subI, b_mulI, b_divI, b_modI, b_powI, b_addT, b_addL, b_addS, o_ltI, o_leI, o_gtI, o_geI, o_eqI, o_neI, o_eqS, o_neS, o_in, o_nin, i_s2, i_s3, i_s4, x_T, x_L, x_C, x_D, d_c, s_T, s_L, s_C, p_lenT, p_lenL, p_lenC, p_intI, p_intB, p_abs, p_max, p_min, p_sum, p_tupT, p_tupL, p_lstT, p_lstL, p_any, p_all, p_lrg, m_ixT2, m_ixL2, m_get1, m_get2, k_app, k_ext, k_pop0, k_pop, k_clr, u_bl, u_int, u_non, u_tup, u_vl, g_nm, g_tp, g_wt, g_s0, g_s1, n_v, n_c, y_non, y_bl, y_int, y_str, y_tup, y_vl, pm_0, pm_1, non_vl, mq_app, mq_ext, mq_pop, mq_clr, mq_ixC, mq_ixT, mq_ixV, mq_get, im_o, im_oc, im_e, im_ec, sq_t, sq_l, ls_l, im_r, im_r2, im_r3, im_zT, im_zL, im_v, ok_both, ok_case, ok_either, ok_first, ok_give, ok_k, ok_kp, ok_l, ok_left, ok_let, ok_name, ok_never, ok_none, ok_odd, ok_one, ok_other, ok_p, ok_pair, ok_r, ok_right, ok_second, ok_split, ok_star, ok_w, ok_way, ok_within, ok_without, ok_wrong, ok_yes, ok_no, ok_n, ok_led, ok_lr, ok_pp, ok_ppp, non_int, non_non, non_tup, non_str, non_ref, non_bl, kit_tuple_NoneType, kit_tuple_bool, kit_tuple_int, kit_tuple_str, kit_tuple_tuple, kit_tuple_list, kit_list_NoneType, kit_list_bool, kit_list_int, kit_list_str, kit_list_tuple, kit_list_list, kit_int_NoneType, kit_int_bool, kit_int_int, kit_int_str, kit_int_tuple, kit_int_list, kit_bool_NoneType, kit_bool_bool, kit_bool_int, kit_bool_str, kit_bool_tuple, kit_bool_list, kit_str_NoneType, kit_str_bool, kit_str_int, kit_str_str, kit_str_tuple, kit_str_list, at_0, at_1, at_2, at_3, List.set_cons_zero, List.set_cons_succ, Option.some.injEq, exists_eq_left', true_and, and_true, and_self, decide_eq_true_eq, ↓reduceIte, if_true, if_false, decide_true, decide_false, Bool.false_eq_true, reduceCtorEq, List.length_cons, List.length_nil, List.map_cons, List.map_nil, Nat.zero_add, Int.reduceSub, Int.reduceAdd, Int.reduceNeg, Int.reduceMul, Nat.reduceAdd, Nat.reduceSub, Bool.not_true, Bool.not_false, Bool.or_false, Bool.or_true, Bool.true_or, Bool.false_or, Bool.and_true, Bool.and_false, Bool.true_and, Bool.false_and, List.replicate_succ, List.replicate_zero, List.cons_append, List.nil_append, List.append_assoc, List.take_length, List.take_succ_cons, List.length_append, isCel, frE, isCh, wipeQ, List.drop_nil, List.drop_zero, false_implies, true_implies, implies_true, forall_const, QX.v.injEq, sz_0, sz_1, sz_2, sz_3, sz_4, sz_5, sz_6, sz_7, sz_8, sz_9, sz_10, sz_11, sz_12, p_srt, co_dk, List.length_map, set_a, take_an, List.take_zero, List.take_nil, q_bnd, q_okO, ho_map, en_l, en_t, opt_map]))
namespace Lib
def f_crossed : FnI := ⟨["some", "others"], ["some", "others", "found", "one", "other"], [],
  (.cons (.asgC 2 (.lst .nil)) (.cons (.for (.nm 3) .over (.cons (.slot 0) .nil) (.cons (.for (.nm 4) .over (.cons (.slot 1) .nil) (.cons (.exp (.meth .append (.slot 2) (.cons (.tup (.cons (.slot 3) (.cons (.slot 4) .nil))) .nil))) .nil)) .nil)) (.cons (.ret (.slot 2)) .nil)))⟩
def f_powers : FnI := ⟨["some", "many"], ["some", "many", "found", "k", "row", "one"], [],
  (.cons (.asg (.nm 2) (.lst (.cons (.tup .nil) .nil))) (.cons (.for (.nm 3) .range (.cons (.slot 1) .nil) (.cons (.asg (.nm 2) (.comp [4, 5] (.tp [4, 5]) .over (.cons (.call "crossed" (.cons (.slot 2) (.cons (.slot 0) .nil))) .nil) .nil (.bin .add (.slot 4) (.tup (.cons (.slot 5) .nil))))) .nil)) (.cons (.ret (.slot 2)) .nil)))⟩
def m_World_things : FnI := ⟨["self", "kind"], ["self", "kind", "some", "others"], [],
  (.cons (.ifs (.cmp .eq (.ix (.slot 1) (.cst (.int 0))) (.cst (.str "none"))) (.cons (.ret (.mcall "none_things" (.slot 0) .nil)) .nil) .nil) (.cons (.ifs (.cmp .eq (.ix (.slot 1) (.cst (.int 0))) (.cst (.str "one"))) (.cons (.ret (.mcall "one_things" (.slot 0) .nil)) .nil) .nil) (.cons (.asg (.nm 2) (.mcall "things" (.slot 0) (.cons (.ix (.slot 1) (.cst (.int 1))) .nil))) (.cons (.asg (.nm 3) (.mcall "things" (.slot 0) (.cons (.ix (.slot 1) (.cst (.int 2))) .nil))) (.cons (.ifs (.cmp .eq (.ix (.slot 1) (.cst (.int 0))) (.cst (.str "either"))) (.cons (.ret (.mcall "either_things" (.slot 0) (.cons (.slot 2) (.cons (.slot 3) .nil)))) .nil) .nil) (.cons (.ifs (.cmp .eq (.ix (.slot 1) (.cst (.int 0))) (.cst (.str "both"))) (.cons (.ret (.mcall "both_things" (.slot 0) (.cons (.slot 2) (.cons (.slot 3) .nil)))) .nil) .nil) (.cons (.ret (.mcall "way_things" (.slot 0) (.cons (.slot 2) (.cons (.slot 3) .nil)))) .nil)))))))⟩
def m_World_rows : FnI := ⟨["self", "names"], ["self", "names", "found", "kind", "row", "one"], [],
  (.cons (.asgC 2 (.lst (.cons (.tup .nil) .nil))) (.cons (.for (.nm 3) .over (.cons (.slot 1) .nil) (.cons (.asgC 2 (.comp [4, 5] (.tp [4, 5]) .over (.cons (.call "crossed" (.cons (.slot 2) (.cons (.mcall "things" (.slot 0) (.cons (.slot 3) .nil)) .nil))) .nil) .nil (.bin .add (.slot 4) (.tup (.cons (.slot 5) .nil))))) .nil)) (.cons (.ret (.slot 2)) .nil)))⟩
def m_World_told : FnI := ⟨["self", "program", "row", "names"], ["self", "program", "row", "names", "word", "kind", "thing", "side", "inside", "other", "handed"], [],
  (.cons (.asg (.nm 4) (.ix (.slot 1) (.cst (.int 0)))) (.cons (.ifs (.cmp .eq (.slot 4) (.cst (.str "name"))) (.cons (.ret (.tup (.cons (.ix (.slot 3) (.ix (.slot 1) (.cst (.int 1)))) (.cons (.ix (.slot 2) (.ix (.slot 1) (.cst (.int 1)))) .nil)))) .nil) .nil) (.cons (.ifs (.cmp .eq (.slot 4) (.cst (.str "star"))) (.cons (.ret (.tup (.cons (.glo "ONE") (.cons (.mcall "star" (.slot 0) .nil) .nil)))) .nil) .nil) (.cons (.ifs (.or (.cmp .eq (.slot 4) (.cst (.str "left"))) (.cmp .eq (.slot 4) (.cst (.str "right")))) (.cons (.ret (.mcall "told_side" (.slot 0) (.cons (.slot 1) (.cons (.slot 2) (.cons (.slot 3) .nil))))) .nil) .nil) (.cons (.ifs (.cmp .eq (.slot 4) (.cst (.str "way"))) (.cons (.ret (.mcall "told_way" (.slot 0) (.cons (.slot 1) (.cons (.slot 2) (.cons (.slot 3) .nil))))) .nil) .nil) (.cons (.ifs (.cmp .eq (.slot 4) (.cst (.str "never"))) (.cons (.ret (.tup (.cons (.ix (.slot 1) (.cst (.int 1))) (.cons (.mcall "never" (.slot 0) (.cons (.ix (.slot 1) (.cst (.int 1))) .nil)) .nil)))) .nil) .nil) (.cons (.asg (.tp [5, 6]) (.mcall "told" (.slot 0) (.cons (.ix (.slot 1) (.cst (.int 1))) (.cons (.slot 2) (.cons (.slot 3) .nil))))) (.cons (.ifs (.cmp .eq (.slot 4) (.cst (.str "first"))) (.cons (.ret (.tup (.cons (.ix (.slot 5) (.cst (.int 1))) (.cons (.mcall "first_of" (.slot 0) (.cons (.slot 5) (.cons (.slot 6) .nil))) .nil)))) .nil) .nil) (.cons (.ifs (.cmp .eq (.slot 4) (.cst (.str "second"))) (.cons (.ret (.tup (.cons (.ix (.slot 5) (.cst (.int 2))) (.cons (.mcall "second_of" (.slot 0) (.cons (.slot 5) (.cons (.slot 6) .nil))) .nil)))) .nil) .nil) (.cons (.ifs (.cmp .eq (.slot 4) (.cst (.str "case"))) (.cons (.asg (.tp [7, 8]) (.mcall "parted" (.slot 0) (.cons (.slot 5) (.cons (.slot 6) .nil)))) (.cons (.ret (.mcall "told" (.slot 0) (.cons (.ix (.slot 1) (.bin .add (.cst (.int 2)) (.slot 7))) (.cons (.bin .add (.tup (.cons (.slot 8) .nil)) (.slot 2)) (.cons (.bin .add (.tup (.cons (.ix (.slot 5) (.bin .add (.cst (.int 1)) (.slot 7))) .nil)) (.slot 3)) .nil))))) .nil)) .nil) (.cons (.ifs (.cmp .eq (.slot 4) (.cst (.str "let"))) (.cons (.ret (.mcall "told" (.slot 0) (.cons (.ix (.slot 1) (.cst (.int 2))) (.cons (.bin .add (.tup (.cons (.mcall "bound" (.slot 0) (.cons (.slot 5) (.cons (.slot 6) .nil))) .nil)) (.slot 2)) (.cons (.bin .add (.tup (.cons (.slot 5) .nil)) (.slot 3)) .nil))))) .nil) .nil) (.cons (.asg (.tp [9, 10]) (.mcall "told" (.slot 0) (.cons (.ix (.slot 1) (.cst (.int 2))) (.cons (.slot 2) (.cons (.slot 3) .nil))))) (.cons (.ifs (.cmp .eq (.slot 4) (.cst (.str "pair"))) (.cons (.ret (.tup (.cons (.tup (.cons (.cst (.str "both")) (.cons (.slot 5) (.cons (.slot 9) .nil)))) (.cons (.mcall "paired" (.slot 0) (.cons (.slot 6) (.cons (.slot 10) .nil))) .nil)))) .nil) .nil) (.cons (.ret (.tup (.cons (.ix (.slot 5) (.cst (.int 2))) (.cons (.mcall "given_by" (.slot 0) (.cons (.slot 5) (.cons (.slot 6) (.cons (.slot 10) .nil)))) .nil)))) .nil))))))))))))))⟩
def m_World_told_side : FnI := ⟨["self", "program", "row", "names"], ["self", "program", "row", "names", "own", "thing", "kind"], [],
  (.cons (.asg (.tp [4, 5]) (.mcall "told" (.slot 0) (.cons (.ix (.slot 1) (.cst (.int 2))) (.cons (.slot 2) (.cons (.slot 3) .nil))))) (.cons (.ifs (.cmp .eq (.ix (.slot 1) (.cst (.int 0))) (.cst (.str "left"))) (.cons (.asg (.nm 6) (.tup (.cons (.cst (.str "either")) (.cons (.slot 4) (.cons (.ix (.slot 1) (.cst (.int 1))) .nil))))) (.cons (.ret (.tup (.cons (.slot 6) (.cons (.mcall "to_left" (.slot 0) (.cons (.slot 6) (.cons (.slot 5) .nil))) .nil)))) .nil)) .nil) (.cons (.asg (.nm 6) (.tup (.cons (.cst (.str "either")) (.cons (.ix (.slot 1) (.cst (.int 1))) (.cons (.slot 4) .nil))))) (.cons (.ret (.tup (.cons (.slot 6) (.cons (.mcall "to_right" (.slot 0) (.cons (.slot 6) (.cons (.slot 5) .nil))) .nil)))) .nil))))⟩
def m_World_told_way : FnI := ⟨["self", "program", "row", "names"], ["self", "program", "row", "names", "inner", "kind", "found", "thing"], [],
  (.cons (.asg (.nm 4) (.bin .add (.tup (.cons (.ix (.slot 1) (.cst (.int 1))) .nil)) (.slot 3))) (.cons (.asg (.nm 5) (.tup (.cons (.cst (.str "way")) (.cons (.ix (.slot 1) (.cst (.int 1))) (.cons (.call "kind_of" (.cons (.ix (.slot 1) (.cst (.int 2))) (.cons (.slot 4) .nil))) .nil))))) (.cons (.asgC 6 (.lst .nil)) (.cons (.for (.nm 7) .over (.cons (.mcall "things" (.slot 0) (.cons (.ix (.slot 1) (.cst (.int 1))) .nil)) .nil) (.cons (.exp (.meth .append (.slot 6) (.cons (.ix (.mcall "told" (.slot 0) (.cons (.ix (.slot 1) (.cst (.int 2))) (.cons (.bin .add (.tup (.cons (.slot 7) .nil)) (.slot 2)) (.cons (.slot 4) .nil)))) (.cst (.int 1))) .nil))) .nil)) (.cons (.ret (.tup (.cons (.slot 5) (.cons (.mcall "woven" (.slot 0) (.cons (.slot 5) (.cons (.prim .tuple (.cons (.slot 6) .nil)) .nil))) .nil)))) .nil)))))⟩
end Lib
open Lib
def worldMs : List Str := ["things", "none_things", "one_things", "either_things", "both_things", "way_things", "star", "paired", "first_of", "second_of", "to_left", "to_right", "parted", "woven", "given_by", "bound", "never", "rows", "told", "told_side", "told_way"]
/-- a class that has a world's things -/
structure HasWt (U : QT) (c : Str) (W : WS) (F : Kd → Prop) : Prop where
  ms : ∀ m ∈ worldMs, (U.T.mths.lookup (c, m)).isSome = true
  fdep : ∀ k, F k → k.dep ≤ 20
  fcnt : ∀ k, F k → (W.ths k).length ≤ 1000
  fe : ∀ a b, F (.either a b) → F a ∧ F b
  fb : ∀ a b, F (.both a b) → F a ∧ F b
  fw : ∀ a b, F (.way a b) → F a ∧ F b
  m_things : HasMt U c "things" m_World_things false
  none_things : ∀ r τ, metK U (r + 1) c "none_things" [.v (.obj c)] τ = .ok (.vl W.non) τ
  one_things : ∀ r τ, metK U (r + 1) c "one_things" [.v (.obj c)] τ = .ok (.vl W.one) τ
  either_things : ∀ r τ a b, F (.either a b) → metK U (r + 4) c "either_things" [.v (.obj c), .v (.vl (W.ths a)), .v (.vl (W.ths b))] τ = .ok (.vl (W.ths (.either a b))) τ
  both_things : ∀ r τ a b, F (.both a b) → metK U (r + 4) c "both_things" [.v (.obj c), .v (.vl (W.ths a)), .v (.vl (W.ths b))] τ = .ok (.vl (W.ths (.both a b))) τ
  way_things : ∀ r τ a b, F (.way a b) → metK U (r + 4) c "way_things" [.v (.obj c), .v (.vl (W.ths a)), .v (.vl (W.ths b))] τ = .ok (.vl (W.ths (.way a b))) τ
/-- a class that is a world -/
structure HasW (U : QT) (c : Str) (W : WS) (F : Kd → Prop) : Prop extends HasWt U c W F where
  ko : HasKo U
  crossed : HasFn U "crossed" f_crossed false
  one_glob : U.T.glob "ONE" = some (K .one)
  m_rows : HasMt U c "rows" m_World_rows true
  m_told : HasMt U c "told" m_World_told false
  m_side : HasMt U c "told_side" m_World_told_side false
  m_way : HasMt U c "told_way" m_World_told_way false
  star : ∀ r τ, metK U (r + 1) c "star" [.v (.obj c)] τ = .ok W.star τ
  paired : ∀ r τ a b x y, F (.both a b) → x ∈ W.ths a → y ∈ W.ths b → metK U (r + 1) c "paired" [.v (.obj c), .v x, .v y] τ = .ok (W.paired x y) τ
  first_of : ∀ r τ a b x, F (.both a b) → x ∈ W.ths (.both a b) → metK U (r + 40) c "first_of" [.v (.obj c), .v (K (.both a b)), .v x] τ = .ok (W.fst (.both a b) x) τ
  second_of : ∀ r τ a b x, F (.both a b) → x ∈ W.ths (.both a b) → metK U (r + 40) c "second_of" [.v (.obj c), .v (K (.both a b)), .v x] τ = .ok (W.snd (.both a b) x) τ
  to_left : ∀ r τ a b x, F (.either a b) → x ∈ W.ths a → metK U (r + 40) c "to_left" [.v (.obj c), .v (K (.either a b)), .v x] τ = .ok (W.lft (.either a b) x) τ
  to_right : ∀ r τ a b x, F (.either a b) → x ∈ W.ths b → metK U (r + 40) c "to_right" [.v (.obj c), .v (K (.either a b)), .v x] τ = .ok (W.rgt (.either a b) x) τ
  parted : ∀ r τ a b x, F (.either a b) → x ∈ W.ths (.either a b) → metK U (r + 1) c "parted" [.v (.obj c), .v (K (.either a b)), .v x] τ = .ok (.tup [.int (if (W.prt (.either a b) x).1 = true then 1 else 0), (W.prt (.either a b) x).2]) τ
  woven : ∀ r τ a b vs, F (.way a b) → vs.length = (W.ths a).length → (∀ v ∈ vs, v ∈ W.ths b) → metK U (r + 1) c "woven" [.v (.obj c), .v (K (.way a b)), .v (.tup vs)] τ = .ok (W.wov (.way a b) vs) τ
  given_by : ∀ r τ a b f x, F (.way a b) → f ∈ W.ths (.way a b) → x ∈ W.ths a → metK U (r + 40) c "given_by" [.v (.obj c), .v (K (.way a b)), .v f, .v x] τ = .ok (W.giv (.way a b) f x) τ
  bound : ∀ r τ k x, F k → x ∈ W.ths k → metK U (r + 40) c "bound" [.v (.obj c), .v (K k), .v x] τ = .ok (W.bnd k x) τ
  never : ∀ r τ k x, F k → x ∈ W.non → metK U (r + 40) c "never" [.v (.obj c), .v (K k)] τ = .ok (W.nev k) τ
section
variable {U : QT} {r : Nat} {τ : QSt} {c : Str} {W : WS} {F : Kd → Prop}
theorem cellO_app {k : Nat} {xs : List PV} {l : QSt} (h : cellO τ k = some xs) : cellO (τ ++ l) k = some xs := by
  unfold cellO at h ⊢
  split at h
  · rename_i ys e
    cases h
    rw [List.getElem?_append_left (List.getElem?_eq_some_iff.mp e).1, e]
  · cases h
theorem co_ai {ι l : QSt} {xs : List PV} : cellO (τ ++ (ι ++ some xs :: l)) (τ.length + ι.length) = some xs := by
  rw [← List.append_assoc, ← List.length_append]
  exact co_a
theorem q_crossedX (hf : HasFn U "crossed" f_crossed false) {X : QX} {xs ys : List PV} (hX : nfX X = true) (hi : ∀ l, itmQ .over [X] (τ ++ l) = some xs) (hz : xs.length * ys.length ≤ 1000000) : callQ U (r + 1) "crossed" [X, .v (.vl ys)] τ = .ok (.vl (xs.flatMap fun x => ys.map fun y => .tup [x, y])) τ := by
  refine Wq.eq (wq_call hf rfl rfl ?_)
  simp only [f_crossed]
  walk_at "q"
  refine wx_forS (xs := [X]) (τ1 := τ ++ [some []]) (items := xs) (fun pre e τ2 => (∃ o1 o2, e = [some X, some (.v (.vl ys)), some (.c τ.length), o1, o2]) ∧ τ2 = τ ++ [some (pre.flatMap fun x => ys.map fun y => .tup [x, y])]) ?src ⟨⟨_, _, rfl⟩, rfl⟩ ?end1 (fun _ _ _ h => by rw [h.2]; exact hi _) ?step
  case src =>
    (walk_at "q"; repeat (simp only [hX]; walk_at "q"))
    exact hi _
  case end1 =>
    rintro e τ2 ⟨⟨o1, o2, rfl⟩, rfl⟩
    walk_at "q"
  case step =>
    rintro pre x suf e τ2 hx ⟨⟨o1, o2, rfl⟩, rfl⟩
    walk_at "q"
    refine wx_forS (xs := [.v (.vl ys)]) (τ1 := τ ++ [some (pre.flatMap fun x => ys.map fun y => .tup [x, y])]) (items := ys) (fun pre2 e τ2 => (∃ o2, e = [some X, some (.v (.vl ys)), some (.c τ.length), some (.v x), o2]) ∧ τ2 = τ ++ [some ((pre.flatMap fun x => ys.map fun y => .tup [x, y]) ++ pre2.map fun y => .tup [x, y])]) ?src2 ⟨⟨_, rfl⟩, by simp⟩ ?end2 (fun _ _ _ _ => rfl) ?step2
    case src2 => walk_at "q"
    case end2 =>
      rintro e τ2 ⟨⟨o2, rfl⟩, rfl⟩
      exact ⟨⟨_, _, rfl⟩, by simp⟩
    case step2 =>
      rintro pre2 y suf2 e τ2 hy ⟨⟨o2, rfl⟩, rfl⟩
      walk_at "q"
      refine ⟨?_, ⟨_, rfl⟩, by simp⟩
      have h1 : (pre.flatMap fun x => ys.map fun y => PV.tup [x, y]).length + pre2.length < xs.length * ys.length := by
        rw [flat_len, hx, List.length_append, List.length_cons]
        have h2 : pre2.length < ys.length := by rw [hy]; simp
        have h3 : (pre.length + 1) * ys.length ≤ (pre.length + (suf.length + 1)) * ys.length := Nat.mul_le_mul_right _ (by omega)
        have h4 : (pre.length + 1) * ys.length = pre.length * ys.length + ys.length := by rw [Nat.add_mul, Nat.one_mul]
        omega
      exact Nat.lt_of_lt_of_le h1 (big hz)
theorem q_crossed (hf : HasFn U "crossed" f_crossed false) {xs ys : List PV} (hz : xs.length * ys.length ≤ 1000000) : callQ U (r + 1) "crossed" [.v (.vl xs), .v (.vl ys)] τ = .ok (.vl (xs.flatMap fun x => ys.map fun y => .tup [x, y])) τ := q_crossedX hf rfl (fun _ => rfl) hz
theorem q_crossedC (hf : HasFn U "crossed" f_crossed false) {k : Nat} {xs ys : List PV} (h : cellO τ k = some xs) (hz : xs.length * ys.length ≤ 1000000) : callQ U (r + 1) "crossed" [.c k, .v (.vl ys)] τ = .ok (.vl (xs.flatMap fun x => ys.map fun y => .tup [x, y])) τ := q_crossedX hf rfl (fun _ => by rw [im_oc]; exact cellO_app h) hz
theorem q_wth (hw : HasWt U c W F) : ∀ (k : Kd) (r : Nat) (τ : QSt), F k → k.dep + 6 ≤ r → metK U (r + 1) c "things" [.v (.obj c), .v (K k)] τ = .ok (.vl (W.ths k)) τ := by
  have s1 := hw.ms "none_things" (by decide)
  have s2 := hw.ms "one_things" (by decide)
  have s3 := hw.ms "either_things" (by decide)
  have s4 := hw.ms "both_things" (by decide)
  have s5 := hw.ms "way_things" (by decide)
  have s6 := hw.ms "things" (by decide)
  intro k
  induction k with
  | none =>
    intro r τ hF hr
    obtain ⟨r, rfl⟩ : ∃ r', r = r' + 6 := ⟨r - 6, by omega⟩
    refine Wq.eq (wq_met hw.m_things rfl ?_)
    simp only [m_World_things, K]
    (walk_at "q"; repeat (simp only [s1]; walk_at "q"))
    rw [hw.none_things]
    walk_at "q"
    rfl
  | one =>
    intro r τ hF hr
    obtain ⟨r, rfl⟩ : ∃ r', r = r' + 6 := ⟨r - 6, by omega⟩
    refine Wq.eq (wq_met hw.m_things rfl ?_)
    simp only [m_World_things, K]
    (walk_at "q"; repeat (simp only [s2]; walk_at "q"))
    rw [hw.one_things]
    walk_at "q"
    rfl
  | either a b iha ihb =>
    intro r τ hF hr
    have hd := hw.fdep _ hF
    simp only [Kd.dep] at hr
    obtain ⟨hFa, hFb⟩ := hw.fe _ _ hF
    obtain ⟨r, rfl⟩ : ∃ r', r = r' + 6 := ⟨r - 6, by omega⟩
    refine Wq.eq (wq_met hw.m_things rfl ?_)
    simp only [m_World_things, K]
    (walk_at "q"; repeat (simp only [s3, s6]; walk_at "q"))
    rw [iha _ _ hFa (by omega)]
    walk_at "q"
    rw [ihb _ _ hFb (by omega)]
    (walk_at "q"; repeat (simp only [s3]; walk_at "q"))
    rw [hw.either_things _ _ _ _ hF]
    walk_at "q"
  | both a b iha ihb =>
    intro r τ hF hr
    have hd := hw.fdep _ hF
    simp only [Kd.dep] at hr
    obtain ⟨hFa, hFb⟩ := hw.fb _ _ hF
    obtain ⟨r, rfl⟩ : ∃ r', r = r' + 6 := ⟨r - 6, by omega⟩
    refine Wq.eq (wq_met hw.m_things rfl ?_)
    simp only [m_World_things, K]
    (walk_at "q"; repeat (simp only [s4, s6]; walk_at "q"))
    rw [iha _ _ hFa (by omega)]
    walk_at "q"
    rw [ihb _ _ hFb (by omega)]
    (walk_at "q"; repeat (simp only [s4]; walk_at "q"))
    rw [hw.both_things _ _ _ _ hF]
    walk_at "q"
  | way a b iha ihb =>
    intro r τ hF hr
    have hd := hw.fdep _ hF
    simp only [Kd.dep] at hr
    obtain ⟨hFa, hFb⟩ := hw.fw _ _ hF
    obtain ⟨r, rfl⟩ : ∃ r', r = r' + 6 := ⟨r - 6, by omega⟩
    refine Wq.eq (wq_met hw.m_things rfl ?_)
    simp only [m_World_things, K]
    (walk_at "q"; repeat (simp only [s5, s6]; walk_at "q"))
    rw [iha _ _ hFa (by omega)]
    walk_at "q"
    rw [ihb _ _ hFb (by omega)]
    (walk_at "q"; repeat (simp only [s5]; walk_at "q"))
    rw [hw.way_things _ _ _ _ hF]
    walk_at "q"
def cat2 (v : PV) : PV := match v with
  | .tup [.tup row, x] => .tup (row ++ [x])
  | _ => .non
def tupR (row : List PV) : PV := .tup row
/-- not too many rows on the way -/
def RowsOk (W : WS) (ns : List Kd) : Prop := ∀ i, (W.rws (ns.take i)).length ≤ 10000
theorem q_wrows (hw : HasW U c W F) {ns : List Kd} (hF : ∀ k ∈ ns, F k) (hl : ns.length ≤ 100) (hr : RowsOk W ns) (h30 : 30 ≤ r) : metK U (r + 1) c "rows" [.v (.obj c), .v (.tup (ns.map K))] τ = .ok (.vl ((W.rws ns).map tupR)) τ := by
  have s6 := hw.ms "things" (by decide)
  obtain ⟨r, rfl⟩ : ∃ r', r = r' + 30 := ⟨r - 30, by omega⟩
  refine Wq.eq (wq_met hw.m_rows rfl ?_)
  simp only [m_World_rows]
  walk_at "q"
  refine wx_forS (xs := [.v (.tup (ns.map K))]) (τ1 := τ ++ [some [.tup []]]) (items := ns.map K) (fun pre e τ2 => ∃ (o3 : Option QX) (ι : QSt), e = [some (.v (.obj c)), some (.v (.tup (ns.map K))), some (.c (τ.length + ι.length)), o3, none, none] ∧ τ2 = τ ++ (ι ++ [some ((W.rws (ns.take pre.length)).map tupR)])) ?src ⟨_, [], rfl, rfl⟩ ?end1 (fun _ _ _ _ => rfl) ?step
  case src => walk_at "q"
  case end1 =>
    rintro e τ2 ⟨o3, ι, rfl, rfl⟩
    rw [List.length_map, List.take_length]
    (walk_at "q"; repeat (simp only [co_ai]; walk_at "q"))
    refine ⟨by omega, ?_⟩
    rw [List.set_append_right _ _ (by omega)]
    simp
  case step =>
    rintro pre x suf e τ2 hx ⟨o3, ι, rfl, rfl⟩
    obtain ⟨p0, k, s0, hns, rfl, rfl⟩ := map_mid hx
    have hk : F k := hF k (by rw [hns]; simp)
    have hkd := hw.fdep _ hk
    have ht : ns.take p0.length = p0 := by rw [hns]; simp
    have ht2 : ns.take (p0.length + 1) = p0 ++ [k] := by rw [List.take_succ, ht, hns]; simp
    have h1 := hr p0.length
    have h2 := hr (p0.length + 1)
    rw [ht] at h1
    rw [ht2] at h2
    have hcnt := hw.fcnt _ hk
    rw [List.length_map, ht, List.length_append, List.length_map, List.length_singleton, ht2]
    walk_at "q"
    refine q_map cat2 ?_
    (walk_at "q"; repeat (simp only [s6]; walk_at "q"))
    rw [q_wth hw.toHasWt k _ _ hk (by omega)]
    walk_at "q"
    have hle : (W.rws p0).length * (W.ths k).length ≤ 10000000 := Nat.mul_le_mul h1 hcnt
    have hsz : (W.rws p0).length * (W.ths k).length ≤ 10000 := by
      have e : (W.rws (p0 ++ [k])).length = (W.rws p0).length * (W.ths k).length := by rw [WS.rws_snoc]; exact flat_len _ _ _
      rw [← e]; exact h2
    rw [q_crossedC hw.crossed (k := τ.length + ι.length) (xs := (W.rws p0).map tupR) co_ai (by rw [List.length_map]; omega)]
    walk_at "q"
    refine ⟨by rw [flat_len, List.length_map]; exact big (by omega), ?_, _, ι ++ [some ((W.rws p0).map tupR)], by rw [List.length_append, List.length_singleton], ?_⟩
    · intro x τ' hx
      obtain ⟨u, hu, hx⟩ := List.mem_flatMap.mp hx
      obtain ⟨row, hrow, rfl⟩ := List.mem_map.mp hu
      obtain ⟨y, hy, rfl⟩ := List.mem_map.mp hx
      have hlen : row.length = p0.length := (WS.rws_mem.mp hrow).len
      have : p0.length ≤ ns.length := by rw [hns]; simp
      simp only [tupR]
      walk_at "q"
      exact ⟨big (by omega), rfl⟩
    · rw [WS.rws_snoc]
      simp only [WS.snoc, List.map_flatMap, List.map_map, List.flatMap_map]
      simp [Function.comp_def, tupR, cat2]
end
section
variable {U : QT} {c : Str} {W : WS} {F : Kd → Prop}
theorem q_wtold (hw : HasW U c W F) (ok : W.Ok F) : ∀ (m : Nat) (p : Pg) (ns : List Kd) (k : Kd) (row : List PV) (r : Nat) (τ : QSt), p.pd < m → TyP F ns p k → (∀ k ∈ ns, F k) → W.RI ns row → ns.length + p.pd ≤ 100000 → 2 * p.pd + 60 ≤ r →
    metK U (r + 1) c "told" [.v (.obj c), .v (PP p), .v (.tup row), .v (.tup (ns.map K))] τ = .ok (.tup [K k, W.ev ns p row]) τ := by
  have s1 := hw.ms "told" (by decide)
  have s2 := hw.ms "told_side" (by decide)
  have s3 := hw.ms "told_way" (by decide)
  have s4 := hw.ms "star" (by decide)
  have s5 := hw.ms "never" (by decide)
  have s6 := hw.ms "first_of" (by decide)
  have s7 := hw.ms "second_of" (by decide)
  have s8 := hw.ms "parted" (by decide)
  have s9 := hw.ms "bound" (by decide)
  have s10 := hw.ms "paired" (by decide)
  have s11 := hw.ms "given_by" (by decide)
  have s12 := hw.ms "to_left" (by decide)
  have s13 := hw.ms "to_right" (by decide)
  have s14 := hw.ms "things" (by decide)
  have s15 := hw.ms "woven" (by decide)
  intro m
  induction m with
  | zero => intro p ns k row r τ h; omega
  | succ m ih =>
    intro p ns k row r τ hm ht hF hr hn hrr
    obtain ⟨r, rfl⟩ : ∃ r', r = r' + 60 := ⟨r - 60, by omega⟩
    have hrl := hr.len
    refine Wq.eq (wq_met hw.m_told rfl ?_)
    simp only [m_World_told]
    cases p with
    | name n =>
      obtain ⟨hFk, he⟩ := ht
      obtain ⟨x, hx, hxm⟩ := hr.get he
      have ea : atI (ns.map K) (n : Int) = some (K k) := at_nat (by rw [List.getElem?_map, he]; rfl)
      have eb : atI row (n : Int) = some x := at_nat hx
      simp only [PP]
      (walk_at "q"; repeat (simp only [ea, eb]; walk_at "q"))
      simp only [WS.ev, List.getD_eq_getElem?_getD, hx]
      rfl
    | star =>
      obtain ⟨_, rfl⟩ := ht
      simp only [PP]
      (walk_at "q"; repeat (simp only [hw.one_glob, s4]; walk_at "q"))
      rw [hw.star]
      walk_at "q"
      rfl
    | left kb a =>
      obtain ⟨hFk, ka, rfl, ha⟩ := ht
      simp only [Pg.pd] at hm hn hrr
      simp only [PP]
      (walk_at "q"; repeat (simp only [s2]; walk_at "q"))
      refine wq_met hw.m_side rfl ?_
      simp only [m_World_told_side]
      (walk_at "q"; repeat (simp only [s1]; walk_at "q"))
      rw [ih a ns ka row _ _ (by omega) ha hF hr (by omega) (by omega)]
      (walk_at "q"; repeat (simp only [s12]; walk_at "q"))
      rw [show PV.tup [.str "either", K ka, K kb] = K (.either ka kb) from rfl, hw.to_left _ _ _ _ _ hFk (WS.ev_in ok ha hr)]
      walk_at "q"
      simp only [WS.ev, ha.kd']
    | right ka b =>
      obtain ⟨hFk, kb, rfl, hb⟩ := ht
      simp only [Pg.pd] at hm hn hrr
      simp only [PP]
      (walk_at "q"; repeat (simp only [s2]; walk_at "q"))
      refine wq_met hw.m_side rfl ?_
      simp only [m_World_told_side]
      (walk_at "q"; repeat (simp only [s1]; walk_at "q"))
      rw [ih b ns kb row _ _ (by omega) hb hF hr (by omega) (by omega)]
      (walk_at "q"; repeat (simp only [s13]; walk_at "q"))
      rw [show PV.tup [.str "either", K ka, K kb] = K (.either ka kb) from rfl, hw.to_right _ _ _ _ _ hFk (WS.ev_in ok hb hr)]
      walk_at "q"
      simp only [WS.ev, hb.kd']
    | never k' a =>
      obtain ⟨hFk, rfl, ha⟩ := ht
      simp only [PP]
      (walk_at "q"; repeat (simp only [s5]; walk_at "q"))
      rw [hw.never _ _ _ _ hFk (WS.ev_in ok ha hr)]
      walk_at "q"
      simp only [WS.ev]
    | first a =>
      obtain ⟨hFk, kb, ha⟩ := ht
      simp only [Pg.pd] at hm hn hrr
      simp only [PP]
      (walk_at "q"; repeat (simp only [s1]; walk_at "q"))
      rw [ih a ns _ row _ _ (by omega) ha hF hr (by omega) (by omega)]
      walk_at "q"
      simp only [show K (.both k kb) = .tup [.str "both", K k, K kb] from rfl]
      (walk_at "q"; repeat (simp only [s6]; walk_at "q"))
      rw [show PV.tup [.str "both", K k, K kb] = K (.both k kb) from rfl, hw.first_of _ _ _ _ _ ha.here (WS.ev_in ok ha hr)]
      walk_at "q"
      simp only [WS.ev, ha.kd']
    | second a =>
      obtain ⟨hFk, ka, ha⟩ := ht
      simp only [Pg.pd] at hm hn hrr
      simp only [PP]
      (walk_at "q"; repeat (simp only [s1]; walk_at "q"))
      rw [ih a ns _ row _ _ (by omega) ha hF hr (by omega) (by omega)]
      walk_at "q"
      simp only [show K (.both ka k) = .tup [.str "both", K ka, K k] from rfl]
      (walk_at "q"; repeat (simp only [s7]; walk_at "q"))
      rw [show PV.tup [.str "both", K ka, K k] = K (.both ka k) from rfl, hw.second_of _ _ _ _ _ ha.here (WS.ev_in ok ha hr)]
      walk_at "q"
      simp only [WS.ev, ha.kd']
    | pair a b =>
      obtain ⟨hFk, ka, kb, rfl, ha, hb⟩ := ht
      simp only [Pg.pd] at hm hn hrr
      simp only [PP]
      (walk_at "q"; repeat (simp only [s1]; walk_at "q"))
      rw [ih a ns _ row _ _ (by omega) ha hF hr (by omega) (by omega)]
      (walk_at "q"; repeat (simp only [s1]; walk_at "q"))
      rw [ih b ns _ row _ _ (by omega) hb hF hr (by omega) (by omega)]
      (walk_at "q"; repeat (simp only [s10]; walk_at "q"))
      rw [hw.paired _ _ _ _ _ _ hFk (WS.ev_in ok ha hr) (WS.ev_in ok hb hr)]
      walk_at "q"
      simp only [WS.ev]
      rfl
    | give f x =>
      obtain ⟨hFk, ka, hf, hx⟩ := ht
      simp only [Pg.pd] at hm hn hrr
      simp only [PP]
      (walk_at "q"; repeat (simp only [s1]; walk_at "q"))
      rw [ih f ns _ row _ _ (by omega) hf hF hr (by omega) (by omega)]
      (walk_at "q"; repeat (simp only [s1]; walk_at "q"))
      rw [ih x ns _ row _ _ (by omega) hx hF hr (by omega) (by omega)]
      walk_at "q"
      simp only [show K (.way ka k) = .tup [.str "way", K ka, K k] from rfl]
      (walk_at "q"; repeat (simp only [s11]; walk_at "q"))
      rw [show PV.tup [.str "way", K ka, K k] = K (.way ka k) from rfl, hw.given_by _ _ _ _ _ _ hf.here (WS.ev_in ok hf hr) (WS.ev_in ok hx hr)]
      walk_at "q"
      simp only [WS.ev, hf.kd']
    | lets a b =>
      obtain ⟨hFk, ka, ha, hb⟩ := ht
      simp only [Pg.pd] at hm hn hrr
      simp only [PP]
      (walk_at "q"; repeat (simp only [s1]; walk_at "q"))
      rw [ih a ns _ row _ _ (by omega) ha hF hr (by omega) (by omega)]
      (walk_at "q"; repeat (simp only [s9]; walk_at "q"))
      have hin := ok.bnd_in _ _ ha.here (WS.ev_in ok ha hr)
      rw [hw.bound _ _ _ _ ha.here (WS.ev_in ok ha hr)]
      (walk_at "q"; repeat (simp only [s1]; walk_at "q"))
      refine ⟨big (by omega), big (by omega), ?_⟩
      rw [map_cons1, ih b (ka :: ns) _ (W.bnd ka (W.ev ns a row) :: row) _ _ (by omega) hb (fun k' hk' => by
        rcases List.mem_cons.mp hk' with rfl | h
        · exact ha.here
        · exact hF _ h) (hr.cons hin) (by simp; omega) (by omega)]
      walk_at "q"
      simp only [WS.ev, ha.kd']
    | case c0 a b =>
      obtain ⟨hFk, ka, kb, hc, ha, hb⟩ := ht
      simp only [Pg.pd] at hm hn hrr
      simp only [PP]
      (walk_at "q"; repeat (simp only [s1]; walk_at "q"))
      rw [ih c0 ns _ row _ _ (by omega) hc hF hr (by omega) (by omega)]
      (walk_at "q"; repeat (simp only [s8]; walk_at "q"))
      have hFe := hw.fe _ _ hc.here
      have hin := ok.prt_in _ _ _ hc.here (WS.ev_in ok hc hr)
      rw [hw.parted _ _ _ _ _ hc.here (WS.ev_in ok hc hr)]
      walk_at "q"
      simp only [show K (.either ka kb) = .tup [.str "either", K ka, K kb] from rfl]
      by_cases hs : (W.prt (.either ka kb) (W.ev ns c0 row)).1 = true
      · rw [if_pos hs] at hin
        (walk_at "q"; repeat (simp only [hs, s1]; walk_at "q"))
        refine ⟨big (by omega), big (by omega), ?_⟩
        rw [map_cons1, ih b (kb :: ns) _ (_ :: row) _ _ (by omega) hb (fun k' hk' => by
          rcases List.mem_cons.mp hk' with rfl | h
          · exact hFe.2
          · exact hF _ h) (hr.cons hin) (by simp; omega) (by omega)]
        walk_at "q"
        simp only [WS.ev, hc.kd', hs, if_true]
        rfl
      · rw [if_neg hs] at hin
        (walk_at "q"; repeat (simp only [hs, s1]; walk_at "q"))
        refine ⟨big (by omega), big (by omega), ?_⟩
        rw [map_cons1, ih a (ka :: ns) _ (_ :: row) _ _ (by omega) ha (fun k' hk' => by
          rcases List.mem_cons.mp hk' with rfl | h
          · exact hFe.1
          · exact hF _ h) (hr.cons hin) (by simp; omega) (by omega)]
        walk_at "q"
        simp only [WS.ev, hc.kd', hs, if_false]
        rfl
    | way ka b =>
      obtain ⟨hFk, kb, rfl, hb⟩ := ht
      simp only [Pg.pd] at hm hn hrr
      have hFw := hw.fw _ _ hFk
      simp only [PP]
      (walk_at "q"; repeat (simp only [s3]; walk_at "q"))
      refine wq_met hw.m_way rfl ?_
      simp only [m_World_told_way]
      walk_at "q"
      refine ⟨big (by omega), ?_⟩
      have hF2 : ∀ k ∈ ka :: ns, F k := fun k' hk' => by
        rcases List.mem_cons.mp hk' with rfl | h
        · exact hFw.1
        · exact hF _ h
      have hFd : ∀ k, F k → k.dep ≤ 100 := fun k h => by have := hw.fdep _ h; omega
      have hkd := hw.fdep _ hFw.1
      have hcnt := hw.fcnt _ hFw.1
      rw [map_cons1, q_kof hw.ko _ b (ka :: ns) _ _ (Nat.lt_succ_self _) (TyP.kok hFd (fun k h => hFd _ (hF2 k h)) hb) (by simp; omega) (by omega), hb.kd]
      simp only [koR]
      walk_at "q"
      refine wx_forS (xs := [.v (.vl (W.ths ka))]) (τ1 := τ ++ [some []]) (items := W.ths ka) (fun pre e τ2 => ∃ (o7 : Option QX), e = [some (.v (.obj c)), some (.v (.tup [.str "way", K ka, PP b])), some (.v (.tup row)), some (.v (.tup (ns.map K))), some (.v (.tup (K ka :: ns.map K))), some (.v (.tup [.str "way", K ka, K kb])), some (.c τ.length), o7] ∧ τ2 = τ ++ [some (pre.map fun x => W.ev (ka :: ns) b (x :: row))]) ?src ⟨_, rfl, rfl⟩ ?end1 (fun _ _ _ _ => rfl) ?step
      case src =>
        (walk_at "q"; repeat (simp only [s14]; walk_at "q"))
        rw [q_wth hw.toHasWt ka _ _ hFw.1 (by omega)]
        walk_at "q"
      case end1 =>
        rintro e τ2 ⟨o7, rfl, rfl⟩
        (walk_at "q"; repeat (simp only [s15]; walk_at "q"))
        rw [show PV.tup [.str "way", K ka, K kb] = K (.way ka kb) from rfl, hw.woven _ _ _ _ _ hFk (by simp) (fun v hv => by
          obtain ⟨x, hx, rfl⟩ := List.mem_map.mp hv
          exact WS.ev_in ok hb (hr.cons hx))]
        walk_at "q"
        simp only [WS.ev, hb.kd']
      case step =>
        rintro pre x suf e τ2 hx ⟨o7, rfl, rfl⟩
        have hxm : x ∈ W.ths ka := by rw [hx]; simp
        (walk_at "q"; repeat (simp only [s1]; walk_at "q"))
        refine ⟨big (by omega), ?_⟩
        rw [map_cons1, ih b (ka :: ns) _ (x :: row) _ _ (by omega) hb hF2 (hr.cons hxm) (by simp; omega) (by omega)]
        walk_at "q"
        have hpl : pre.length < (W.ths ka).length := by rw [hx]; simp
        exact ⟨Nat.lt_of_lt_of_le hpl (big (by omega)), _, rfl, by simp⟩
end
end EK

namespace EK
open PySem PySem.Spec L2
/-! ### the laws' measure of kinds, over worlds -/
def capPow (b : Nat) : Nat → Nat
  | 0 => 1
  | n + 1 => min 1000 (capPow b n * b)
def twc (w v : Str) : Nat := if w = v then 1 else 0
def wideN (w : Str) : Kd → Nat
  | .none => twc w "never"
  | .one => 1 + twc w "star"
  | .either a b => (wideN w a + wideN w b) * (1 + twc "split" w)
  | .both a b => (wideN w a * wideN w b) * (1 + twc "pair" w)
  | .way a b => capPow (wideN w b) (min (wideN w a) 9) * (1 + twc "way" w)
def sixW : List Str := ["let", "star", "split", "pair", "way", "never"]
def maxN : List Nat → Nat
  | [] => 0
  | [a] => a
  | a :: r => max a (maxN r)
def smallB (k : Kd) : Bool := decide (maxN (sixW.map fun w => wideN w k) ≤ 24)
/-- it can be reckoned -/
def cW (w : Str) : Kd → Prop
  | .none => True
  | .one => True
  | .either a b => cW w a ∧ cW w b ∧ wideN w a ≤ 1000000 ∧ wideN w b ≤ 1000000
  | .both a b => cW w a ∧ cW w b ∧ wideN w a ≤ 1000000 ∧ wideN w b ≤ 1000000
  | .way a b => cW w a ∧ cW w b ∧ wideN w a ≤ 1000000 ∧ wideN w b ≤ 1000000
theorem capPow_le (b : Nat) : ∀ n, capPow b n ≤ 1000
  | 0 => by simp [capPow]
  | n + 1 => Nat.min_le_left _ _
theorem capPow_eq {b : Nat} : ∀ {n : Nat}, b ^ n ≤ 1000 → capPow b n = b ^ n
  | 0, _ => rfl
  | n + 1, h => by
    rw [Nat.pow_succ] at h ⊢
    simp only [capPow]
    by_cases hb : b = 0
    · subst hb; simp
    · have h1 : b ^ n ≤ b ^ n * b := Nat.le_mul_of_pos_right _ (by omega)
      rw [capPow_eq (n := n) (by omega)]
      exact Nat.min_eq_right h
theorem capPow_ge {b : Nat} (hb : 1 ≤ b) : ∀ {n : Nat}, min 1000 (b ^ n) ≤ capPow b n
  | 0 => by simp [capPow]
  | n + 1 => by
    rw [Nat.pow_succ]
    simp only [capPow]
    have h := capPow_ge hb (n := n)
    have h2 : min 1000 (b ^ n) * b ≤ capPow b n * b := Nat.mul_le_mul_right _ h
    by_cases h3 : b ^ n ≤ 1000
    · rw [Nat.min_eq_right h3] at h2
      omega
    · rw [Nat.min_eq_left (by omega)] at h2
      have : 1000 * 1 ≤ 1000 * b := Nat.mul_le_mul_left _ hb
      omega
theorem twc_let : twc "split" "let" = 0 ∧ twc "pair" "let" = 0 ∧ twc "way" "let" = 0 ∧ twc "let" "never" = 0 ∧ twc "let" "star" = 0 := by decide +kernel
theorem wide_cnt : ∀ {k : Kd}, k.le 300 → wideN "let" k = k.cnt
  | .none, _ => by simp only [wideN, Kd.cnt]; exact twc_let.2.2.2.1
  | .one, _ => by simp only [wideN, Kd.cnt, twc_let.2.2.2.2]
  | .either a b, h => by simp only [wideN, Kd.cnt, wide_cnt h.2.1, wide_cnt h.2.2, twc_let.1]; omega
  | .both a b, h => by simp only [wideN, Kd.cnt, wide_cnt h.2.1, wide_cnt h.2.2, twc_let.2.1]; omega
  | .way a b, h => by
    simp only [wideN, Kd.cnt, wide_cnt h.2.1, wide_cnt h.2.2, twc_let.2.2.1]
    have hp : b.cnt ^ a.cnt ≤ 300 := h.1
    rw [Nat.add_zero, Nat.mul_one]
    by_cases h9 : a.cnt ≤ 9
    · rw [Nat.min_eq_left h9]
      exact capPow_eq (by omega)
    · rw [Nat.min_eq_right (by omega)]
      have hb : b.cnt ≤ 1 := by
        apply Nat.le_of_not_lt
        intro hb
        have h1 : 2 ^ 10 ≤ b.cnt ^ a.cnt := Nat.le_trans (Nat.pow_le_pow_left hb 10) (Nat.pow_le_pow_right (by omega) (by omega))
        have h2 : (2 : Nat) ^ 10 = 1024 := by decide
        omega
      have hcases : b.cnt = 0 ∨ b.cnt = 1 := by omega
      rcases hcases with e | e
      · rw [e, Nat.zero_pow (by omega)]; decide
      · rw [e, Nat.one_pow]; decide
theorem small_let {k : Kd} (h : smallB k = true) : ∀ w ∈ sixW, wideN w k ≤ 24 := by
  have h := of_decide_eq_true h
  simp only [sixW, List.map_cons, List.map_nil, maxN] at h
  intro w hw
  simp only [sixW, List.mem_cons, List.not_mem_nil, or_false] at hw
  rcases hw with rfl | rfl | rfl | rfl | rfl | rfl <;> omega
theorem small_le : ∀ {k : Kd}, smallB k = true → (∀ a b, (k = .either a b ∨ k = .both a b ∨ k = .way a b) → a.le 300 ∧ b.le 300) → k.le 300
  | .none, _, _ => trivial
  | .one, _, _ => (by decide : 1 ≤ 300)
  | .either a b, h, hp => by
    obtain ⟨ha, hb⟩ := hp a b (.inl rfl)
    have h1 := small_let h "let" (by decide)
    simp only [wideN, wide_cnt ha, wide_cnt hb, twc_let.1] at h1
    exact ⟨by omega, ha, hb⟩
  | .both a b, h, hp => by
    obtain ⟨ha, hb⟩ := hp a b (.inr (.inl rfl))
    have h1 := small_let h "let" (by decide)
    simp only [wideN, wide_cnt ha, wide_cnt hb, twc_let.2.1] at h1
    exact ⟨by omega, ha, hb⟩
  | .way a b, h, hp => by
    obtain ⟨ha, hb⟩ := hp a b (.inr (.inr rfl))
    have h1 := small_let h "let" (by decide)
    simp only [wideN, wide_cnt ha, wide_cnt hb, twc_let.2.2.1, Nat.add_zero, Nat.mul_one] at h1
    refine ⟨?_, ha, hb⟩
    by_cases hb0 : b.cnt = 0
    · rw [hb0]
      by_cases ha0 : a.cnt = 0
      · rw [ha0]; decide
      · rw [Nat.zero_pow (by omega)]; omega
    · have h2 := capPow_ge (b := b.cnt) (by omega) (n := min a.cnt 9)
      have h3 : b.cnt ^ min a.cnt 9 ≤ 24 := by omega
      by_cases h9 : a.cnt ≤ 9
      · rw [Nat.min_eq_left h9] at h3; omega
      · rw [Nat.min_eq_right (by omega)] at h3
        have hb : b.cnt ≤ 1 := by
          apply Nat.le_of_not_lt
          intro hb
          have h4 : 2 ^ 9 ≤ b.cnt ^ 9 := Nat.pow_le_pow_left hb 9
          have h5 : (2 : Nat) ^ 9 = 512 := by decide
          omega
        have e : b.cnt = 1 := by omega
        rw [e, Nat.one_pow]; omega
/-! ### kinds of the draw: few levels -/
/-- measures by depth -/
def wT : Nat → Nat
  | 0 => 2
  | 1 => 8
  | 2 => 2000
  | _ => 100000000
theorem twc_le (v w : Str) : twc v w ≤ 1 := by unfold twc; split <;> omega
theorem wide_dep (w : Str) : ∀ {k : Kd}, k.dep ≤ 2 → wideN w k ≤ wT k.dep
  | .none, _ => by have := twc_le w "never"; simp only [wideN, Kd.dep, wT]; omega
  | .one, _ => by have := twc_le w "star"; simp only [wideN, Kd.dep, wT]; omega
  | .either a b, h => by
    simp only [Kd.dep] at h
    have ha := wide_dep w (k := a) (by omega); have hb := wide_dep w (k := b) (by omega)
    have ht := twc_le "split" w
    simp only [wideN, Kd.dep]
    have ma : ∀ x, x ≤ 1 → wT x ≤ wT 1 := fun x hx => by
      have : x = 0 ∨ x = 1 := by omega
      rcases this with rfl | rfl <;> decide
    have m0 : ∀ x, x ≤ 0 → wT x ≤ wT 0 := fun x hx => by
      have : x = 0 := by omega
      subst this; decide
    have hc : max a.dep b.dep = 0 ∨ max a.dep b.dep = 1 := by omega
    rcases hc with e | e
    · rw [e]
      have h1 := Nat.le_trans ha (m0 _ (by omega)); have h2 := Nat.le_trans hb (m0 _ (by omega))
      have : (wideN w a + wideN w b) * (1 + twc "split" w) ≤ (2 + 2) * 2 := Nat.mul_le_mul (Nat.add_le_add h1 h2) (by omega)
      exact Nat.le_trans this (by decide)
    · rw [e]
      have h1 := Nat.le_trans ha (ma _ (by omega)); have h2 := Nat.le_trans hb (ma _ (by omega))
      have : (wideN w a + wideN w b) * (1 + twc "split" w) ≤ (8 + 8) * 2 := Nat.mul_le_mul (Nat.add_le_add h1 h2) (by omega)
      exact Nat.le_trans this (by decide)
  | .both a b, h => by
    simp only [Kd.dep] at h
    have ha := wide_dep w (k := a) (by omega); have hb := wide_dep w (k := b) (by omega)
    have ht := twc_le "pair" w
    simp only [wideN, Kd.dep]
    have ma : ∀ x, x ≤ 1 → wT x ≤ wT 1 := fun x hx => by
      have : x = 0 ∨ x = 1 := by omega
      rcases this with rfl | rfl <;> decide
    have m0 : ∀ x, x ≤ 0 → wT x ≤ wT 0 := fun x hx => by
      have : x = 0 := by omega
      subst this; decide
    have hc : max a.dep b.dep = 0 ∨ max a.dep b.dep = 1 := by omega
    rcases hc with e | e
    · rw [e]
      have h1 := Nat.le_trans ha (m0 _ (by omega)); have h2 := Nat.le_trans hb (m0 _ (by omega))
      have : (wideN w a * wideN w b) * (1 + twc "pair" w) ≤ (2 * 2) * 2 := Nat.mul_le_mul (Nat.mul_le_mul h1 h2) (by omega)
      exact Nat.le_trans this (by decide)
    · rw [e]
      have h1 := Nat.le_trans ha (ma _ (by omega)); have h2 := Nat.le_trans hb (ma _ (by omega))
      have : (wideN w a * wideN w b) * (1 + twc "pair" w) ≤ (8 * 8) * 2 := Nat.mul_le_mul (Nat.mul_le_mul h1 h2) (by omega)
      exact Nat.le_trans this (by decide)
  | .way a b, h => by
    simp only [Kd.dep] at h
    have ha := wide_dep w (k := a) (by omega); have hb := wide_dep w (k := b) (by omega)
    have ht := twc_le "way" w
    simp only [wideN, Kd.dep]
    have ma : ∀ x, x ≤ 1 → wT x ≤ wT 1 := fun x hx => by
      have : x = 0 ∨ x = 1 := by omega
      rcases this with rfl | rfl <;> decide
    have m0 : ∀ x, x ≤ 0 → wT x ≤ wT 0 := fun x hx => by
      have : x = 0 := by omega
      subst this; decide
    have hc : max a.dep b.dep = 0 ∨ max a.dep b.dep = 1 := by omega
    rcases hc with e | e
    · rw [e]
      have h1 := Nat.le_trans ha (m0 _ (by omega)); have h2 := Nat.le_trans hb (m0 _ (by omega))
      have small : ∀ x y, x ≤ 2 → y ≤ 2 → capPow x y ≤ 4 := fun x y hx hy => by
        have h3 : x = 0 ∨ x = 1 ∨ x = 2 := by omega
        have h4 : y = 0 ∨ y = 1 ∨ y = 2 := by omega
        rcases h3 with rfl | rfl | rfl <;> rcases h4 with rfl | rfl | rfl <;> decide
      have : capPow (wideN w b) (min (wideN w a) 9) * (1 + twc "way" w) ≤ 4 * 2 := Nat.mul_le_mul (small _ _ h2 (Nat.le_trans (Nat.min_le_left _ _) h1)) (by omega)
      exact Nat.le_trans this (by decide)
    · rw [e]
      have : capPow (wideN w b) (min (wideN w a) 9) * (1 + twc "way" w) ≤ 1000 * 2 := Nat.mul_le_mul (capPow_le _ _) (by omega)
      exact Nat.le_trans this (by decide)
theorem wT_le : ∀ n, n ≤ 2 → wT n ≤ 2000 := by
  intro n h
  have : n = 0 ∨ n = 1 ∨ n = 2 := by omega
  rcases this with rfl | rfl | rfl <;> decide
theorem cW_dep (w : Str) : ∀ {k : Kd}, k.dep ≤ 2 → cW w k
  | .none, _ => trivial
  | .one, _ => trivial
  | .either a b, h => by
    simp only [Kd.dep] at h
    exact ⟨cW_dep w (by omega), cW_dep w (by omega), Nat.le_trans (wide_dep w (by omega)) (Nat.le_trans (wT_le _ (by omega)) (by decide)), Nat.le_trans (wide_dep w (by omega)) (Nat.le_trans (wT_le _ (by omega)) (by decide))⟩
  | .both a b, h => by
    simp only [Kd.dep] at h
    exact ⟨cW_dep w (by omega), cW_dep w (by omega), Nat.le_trans (wide_dep w (by omega)) (Nat.le_trans (wT_le _ (by omega)) (by decide)), Nat.le_trans (wide_dep w (by omega)) (Nat.le_trans (wT_le _ (by omega)) (by decide))⟩
  | .way a b, h => by
    simp only [Kd.dep] at h
    exact ⟨cW_dep w (by omega), cW_dep w (by omega), Nat.le_trans (wide_dep w (by omega)) (Nat.le_trans (wT_le _ (by omega)) (by decide)), Nat.le_trans (wide_dep w (by omega)) (Nat.le_trans (wT_le _ (by omega)) (by decide))⟩
theorem le_dep : ∀ {k : Kd}, k.dep ≤ 2 → k.le 4 ∧ (k.dep ≤ 1 → k.le 2) ∧ (k.dep ≤ 0 → k.le 1)
  | .none, _ => ⟨trivial, fun _ => trivial, fun _ => trivial⟩
  | .one, _ => ⟨(by decide : 1 ≤ 4), fun _ => (by decide : 1 ≤ 2), fun _ => (by decide : 1 ≤ 1)⟩
  | .either a b, h => by
    simp only [Kd.dep] at h
    obtain ⟨a4, a2, a1⟩ := le_dep (k := a) (by omega)
    obtain ⟨b4, b2, b1⟩ := le_dep (k := b) (by omega)
    have ca := (a2 (by omega)).cnt; have cb := (b2 (by omega)).cnt
    refine ⟨⟨by omega, a4, b4⟩, fun h1 => ?_, fun h0 => by simp only [Kd.dep] at h0; omega⟩
    simp only [Kd.dep] at h1
    have ca := (a1 (by omega)).cnt; have cb := (b1 (by omega)).cnt
    exact ⟨by omega, a2 (by omega), b2 (by omega)⟩
  | .both a b, h => by
    simp only [Kd.dep] at h
    obtain ⟨a4, a2, a1⟩ := le_dep (k := a) (by omega)
    obtain ⟨b4, b2, b1⟩ := le_dep (k := b) (by omega)
    have ca := (a2 (by omega)).cnt; have cb := (b2 (by omega)).cnt
    refine ⟨⟨Nat.mul_le_mul ca cb, a4, b4⟩, fun h1 => ?_, fun h0 => by simp only [Kd.dep] at h0; omega⟩
    simp only [Kd.dep] at h1
    have ca := (a1 (by omega)).cnt; have cb := (b1 (by omega)).cnt
    exact ⟨Nat.le_trans (Nat.mul_le_mul ca cb) (by decide), a2 (by omega), b2 (by omega)⟩
  | .way a b, h => by
    simp only [Kd.dep] at h
    obtain ⟨a4, a2, a1⟩ := le_dep (k := a) (by omega)
    obtain ⟨b4, b2, b1⟩ := le_dep (k := b) (by omega)
    have ca := (a2 (by omega)).cnt; have cb := (b2 (by omega)).cnt
    have s2 : ∀ x y, x ≤ 2 → y ≤ 2 → x ^ y ≤ 4 := fun x y hx hy => by
      have h3 : x = 0 ∨ x = 1 ∨ x = 2 := by omega
      have h4 : y = 0 ∨ y = 1 ∨ y = 2 := by omega
      rcases h3 with rfl | rfl | rfl <;> rcases h4 with rfl | rfl | rfl <;> decide
    have s1 : ∀ x y, x ≤ 1 → y ≤ 1 → x ^ y ≤ 2 := fun x y hx hy => by
      have h3 : x = 0 ∨ x = 1 := by omega
      have h4 : y = 0 ∨ y = 1 := by omega
      rcases h3 with rfl | rfl <;> rcases h4 with rfl | rfl <;> decide
    refine ⟨⟨s2 _ _ cb ca, a4, b4⟩, fun h1 => ?_, fun h0 => by simp only [Kd.dep] at h0; omega⟩
    simp only [Kd.dep] at h1
    have ca := (a1 (by omega)).cnt; have cb := (b1 (by omega)).cnt
    exact ⟨s1 _ _ cb ca, a2 (by omega), b2 (by omega)⟩
/-- what the draw of programs keeps to: d levels at most -/
structure BK (d : Nat) (k : Kd) : Prop where
  le : k.le 300
  dep : k.dep ≤ d
  cw : ∀ w ∈ sixW, cW w k
  wd : ∀ w ∈ sixW, wideN w k ≤ 1000000
theorem BK.of_dep {k : Kd} (h : k.dep ≤ 2) : BK 2 k := ⟨(le_dep h).1.mono (by decide), h, fun w _ => cW_dep w h, fun w _ => Nat.le_trans (wide_dep w h) (Nat.le_trans (wT_le _ h) (by decide))⟩
theorem BK.mono {d e : Nat} {k : Kd} (h : BK d k) (hd : d ≤ e) : BK e k := ⟨h.le, Nat.le_trans h.dep hd, h.cw, h.wd⟩
theorem BK.fp {d : Nat} {k : Kd} (h : BK d k) (hd : d ≤ 15) : k.le 300 ∧ k.dep ≤ 15 := ⟨h.le, Nat.le_trans h.dep hd⟩
theorem BK.cons {d : Nat} {a b k : Kd} (ha : BK d a) (hb : BK d b) (hk : k = .either a b ∨ k = .both a b ∨ k = .way a b) (hs : smallB k = true) : BK (d + 1) k := by
  have hp : ∀ x y, (k = .either x y ∨ k = .both x y ∨ k = .way x y) → x.le 300 ∧ y.le 300 := fun x y h => by
    rcases hk with rfl | rfl | rfl <;> rcases h with h | h | h <;> cases h <;> exact ⟨ha.le, hb.le⟩
  refine ⟨small_le hs hp, ?_, fun w hw => ?_, fun w hw => Nat.le_trans (small_let hs w hw) (by decide)⟩
  · have h1 := ha.dep; have h2 := hb.dep
    rcases hk with rfl | rfl | rfl <;> (simp only [Kd.dep]; omega)
  · have h1 := ha.wd w hw; have h2 := hb.wd w hw
    rcases hk with rfl | rfl | rfl <;> exact ⟨ha.cw w hw, hb.cw w hw, by omega, by omega⟩
theorem BK.sub {d : Nat} {k a b : Kd} (h : BK d k) (hk : k = .either a b ∨ k = .both a b ∨ k = .way a b) : BK d a ∧ BK d b := by
  obtain ⟨h1, h2, h3, _⟩ := h
  rcases hk with rfl | rfl | rfl <;> (simp only [Kd.dep] at h2; exact ⟨⟨h1.2.1, by omega, fun w hw => (h3 w hw).1, fun w hw => (h3 w hw).2.2.1⟩, ⟨h1.2.2, by omega, fun w hw => (h3 w hw).2.1, fun w hw => (h3 w hw).2.2.2⟩⟩)
/-- few and shallow -/
def FP (k : Kd) : Prop := k.le 300 ∧ k.dep ≤ 15
theorem FP.e {a b : Kd} (h : FP (.either a b)) : FP a ∧ FP b := by
  obtain ⟨h1, h2⟩ := h
  simp only [Kd.dep] at h2
  exact ⟨⟨h1.2.1, by omega⟩, ⟨h1.2.2, by omega⟩⟩
theorem FP.b {a b : Kd} (h : FP (.both a b)) : FP a ∧ FP b := by
  obtain ⟨h1, h2⟩ := h
  simp only [Kd.dep] at h2
  exact ⟨⟨h1.2.1, by omega⟩, ⟨h1.2.2, by omega⟩⟩
theorem FP.w {a b : Kd} (h : FP (.way a b)) : FP a ∧ FP b := by
  obtain ⟨h1, h2⟩ := h
  simp only [Kd.dep] at h2
  exact ⟨⟨h1.2.1, by omega⟩, ⟨h1.2.2, by omega⟩⟩
theorem BK.F {d : Nat} {k : Kd} (h : BK d k) (hd : d ≤ 15) : FP k := h.fp hd
theorem small_comm {a b : Kd} : smallB (.both a b) = smallB (.both b a) := by
  have e : (fun w => wideN w (.both a b)) = fun w => wideN w (.both b a) := by
    funext w
    simp only [wideN]
    rw [Nat.mul_comm (wideN w a)]
  unfold smallB
  rw [e]
/-! ### the least program, or none -/
def idxK (ns : List Kd) (k : Kd) : Nat := (ns.findIdx? fun x => decide (x = k)).getD 0
theorem idxK_get {ns : List Kd} {k : Kd} (h : k ∈ ns) : ns[idxK ns k]? = some k := by
  unfold idxK
  cases q : ns.findIdx? fun x => decide (x = k) with
  | none =>
    rw [List.findIdx?_eq_none_iff] at q
    have := q _ h
    simp at this
  | some i =>
    rw [List.findIdx?_eq_some_iff_getElem] at q
    obtain ⟨hi, hp, _⟩ := q
    rw [Option.getD_some, List.getElem?_eq_getElem hi]
    simp at hp
    rw [hp]
def leastB : List Kd → Kd → Option Pg
  | ns, .none => if .none ∈ ns then some (.name (idxK ns .none)) else none
  | ns, .one => if .one ∈ ns then some (.name (idxK ns .one)) else some .star
  | ns, .way a b => if .way a b ∈ ns then some (.name (idxK ns (.way a b))) else if .none ∈ ns then some (.never (.way a b) (.name (idxK ns .none))) else (leastB (a :: ns) b).map (.way a)
  | ns, .both a b => if .both a b ∈ ns then some (.name (idxK ns (.both a b))) else if .none ∈ ns then some (.never (.both a b) (.name (idxK ns .none))) else match leastB ns a with
    | some p => (leastB ns b).map (.pair p)
    | none => none
  | ns, .either a b => if .either a b ∈ ns then some (.name (idxK ns (.either a b))) else if .none ∈ ns then some (.never (.either a b) (.name (idxK ns .none))) else match leastB ns a with
    | some p => some (.left b p)
    | none => (leastB ns b).map (.right a)
theorem leastB_ty {F : Kd → Prop} (fe : ∀ a b, F (.either a b) → F a ∧ F b) (fb : ∀ a b, F (.both a b) → F a ∧ F b) (fw : ∀ a b, F (.way a b) → F a ∧ F b) (fn : F .none) : ∀ {k : Kd} {ns : List Kd} {p : Pg}, leastB ns k = some p → F k → TyP F ns p k ∧ p.pd ≤ k.dep + 1
  | .none, ns, p, h, hF => by
    simp only [leastB] at h
    split at h
    · rename_i hm
      cases h
      exact ⟨⟨hF, idxK_get hm⟩, by simp [Pg.pd]⟩
    · cases h
  | .one, ns, p, h, hF => by
    simp only [leastB] at h
    split at h
    · rename_i hm
      cases h
      exact ⟨⟨hF, idxK_get hm⟩, by simp [Pg.pd]⟩
    · cases h
      exact ⟨⟨hF, rfl⟩, by simp [Pg.pd]⟩
  | .way a b, ns, p, h, hF => by
    simp only [leastB] at h
    split at h
    · rename_i hm
      cases h
      exact ⟨⟨hF, idxK_get hm⟩, by simp [Pg.pd]⟩
    · split at h
      · rename_i hm
        cases h
        exact ⟨⟨hF, rfl, fn, idxK_get hm⟩, by simp only [Pg.pd]; omega⟩
      · cases e : leastB (a :: ns) b with
        | none => rw [e] at h; cases h
        | some q =>
          rw [e] at h
          cases h
          obtain ⟨h1, h2⟩ := leastB_ty fe fb fw fn e (fw _ _ hF).2
          exact ⟨⟨hF, b, rfl, h1⟩, by simp only [Pg.pd, Kd.dep]; omega⟩
  | .both a b, ns, p, h, hF => by
    simp only [leastB] at h
    split at h
    · rename_i hm
      cases h
      exact ⟨⟨hF, idxK_get hm⟩, by simp [Pg.pd]⟩
    · split at h
      · rename_i hm
        cases h
        exact ⟨⟨hF, rfl, fn, idxK_get hm⟩, by simp only [Pg.pd]; omega⟩
      · split at h
        · rename_i q1 e1
          cases e : leastB ns b with
          | none => rw [e] at h; cases h
          | some q =>
            rw [e] at h
            cases h
            obtain ⟨h1, h2⟩ := leastB_ty fe fb fw fn e1 (fb _ _ hF).1
            obtain ⟨h3, h4⟩ := leastB_ty fe fb fw fn e (fb _ _ hF).2
            exact ⟨⟨hF, a, b, rfl, h1, h3⟩, by simp only [Pg.pd, Kd.dep]; omega⟩
        · cases h
  | .either a b, ns, p, h, hF => by
    simp only [leastB] at h
    split at h
    · rename_i hm
      cases h
      exact ⟨⟨hF, idxK_get hm⟩, by simp [Pg.pd]⟩
    · split at h
      · rename_i hm
        cases h
        exact ⟨⟨hF, rfl, fn, idxK_get hm⟩, by simp only [Pg.pd]; omega⟩
      · split at h
        · rename_i q1 e1
          cases h
          obtain ⟨h1, h2⟩ := leastB_ty fe fb fw fn e1 (fe _ _ hF).1
          exact ⟨⟨hF, a, rfl, h1⟩, by simp only [Pg.pd, Kd.dep]; omega⟩
        · cases e : leastB ns b with
          | none => rw [e] at h; cases h
          | some q =>
            rw [e] at h
            cases h
            obtain ⟨h1, h2⟩ := leastB_ty fe fb fw fn e (fe _ _ hF).2
            exact ⟨⟨hF, b, rfl, h1⟩, by simp only [Pg.pd, Kd.dep]; omega⟩
theorem leastB_in {ns : List Kd} {k : Kd} (h : k ∈ ns) : (leastB ns k).isSome = true := by
  cases k <;> simp only [leastB, if_pos h, Option.isSome_some]
theorem leastB_no {ns : List Kd} {k : Kd} (h : Kd.none ∈ ns) : (leastB ns k).isSome = true := by
  cases k <;> simp only [leastB] <;> split <;> (try split) <;> first | rfl | (rename_i h2; exact (h2 h).elim) | (rename_i _ h2; exact (h2 h).elim)
/-- with more names there is one, too -/
theorem leastB_mono : ∀ {k : Kd} {ns ms : List Kd}, (∀ x ∈ ns, x ∈ ms) → (leastB ns k).isSome = true → (leastB ms k).isSome = true
  | .none, ns, ms, hs, h => by
    simp only [leastB] at h
    split at h
    · rename_i hm; exact leastB_in (hs _ hm)
    · cases h
  | .one, ns, ms, hs, h => by simp only [leastB]; split <;> rfl
  | .way a b, ns, ms, hs, h => by
    by_cases h1 : Kd.way a b ∈ ms
    · exact leastB_in h1
    · by_cases h2 : Kd.none ∈ ms
      · exact leastB_no h2
      · have e1 : ¬ Kd.way a b ∈ ns := fun z => h1 (hs _ z)
        have e2 : ¬ Kd.none ∈ ns := fun z => h2 (hs _ z)
        simp only [leastB, if_neg h1, if_neg h2, if_neg e1, if_neg e2, Option.isSome_map] at h ⊢
        refine leastB_mono (fun x hx => ?_) h
        rcases List.mem_cons.mp hx with rfl | hx
        · exact List.mem_cons_self
        · exact List.mem_cons_of_mem _ (hs _ hx)
  | .both a b, ns, ms, hs, h => by
    by_cases h1 : Kd.both a b ∈ ms
    · exact leastB_in h1
    · by_cases h2 : Kd.none ∈ ms
      · exact leastB_no h2
      · have e1 : ¬ Kd.both a b ∈ ns := fun z => h1 (hs _ z)
        have e2 : ¬ Kd.none ∈ ns := fun z => h2 (hs _ z)
        simp only [leastB, if_neg h1, if_neg h2, if_neg e1, if_neg e2] at h ⊢
        cases ea : leastB ns a with
        | none => rw [ea] at h; cases h
        | some p =>
          rw [ea] at h
          simp only [Option.isSome_map] at h
          have ha := leastB_mono (k := a) hs (by rw [ea]; rfl)
          have hb := leastB_mono (k := b) hs h
          cases eq : leastB ms a with
          | none => rw [eq] at ha; cases ha
          | some q => simp only [Option.isSome_map]; exact hb
  | .either a b, ns, ms, hs, h => by
    by_cases h1 : Kd.either a b ∈ ms
    · exact leastB_in h1
    · by_cases h2 : Kd.none ∈ ms
      · exact leastB_no h2
      · have e1 : ¬ Kd.either a b ∈ ns := fun z => h1 (hs _ z)
        have e2 : ¬ Kd.none ∈ ns := fun z => h2 (hs _ z)
        simp only [leastB, if_neg h1, if_neg h2, if_neg e1, if_neg e2] at h ⊢
        cases eq : leastB ms a with
        | some q => rfl
        | none =>
          simp only [Option.isSome_map]
          cases ea : leastB ns a with
          | some p =>
            have ha := leastB_mono (k := a) hs (by rw [ea]; rfl)
            rw [eq] at ha; cases ha
          | none =>
            rw [ea] at h
            simp only [Option.isSome_map] at h
            exact leastB_mono (k := b) hs h
theorem leastB_cons {k m : Kd} {ns : List Kd} (h : (leastB ns k).isSome = true) : (leastB (m :: ns) k).isSome = true := leastB_mono (fun _ hx => List.mem_cons_of_mem _ hx) h
theorem leastB_both {a b : Kd} {ns : List Kd} (ha : (leastB ns a).isSome = true) (hb : (leastB ns b).isSome = true) : (leastB ns (.both a b)).isSome = true := by
  by_cases h1 : Kd.both a b ∈ ns
  · exact leastB_in h1
  · by_cases h2 : Kd.none ∈ ns
    · exact leastB_no h2
    · simp only [leastB, if_neg h1, if_neg h2]
      cases ea : leastB ns a with
      | none => rw [ea] at ha; cases ha
      | some p => simp only [Option.isSome_map]; exact hb
theorem leastB_way {a b : Kd} {ns : List Kd} (hb : (leastB ns b).isSome = true) : (leastB ns (.way a b)).isSome = true := by
  by_cases h1 : Kd.way a b ∈ ns
  · exact leastB_in h1
  · by_cases h2 : Kd.none ∈ ns
    · exact leastB_no h2
    · simp only [leastB, if_neg h1, if_neg h2, Option.isSome_map]
      exact leastB_cons hb
theorem leastB_either {a b : Kd} {ns : List Kd} (ha : (leastB ns a).isSome = true) : (leastB ns (.either a b)).isSome = true := by
  by_cases h1 : Kd.either a b ∈ ns
  · exact leastB_in h1
  · by_cases h2 : Kd.none ∈ ns
    · exact leastB_no h2
    · simp only [leastB, if_neg h1, if_neg h2]
      cases ea : leastB ns a with
      | none => rw [ea] at ha; cases ha
      | some p => rfl
end EK

namespace EK
open PySem PySem.Spec L2
local macro_rules | `(tactic| walk_at "q") => `(tactic| (try simp (config := {decide := true}) only [ho_some, ho_none, wq_ok, wq_exc, x_nil, x_cons, x_asg, tupX_v, x_asgT, x_asgC, newQ_vl, x_exp, cGe_v, cGe_c, x_ret, x_ifs, x_pass, x_raise, x_asgIx, q_slot, vs_v, vs_c, Option.isSome_some, nf_v, nf_c, q_isTru, q_revL, q_enGet, q_new, q_mcall, q_callc, q_callv, x_tryN, x_cloRet, bx_v, ob_v, eg_v, cl_z, cl_s, cp_n, cp_c, q_cst, c_non, c_bl, c_int, c_str, q_glo, q_nil, q_cons, q_anil, q_acons, cellA_f, cellA_v, frz_v, frz_c, frzs_n, frzs_c, q_tup, q_lst, q_dsp, q_bin, q_cmp, q_ix, intX_i, q_neg, q_not, q_chn, q_and, q_or, q_ite, q_isN, q_notN, q_part, q_sl, q_prim, q_lrg, q_meth, q_ch, q_isT, q_cel, q_c0, q_c1, q_call, getS_z, getS_s, vw_v, vw_c, vws_n, vws_s, tru_r, co_z, co_s, co_a, co_a1, take_a, nQ_cut, b_addI, b_subI, b_mulI, b_divI, b_modI, b_powI, b_addT, b_addL, b_addS, o_ltI, o_leI, o_gtI, o_geI, o_eqI, o_neI, o_eqS, o_neS, o_in, o_nin, i_s2, i_s3, i_s4, x_T, x_L, x_C, x_D, d_c, s_T, s_L, s_C, p_lenT, p_lenL, p_lenC, p_intI, p_intB, p_abs, p_max, p_min, p_sum, p_tupT, p_tupL, p_lstT, p_lstL, p_any, p_all, p_lrg, m_ixT2, m_ixL2, m_get1, m_get2, k_app, k_ext, k_pop0, k_pop, k_clr, u_bl, u_int, u_non, u_tup, u_vl, g_nm, g_tp, g_wt, g_s0, g_s1, n_v, n_c, y_non, y_bl, y_int, y_str, y_tup, y_vl, pm_0, pm_1, non_vl, mq_app, mq_ext, mq_pop, mq_clr, mq_ixC, mq_ixT, mq_ixV, mq_get, im_o, im_oc, im_e, im_ec, sq_t, sq_l, ls_l, im_r, im_r2, im_r3, im_zT, im_zL, im_v, ok_both, ok_case, ok_either, ok_first, ok_give, ok_k, ok_kp, ok_l, ok_left, ok_let, ok_name, ok_never, ok_none, ok_odd, ok_one, ok_other, ok_p, ok_pair, ok_r, ok_right, ok_second, ok_split, ok_star, ok_w, ok_way, ok_within, ok_without, ok_wrong, ok_yes, ok_no, ok_n, ok_led, ok_lr, ok_pp, ok_ppp, non_int, non_non, non_tup, non_str, non_ref, non_bl, kit_tuple_NoneType, kit_tuple_bool, kit_tuple_int, kit_tuple_str, kit_tuple_tuple, kit_tuple_list, kit_list_NoneType, kit_list_bool, kit_list_int, kit_list_str, kit_list_tuple, kit_list_list, kit_int_NoneType, kit_int_bool, kit_int_int, kit_int_str, kit_int_tuple, kit_int_list, kit_bool_NoneType, kit_bool_bool, kit_bool_int, kit_bool_str, kit_bool_tuple, kit_bool_list, kit_str_NoneType, kit_str_bool, kit_str_int, kit_str_str, kit_str_tuple, kit_str_list, at_0, at_1, at_2, at_3, List.set_cons_zero, List.set_cons_succ, Option.some.injEq, exists_eq_left', true_and, and_true, and_self, decide_eq_true_eq, ↓reduceIte, if_true, if_false, decide_true, decide_false, Bool.false_eq_true, reduceCtorEq, List.length_cons, List.length_nil, List.map_cons, List.map_nil, Nat.zero_add, Int.reduceSub, Int.reduceAdd, Int.reduceNeg, Int.reduceMul, Nat.reduceAdd, Nat.reduceSub, Bool.not_true, Bool.not_false, Bool.or_false, Bool.or_true, Bool.true_or, Bool.false_or, Bool.and_true, Bool.and_false, Bool.true_and, Bool.false_and, List.replicate_succ, List.replicate_zero, List.cons_append, List.nil_append, List.append_assoc, List.take_length, List.take_succ_cons, List.length_append, isCel, frE, isCh, wipeQ, List.drop_nil, List.drop_zero, false_implies, true_implies, implies_true, forall_const, QX.v.injEq, sz_0, sz_1, sz_2, sz_3, sz_4, sz_5, sz_6, sz_7, sz_8, sz_9, sz_10, sz_11, sz_12, p_srt, co_dk, List.length_map, set_a, take_an, List.take_zero, List.take_nil, q_bnd, q_okO, ho_map, en_l, en_t, opt_map]))
namespace Lib
def m_World_none_things : FnI := ⟨["self"], ["self"], [],
  (.cons (.ret (.lst .nil)) .nil)⟩
def m_World_one_things : FnI := ⟨["self"], ["self"], [],
  (.cons (.ret (.lst (.cons (.tup .nil) .nil))) .nil)⟩
def m_World_either_things : FnI := ⟨["self", "some", "others"], ["self", "some", "others", "one"], [],
  (.cons (.ret (.bin .add (.comp [3] (.nm 3) .over (.cons (.slot 1) .nil) .nil (.tup (.cons (.cst (.str "l")) (.cons (.slot 3) .nil)))) (.comp [3] (.nm 3) .over (.cons (.slot 2) .nil) .nil (.tup (.cons (.cst (.str "r")) (.cons (.slot 3) .nil)))))) .nil)⟩
def m_World_both_things : FnI := ⟨["self", "some", "others"], ["self", "some", "others", "one", "other"], [],
  (.cons (.ret (.comp [3, 4] (.tp [3, 4]) .over (.cons (.call "crossed" (.cons (.slot 1) (.cons (.slot 2) .nil))) .nil) .nil (.tup (.cons (.cst (.str "p")) (.cons (.slot 3) (.cons (.slot 4) .nil)))))) .nil)⟩
def m_World_way_things : FnI := ⟨["self", "some", "others"], ["self", "some", "others", "row"], [],
  (.cons (.ret (.comp [3] (.nm 3) .over (.cons (.call "powers" (.cons (.slot 2) (.cons (.prim .len (.cons (.slot 1) .nil)) .nil))) .nil) .nil (.tup (.cons (.cst (.str "w")) (.cons (.slot 3) .nil))))) .nil)⟩
def m_World_star : FnI := ⟨["self"], ["self"], [],
  (.cons (.ret (.tup .nil)) .nil)⟩
def m_World_paired : FnI := ⟨["self", "one", "other"], ["self", "one", "other"], [],
  (.cons (.ret (.tup (.cons (.cst (.str "p")) (.cons (.slot 1) (.cons (.slot 2) .nil))))) .nil)⟩
def m_World_first_of : FnI := ⟨["self", "kind", "thing"], ["self", "kind", "thing"], [],
  (.cons (.ret (.ix (.slot 2) (.cst (.int 1)))) .nil)⟩
def m_World_second_of : FnI := ⟨["self", "kind", "thing"], ["self", "kind", "thing"], [],
  (.cons (.ret (.ix (.slot 2) (.cst (.int 2)))) .nil)⟩
def m_World_to_left : FnI := ⟨["self", "kind", "thing"], ["self", "kind", "thing"], [],
  (.cons (.ret (.tup (.cons (.cst (.str "l")) (.cons (.slot 2) .nil)))) .nil)⟩
def m_World_to_right : FnI := ⟨["self", "kind", "thing"], ["self", "kind", "thing"], [],
  (.cons (.ret (.tup (.cons (.cst (.str "r")) (.cons (.slot 2) .nil)))) .nil)⟩
def m_World_parted : FnI := ⟨["self", "kind", "thing"], ["self", "kind", "thing"], [],
  (.cons (.ret (.tup (.cons (.prim .int (.cons (.cmp .eq (.ix (.slot 2) (.cst (.int 0))) (.cst (.str "r"))) .nil)) (.cons (.ix (.slot 2) (.cst (.int 1))) .nil)))) .nil)⟩
def m_World_woven : FnI := ⟨["self", "kind", "row"], ["self", "kind", "row"], [],
  (.cons (.ret (.tup (.cons (.cst (.str "w")) (.cons (.slot 2) .nil)))) .nil)⟩
def m_World_given_by : FnI := ⟨["self", "kind", "thing", "handed"], ["self", "kind", "thing", "handed"], [],
  (.cons (.ret (.ix (.ix (.slot 2) (.cst (.int 1))) (.meth .index (.mcall "things" (.slot 0) (.cons (.ix (.slot 1) (.cst (.int 1))) .nil)) (.cons (.slot 3) .nil)))) .nil)⟩
def m_World_bound : FnI := ⟨["self", "kind", "thing"], ["self", "kind", "thing"], [],
  (.cons (.ret (.slot 2)) .nil)⟩
def m_World_never : FnI := ⟨["self", "kind"], ["self", "kind"], [],
  (.cons (.ret (.cst .non)) .nil)⟩
def f_rows : FnI := ⟨["names"], ["names"], [],
  (.cons (.ret (.mcall "rows" (.new "World") (.cons (.slot 0) .nil))) .nil)⟩
def f_table : FnI := ⟨["program", "names"], ["program", "names", "row"], [],
  (.cons (.ret (.comp [2] (.nm 2) .over (.cons (.call "rows" (.cons (.slot 1) .nil)) .nil) .nil (.call "told" (.cons (.slot 0) (.cons (.slot 2) (.cons (.slot 1) .nil)))))) .nil)⟩
def f_told : FnI := ⟨["program", "row", "names"], ["program", "row", "names"], [],
  (.cons (.ret (.ix (.mcall "told" (.new "World") (.cons (.slot 0) (.cons (.slot 1) (.cons (.slot 2) .nil)))) (.cst (.int 1)))) .nil)⟩
end Lib
open Lib
theorem flatMap_cg {α β : Type} {f g : α → List β} : ∀ {l : List α}, (∀ x ∈ l, f x = g x) → l.flatMap f = l.flatMap g
  | [], _ => rfl
  | x :: l, h => by rw [List.flatMap_cons, List.flatMap_cons, h x List.mem_cons_self, flatMap_cg fun y hy => h y (List.mem_cons_of_mem _ hy)]
section
variable {U : QT} {r : Nat} {τ : QSt} {c : Str}
theorem mw_none (h : HasMt U c "none_things" m_World_none_things false) : metK U (r + 1) c "none_things" [.v (.obj c)] τ = .ok (.vl []) τ := by
  refine Wq.eq (wq_met h rfl ?_)
  simp only [m_World_none_things]
  walk_at "q"
theorem mw_one (h : HasMt U c "one_things" m_World_one_things false) : metK U (r + 1) c "one_things" [.v (.obj c)] τ = .ok (.vl [.tup []]) τ := by
  refine Wq.eq (wq_met h rfl ?_)
  simp only [m_World_one_things]
  walk_at "q"
theorem mw_either (h : HasMt U c "either_things" m_World_either_things false) {xs ys : List PV} (hx : xs.length ≤ 100000) (hy : ys.length ≤ 100000) : metK U (r + 1) c "either_things" [.v (.obj c), .v (.vl xs), .v (.vl ys)] τ = .ok (.vl (wP.eit xs ys)) τ := by
  refine Wq.eq (wq_met h rfl ?_)
  simp only [m_World_either_things]
  walk_at "q"
  refine q_map (fun x => .tup [.str "l", x]) ?_
  walk_at "q"
  refine ⟨big (by omega), ?_⟩
  refine q_map (fun x => .tup [.str "r", x]) ?_
  walk_at "q"
  exact ⟨big (by omega), big (by omega), rfl⟩
def pr2 (v : PV) : PV := match v with
  | .tup [x, y] => .tup [.str "p", x, y]
  | _ => .non
theorem mw_both (hc : HasFn U "crossed" f_crossed false) (h : HasMt U c "both_things" m_World_both_things false) {xs ys : List PV} (hz : xs.length * ys.length ≤ 1000000) : metK U (r + 2) c "both_things" [.v (.obj c), .v (.vl xs), .v (.vl ys)] τ = .ok (.vl (wP.bot xs ys)) τ := by
  refine Wq.eq (wq_met h rfl ?_)
  simp only [m_World_both_things]
  walk_at "q"
  refine q_map pr2 ?_
  walk_at "q"
  rw [q_crossed hc hz]
  walk_at "q"
  refine ⟨by rw [flat_len]; exact big hz, fun x τ' hx => ?_, ?_⟩
  · obtain ⟨u, hu, hx⟩ := List.mem_flatMap.mp hx
    obtain ⟨y, hy, rfl⟩ := List.mem_map.mp hx
    walk_at "q"
    rfl
  · simp only [wP, List.map_flatMap, List.map_map]
    rfl
theorem q_powers (hc : HasFn U "crossed" f_crossed false) (h : HasFn U "powers" f_powers false) {bs : List PV} {n : Nat} (hn : n ≤ 100000) (hb : bs.length ≤ 100000) (hz : bs.length ^ n ≤ 100000) : callQ U (r + 2) "powers" [.v (.vl bs), .v (.int (n : Nat))] τ = .ok (.vl (wys bs n)) τ := by
  refine Wq.eq (wq_call h rfl rfl ?_)
  simp only [f_powers]
  walk_at "q"
  refine wx_forS (xs := [.v (.int (n : Nat))]) (τ1 := τ) (items := rangeP 0 n) (fun pre e τ2 => (∃ o, e = [some (.v (.vl bs)), some (.v (.int (n : Nat))), some (.v (.vl (wys bs pre.length))), o, none, none]) ∧ τ2 = τ) ?src ⟨⟨_, rfl⟩, rfl⟩ ?end1 (fun _ _ _ _ => range_nat (by omega)) ?step
  case src =>
    walk_at "q"
    exact range_nat (by omega)
  case end1 =>
    rintro e τ2 ⟨⟨o, rfl⟩, rfl⟩
    rw [range_len]
    walk_at "q"
  case step =>
    rintro pre x suf e τ2 hx ⟨⟨o, rfl⟩, rfl⟩
    have hp : pre.length < n := (range_mid hx).1
    have hw := wys_len bs pre.length
    have hpow2 := pow_mid (b := bs.length) hp
    have hsz : (wys bs pre.length).length * bs.length ≤ 100000 := by
      rw [hw, ← Nat.pow_succ]
      exact Nat.le_trans hpow2 (by omega)
    walk_at "q"
    refine q_map cat2 ?_
    walk_at "q"
    rw [q_crossed hc (by omega)]
    walk_at "q"
    refine ⟨by rw [flat_len]; exact big (by omega), fun x τ' hx => ?_, some (.v x), ?_⟩
    · obtain ⟨u, hu, hx⟩ := List.mem_flatMap.mp hx
      obtain ⟨y, hy, rfl⟩ := List.mem_map.mp hx
      obtain ⟨l, rfl, hl, _⟩ := wys_tup bs _ hu
      walk_at "q"
      exact ⟨big (by omega), rfl⟩
    · have key : ((wys bs pre.length).flatMap fun x => bs.map fun y => PV.tup [x, y]).map cat2 = wys bs (pre.length + 1) := by
        rw [List.map_flatMap]
        simp only [wys, List.map_map]
        exact flatMap_cg fun u hu => by
          obtain ⟨l, rfl, _⟩ := wys_tup bs _ hu
          rfl
      rw [key]
theorem mw_way (hc : HasFn U "crossed" f_crossed false) (hp : HasFn U "powers" f_powers false) (h : HasMt U c "way_things" m_World_way_things false) {xs bs : List PV} (hn : xs.length ≤ 100000) (hb : bs.length ≤ 100000) (hz : bs.length ^ xs.length ≤ 100000) : metK U (r + 3) c "way_things" [.v (.obj c), .v (.vl xs), .v (.vl bs)] τ = .ok (.vl (wP.wty xs bs)) τ := by
  refine Wq.eq (wq_met h rfl ?_)
  simp only [m_World_way_things]
  walk_at "q"
  refine q_map (fun x => .tup [.str "w", x]) ?_
  walk_at "q"
  rw [q_powers hc hp hn hb hz]
  walk_at "q"
  exact ⟨by rw [wys_len]; exact big (by omega), rfl⟩
theorem mw_star (h : HasMt U c "star" m_World_star false) : metK U (r + 1) c "star" [.v (.obj c)] τ = .ok (.tup []) τ := by
  refine Wq.eq (wq_met h rfl ?_)
  simp only [m_World_star]
  walk_at "q"
theorem mw_paired (h : HasMt U c "paired" m_World_paired false) {x y : PV} : metK U (r + 1) c "paired" [.v (.obj c), .v x, .v y] τ = .ok (.tup [.str "p", x, y]) τ := by
  refine Wq.eq (wq_met h rfl ?_)
  simp only [m_World_paired]
  walk_at "q"
theorem mw_first (h : HasMt U c "first_of" m_World_first_of false) {k x y z : PV} {l : List PV} : metK U (r + 1) c "first_of" [.v (.obj c), .v k, .v (.tup (x :: y :: l))] τ = .ok y τ := by
  refine Wq.eq (wq_met h rfl ?_)
  simp only [m_World_first_of]
  walk_at "q"
theorem mw_second (h : HasMt U c "second_of" m_World_second_of false) {k x y z : PV} {l : List PV} : metK U (r + 1) c "second_of" [.v (.obj c), .v k, .v (.tup (x :: y :: z :: l))] τ = .ok z τ := by
  refine Wq.eq (wq_met h rfl ?_)
  simp only [m_World_second_of]
  walk_at "q"
theorem mw_left (h : HasMt U c "to_left" m_World_to_left false) {k x : PV} : metK U (r + 1) c "to_left" [.v (.obj c), .v k, .v x] τ = .ok (.tup [.str "l", x]) τ := by
  refine Wq.eq (wq_met h rfl ?_)
  simp only [m_World_to_left]
  walk_at "q"
theorem mw_right (h : HasMt U c "to_right" m_World_to_right false) {k x : PV} : metK U (r + 1) c "to_right" [.v (.obj c), .v k, .v x] τ = .ok (.tup [.str "r", x]) τ := by
  refine Wq.eq (wq_met h rfl ?_)
  simp only [m_World_to_right]
  walk_at "q"
theorem mw_parted (h : HasMt U c "parted" m_World_parted false) {k x : PV} {w : Str} {l : List PV} (hw : strOkB w = true) : metK U (r + 1) c "parted" [.v (.obj c), .v k, .v (.tup (.str w :: x :: l))] τ = .ok (.tup [.int (if decide (w = "r") = true then 1 else 0), x]) τ := by
  refine Wq.eq (wq_met h rfl ?_)
  simp only [m_World_parted]
  (walk_at "q"; repeat (simp only [hw]; walk_at "q"))
theorem mw_woven (h : HasMt U c "woven" m_World_woven false) {k x : PV} : metK U (r + 1) c "woven" [.v (.obj c), .v k, .v x] τ = .ok (.tup [.str "w", x]) τ := by
  refine Wq.eq (wq_met h rfl ?_)
  simp only [m_World_woven]
  walk_at "q"
theorem mw_bound (h : HasMt U c "bound" m_World_bound false) {k x : PV} : metK U (r + 1) c "bound" [.v (.obj c), .v k, .v x] τ = .ok x τ := by
  refine Wq.eq (wq_met h rfl ?_)
  simp only [m_World_bound]
  walk_at "q"
theorem mw_never (h : HasMt U c "never" m_World_never false) {k : PV} : metK U (r + 1) c "never" [.v (.obj c), .v k] τ = .ok .non τ := by
  refine Wq.eq (wq_met h rfl ?_)
  simp only [m_World_never]
  walk_at "q"
theorem FP.len {k : Kd} (h : FP k) : (wP.ths k).length ≤ 300 := by rw [ths_P, ths_len]; exact h.1.cnt
/-- the plain world's class -/
structure HasWp (U : QT) : Prop where
  ko : HasKo U
  crossed : HasFn U "crossed" f_crossed false
  powers : HasFn U "powers" f_powers false
  one_glob : U.T.glob "ONE" = some (K .one)
  m1 : HasMt U "World" "things" m_World_things false
  m2 : HasMt U "World" "rows" m_World_rows true
  m3 : HasMt U "World" "told" m_World_told false
  m4 : HasMt U "World" "told_side" m_World_told_side false
  m5 : HasMt U "World" "told_way" m_World_told_way false
  m6 : HasMt U "World" "none_things" m_World_none_things false
  m7 : HasMt U "World" "one_things" m_World_one_things false
  m8 : HasMt U "World" "either_things" m_World_either_things false
  m9 : HasMt U "World" "both_things" m_World_both_things false
  m10 : HasMt U "World" "way_things" m_World_way_things false
  m11 : HasMt U "World" "star" m_World_star false
  m12 : HasMt U "World" "paired" m_World_paired false
  m13 : HasMt U "World" "first_of" m_World_first_of false
  m14 : HasMt U "World" "second_of" m_World_second_of false
  m15 : HasMt U "World" "to_left" m_World_to_left false
  m16 : HasMt U "World" "to_right" m_World_to_right false
  m17 : HasMt U "World" "parted" m_World_parted false
  m18 : HasMt U "World" "woven" m_World_woven false
  m19 : HasMt U "World" "given_by" m_World_given_by false
  m20 : HasMt U "World" "bound" m_World_bound false
  m21 : HasMt U "World" "never" m_World_never false
theorem HasMt.is {m : Str} {f : FnI} {fr : Bool} (h : HasMt U c m f fr) : (U.T.mths.lookup (c, m)).isSome = true := by rw [h.fn]; rfl
theorem wp_t (h : HasWp U) : HasWt U "World" wP FP where
  ms m hm := by
    simp only [worldMs, List.mem_cons, List.not_mem_nil, or_false] at hm
    rcases hm with rfl | rfl | rfl | rfl | rfl | rfl | rfl | rfl | rfl | rfl | rfl | rfl | rfl | rfl | rfl | rfl | rfl | rfl | rfl | rfl | rfl
    · exact h.m1.is
    · exact h.m6.is
    · exact h.m7.is
    · exact h.m8.is
    · exact h.m9.is
    · exact h.m10.is
    · exact h.m11.is
    · exact h.m12.is
    · exact h.m13.is
    · exact h.m14.is
    · exact h.m15.is
    · exact h.m16.is
    · exact h.m17.is
    · exact h.m18.is
    · exact h.m19.is
    · exact h.m20.is
    · exact h.m21.is
    · exact h.m2.is
    · exact h.m3.is
    · exact h.m4.is
    · exact h.m5.is
  fdep k hk := by have := hk.2; omega
  fcnt k hk := by have := hk.len; omega
  fe a b h := h.e
  fb a b h := h.b
  fw a b h := h.w
  m_things := h.m1
  none_things r τ := mw_none h.m6
  one_things r τ := mw_one h.m7
  either_things r τ a b hF := mw_either h.m8 (by have := hF.e.1.len; omega) (by have := hF.e.2.len; omega)
  both_things r τ a b hF := mw_both h.crossed h.m9 (Nat.le_trans (Nat.mul_le_mul hF.b.1.len hF.b.2.len) (by decide))
  way_things r τ a b hF := mw_way h.crossed h.powers h.m10 (by have := hF.w.1.len; omega) (by have := hF.w.2.len; omega) (by rw [ths_P, ths_P, ths_len, ths_len]; exact Nat.le_trans hF.1.1 (by decide))
theorem wp_w (h : HasWp U) : HasW U "World" wP FP where
  toHasWt := wp_t h
  ko := h.ko
  crossed := h.crossed
  one_glob := h.one_glob
  m_rows := h.m2
  m_told := h.m3
  m_side := h.m4
  m_way := h.m5
  star r τ := mw_star h.m11
  paired r τ a b x y _ _ _ := mw_paired h.m12
  first_of r τ a b x _ hx := by
    rw [ths_P] at hx
    simp only [EK.ths, List.mem_flatMap, List.mem_map] at hx
    obtain ⟨u, hu, v, hv, rfl⟩ := hx
    exact mw_first h.m13 (z := v)
  second_of r τ a b x _ hx := by
    rw [ths_P] at hx
    simp only [EK.ths, List.mem_flatMap, List.mem_map] at hx
    obtain ⟨u, hu, v, hv, rfl⟩ := hx
    exact mw_second h.m14
  to_left r τ a b x _ _ := mw_left h.m15
  to_right r τ a b x _ _ := mw_right h.m16
  parted r τ a b x _ hx := by
    rw [ths_P] at hx
    simp only [EK.ths, List.mem_append, List.mem_map] at hx
    rcases hx with ⟨u, hu, rfl⟩ | ⟨u, hu, rfl⟩
    · exact mw_parted h.m17 ok_l
    · exact mw_parted h.m17 ok_r
  woven r τ a b vs _ _ _ := mw_woven h.m18
  bound r τ k x _ _ := mw_bound h.m20
  never r τ k x _ hx := by simp [wP] at hx
  given_by r τ a b f x hF hf hx := by
    have hFa := hF.w.1
    have hth := q_wth (wp_t h) a (r + 38) τ hFa (by have := hFa.2; omega)
    rw [ths_P] at hth
    simp only [ths_P] at hf hx
    simp only [EK.ths, List.mem_map] at hf
    obtain ⟨t, ht, rfl⟩ := hf
    obtain ⟨l, rfl, hl, hm⟩ := wys_tup _ _ ht
    obtain ⟨i, hi⟩ := List.getElem?_of_mem hx
    have hix : ixP (EK.ths a) x = i := ixP_at (nodup_ths a) (fun y hy => (ok_ths a hy).1) hi
    have hlt := (List.getElem?_eq_some_iff.mp hi).1
    have hd := hFa.2
    have eidx : idxQ x (EK.ths a) = some (.int (i : Nat)) := by
      unfold idxQ
      have c1 : cleans (EK.ths a) = true := cleans_iff.mpr fun y hy => (ok_ths a hy).1
      have c2 : depths (EK.ths a) ≤ 150 := depths_le.mpr fun y hy => by have := (ok_ths a hy).2; omega
      have c3 := ok_ths a hx
      rw [if_pos (by simp [c3.1, c1, c2]; omega), find_at c3.1 (nodup_ths a) (fun y hy => (ok_ths a hy).1) hi]
      rfl
    have eat : atI l (i : Int) = some l[i] := at_nat (List.getElem?_eq_getElem (by omega))
    refine Wq.eq (wq_met h.m19 rfl ?_)
    simp only [m_World_given_by, K]
    (walk_at "q"; repeat (simp only [h.m1.is]; walk_at "q"))
    rw [hth]
    (walk_at "q"; repeat (simp only [m_ixT2, m_ixL2, eidx, eat]; walk_at "q"))
    show l[i] = l.getD (ixP (EK.ths (Kd.way a b).a) x) .non
    rw [show (Kd.way a b).a = a from rfl, hix, List.getD_eq_getElem?_getD, List.getElem?_eq_getElem (by omega)]
    rfl
end
/-- the tables -/
structure HasTb (U : QT) : Prop extends HasWp U where
  rows : HasFn U "rows" f_rows true
  told : HasFn U "told" f_told false
  table : HasFn U "table" f_table (U.fr "table")
section
variable {U : QT} {r : Nat} {τ : QSt}
theorem q_rows (hf : HasTb U) (hm : U.T.cls.contains "World" = true) {ns : List Kd} (hF : ∀ k ∈ ns, FP k) (hl : ns.length ≤ 100) (hr : RowsOk wP ns) (h40 : 40 ≤ r) : callQ U (r + 1) "rows" [.v (.tup (ns.map K))] τ = .ok (.vl ((wP.rws ns).map tupR)) τ := by
  obtain ⟨r, rfl⟩ : ∃ r', r = r' + 1 := ⟨r - 1, by omega⟩
  refine Wq.eq (wq_call hf.rows rfl rfl ?_)
  simp only [f_rows]
  (walk_at "q"; repeat (simp only [hf.m2.is, hm]; walk_at "q"))
  rw [q_wrows (wp_w hf.toHasWp) hF hl hr (by omega)]
  (walk_at "q"; repeat (simp only [hf.m2.fr]; walk_at "q"))
theorem q_told (hf : HasTb U) (hm : U.T.cls.contains "World" = true) {ns : List Kd} {p : Pg} {k : Kd} {row : List PV} (ht : TyP FP ns p k) (hF : ∀ k ∈ ns, FP k) (hr : wP.RI ns row) (hn : ns.length + p.pd ≤ 100000) (h : 2 * p.pd + 62 ≤ r) : callQ U (r + 1) "told" [.v (PP p), .v (.tup row), .v (.tup (ns.map K))] τ = .ok (wP.ev ns p row) τ := by
  obtain ⟨r, rfl⟩ : ∃ r', r = r' + 1 := ⟨r - 1, by omega⟩
  refine Wq.eq (wq_call hf.told rfl rfl ?_)
  simp only [f_told]
  (walk_at "q"; repeat (simp only [hf.m3.is, hm]; walk_at "q"))
  rw [q_wtold (wp_w hf.toHasWp) wP_ok _ p ns k row _ _ (Nat.lt_succ_self _) ht hF hr hn (by omega)]
  walk_at "q"
theorem q_table (hf : HasTb U) (hm : U.T.cls.contains "World" = true) {ns : List Kd} {p : Pg} {k : Kd} (ht : TyP FP ns p k) (hF : ∀ k ∈ ns, FP k) (hl : ns.length ≤ 100) (hr : RowsOk wP ns) (hn : p.pd ≤ 10000) (h : 2 * p.pd + 64 ≤ r) : callQ U (r + 1) "table" [.v (PP p), .v (.tup (ns.map K))] τ = .ok (.vl ((wP.rws ns).map (wP.ev ns p))) τ := by
  obtain ⟨r, rfl⟩ : ∃ r', r = r' + 1 := ⟨r - 1, by omega⟩
  refine Wq.eq (wq_call hf.table rfl rfl ?_)
  simp only [f_table]
  walk_at "q"
  refine q_mapL (wP.rws ns) tupR (wP.ev ns p) ?_
  walk_at "q"
  rw [q_rows hf hm hF hl hr (by omega)]
  walk_at "q"
  have h1 := hr ns.length
  rw [List.take_length] at h1
  refine ⟨big (by omega), fun row τ' hrow => ?_⟩
  simp only [tupR]
  walk_at "q"
  rw [q_told hf hm ht hF (WS.rws_mem.mp hrow) (by omega) (by omega)]
  walk_at "q"
end
end EK

namespace EK
open PySem PySem.Spec L2
local macro_rules | `(tactic| walk_at "q") => `(tactic| (try simp (config := {decide := true}) only [ho_some, ho_none, wq_ok, wq_exc, x_nil, x_cons, x_asg, tupX_v, x_asgT, x_asgC, newQ_vl, x_exp, cGe_v, cGe_c, x_ret, x_ifs, x_pass, x_raise, x_asgIx, q_slot, vs_v, vs_c, Option.isSome_some, nf_v, nf_c, q_isTru, q_revL, q_enGet, q_new, q_mcall, q_callc, q_callv, x_tryN, x_cloRet, bx_v, ob_v, eg_v, cl_z, cl_s, cp_n, cp_c, q_cst, c_non, c_bl, c_int, c_str, q_glo, q_nil, q_cons, q_anil, q_acons, cellA_f, cellA_v, frz_v, frz_c, frzs_n, frzs_c, q_tup, q_lst, q_dsp, q_bin, q_cmp, q_ix, intX_i, q_neg, q_not, q_chn, q_and, q_or, q_ite, q_isN, q_notN, q_part, q_sl, q_prim, q_lrg, q_meth, q_ch, q_isT, q_cel, q_c0, q_c1, q_call, getS_z, getS_s, vw_v, vw_c, vws_n, vws_s, tru_r, co_z, co_s, co_a, co_a1, take_a, nQ_cut, b_addI, b_subI, b_mulI, b_divI, b_modI, b_powI, b_addT, b_addL, b_addS, o_ltI, o_leI, o_gtI, o_geI, o_eqI, o_neI, o_eqS, o_neS, o_in, o_nin, i_s2, i_s3, i_s4, x_T, x_L, x_C, x_D, d_c, s_T, s_L, s_C, p_lenT, p_lenL, p_lenC, p_intI, p_intB, p_abs, p_max, p_min, p_sum, p_tupT, p_tupL, p_lstT, p_lstL, p_any, p_all, p_lrg, m_ixT2, m_ixL2, m_get1, m_get2, k_app, k_ext, k_pop0, k_pop, k_clr, u_bl, u_int, u_non, u_tup, u_vl, g_nm, g_tp, g_wt, g_s0, g_s1, n_v, n_c, y_non, y_bl, y_int, y_str, y_tup, y_vl, pm_0, pm_1, non_vl, mq_app, mq_ext, mq_pop, mq_clr, mq_ixC, mq_ixT, mq_ixV, mq_get, im_o, im_oc, im_e, im_ec, sq_t, sq_l, ls_l, im_r, im_r2, im_r3, im_zT, im_zL, im_v, ok_both, ok_case, ok_either, ok_first, ok_give, ok_k, ok_kp, ok_l, ok_left, ok_let, ok_name, ok_never, ok_none, ok_odd, ok_one, ok_other, ok_p, ok_pair, ok_r, ok_right, ok_second, ok_split, ok_star, ok_w, ok_way, ok_within, ok_without, ok_wrong, ok_yes, ok_no, ok_n, ok_led, ok_lr, ok_pp, ok_ppp, non_int, non_non, non_tup, non_str, non_ref, non_bl, kit_tuple_NoneType, kit_tuple_bool, kit_tuple_int, kit_tuple_str, kit_tuple_tuple, kit_tuple_list, kit_list_NoneType, kit_list_bool, kit_list_int, kit_list_str, kit_list_tuple, kit_list_list, kit_int_NoneType, kit_int_bool, kit_int_int, kit_int_str, kit_int_tuple, kit_int_list, kit_bool_NoneType, kit_bool_bool, kit_bool_int, kit_bool_str, kit_bool_tuple, kit_bool_list, kit_str_NoneType, kit_str_bool, kit_str_int, kit_str_str, kit_str_tuple, kit_str_list, at_0, at_1, at_2, at_3, List.set_cons_zero, List.set_cons_succ, Option.some.injEq, exists_eq_left', true_and, and_true, and_self, decide_eq_true_eq, ↓reduceIte, if_true, if_false, decide_true, decide_false, Bool.false_eq_true, reduceCtorEq, List.length_cons, List.length_nil, List.map_cons, List.map_nil, Nat.zero_add, Int.reduceSub, Int.reduceAdd, Int.reduceNeg, Int.reduceMul, Nat.reduceAdd, Nat.reduceSub, Bool.not_true, Bool.not_false, Bool.or_false, Bool.or_true, Bool.true_or, Bool.false_or, Bool.and_true, Bool.and_false, Bool.true_and, Bool.false_and, List.replicate_succ, List.replicate_zero, List.cons_append, List.nil_append, List.append_assoc, List.take_length, List.take_succ_cons, List.length_append, isCel, frE, isCh, wipeQ, List.drop_nil, List.drop_zero, false_implies, true_implies, implies_true, forall_const, QX.v.injEq, sz_0, sz_1, sz_2, sz_3, sz_4, sz_5, sz_6, sz_7, sz_8, sz_9, sz_10, sz_11, sz_12, p_srt, co_dk, List.length_map, set_a, take_an, List.take_zero, List.take_nil, q_bnd, q_okO, ho_map, en_l, en_t, opt_map]))
namespace Lib
namespace B
def f_law_mixed : FnI := ⟨["_law_number_here", "_law_k"], ["_law_number_here", "_law_k"], [],
  (.cons (.asg (.nm 0) (.bin .mod (.bin .add (.bin .add (.bin .mul (.bin .mod (.slot 0) (.cst (.int 2147483629))) (.cst (.int 48271))) (.bin .mul (.cst (.int 7919)) (.slot 1))) (.cst (.int 13))) (.cst (.int 2147483629)))) (.cons (.asg (.nm 0) (.bin .mod (.bin .add (.bin .mul (.slot 0) (.bin .add (.bin .fdiv (.slot 0) (.cst (.int 5))) (.slot 1))) (.bin .mul (.cst (.int 16807)) (.slot 1))) (.cst (.int 2147483587)))) (.cons (.ret (.bin .mod (.bin .add (.bin .mul (.slot 0) (.cst (.int 69621))) (.bin .fdiv (.slot 0) (.cst (.int 127)))) (.cst (.int 2147483647)))) .nil)))⟩
def f_law_deck : FnI := ⟨["_law_script"], ["_law_script", "_law_deck_here", "_law_k", "_law_cell", "_law_number_here", "_law_j", "_law_total"], [],
  (.cons (.asgC 1 (.lst .nil)) (.cons (.for (.tp [2, 3]) .enum (.cons (.sl (.slot 0) .nil (.cons (.cst (.int 63)) .nil)) .nil) (.cons (.asg (.nm 4) (.prim .abs (.cons (.slot 3) .nil))) (.cons (.ifs (.cmp .lt (.slot 4) (.bin .pow (.cst (.int 10)) (.cst (.int 18)))) (.cons (.exp (.meth .append (.slot 1) (.cons (.call "_law_mixed" (.cons (.slot 4) (.cons (.slot 2) .nil))) .nil))) .nil) (.cons (.for (.nm 5) .range (.cons (.cst (.int 60)) .nil) (.cons (.ifs (.cmp .gt (.slot 4) (.cst (.int 0))) (.cons (.exp (.meth .append (.slot 1) (.cons (.bin .mod (.slot 4) (.cst (.int 2147483647))) .nil))) (.cons (.asg (.nm 4) (.bin .fdiv (.slot 4) (.cst (.int 2147483647)))) .nil)) .nil) .nil)) .nil)) .nil))) (.cons (.asg (.nm 6) (.prim .sum (.cons (.sl (.slot 1) .nil (.cons (.cst (.int 20)) .nil)) .nil))) (.cons (.for (.nm 2) .range (.cons (.cst (.int 120)) .nil) (.cons (.exp (.meth .append (.slot 1) (.cons (.call "_law_mixed" (.cons (.bin .add (.slot 6) (.bin .mul (.cst (.int 31)) (.slot 2))) (.cons (.slot 2) .nil))) .nil))) .nil)) (.cons (.ret (.sl (.slot 1) .nil (.cons (.cst (.int 200)) .nil))) .nil)))))⟩
def f_law_next : FnI := ⟨["_law_deck_here", "_law_many"], ["_law_deck_here", "_law_many"], [],
  (.cons (.ifs (.cmp .eq (.prim .len (.cons (.slot 0) .nil)) (.cst (.int 0))) (.cons (.ret (.cst (.int 0))) .nil) .nil) (.cons (.ret (.bin .mod (.meth .pop (.slot 0) (.cons (.cst (.int 0)) .nil)) (.slot 1))) .nil))⟩
def f_law_wide : FnI := ⟨["_law_kind_here", "_law_word"], ["_law_kind_here", "_law_word", "_law_one", "_law_other", "_law_twice", "_law_many", "_law_k"], [],
  (.cons (.ifs (.cmp .eq (.ix (.slot 0) (.cst (.int 0))) (.cst (.str "none"))) (.cons (.ret (.prim .int (.cons (.cmp .eq (.slot 1) (.cst (.str "never"))) .nil))) .nil) .nil) (.cons (.ifs (.cmp .eq (.ix (.slot 0) (.cst (.int 0))) (.cst (.str "one"))) (.cons (.ret (.bin .add (.cst (.int 1)) (.prim .int (.cons (.cmp .eq (.slot 1) (.cst (.str "star"))) .nil)))) .nil) .nil) (.cons (.asg (.nm 2) (.call "_law_wide" (.cons (.ix (.slot 0) (.cst (.int 1))) (.cons (.slot 1) .nil)))) (.cons (.asg (.nm 3) (.call "_law_wide" (.cons (.ix (.slot 0) (.cst (.int 2))) (.cons (.slot 1) .nil)))) (.cons (.asg (.nm 4) (.cmp .eq (.ix (.dsp ["either", "both", "way"] (.cons (.cst (.str "split")) (.cons (.cst (.str "pair")) (.cons (.cst (.str "way")) .nil)))) (.ix (.slot 0) (.cst (.int 0)))) (.slot 1))) (.cons (.asg (.nm 5) (.ix (.dsp ["either", "both", "way"] (.cons (.bin .add (.slot 2) (.slot 3)) (.cons (.bin .mul (.slot 2) (.slot 3)) (.cons (.cst (.int 1)) .nil)))) (.ix (.slot 0) (.cst (.int 0))))) (.cons (.for (.nm 6) .range (.cons (.bin .mul (.prim .min2 (.cons (.slot 2) (.cons (.cst (.int 9)) .nil))) (.prim .int (.cons (.cmp .eq (.ix (.slot 0) (.cst (.int 0))) (.cst (.str "way"))) .nil))) .nil) (.cons (.asg (.nm 5) (.prim .min2 (.cons (.cst (.int 1000)) (.cons (.bin .mul (.slot 5) (.slot 3)) .nil)))) .nil)) (.cons (.ret (.bin .mul (.slot 5) (.bin .add (.cst (.int 1)) (.prim .int (.cons (.slot 4) .nil))))) .nil))))))))⟩
def f_law_is_small : FnI := ⟨["_law_kind_here"], ["_law_kind_here", "_law_word"], [],
  (.cons (.ret (.cmp .le (.prim .max1 (.cons (.comp [1] (.nm 1) .over (.cons (.lst (.cons (.cst (.str "let")) (.cons (.cst (.str "star")) (.cons (.cst (.str "split")) (.cons (.cst (.str "pair")) (.cons (.cst (.str "way")) (.cons (.cst (.str "never")) .nil))))))) .nil) .nil (.call "_law_wide" (.cons (.slot 0) (.cons (.slot 1) .nil)))) .nil)) (.cst (.int 24)))) .nil)⟩
def f_law_any_kind : FnI := ⟨["_law_deck_here", "_law_deep"], ["_law_deck_here", "_law_deep", "_law_way", "_law_one"], [],
  (.cons (.asg (.nm 2) (.call "_law_next" (.cons (.slot 0) (.cons (.cst (.int 9)) .nil)))) (.cons (.ifs (.or (.cmp .eq (.slot 1) (.cst (.int 0))) (.cmp .lt (.slot 2) (.cst (.int 3)))) (.cons (.ret (.ix (.lst (.cons (.tup (.cons (.cst (.str "one")) .nil)) (.cons (.tup (.cons (.cst (.str "none")) .nil)) .nil))) (.prim .int (.cons (.cmp .eq (.slot 2) (.cst (.int 2))) .nil)))) .nil) .nil) (.cons (.asg (.nm 3) (.call "_law_any_kind" (.cons (.slot 0) (.cons (.bin .sub (.slot 1) (.cst (.int 1))) .nil)))) (.cons (.ret (.tup (.cons (.ix (.lst (.cons (.cst (.str "either")) (.cons (.cst (.str "both")) (.cons (.cst (.str "way")) .nil)))) (.bin .mod (.slot 2) (.cst (.int 3)))) (.cons (.slot 3) (.cons (.call "_law_any_kind" (.cons (.slot 0) (.cons (.bin .sub (.slot 1) (.cst (.int 1))) .nil))) .nil))))) .nil))))⟩
def f_law_kind : FnI := ⟨["_law_deck_here", "_law_names_here"], ["_law_deck_here", "_law_names_here", "_law_kind_here"], [],
  (.cons (.asg (.nm 2) (.call "_law_any_kind" (.cons (.slot 0) (.cons (.bin .add (.cst (.int 1)) (.call "_law_next" (.cons (.slot 0) (.cons (.cst (.int 2)) .nil)))) .nil)))) (.cons (.ifs (.or (.not (.call "_law_is_small" (.cons (.slot 2) .nil))) (.isN (.call "_law_least" (.cons (.slot 1) (.cons (.slot 2) .nil))))) (.cons (.ret (.ix (.lst (.cons (.tup (.cons (.cst (.str "one")) .nil)) (.cons (.tup (.cons (.cst (.str "either")) (.cons (.tup (.cons (.cst (.str "one")) .nil)) (.cons (.tup (.cons (.cst (.str "one")) .nil)) .nil)))) .nil))) (.call "_law_next" (.cons (.slot 0) (.cons (.cst (.int 2)) .nil))))) .nil) .nil) (.cons (.ret (.slot 2)) .nil)))⟩
def f_law_least : FnI := ⟨["_law_names_here", "_law_kind_here"], ["_law_names_here", "_law_kind_here", "_law_under", "_law_one", "_law_other"], [],
  (.cons (.ifs (.cmp .isIn (.slot 1) (.slot 0)) (.cons (.ret (.tup (.cons (.cst (.str "name")) (.cons (.meth .index (.slot 0) (.cons (.slot 1) .nil)) .nil)))) .nil) .nil) (.cons (.ifs (.cmp .eq (.ix (.slot 1) (.cst (.int 0))) (.cst (.str "one"))) (.cons (.ret (.tup (.cons (.cst (.str "star")) .nil))) .nil) .nil) (.cons (.ifs (.cmp .isIn (.tup (.cons (.cst (.str "none")) .nil)) (.slot 0)) (.cons (.ret (.tup (.cons (.cst (.str "never")) (.cons (.slot 1) (.cons (.tup (.cons (.cst (.str "name")) (.cons (.meth .index (.slot 0) (.cons (.tup (.cons (.cst (.str "none")) .nil)) .nil)) .nil))) .nil))))) .nil) .nil) (.cons (.ifs (.cmp .eq (.ix (.slot 1) (.cst (.int 0))) (.cst (.str "none"))) (.cons (.ret (.cst .non)) .nil) .nil) (.cons (.ifs (.cmp .eq (.ix (.slot 1) (.cst (.int 0))) (.cst (.str "way"))) (.cons (.asg (.nm 2) (.call "_law_least" (.cons (.bin .add (.tup (.cons (.ix (.slot 1) (.cst (.int 1))) .nil)) (.slot 0)) (.cons (.ix (.slot 1) (.cst (.int 2))) .nil)))) (.cons (.ret (.ite (.isN (.slot 2)) (.cst .non) (.tup (.cons (.cst (.str "way")) (.cons (.ix (.slot 1) (.cst (.int 1))) (.cons (.slot 2) .nil)))))) .nil)) .nil) (.cons (.asg (.nm 3) (.call "_law_least" (.cons (.slot 0) (.cons (.ix (.slot 1) (.cst (.int 1))) .nil)))) (.cons (.asg (.nm 4) (.call "_law_least" (.cons (.slot 0) (.cons (.ix (.slot 1) (.cst (.int 2))) .nil)))) (.cons (.ifs (.cmp .eq (.ix (.slot 1) (.cst (.int 0))) (.cst (.str "both"))) (.cons (.ret (.ite (.or (.isN (.slot 3)) (.isN (.slot 4))) (.cst .non) (.tup (.cons (.cst (.str "pair")) (.cons (.slot 3) (.cons (.slot 4) .nil)))))) .nil) .nil) (.cons (.ifs (.notN (.slot 3)) (.cons (.ret (.tup (.cons (.cst (.str "left")) (.cons (.ix (.slot 1) (.cst (.int 2))) (.cons (.slot 3) .nil))))) .nil) .nil) (.cons (.ret (.ite (.isN (.slot 4)) (.cst .non) (.tup (.cons (.cst (.str "right")) (.cons (.ix (.slot 1) (.cst (.int 1))) (.cons (.slot 4) .nil)))))) .nil))))))))))⟩
def f_law_made : FnI := ⟨["_law_deck_here", "_law_names_here", "_law_kind_here", "_law_deep"], ["_law_deck_here", "_law_names_here", "_law_kind_here", "_law_deep", "_law_own", "_law_one", "_law_sides", "_law_side", "_law_k"], [],
  (.cons (.asg (.nm 4) (.comp [8] (.nm 8) .range (.cons (.prim .len (.cons (.slot 1) .nil)) .nil) (.cons (.cmp .eq (.ix (.slot 1) (.slot 8)) (.slot 2)) .nil) (.slot 8))) (.cons (.ifs (.and (.cmp .ne (.slot 4) (.lst .nil)) (.cmp .eq (.call "_law_next" (.cons (.slot 0) (.cons (.cst (.int 3)) .nil))) (.cst (.int 0)))) (.cons (.ret (.tup (.cons (.cst (.str "name")) (.cons (.ix (.slot 4) (.call "_law_next" (.cons (.slot 0) (.cons (.prim .len (.cons (.slot 4) .nil)) .nil)))) .nil)))) .nil) .nil) (.cons (.ifs (.cmp .eq (.ix (.slot 2) (.cst (.int 0))) (.cst (.str "one"))) (.cons (.ret (.tup (.cons (.cst (.str "star")) .nil))) .nil) .nil) (.cons (.ifs (.and (.cmp .eq (.ix (.slot 2) (.cst (.int 0))) (.cst (.str "both"))) (.and (.call "_law_least" (.cons (.slot 1) (.cons (.ix (.slot 2) (.cst (.int 1))) .nil))) (.call "_law_least" (.cons (.slot 1) (.cons (.ix (.slot 2) (.cst (.int 2))) .nil))))) (.cons (.asg (.nm 5) (.call "_law_grown" (.cons (.slot 0) (.cons (.slot 1) (.cons (.ix (.slot 2) (.cst (.int 1))) (.cons (.bin .sub (.slot 3) (.cst (.int 1))) .nil)))))) (.cons (.ret (.tup (.cons (.cst (.str "pair")) (.cons (.slot 5) (.cons (.call "_law_grown" (.cons (.slot 0) (.cons (.slot 1) (.cons (.ix (.slot 2) (.cst (.int 2))) (.cons (.bin .sub (.slot 3) (.cst (.int 1))) .nil))))) .nil))))) .nil)) .nil) (.cons (.ifs (.and (.cmp .eq (.ix (.slot 2) (.cst (.int 0))) (.cst (.str "way"))) (.call "_law_least" (.cons (.bin .add (.tup (.cons (.ix (.slot 2) (.cst (.int 1))) .nil)) (.slot 1)) (.cons (.ix (.slot 2) (.cst (.int 2))) .nil)))) (.cons (.ret (.tup (.cons (.cst (.str "way")) (.cons (.ix (.slot 2) (.cst (.int 1))) (.cons (.call "_law_grown" (.cons (.slot 0) (.cons (.bin .add (.tup (.cons (.ix (.slot 2) (.cst (.int 1))) .nil)) (.slot 1)) (.cons (.ix (.slot 2) (.cst (.int 2))) (.cons (.bin .sub (.slot 3) (.cst (.int 1))) .nil))))) .nil))))) .nil) .nil) (.cons (.ifs (.cmp .eq (.ix (.slot 2) (.cst (.int 0))) (.cst (.str "either"))) (.cons (.asg (.nm 6) (.comp [8] (.nm 8) .over (.cons (.lst (.cons (.cst (.int 1)) (.cons (.cst (.int 2)) .nil))) .nil) (.cons (.call "_law_least" (.cons (.slot 1) (.cons (.ix (.slot 2) (.slot 8)) .nil))) .nil) (.slot 8))) (.cons (.ifs (.cmp .ne (.slot 6) (.lst .nil)) (.cons (.asg (.nm 7) (.ix (.slot 6) (.call "_law_next" (.cons (.slot 0) (.cons (.prim .len (.cons (.slot 6) .nil)) .nil))))) (.cons (.ret (.tup (.cons (.ix (.lst (.cons (.cst (.str "left")) (.cons (.cst (.str "right")) .nil))) (.bin .sub (.slot 7) (.cst (.int 1)))) (.cons (.ix (.slot 2) (.bin .sub (.cst (.int 3)) (.slot 7))) (.cons (.call "_law_grown" (.cons (.slot 0) (.cons (.slot 1) (.cons (.ix (.slot 2) (.slot 7)) (.cons (.bin .sub (.slot 3) (.cst (.int 1))) .nil))))) .nil))))) .nil)) .nil) .nil)) .nil) (.cons (.ret (.call "_law_least" (.cons (.slot 1) (.cons (.slot 2) .nil)))) .nil)))))))⟩
def f_law_grown : FnI := ⟨["_law_deck_here", "_law_names_here", "_law_kind_here", "_law_deep"], ["_law_deck_here", "_law_names_here", "_law_kind_here", "_law_deep", "_law_way", "_law_more", "_law_both", "_law_word", "_law_one", "_law_other", "_law_left"], [],
  (.cons (.asg (.nm 4) (.call "_law_next" (.cons (.slot 0) (.cons (.cst (.int 12)) .nil)))) (.cons (.ifs (.or (.cmp .lt (.slot 3) (.cst (.int 1))) (.cmp .lt (.slot 4) (.cst (.int 4)))) (.cons (.ret (.ite (.cmp .gt (.slot 3) (.cst (.int 0))) (.call "_law_made" (.cons (.slot 0) (.cons (.slot 1) (.cons (.slot 2) (.cons (.prim .max2 (.cons (.cst (.int 1)) (.cons (.slot 3) .nil))) .nil))))) (.call "_law_least" (.cons (.slot 1) (.cons (.slot 2) .nil))))) .nil) .nil) (.cons (.asg (.nm 5) (.call "_law_kind" (.cons (.slot 0) (.cons (.slot 1) .nil)))) (.cons (.ifs (.and (.cmp .lt (.slot 4) (.cst (.int 6))) (.call "_law_is_small" (.cons (.tup (.cons (.cst (.str "both")) (.cons (.slot 2) (.cons (.slot 5) .nil)))) .nil))) (.cons (.asg (.nm 6) (.ix (.lst (.cons (.tup (.cons (.cst (.str "both")) (.cons (.slot 2) (.cons (.slot 5) .nil)))) (.cons (.tup (.cons (.cst (.str "both")) (.cons (.slot 5) (.cons (.slot 2) .nil)))) .nil))) (.bin .sub (.slot 4) (.cst (.int 4))))) (.cons (.asg (.nm 7) (.ix (.lst (.cons (.cst (.str "first")) (.cons (.cst (.str "second")) .nil))) (.bin .sub (.slot 4) (.cst (.int 4))))) (.cons (.ret (.tup (.cons (.slot 7) (.cons (.call "_law_grown" (.cons (.slot 0) (.cons (.slot 1) (.cons (.slot 6) (.cons (.bin .sub (.slot 3) (.cst (.int 1))) .nil))))) .nil)))) .nil))) .nil) (.cons (.ifs (.and (.cmp .lt (.slot 4) (.cst (.int 8))) (.call "_law_is_small" (.cons (.tup (.cons (.cst (.str "way")) (.cons (.slot 5) (.cons (.slot 2) .nil)))) .nil))) (.cons (.asg (.nm 8) (.call "_law_grown" (.cons (.slot 0) (.cons (.slot 1) (.cons (.tup (.cons (.cst (.str "way")) (.cons (.slot 5) (.cons (.slot 2) .nil)))) (.cons (.bin .sub (.slot 3) (.cst (.int 1))) .nil)))))) (.cons (.ret (.tup (.cons (.cst (.str "give")) (.cons (.slot 8) (.cons (.call "_law_grown" (.cons (.slot 0) (.cons (.slot 1) (.cons (.slot 5) (.cons (.bin .sub (.slot 3) (.cst (.int 1))) .nil))))) .nil))))) .nil)) .nil) (.cons (.ifs (.cmp .lt (.slot 4) (.cst (.int 10))) (.cons (.asg (.nm 8) (.call "_law_grown" (.cons (.slot 0) (.cons (.slot 1) (.cons (.slot 5) (.cons (.bin .sub (.slot 3) (.cst (.int 1))) .nil)))))) (.cons (.ret (.tup (.cons (.cst (.str "let")) (.cons (.slot 8) (.cons (.call "_law_grown" (.cons (.slot 0) (.cons (.bin .add (.tup (.cons (.slot 5) .nil)) (.slot 1)) (.cons (.slot 2) (.cons (.bin .sub (.slot 3) (.cst (.int 1))) .nil))))) .nil))))) .nil)) .nil) (.cons (.asg (.nm 9) (.tup (.cons (.cst (.str "none")) .nil))) (.cons (.ifs (.cmp .gt (.call "_law_next" (.cons (.slot 0) (.cons (.cst (.int 5)) .nil))) (.cst (.int 0))) (.cons (.asg (.nm 9) (.call "_law_kind" (.cons (.slot 0) (.cons (.slot 1) .nil)))) .nil) .nil) (.cons (.ifs (.not (.call "_law_is_small" (.cons (.tup (.cons (.cst (.str "either")) (.cons (.slot 5) (.cons (.slot 9) .nil)))) .nil))) (.cons (.ret (.call "_law_made" (.cons (.slot 0) (.cons (.slot 1) (.cons (.slot 2) (.cons (.slot 3) .nil)))))) .nil) .nil) (.cons (.asg (.nm 8) (.call "_law_grown" (.cons (.slot 0) (.cons (.slot 1) (.cons (.tup (.cons (.cst (.str "either")) (.cons (.slot 5) (.cons (.slot 9) .nil)))) (.cons (.bin .sub (.slot 3) (.cst (.int 1))) .nil)))))) (.cons (.asg (.nm 10) (.call "_law_grown" (.cons (.slot 0) (.cons (.bin .add (.tup (.cons (.slot 5) .nil)) (.slot 1)) (.cons (.slot 2) (.cons (.bin .sub (.slot 3) (.cst (.int 1))) .nil)))))) (.cons (.ret (.tup (.cons (.cst (.str "case")) (.cons (.slot 8) (.cons (.slot 10) (.cons (.call "_law_grown" (.cons (.slot 0) (.cons (.bin .add (.tup (.cons (.slot 9) .nil)) (.slot 1)) (.cons (.slot 2) (.cons (.bin .sub (.slot 3) (.cst (.int 1))) .nil))))) .nil)))))) .nil))))))))))))⟩
def f_law_names : FnI := ⟨["_law_deck_here"], ["_law_deck_here", "_law_names_here", "_law_k", "_law_kind_here", "_law_words", "_law_counts", "_law_word"], [],
  (.cons (.asg (.nm 1) (.tup .nil)) (.cons (.for (.nm 2) .range (.cons (.call "_law_next" (.cons (.slot 0) (.cons (.cst (.int 3)) .nil))) .nil) (.cons (.asg (.nm 3) (.call "_law_any_kind" (.cons (.slot 0) (.cons (.call "_law_next" (.cons (.slot 0) (.cons (.cst (.int 3)) .nil))) .nil)))) (.cons (.asg (.nm 4) (.lst (.cons (.cst (.str "let")) (.cons (.cst (.str "star")) (.cons (.cst (.str "split")) (.cons (.cst (.str "pair")) (.cons (.cst (.str "way")) (.cons (.cst (.str "never")) .nil)))))))) (.cons (.asg (.nm 5) (.comp [6] (.nm 6) .over (.cons (.slot 4) .nil) .nil (.bin .mul (.call "_law_wide" (.cons (.slot 3) (.cons (.slot 6) .nil))) (.ite (.cmp .gt (.prim .len (.cons (.slot 1) .nil)) (.cst (.int 0))) (.call "_law_wide" (.cons (.ix (.slot 1) (.cst (.int 0))) (.cons (.slot 6) .nil))) (.cst (.int 1)))))) (.cons (.ifs (.or (.cmp .gt (.prim .max1 (.cons (.slot 5) .nil)) (.cst (.int 16))) (.and (.cmp .eq (.ix (.slot 5) (.cst (.int 0))) (.cst (.int 0))) (.cmp .gt (.call "_law_next" (.cons (.slot 0) (.cons (.cst (.int 3)) .nil))) (.cst (.int 0))))) (.cons (.asg (.nm 3) (.tup (.cons (.cst (.str "one")) .nil))) .nil) .nil) (.cons (.asg (.nm 1) (.bin .add (.slot 1) (.tup (.cons (.slot 3) .nil)))) .nil)))))) (.cons (.ret (.slot 1)) .nil)))⟩
def f_law_parts : FnI := ⟨["_law_program"], ["_law_program", "_law_one"], [],
  (.cons (.ret (.bin .add (.cst (.int 1)) (.prim .sum (.cons (.comp [1] (.nm 1) .over (.cons (.call "inner" (.cons (.slot 0) .nil)) .nil) .nil (.call "_law_parts" (.cons (.slot 1) .nil))) .nil)))) .nil)⟩
def f_law_fit : FnI := ⟨["_law_program", "_law_names_here", "_law_kind_here"], ["_law_program", "_law_names_here", "_law_kind_here"], [],
  (.cons (.ret (.ite (.cmp .le (.call "_law_parts" (.cons (.slot 0) .nil)) (.cst (.int 140))) (.slot 0) (.call "_law_least" (.cons (.slot 1) (.cons (.slot 2) .nil))))) .nil)⟩
end B
end Lib
open Lib
theorem map_cons1' {k : Kd} {ns : List Kd} : PV.tup (K k :: ns.map K) = .tup ((k :: ns).map K) := rfl
structure HasB (U : QT) : Prop extends HasFi U where
  inner : HasFn U "inner" f_inner (U.fr "inner")
  mixed : HasFn U "_law_mixed" B.f_law_mixed false
  deck : HasFn U "_law_deck" B.f_law_deck true
  next : HasFn U "_law_next" B.f_law_next false
  wide : HasFn U "_law_wide" B.f_law_wide false
  small : HasFn U "_law_is_small" B.f_law_is_small false
  any_kind : HasFn U "_law_any_kind" B.f_law_any_kind false
  kind : HasFn U "_law_kind" B.f_law_kind false
  least : HasFn U "_law_least" B.f_law_least false
  made : HasFn U "_law_made" B.f_law_made false
  grown : HasFn U "_law_grown" B.f_law_grown false
section
variable {U : QT} {r : Nat} {τ : QSt}
def mixB (c k : Int) : Int :=
  let n := (c % 2147483629 * 48271 + 7919 * k + 13) % 2147483629
  let m := (n * (n / 5 + k) + 16807 * k) % 2147483587
  (m * 69621 + m / 127) % 2147483647
theorem q_mixB (hf : HasB U) {c k : Int} : callQ U (r + 1) "_law_mixed" [.v (.int c), .v (.int k)] τ = .ok (.int (mixB c k)) τ := by
  refine Wq.eq (wq_call hf.mixed rfl rfl ?_)
  simp only [B.f_law_mixed]
  walk_at "q"
  exact ⟨mulOk_r (by decide), mulOk_l (by decide), mulOk_l (by omega), mulOk_l (by decide), mulOk_r (by decide), rfl⟩
theorem q_nextB {ds : List Int} {m : Int} (hf : HasB U) (hm : 0 < m) : @Wq _ (callQ U (r + 1) "_law_next" [.c 0, .v (.int m)] (Dk ds :: τ)) (fun v τ' => ∃ i ds', v = .int i ∧ 0 ≤ i ∧ i < m ∧ τ' = Dk ds' :: τ) nQ := by
  refine wq_call hf.next rfl rfl ?_
  simp only [B.f_law_next]
  walk_at "q"
  cases ds with
  | nil =>
    walk_at "q"
    exact ⟨0, [], rfl, Int.le_refl _, hm, rfl⟩
  | cons d ds =>
    have : ¬ (((d :: ds).length : Nat) : Int) = 0 := by simp; omega
    simp only [this]
    walk_at "q"
    exact ⟨hm, _, ds, rfl, Int.emod_nonneg d (by omega), Int.emod_lt_of_pos d hm, rfl⟩
theorem q_deckB {ns : List Int} (hf : HasB U) (hl : ns.length ≤ 63) : @Wq _ (callQ U (r + 2) "_law_deck" [.v (.con (ns.map .int))] τ) (fun v τ' => ∃ ds : List Int, v = .vl (ds.map .int) ∧ τ' = τ) nQ := by
  refine wq_call hf.deck rfl rfl ?_
  simp only [B.f_law_deck]
  walk_at "q"
  obtain ⟨ms, ec, hms⟩ := cut_ints ns none (some 63)
  refine wx_forS (xs := [.v (.vl (ms.map .int))]) (τ1 := τ ++ [some []]) (items := enumF (ms.map .int)) (fun pre e τ2 => ∃ o2 o3 o4 o5, ∃ ds : List Int, e = [some (.v (.con (ns.map .int))), some (.c τ.length), o2, o3, o4, o5, none] ∧ ds.length ≤ 67 * pre.length ∧ τ2 = τ ++ [some (ds.map .int)]) ?src ⟨_, _, _, _, [], rfl, Nat.zero_le _, rfl⟩ ?_ (fun _ _ _ _ => rfl) ?_
  case src =>
    walk_at "q"
    rw [ec]
    try exact ⟨rfl, rfl⟩
  · rintro e τ2 ⟨o2, o3, o4, o5, ds, rfl, hl2, rfl⟩
    have hen : (enumF (ms.map PV.int)).length = ms.length := by simp [enumF]
    rw [hen] at hl2
    obtain ⟨qs, eq, hq⟩ := cut_ints ds none (some 20)
    walk_at "q"
    rw [eq, p_sum]
    walk_at "q"
    have er := range_nat (n := 120) (by omega)
    refine wx_forS (xs := [.v (.int 120)]) (τ1 := τ ++ [some (ds.map .int)]) (items := rangeP 0 120) (fun pre e τ2 => ∃ o2 o6, ∃ ds : List Int, e = [some (.v (.con (ns.map .int))), some (.c τ.length), o2, o3, o4, o5, some (.v (.int qs.sum))] ∧ ds.length ≤ 5000 + pre.length ∧ τ2 = τ ++ [some (ds.map .int)] ∧ o6 = (0 : Nat)) ?src ⟨_, _, ds, rfl, by omega, rfl, rfl⟩ ?_ (fun _ _ _ _ => er) ?_
    case src =>
      walk_at "q"
      exact er
    · rintro e τ2 ⟨o2, o6, ds2, rfl, hl2, rfl, _⟩
      walk_at "q"
      obtain ⟨qs2, eq2, _⟩ := cut_ints ds2 none (some 200)
      exact ⟨qs2, by rw [eq2]⟩
    · rintro pre x suf e τ2 hx ⟨o2, o6, ds2, rfl, hl2, rfl, _⟩
      obtain ⟨hp, rfl⟩ := range_mid hx
      walk_at "q"
      refine ⟨mulOk_l (by decide), ?_⟩
      rw [q_mixB hf]
      walk_at "q"
      rw [ints_snoc]
      exact ⟨big (by omega), _, 0, _, rfl, by simp; omega, rfl, rfl⟩
  · rintro pre x suf e τ2 hx ⟨o2, o3, o4, o5, ds, rfl, hl2, rfl⟩
    obtain ⟨y, hy, rfl⟩ := enum_mid hx
    obtain ⟨z, rfl⟩ := ints_at hy
    have hpl : pre.length < ms.length := by
      have h2 := (List.getElem?_eq_some_iff.mp hy).1
      simpa using h2
    walk_at "q"
    rw [e10]
    generalize (if z < 0 then -z else z) = num
    by_cases h18 : num < 1000000000000000000
    · simp only [h18]
      walk_at "q"
      rw [q_mixB hf]
      walk_at "q"
      rw [ints_snoc]
      exact ⟨big (by omega), _, _, _, _, _, rfl, by simp; omega, rfl⟩
    · simp only [h18]
      walk_at "q"
      have er := range_nat (n := 60) (by omega)
      refine wx_forS (xs := [.v (.int 60)]) (τ1 := τ ++ [some (ds.map .int)]) (items := rangeP 0 60) (fun p4 e τ2 => ∃ num o5, ∃ ds : List Int, e = [some (.v (.con (ns.map .int))), some (.c τ.length), some (.v (.int (pre.length : Nat))), some (.v (.int z)), some (.v (.int num)), o5, none] ∧ ds.length ≤ 67 * pre.length + p4.length ∧ τ2 = τ ++ [some (ds.map .int)]) ?src ⟨_, _, ds, rfl, by omega, rfl⟩ ?_ (fun _ _ _ _ => er) ?_
      case src =>
        walk_at "q"
        exact er
      · rintro e τ2 ⟨num, o5, ds4, rfl, hl4, rfl⟩
        rw [range_len] at hl4
        exact ⟨_, _, _, _, ds4, rfl, by first | omega | (simp; omega), rfl⟩
      · rintro p4 x4 s4 e τ2 hx4 ⟨num, o5, ds4, rfl, hl4, rfl⟩
        have hp4 := (range_mid hx4).1
        walk_at "q"
        by_cases hz : 0 < num
        · simp only [hz]
          walk_at "q"
          rw [ints_snoc]
          exact ⟨big (by omega), _, _, _, rfl, by first | omega | (simp; omega), rfl⟩
        · simp only [hz]
          walk_at "q"
          exact ⟨_, _, ds4, rfl, by first | omega | (simp; omega), rfl⟩
theorem q_wide (hf : HasB U) {w : Str} (hw : strOkB w = true) : ∀ (k : Kd) (r : Nat) (τ : QSt), cW w k → k.dep + 1 ≤ r → callQ U (r + 1) "_law_wide" [.v (K k), .v (.str w)] τ = .ok (.int (wideN w k : Nat)) τ := by
  intro k
  induction k with
  | none =>
    intro r τ _ _
    refine Wq.eq (wq_call hf.wide rfl rfl ?_)
    simp only [B.f_law_wide, K]
    by_cases h : w = "never"
    · subst h
      walk_at "q"
      rfl
    · (walk_at "q"; repeat (simp only [hw, h]; walk_at "q"))
      simp only [wideN, twc, h, if_false]
      rfl
  | one =>
    intro r τ _ _
    refine Wq.eq (wq_call hf.wide rfl rfl ?_)
    simp only [B.f_law_wide, K]
    by_cases h : w = "star"
    · subst h
      walk_at "q"
      rfl
    · (walk_at "q"; repeat (simp only [hw, h]; walk_at "q"))
      simp only [wideN, twc, h, if_false]
      rfl
  | either a b iha ihb =>
    intro r τ hc hr
    obtain ⟨ca, cb, la, lb⟩ := hc
    simp only [Kd.dep] at hr
    obtain ⟨r, rfl⟩ : ∃ r', r = r' + 1 := ⟨r - 1, by omega⟩
    refine Wq.eq (wq_call hf.wide rfl rfl ?_)
    simp only [B.f_law_wide, K]
    walk_at "q"
    rw [iha r τ ca (by omega)]
    walk_at "q"
    rw [ihb r τ cb (by omega)]
    (walk_at "q"; repeat (simp only [hw]; walk_at "q"))
    refine ⟨mulOk_l (by omega), ?_⟩
    have e0 : ∀ x : Int, x * 0 = 0 := Int.mul_zero
    have er := range_nat (n := 0) (by omega)
    rw [show ((0 : Nat) : Int) = 0 from rfl] at er
    refine wx_forS (xs := [.v (.int 0)]) (τ1 := τ) (items := []) (fun _ e τ2 => e = [some (.v (.tup [.str "either", K a, K b])), some (.v (.str w)), some (.v (.int (wideN w a : Nat))), some (.v (.int (wideN w b : Nat))), some (.v (.bl (decide (("split" : Str) = w)))), some (.v (.int ((wideN w a : Nat) + (wideN w b : Nat)))), none] ∧ τ2 = τ) ?src ⟨rfl, rfl⟩ ?end1 (fun _ _ _ _ => er) ?step
    case src =>
      (walk_at "q"; repeat (simp only [e0]; walk_at "q"))
      exact ⟨mulOk_r (by decide), er⟩
    case end1 =>
      rintro e τ2 ⟨rfl, rfl⟩
      by_cases ht : ("split" : Str) = w
      · (walk_at "q"; repeat (simp only [ht]; walk_at "q"))
        refine ⟨mulOk_r (by decide), ?_⟩
        simp only [wideN, twc, ht, if_true]
        congr 1
      · (walk_at "q"; repeat (simp only [ht]; walk_at "q"))
        refine ⟨mulOk_r (by decide), ?_⟩
        simp only [wideN, twc, ht, if_false]
        congr 1
    case step =>
      rintro pre x suf e τ2 hx _
      simp at hx
  | both a b iha ihb =>
    intro r τ hc hr
    obtain ⟨ca, cb, la, lb⟩ := hc
    simp only [Kd.dep] at hr
    obtain ⟨r, rfl⟩ : ∃ r', r = r' + 1 := ⟨r - 1, by omega⟩
    refine Wq.eq (wq_call hf.wide rfl rfl ?_)
    simp only [B.f_law_wide, K]
    walk_at "q"
    rw [iha r τ ca (by omega)]
    walk_at "q"
    rw [ihb r τ cb (by omega)]
    (walk_at "q"; repeat (simp only [hw]; walk_at "q"))
    refine ⟨mulOk_l (by omega), ?_⟩
    have e0 : ∀ x : Int, x * 0 = 0 := Int.mul_zero
    have er := range_nat (n := 0) (by omega)
    rw [show ((0 : Nat) : Int) = 0 from rfl] at er
    refine wx_forS (xs := [.v (.int 0)]) (τ1 := τ) (items := []) (fun _ e τ2 => e = [some (.v (.tup [.str "both", K a, K b])), some (.v (.str w)), some (.v (.int (wideN w a : Nat))), some (.v (.int (wideN w b : Nat))), some (.v (.bl (decide (("pair" : Str) = w)))), some (.v (.int ((wideN w a : Nat) * (wideN w b : Nat)))), none] ∧ τ2 = τ) ?src ⟨rfl, rfl⟩ ?end1 (fun _ _ _ _ => er) ?step
    case src =>
      (walk_at "q"; repeat (simp only [e0]; walk_at "q"))
      exact ⟨mulOk_r (by decide), er⟩
    case end1 =>
      rintro e τ2 ⟨rfl, rfl⟩
      by_cases ht : ("pair" : Str) = w
      · (walk_at "q"; repeat (simp only [ht]; walk_at "q"))
        refine ⟨mulOk_r (by decide), ?_⟩
        simp only [wideN, twc, ht, if_true]
        congr 1
      · (walk_at "q"; repeat (simp only [ht]; walk_at "q"))
        refine ⟨mulOk_r (by decide), ?_⟩
        simp only [wideN, twc, ht, if_false]
        congr 1
    case step =>
      rintro pre x suf e τ2 hx _
      simp at hx
  | way a b iha ihb =>
    intro r τ hc hr
    obtain ⟨ca, cb, la, lb⟩ := hc
    simp only [Kd.dep] at hr
    obtain ⟨r, rfl⟩ : ∃ r', r = r' + 1 := ⟨r - 1, by omega⟩
    refine Wq.eq (wq_call hf.wide rfl rfl ?_)
    simp only [B.f_law_wide, K]
    walk_at "q"
    rw [iha r τ ca (by omega)]
    walk_at "q"
    rw [ihb r τ cb (by omega)]
    (walk_at "q"; repeat (simp only [hw]; walk_at "q"))
    refine ⟨mulOk_l (by omega), ?_⟩
    have em : (if (9 : Int) < (wideN w a : Nat) then (9 : Int) else (wideN w a : Nat)) = ((min (wideN w a) 9 : Nat) : Int) := by split <;> omega
    have er := range_nat (n := min (wideN w a) 9) (by omega)
    refine wx_forS (xs := [.v (.int (min (wideN w a) 9 : Nat))]) (τ1 := τ) (items := rangeP 0 (min (wideN w a) 9)) (fun pre e τ2 => ∃ o6, e = [some (.v (.tup [.str "way", K a, K b])), some (.v (.str w)), some (.v (.int (wideN w a : Nat))), some (.v (.int (wideN w b : Nat))), some (.v (.bl (decide (("way" : Str) = w)))), some (.v (.int (capPow (wideN w b) pre.length : Nat))), o6] ∧ τ2 = τ) ?src ⟨_, rfl, rfl⟩ ?end1 (fun _ _ _ _ => er) ?step
    case src =>
      (walk_at "q"; repeat (simp only [em, Int.mul_one]; walk_at "q"))
      exact ⟨mulOk_r (by decide), er⟩
    case end1 =>
      rintro e τ2 ⟨o6, rfl, rfl⟩
      rw [range_len]
      by_cases ht : ("way" : Str) = w
      · (walk_at "q"; repeat (simp only [ht]; walk_at "q"))
        refine ⟨mulOk_r (by decide), ?_⟩
        simp only [wideN, twc, ht, if_true]
        congr 1
      · (walk_at "q"; repeat (simp only [ht]; walk_at "q"))
        refine ⟨mulOk_r (by decide), ?_⟩
        simp only [wideN, twc, ht, if_false]
        congr 1
    case step =>
      rintro pre x suf e τ2 hx ⟨o6, rfl, rfl⟩
      have hle := capPow_le (wideN w b) pre.length
      have hmul : ((capPow (wideN w b) pre.length : Nat) : Int) * (wideN w b : Nat) = ((capPow (wideN w b) pre.length * wideN w b : Nat) : Int) := by rw [Int.natCast_mul]
      have hmin : (if ((capPow (wideN w b) pre.length * wideN w b : Nat) : Int) < 1000 then ((capPow (wideN w b) pre.length * wideN w b : Nat) : Int) else 1000) = ((min 1000 (capPow (wideN w b) pre.length * wideN w b) : Nat) : Int) := by split <;> omega
      walk_at "q"
      refine ⟨mulOk_l (by omega), ?_⟩
      rw [hmul, hmin]
      exact ⟨_, rfl⟩
theorem maxI_nat : ∀ (a : Nat) (l : List Nat), maxI ((a :: l).map fun n => ((n : Nat) : Int)) = ((maxN (a :: l) : Nat) : Int)
  | a, [] => rfl
  | a, b :: l => by
    have := maxI_nat b l
    simp only [List.map_cons] at this
    simp only [List.map_cons, maxI, maxN, this]
    omega
theorem q_small (hf : HasB U) {k : Kd} (hc : ∀ w ∈ sixW, cW w k) (hr : k.dep + 2 ≤ r) : callQ U (r + 1) "_law_is_small" [.v (K k)] τ = .ok (.bl (smallB k)) τ := by
  obtain ⟨r, rfl⟩ : ∃ r', r = r' + 1 := ⟨r - 1, by omega⟩
  refine Wq.eq (wq_call hf.small rfl rfl ?_)
  simp only [B.f_law_is_small]
  walk_at "q"
  refine q_mapL sixW PV.str (fun w => .int (wideN w k : Nat)) ?_
  walk_at "q"
  refine ⟨rfl, rfl, fun w τ' hw => ?_, ?_⟩
  · have ok : strOkB w = true := by
      simp only [sixW, List.mem_cons, List.not_mem_nil, or_false] at hw
      rcases hw with rfl | rfl | rfl | rfl | rfl | rfl
      · exact ok_let
      · exact ok_star
      · exact ok_split
      · exact ok_pair
      · exact ok_way
      · exact ok_never
    walk_at "q"
    rw [q_wide hf ok k r _ (hc w hw) (by omega)]
    walk_at "q"
  · have e1 : (sixW.map fun w => PV.int ((wideN w k : Nat) : Int)) = ((sixW.map fun w => wideN w k).map fun n => ((n : Nat) : Int)).map PV.int := by simp
    rw [e1]
    simp only [primQ, lstQ, Option.bind_some, ints_map]
    have e2 : ∃ a l, sixW.map (fun w => wideN w k) = a :: l := ⟨_, _, rfl⟩
    obtain ⟨a, l, e2⟩ := e2
    rw [show smallB k = decide (maxN (a :: l) ≤ 24) by unfold smallB; rw [e2], e2]
    have e3 := maxI_nat a l
    rw [List.map_cons] at e3 ⊢
    simp only [e3]
    walk_at "q"
    by_cases h : maxN (a :: l) ≤ 24
    · have h' : ((maxN (a :: l) : Nat) : Int) ≤ 24 := by omega
      simp [h, h']
    · have h' : ¬ ((maxN (a :: l) : Nat) : Int) ≤ 24 := by omega
      simp [h, h']
/-- a kind that the draw tells: of a few levels -/
theorem q_anyB (hf : HasB U) : ∀ (d r : Nat) (ds : List Int) (τ : QSt), d + 2 ≤ r → @Wq _ (callQ U (r + 1) "_law_any_kind" [.c 0, .v (.int (d : Nat))] (Dk ds :: τ)) (fun v τ' => ∃ k ds', v = K k ∧ k.dep ≤ d ∧ τ' = Dk ds' :: τ) nQ := by
  intro d
  induction d with
  | zero =>
    intro r ds τ hr
    obtain ⟨r, rfl⟩ : ∃ r', r = r' + 1 := ⟨r - 1, by omega⟩
    refine wq_call hf.any_kind rfl rfl ?_
    simp only [B.f_law_any_kind]
    walk_at "q"
    refine (q_nextB hf (by decide)).of ?_
    rintro v τ1 ⟨i, ds1, rfl, _, _, rfl⟩
    by_cases h2 : i = 2
    · (walk_at "q"; repeat (simp only [h2]; walk_at "q"))
      exact ⟨.none, ds1, rfl, Nat.le_refl _, rfl⟩
    · (walk_at "q"; repeat (simp only [h2]; walk_at "q"))
      exact ⟨.one, ds1, rfl, Nat.le_refl _, rfl⟩
  | succ d ih =>
    intro r ds τ hr
    obtain ⟨r, rfl⟩ : ∃ r', r = r' + 1 := ⟨r - 1, by omega⟩
    have hd : ¬ ((d + 1 : Nat) : Int) = 0 := by omega
    have hd1 : ((d + 1 : Nat) : Int) - 1 = (d : Nat) := by omega
    refine wq_call hf.any_kind rfl rfl ?_
    simp only [B.f_law_any_kind]
    walk_at "q"
    refine (q_nextB hf (by decide)).of ?_
    rintro v τ1 ⟨i, ds1, rfl, h0, h9, rfl⟩
    by_cases h3 : i < 3
    · by_cases h2 : i = 2
      · (walk_at "q"; repeat (simp only [hd, h3, h2]; walk_at "q"))
        exact ⟨.none, ds1, rfl, by simp [Kd.dep], rfl⟩
      · (walk_at "q"; repeat (simp only [hd, h3, h2]; walk_at "q"))
        exact ⟨.one, ds1, rfl, by simp [Kd.dep], rfl⟩
    · (walk_at "q"; repeat (simp only [hd, h3, hd1]; walk_at "q"))
      refine (ih r ds1 τ (by omega)).of ?_
      rintro v τ1 ⟨a, ds2, rfl, ha, rfl⟩
      have hm : i % 3 = 0 ∨ i % 3 = 1 ∨ i % 3 = 2 := by omega
      rcases hm with hm | hm | hm
      · (walk_at "q"; repeat (simp only [hm, hd1]; walk_at "q"))
        refine (ih r ds2 τ (by omega)).of ?_
        rintro v τ1 ⟨b, ds3, rfl, hb, rfl⟩
        walk_at "q"
        exact ⟨.either a b, ds3, rfl, by simp only [Kd.dep]; omega, rfl⟩
      · (walk_at "q"; repeat (simp only [hm, hd1]; walk_at "q"))
        refine (ih r ds2 τ (by omega)).of ?_
        rintro v τ1 ⟨b, ds3, rfl, hb, rfl⟩
        walk_at "q"
        exact ⟨.both a b, ds3, rfl, by simp only [Kd.dep]; omega, rfl⟩
      · (walk_at "q"; repeat (simp only [hm, hd1]; walk_at "q"))
        refine (ih r ds2 τ (by omega)).of ?_
        rintro v τ1 ⟨b, ds3, rfl, hb, rfl⟩
        walk_at "q"
        exact ⟨.way a b, ds3, rfl, by simp only [Kd.dep]; omega, rfl⟩
structure NsB (ns : List Kd) : Prop where
  len : ns.length ≤ 100
  dep : ∀ k ∈ ns, k.dep ≤ 20
theorem any_K {ns : List Kd} {k : Kd} : ((ns.map K).any fun y => beqPV y (K k)) = decide (k ∈ ns) := by
  rw [List.any_map]
  induction ns with
  | nil => rfl
  | cons a ns ih =>
    rw [List.any_cons, ih]
    simp only [Function.comp_apply, beq_K, List.mem_cons]
    by_cases h : a = k
    · subst h; simp
    · have : ¬ k = a := fun e => h e.symm
      simp [h, this]
theorem in_cond {ns : List Kd} {k : Kd} (h : NsB ns) (hk : k.dep ≤ 100) : cleans (ns.map K) = true ∧ depth (K k) ≤ 150 ∧ depths (ns.map K) ≤ 150 := by
  refine ⟨cleans_iff.mpr fun x hx => ?_, by have := (ok_K k).2; omega, depths_le.mpr fun x hx => ?_⟩
  · obtain ⟨k, _, rfl⟩ := List.mem_map.mp hx
    exact (ok_K k).1
  · obtain ⟨k, hk, rfl⟩ := List.mem_map.mp hx
    have := (ok_K k).2; have := h.dep k hk; omega
theorem idxK_q {ns : List Kd} {k : Kd} (h : NsB ns) (hm : k ∈ ns) (hk : k.dep ≤ 100) : idxQ (K k) (ns.map K) = some (.int (idxK ns k : Nat)) := by
  obtain ⟨c1, c2, c3⟩ := in_cond h hk
  have e : ((ns.map K).findIdx? fun y => beqPV y (K k)) = ns.findIdx? fun x => decide (x = k) := by
    rw [List.findIdx?_map]
    congr 1
    funext x
    exact beq_K
  unfold idxQ
  rw [if_pos (by simp [(ok_K k).1, c1, c2, c3]), e]
  cases q : ns.findIdx? fun x => decide (x = k) with
  | none =>
    rw [List.findIdx?_eq_none_iff] at q
    have := q _ hm
    simp at this
  | some i =>
    unfold idxK
    rw [q]
    rfl
def opV : Option Pg → PV
  | none => .non
  | some p => PP p
theorem opV_nil {p : Pg} : isNonP (PP p) = false := by cases p <;> rfl
theorem u_PP {p : Pg} {P : Bool → Prop} : @Ho _ (truQ (PP p)) P = P true := by cases p <;> rfl
theorem NsB.cons {ns : List Kd} {k : Kd} (h : NsB ns) (hl : ns.length < 100) (hk : k.dep ≤ 20) : NsB (k :: ns) := ⟨by simp; omega, fun x hx => by
  rcases List.mem_cons.mp hx with rfl | hx
  · exact hk
  · exact h.dep x hx⟩
theorem q_leastB (hf : HasB U) : ∀ (k : Kd) (ns : List Kd) (r : Nat) (τ : QSt), NsB ns → k.dep ≤ 20 → ns.length + k.dep ≤ 90 → k.dep + 2 ≤ r → callQ U (r + 1) "_law_least" [.v (.tup (ns.map K)), .v (K k)] τ = .ok (opV (leastB ns k)) τ := by
  intro k
  induction k with
  | none =>
    intro ns r τ hn hd hl hr
    obtain ⟨n1, n2, n3⟩ := in_cond hn (k := .none) (by simp [Kd.dep])
    refine Wq.eq (wq_call hf.least rfl rfl ?_)
    simp only [B.f_law_least]
    walk_at "q"
    rw [i_tup, any_K]
    refine ⟨⟨⟨⟨(ok_K _).1, n1⟩, n2⟩, n3⟩, ?_⟩
    by_cases h1 : Kd.none ∈ ns
    · (walk_at "q"; repeat (simp only [h1]; walk_at "q"))
      rw [idxK_q hn h1 (by simp [Kd.dep])]
      walk_at "q"
      simp only [leastB, if_pos h1, opV, PP]
    · (walk_at "q"; repeat (simp only [h1, x_K, ok_kwd]; walk_at "q"))
      try simp only [Kd.wd]
      try walk_at "q"
      rw [show PV.tup [.str "none"] = K .none from rfl, i_tup, any_K]
      refine ⟨⟨⟨⟨(ok_K _).1, n1⟩, n2⟩, n3⟩, ?_⟩
      (walk_at "q"; repeat (simp only [h1, x_K, ok_kwd]; walk_at "q"))
      try simp only [Kd.wd]
      try walk_at "q"
      simp only [leastB, if_neg h1, opV]
  | one =>
    intro ns r τ hn hd hl hr
    obtain ⟨n1, n2, n3⟩ := in_cond hn (k := .one) (by simp [Kd.dep])
    refine Wq.eq (wq_call hf.least rfl rfl ?_)
    simp only [B.f_law_least]
    walk_at "q"
    rw [i_tup, any_K]
    refine ⟨⟨⟨⟨(ok_K _).1, n1⟩, n2⟩, n3⟩, ?_⟩
    by_cases h1 : Kd.one ∈ ns
    · (walk_at "q"; repeat (simp only [h1]; walk_at "q"))
      rw [idxK_q hn h1 (by simp [Kd.dep])]
      walk_at "q"
      simp only [leastB, if_pos h1, opV, PP]
    · (walk_at "q"; repeat (simp only [h1, x_K, ok_kwd]; walk_at "q"))
      try simp only [Kd.wd]
      try walk_at "q"
      simp only [leastB, if_neg h1, opV, PP]
  | way a b iha ihb =>
    intro ns r τ hn hd hl hr
    simp only [Kd.dep] at hd hl hr
    obtain ⟨r, rfl⟩ : ∃ r', r = r' + 1 := ⟨r - 1, by omega⟩
    obtain ⟨c1, c2, c3⟩ := in_cond hn (k := .way a b) (by simp only [Kd.dep]; omega)
    obtain ⟨n1, n2, n3⟩ := in_cond hn (k := .none) (by simp [Kd.dep])
    refine Wq.eq (wq_call hf.least rfl rfl ?_)
    simp only [B.f_law_least]
    walk_at "q"
    rw [i_tup, any_K]
    refine ⟨⟨⟨⟨(ok_K _).1, c1⟩, c2⟩, c3⟩, ?_⟩
    by_cases h1 : Kd.way a b ∈ ns
    · (walk_at "q"; repeat (simp only [h1]; walk_at "q"))
      rw [idxK_q hn h1 (by simp only [Kd.dep]; omega)]
      walk_at "q"
      simp only [leastB, if_pos h1, opV, PP]
    · (walk_at "q"; repeat (simp only [h1, x_K, ok_kwd]; walk_at "q"))
      try simp only [Kd.wd]
      try walk_at "q"
      rw [show PV.tup [.str "none"] = K .none from rfl, i_tup, any_K]
      refine ⟨⟨⟨⟨(ok_K _).1, n1⟩, n2⟩, n3⟩, ?_⟩
      by_cases h2 : Kd.none ∈ ns
      · (walk_at "q"; repeat (simp only [h2]; walk_at "q"))
        rw [show PV.tup [.str "none"] = K .none from rfl, idxK_q hn h2 (by simp [Kd.dep])]
        walk_at "q"
        simp only [leastB, if_neg h1, if_pos h2, opV, PP]
      · simp only [K]
        (walk_at "q"; repeat (simp only [h2]; walk_at "q"))
        refine ⟨big (by omega), ?_⟩
        rw [map_cons1', ihb (a :: ns) r _ (hn.cons (by omega) (by omega)) (by omega) (by simp; omega) (by omega)]
        cases e : leastB (a :: ns) b with
        | none =>
          simp only [opV]
          walk_at "q"
          simp only [leastB, if_neg h1, if_neg h2, e, Option.map_none]
        | some p =>
          simp only [opV]
          (walk_at "q"; repeat (simp only [opV_nil]; walk_at "q"))
          simp only [leastB, if_neg h1, if_neg h2, e, Option.map_some, PP]
  | both a b iha ihb =>
    intro ns r τ hn hd hl hr
    simp only [Kd.dep] at hd hl hr
    obtain ⟨r, rfl⟩ : ∃ r', r = r' + 1 := ⟨r - 1, by omega⟩
    obtain ⟨c1, c2, c3⟩ := in_cond hn (k := .both a b) (by simp only [Kd.dep]; omega)
    obtain ⟨n1, n2, n3⟩ := in_cond hn (k := .none) (by simp [Kd.dep])
    refine Wq.eq (wq_call hf.least rfl rfl ?_)
    simp only [B.f_law_least]
    walk_at "q"
    rw [i_tup, any_K]
    refine ⟨⟨⟨⟨(ok_K _).1, c1⟩, c2⟩, c3⟩, ?_⟩
    by_cases h1 : Kd.both a b ∈ ns
    · (walk_at "q"; repeat (simp only [h1]; walk_at "q"))
      rw [idxK_q hn h1 (by simp only [Kd.dep]; omega)]
      walk_at "q"
      simp only [leastB, if_pos h1, opV, PP]
    · (walk_at "q"; repeat (simp only [h1, x_K, ok_kwd]; walk_at "q"))
      try simp only [Kd.wd]
      try walk_at "q"
      rw [show PV.tup [.str "none"] = K .none from rfl, i_tup, any_K]
      refine ⟨⟨⟨⟨(ok_K _).1, n1⟩, n2⟩, n3⟩, ?_⟩
      by_cases h2 : Kd.none ∈ ns
      · (walk_at "q"; repeat (simp only [h2]; walk_at "q"))
        rw [show PV.tup [.str "none"] = K .none from rfl, idxK_q hn h2 (by simp [Kd.dep])]
        walk_at "q"
        simp only [leastB, if_neg h1, if_pos h2, opV, PP]
      · simp only [K]
        (walk_at "q"; repeat (simp only [h2]; walk_at "q"))
        rw [iha ns r _ hn (by omega) (by omega) (by omega)]
        cases ea : leastB ns a with
        | none =>
          simp only [opV]
          walk_at "q"
          rw [ihb ns r _ hn (by omega) (by omega) (by omega)]
          cases eb : leastB ns b with
          | none =>
            simp only [opV]
            walk_at "q"
            simp only [leastB, if_neg h1, if_neg h2, ea]
          | some q =>
            simp only [opV]
            (walk_at "q"; repeat (simp only [opV_nil]; walk_at "q"))
            simp only [leastB, if_neg h1, if_neg h2, ea]
        | some p =>
          simp only [opV]
          walk_at "q"
          rw [ihb ns r _ hn (by omega) (by omega) (by omega)]
          cases eb : leastB ns b with
          | none =>
            simp only [opV]
            (walk_at "q"; repeat (simp only [opV_nil]; walk_at "q"))
            simp only [leastB, if_neg h1, if_neg h2, ea, eb, Option.map_none]
          | some q =>
            simp only [opV]
            (walk_at "q"; repeat (simp only [opV_nil]; walk_at "q"))
            simp only [leastB, if_neg h1, if_neg h2, ea, eb, Option.map_some, PP]
  | either a b iha ihb =>
    intro ns r τ hn hd hl hr
    simp only [Kd.dep] at hd hl hr
    obtain ⟨r, rfl⟩ : ∃ r', r = r' + 1 := ⟨r - 1, by omega⟩
    obtain ⟨c1, c2, c3⟩ := in_cond hn (k := .either a b) (by simp only [Kd.dep]; omega)
    obtain ⟨n1, n2, n3⟩ := in_cond hn (k := .none) (by simp [Kd.dep])
    refine Wq.eq (wq_call hf.least rfl rfl ?_)
    simp only [B.f_law_least]
    walk_at "q"
    rw [i_tup, any_K]
    refine ⟨⟨⟨⟨(ok_K _).1, c1⟩, c2⟩, c3⟩, ?_⟩
    by_cases h1 : Kd.either a b ∈ ns
    · (walk_at "q"; repeat (simp only [h1]; walk_at "q"))
      rw [idxK_q hn h1 (by simp only [Kd.dep]; omega)]
      walk_at "q"
      simp only [leastB, if_pos h1, opV, PP]
    · (walk_at "q"; repeat (simp only [h1, x_K, ok_kwd]; walk_at "q"))
      try simp only [Kd.wd]
      try walk_at "q"
      rw [show PV.tup [.str "none"] = K .none from rfl, i_tup, any_K]
      refine ⟨⟨⟨⟨(ok_K _).1, n1⟩, n2⟩, n3⟩, ?_⟩
      by_cases h2 : Kd.none ∈ ns
      · (walk_at "q"; repeat (simp only [h2]; walk_at "q"))
        rw [show PV.tup [.str "none"] = K .none from rfl, idxK_q hn h2 (by simp [Kd.dep])]
        walk_at "q"
        simp only [leastB, if_neg h1, if_pos h2, opV, PP]
      · simp only [K]
        (walk_at "q"; repeat (simp only [h2]; walk_at "q"))
        rw [iha ns r _ hn (by omega) (by omega) (by omega)]
        cases ea : leastB ns a with
        | none =>
          simp only [opV]
          walk_at "q"
          rw [ihb ns r _ hn (by omega) (by omega) (by omega)]
          cases eb : leastB ns b with
          | none =>
            simp only [opV]
            walk_at "q"
            simp only [leastB, if_neg h1, if_neg h2, ea, eb, Option.map_none]
          | some q =>
            simp only [opV]
            (walk_at "q"; repeat (simp only [opV_nil]; walk_at "q"))
            simp only [leastB, if_neg h1, if_neg h2, ea, eb, Option.map_some, PP]
        | some p =>
          simp only [opV]
          walk_at "q"
          rw [ihb ns r _ hn (by omega) (by omega) (by omega)]
          cases eb : leastB ns b with
          | none =>
            simp only [opV]
            (walk_at "q"; repeat (simp only [opV_nil]; walk_at "q"))
            simp only [leastB, if_neg h1, if_neg h2, ea, PP]
          | some q =>
            simp only [opV]
            (walk_at "q"; repeat (simp only [opV_nil]; walk_at "q"))
            simp only [leastB, if_neg h1, if_neg h2, ea, PP]
theorem q_kindB (hf : HasB U) {ns : List Kd} {ds : List Int} (hn : NsB ns) (hl : ns.length ≤ 80) (hr : 10 ≤ r) : @Wq _ (callQ U (r + 1) "_law_kind" [.c 0, .v (.tup (ns.map K))] (Dk ds :: τ)) (fun v τ' => ∃ k ds', v = K k ∧ BK 2 k ∧ (leastB ns k).isSome = true ∧ τ' = Dk ds' :: τ) nQ := by
  obtain ⟨r, rfl⟩ : ∃ r', r = r' + 1 := ⟨r - 1, by omega⟩
  have l1 : (leastB ns .one).isSome = true := by simp only [leastB]; split <;> rfl
  have fin : ∀ (ds : List Int) (Q : PV → QSt → Prop), (∀ k ds', BK 2 k ∧ (leastB ns k).isSome = true → Q (K k) (Dk ds' :: τ)) → True := fun _ _ _ => trivial
  refine wq_call hf.kind rfl rfl ?_
  simp only [B.f_law_kind]
  walk_at "q"
  refine (q_nextB hf (by decide)).of ?_
  rintro v τ1 ⟨i, ds1, rfl, h0, h2, rfl⟩
  obtain ⟨n, rfl⟩ : ∃ n : Nat, i = n := ⟨i.toNat, by omega⟩
  walk_at "q"
  rw [show (1 : Int) + (n : Int) = ((n + 1 : Nat) : Int) by omega]
  refine (q_anyB hf (n + 1) r _ _ (by omega)).of ?_
  rintro v τ1 ⟨k, ds2, rfl, hk, rfl⟩
  have hB : BK 2 k := BK.of_dep (by omega)
  walk_at "q"
  rw [q_small hf hB.cw (by omega)]
  have other : ∀ ds : List Int, @Wq _ (callQ U (r + 1) "_law_next" [.c 0, .v (.int 2)] (Dk ds :: τ)) (fun v τ' => ∃ i ds', v = .int i ∧ (i = 0 ∨ i = 1) ∧ τ' = Dk ds' :: τ) nQ := fun ds => (q_nextB hf (by decide)).of (by
    rintro v τ1 ⟨i, ds1, rfl, h0, h2, rfl⟩
    exact ⟨i, ds1, rfl, by omega, rfl⟩)
  cases hs : smallB k with
  | false =>
    walk_at "q"
    refine (other ds2).of ?_
    rintro v τ1 ⟨i, ds3, rfl, hi | hi, rfl⟩
    · (walk_at "q"; repeat (simp only [hi]; walk_at "q"))
      exact ⟨.one, ds3, rfl, BK.of_dep (by simp [Kd.dep]), l1, rfl⟩
    · (walk_at "q"; repeat (simp only [hi]; walk_at "q"))
      exact ⟨.either .one .one, ds3, rfl, BK.of_dep (by simp [Kd.dep]), leastB_either l1, rfl⟩
  | true =>
    walk_at "q"
    rw [q_leastB hf k ns r _ hn (by omega) (by omega) (by omega)]
    cases hle : leastB ns k with
    | none =>
      simp only [opV]
      walk_at "q"
      refine (other ds2).of ?_
      rintro v τ1 ⟨i, ds3, rfl, hi | hi, rfl⟩
      · (walk_at "q"; repeat (simp only [hi]; walk_at "q"))
        exact ⟨.one, ds3, rfl, BK.of_dep (by simp [Kd.dep]), l1, rfl⟩
      · (walk_at "q"; repeat (simp only [hi]; walk_at "q"))
        exact ⟨.either .one .one, ds3, rfl, BK.of_dep (by simp [Kd.dep]), leastB_either l1, rfl⟩
    | some p =>
      simp only [opV]
      (walk_at "q"; repeat (simp only [opV_nil]; walk_at "q"))
      exact ⟨k, ds2, rfl, hB, by rw [hle]; rfl, rfl⟩
def GrownB (U : QT) (d r : Nat) (x : Str) : Prop := ∀ (k : Kd) (ns : List Kd) (τ : QSt) (ds : List Int), BK (9 - d) k → (leastB ns k).isSome = true → NsB ns → ns.length + d ≤ 60 →
  @Wq _ (callQ U (r + 1) x [.c 0, .v (.tup (ns.map K)), .v (K k), .v (.int (d : Nat))] (Dk ds :: τ)) (fun v τ' => ∃ p ds', v = PP p ∧ TyP FP ns p k ∧ p.pd ≤ d + 12 ∧ τ' = Dk ds' :: τ) nQ
theorem fp_none : FP .none := ⟨trivial, by simp [Kd.dep]⟩
theorem least_p {ns : List Kd} {k : Kd} {d : Nat} (hk : BK (9 - d) k) (h : (leastB ns k).isSome = true) : ∃ p, leastB ns k = some p ∧ TyP FP ns p k ∧ p.pd ≤ d + 12 := by
  cases e : leastB ns k with
  | none => rw [e] at h; cases h
  | some p =>
    obtain ⟨h1, h2⟩ := leastB_ty (F := FP) (fun _ _ h => h.e) (fun _ _ h => h.b) (fun _ _ h => h.w) fp_none e (hk.F (by omega))
    have := hk.dep
    exact ⟨p, rfl, h1, by omega⟩
theorem own_mem {ns : List Kd} {k : Kd} {x : PV} {n : Nat} (hn : n = ns.length) (h : x ∈ ((rangeP 0 n).filter fun x => match x with
    | .int i => beqPV ((ns.map K).getD i.toNat .non) (K k)
    | _ => false).map id) : ∃ i : Nat, x = .int (i : Nat) ∧ ns[i]? = some k := by
  rw [List.map_id, List.mem_filter] at h
  obtain ⟨h1, h2⟩ := h
  unfold rangeP at h1
  obtain ⟨i, hi, rfl⟩ := List.mem_map.mp h1
  have hi : i < ns.length := by rw [← hn]; exact List.mem_range.mp hi
  simp only [Int.zero_add, Int.toNat_natCast] at h2
  refine ⟨i, by simp, ?_⟩
  rw [List.getD_eq_getElem?_getD, List.getElem?_map, List.getElem?_eq_getElem hi, Option.map_some, Option.getD_some, beq_K] at h2
  rw [List.getElem?_eq_getElem hi, of_decide_eq_true h2]
theorem q_madeB (hf : HasB U) {d r : Nat} (hd : d + 1 ≤ 7) (hr : 30 ≤ r) (ih : GrownB U d r "_law_grown") : GrownB U (d + 1) (r + 1) "_law_made" := by
  intro k ns τ ds hk hle hn hl
  have hd1 : ((d + 1 : Nat) : Int) - 1 = (d : Nat) := by omega
  have hkd := hk.dep
  have hl' := hn.len
  obtain ⟨p0, hp0, tp0, dp0⟩ := least_p (d := d + 1) hk hle
  have okw := ok_kwd k
  have hF : FP k := hk.F (by omega)
  refine wq_call hf.made rfl rfl ?_
  simp only [B.f_law_made]
  rw [x_cons, x_asg]
  refine Wq.imp (Q := fun x τ' => ∃ L, x = .v (.vl L) ∧ (∀ x ∈ L, ∃ i : Nat, x = .int (i : Nat) ∧ ns[i]? = some k) ∧ τ' = Dk ds :: τ) ?own ?go (fun _ _ _ z => z)
  case own =>
    have er := range_nat (n := ns.length) (by omega)
    refine q_filterL id (fun x => match x with
      | .int i => beqPV ((ns.map K).getD i.toNat .non) (K k)
      | _ => false) ?_
    walk_at "q"
    refine ⟨rangeP 0 ns.length, er, er, by rw [range_len]; exact big (by omega), ?_, fun L eL => ⟨L, rfl, fun x hx => own_mem rfl (by rw [eL] at hx; exact hx)⟩⟩
    intro x hx
    unfold rangeP at hx
    obtain ⟨i, hi, rfl⟩ := List.mem_map.mp hx
    have hi := List.mem_range.mp hi
    have ea : atI (ns.map K) (0 + (i : Int)) = some (K ns[i]) := by
      rw [Int.zero_add]
      exact at_nat (by rw [List.getElem?_map, List.getElem?_eq_getElem hi]; rfl)
    have hdi := hn.dep _ (List.getElem_mem hi)
    (walk_at "q"; repeat (simp only [ea]; walk_at "q"))
    rw [o_eq]
    refine ⟨cmp_K (by omega) (by omega), ?_⟩
    walk_at "q"
    simp only [id_eq, implies_true, and_true]
    congr 1
    simp [List.getD_eq_getElem?_getD, hi]
  case go =>
    rintro x τ' ⟨L, rfl, hsm, rfl⟩
    have hcl : clean (.vl L) = true ∧ depth (.vl L) ≤ 10 := by
      constructor
      · simp only [clean]
        exact cleans_iff.mpr fun x hx => by obtain ⟨i, rfl, _⟩ := hsm x hx; rfl
      · simp only [depth]
        have : depths L ≤ 0 := depths_le.mpr fun x hx => by obtain ⟨i, rfl, _⟩ := hsm x hx; simp [depth]
        omega
    rw [frz_v, x_cons]
    refine Wx.imp (N := fun e τ2 => ∃ ds2, e = [some (.c 0), some (.v (.tup (ns.map K))), some (.v (K k)), some (.v (.int ((d + 1 : Nat) : Int))), some (.v (.vl L)), none, none, none, none] ∧ τ2 = Dk ds2 :: τ) ?s2 ?rest (fun _ _ _ z => z) (fun _ _ _ _ z => z)
    case s2 =>
      walk_at "q"
      rw [o_ne]
      refine ⟨cmp_of hcl.1 rfl (by omega) (by decide), ?_⟩
      cases L with
      | nil =>
        simp only [beqPV, beqPVs]
        walk_at "q"
        exact ⟨ds, rfl⟩
      | cons y L =>
        simp only [beqPV, beqPVs]
        walk_at "q"
        refine (q_nextB hf (by decide)).of ?_
        rintro v τ1 ⟨i, ds1, rfl, h0, h2, rfl⟩
        by_cases hi : i = 0
        · (walk_at "q"; repeat (simp only [hi]; walk_at "q"))
          refine (q_nextB hf (by omega)).of ?_
          rintro v τ3 ⟨j, ds3, rfl, j0, j1, rfl⟩
          obtain ⟨n, rfl⟩ : ∃ n : Nat, j = n := ⟨j.toNat, by omega⟩
          have hn' : n < (y :: L).length := by simp; omega
          obtain ⟨i, ei, hi⟩ := hsm _ (List.getElem_mem hn')
          have ea : atI (y :: L) (n : Int) = some (.int (i : Nat)) := at_nat (by rw [List.getElem?_eq_getElem hn', ei])
          (walk_at "q"; repeat (simp only [ea]; walk_at "q"))
          exact ⟨.name i, ds3, rfl, ⟨hF, hi⟩, by simp [Pg.pd], rfl⟩
        · (walk_at "q"; repeat (simp only [hi]; walk_at "q"))
          exact ⟨ds1, rfl⟩
    case rest =>
      rintro e τ2 ⟨ds2, rfl, rfl⟩
      have fin : ∀ ds : List Int, callQ U (r + 1) "_law_least" [.v (.tup (ns.map K)), .v (K k)] (Dk ds :: τ) = .ok (PP p0) (Dk ds :: τ) := fun ds => by
        rw [q_leastB hf k ns r _ hn (by omega) (by omega) (by omega), hp0]
        rfl
      cases k with
      | none =>
        simp only [K]
        walk_at "q"
        rw [show PV.tup [.str "none"] = K .none from rfl, fin]
        walk_at "q"
        exact ⟨p0, ds2, rfl, tp0, dp0, rfl⟩
      | one =>
        simp only [K]
        walk_at "q"
        exact ⟨.star, ds2, rfl, ⟨hF, rfl⟩, by simp [Pg.pd], rfl⟩
      | both a b =>
        obtain ⟨ka, kb⟩ := hk.sub (.inr (.inl rfl))
        have ka := ka.mono (e := 9 - d) (by omega)
        have kb := kb.mono (e := 9 - d) (by omega)
        simp only [Kd.dep] at hkd
        simp only [K]
        walk_at "q"
        rw [q_leastB hf a ns r _ hn (by omega) (by omega) (by omega)]
        cases ea : leastB ns a with
        | none =>
          simp only [opV]
          walk_at "q"
          rw [show PV.tup [.str "both", K a, K b] = K (.both a b) from rfl, fin]
          walk_at "q"
          exact ⟨p0, ds2, rfl, tp0, dp0, rfl⟩
        | some pa =>
          simp only [opV]
          (walk_at "q"; repeat (simp only [u_PP]; walk_at "q"))
          rw [q_leastB hf b ns r _ hn (by omega) (by omega) (by omega)]
          cases eb : leastB ns b with
          | none =>
            simp only [opV]
            walk_at "q"
            rw [show PV.tup [.str "both", K a, K b] = K (.both a b) from rfl, fin]
            walk_at "q"
            exact ⟨p0, ds2, rfl, tp0, dp0, rfl⟩
          | some pb =>
            simp only [opV]
            (walk_at "q"; repeat (simp only [u_PP, hd1]; walk_at "q"))
            refine (ih a ns τ _ ka (by rw [ea]; rfl) hn (by omega)).of ?_
            rintro v τ9 ⟨p, ds3, rfl, tp, dp, rfl⟩
            (walk_at "q"; repeat (simp only [hd1]; walk_at "q"))
            refine (ih b ns τ _ kb (by rw [eb]; rfl) hn (by omega)).of ?_
            rintro v τ9 ⟨q, ds4, rfl, tq, dq, rfl⟩
            walk_at "q"
            exact ⟨.pair p q, ds4, rfl, ⟨hF, a, b, rfl, tp, tq⟩, by simp only [Pg.pd]; omega, rfl⟩
      | way a b =>
        obtain ⟨ka, kb⟩ := hk.sub (.inr (.inr rfl))
        have ka := ka.mono (e := 9 - d) (by omega)
        have kb := kb.mono (e := 9 - d) (by omega)
        simp only [Kd.dep] at hkd
        have hn2 : NsB (a :: ns) := hn.cons (by omega) (by omega)
        simp only [K]
        walk_at "q"
        refine ⟨big (by omega), ?_⟩
        rw [map_cons1', q_leastB hf b (a :: ns) r _ hn2 (by omega) (by simp; omega) (by omega)]
        cases eb : leastB (a :: ns) b with
        | none =>
          simp only [opV]
          walk_at "q"
          rw [show PV.tup [.str "way", K a, K b] = K (.way a b) from rfl, fin]
          walk_at "q"
          exact ⟨p0, ds2, rfl, tp0, dp0, rfl⟩
        | some pb =>
          simp only [opV]
          (walk_at "q"; repeat (simp only [u_PP, hd1]; walk_at "q"))
          refine ⟨big (by omega), ?_⟩
          rw [map_cons1']
          refine (ih b (a :: ns) τ _ kb (by rw [eb]; rfl) hn2 (by simp; omega)).of ?_
          rintro v τ9 ⟨q, ds4, rfl, tq, dq, rfl⟩
          walk_at "q"
          exact ⟨.way a q, ds4, rfl, ⟨hF, b, rfl, tq⟩, by simp only [Pg.pd]; omega, rfl⟩
      | either a b =>
        obtain ⟨ka, kb⟩ := hk.sub (.inl rfl)
        have ka := ka.mono (e := 9 - d) (by omega)
        have kb := kb.mono (e := 9 - d) (by omega)
        simp only [Kd.dep] at hkd
        simp only [K]
        walk_at "q"
        refine q_filterL id (fun x => match x with
          | .int i => if i = 1 then (leastB ns a).isSome else (leastB ns b).isSome
          | _ => false) ?_
        walk_at "q"
        have opt : ∀ (o : Option Pg) (P : Bool → Prop), @Ho _ (truQ (opV o)) P = P o.isSome := fun o P => by
          cases o with
          | none => rfl
          | some p => exact u_PP
        refine ⟨fun x τ' hx => ?_, fun L eL => ?_⟩
        · simp only [List.mem_cons, List.not_mem_nil, or_false] at hx
          rcases hx with rfl | rfl
          · walk_at "q"
            rw [q_leastB hf a ns r _ hn (by omega) (by omega) (by omega)]
            (walk_at "q"; repeat (simp only [opt]; walk_at "q"))
            exact fun _ => rfl
          · walk_at "q"
            rw [q_leastB hf b ns r _ hn (by omega) (by omega) (by omega)]
            (walk_at "q"; repeat (simp only [opt]; walk_at "q"))
            exact fun _ => rfl
        · have okL : cmpOk (.vl L) (.vl []) = true := by
            refine cmp_of ?_ rfl ?_ (by decide)
            · simp only [clean]
              refine cleans_iff.mpr fun x hx => ?_
              rw [eL, List.map_id, List.mem_filter] at hx
              have hx := hx.1
              simp only [List.mem_cons, List.not_mem_nil, or_false] at hx
              rcases hx with rfl | rfl <;> rfl
            · simp only [depth]
              have : depths L ≤ 0 := depths_le.mpr fun x hx => by
                rw [eL, List.map_id, List.mem_filter] at hx
                have hx := hx.1
                simp only [List.mem_cons, List.not_mem_nil, or_false] at hx
                rcases hx with rfl | rfl <;> simp [depth]
              omega
          rw [o_ne]
          refine ⟨okL, ?_⟩
          have f12 : ∀ x y : Bool, ([PV.int 1, PV.int 2].filter fun z => match z with
            | .int i => if i = 1 then x else y
            | _ => false) = (if x then [PV.int 1] else []) ++ (if y then [PV.int 2] else []) := fun x y => by cases x <;> cases y <;> rfl
          rw [List.map_id, f12] at eL
          cases ea : leastB ns a with
          | none =>
            cases eb : leastB ns b with
            | none =>
              simp only [ea, eb, Option.isSome_none, Bool.false_eq_true, if_false, List.append_nil] at eL
              subst eL
              simp only [beqPV, beqPVs]
              walk_at "q"
              rw [show PV.tup [.str "either", K a, K b] = K (.either a b) from rfl, fin]
              walk_at "q"
              exact ⟨p0, ds2, rfl, tp0, dp0, rfl⟩
            | some pb =>
              simp only [ea, eb, Option.isSome_none, Option.isSome_some, Bool.false_eq_true, if_false, if_true, List.nil_append] at eL
              subst eL
              simp only [beqPV, beqPVs]
              (walk_at "q"; repeat (simp only [hd1]; walk_at "q"))
              refine (q_nextB hf (by decide)).of ?_
              rintro v τ1 ⟨i, ds1, rfl, h0, h2, rfl⟩
              have hi : i = 0 := by omega
              (walk_at "q"; repeat (simp only [hi, hd1]; walk_at "q"))
              refine (ih b ns τ _ kb (by rw [eb]; rfl) hn (by omega)).of ?_
              rintro v τ9 ⟨p, ds9, rfl, tp, dp, rfl⟩
              walk_at "q"
              exact ⟨.right a p, ds9, rfl, ⟨hF, b, rfl, tp⟩, by simp only [Pg.pd]; omega, rfl⟩
          | some pa =>
            cases eb : leastB ns b with
            | none =>
              simp only [ea, eb, Option.isSome_none, Option.isSome_some, Bool.false_eq_true, if_false, if_true, List.append_nil] at eL
              subst eL
              simp only [beqPV, beqPVs]
              (walk_at "q"; repeat (simp only [hd1]; walk_at "q"))
              refine (q_nextB hf (by decide)).of ?_
              rintro v τ1 ⟨i, ds1, rfl, h0, h2, rfl⟩
              have hi : i = 0 := by omega
              (walk_at "q"; repeat (simp only [hi, hd1]; walk_at "q"))
              refine (ih a ns τ _ ka (by rw [ea]; rfl) hn (by omega)).of ?_
              rintro v τ9 ⟨p, ds9, rfl, tp, dp, rfl⟩
              walk_at "q"
              exact ⟨.left b p, ds9, rfl, ⟨hF, a, rfl, tp⟩, by simp only [Pg.pd]; omega, rfl⟩
            | some pb =>
              simp only [ea, eb, Option.isSome_some, if_true, List.cons_append, List.nil_append] at eL
              subst eL
              simp only [beqPV, beqPVs]
              (walk_at "q"; repeat (simp only [hd1]; walk_at "q"))
              refine (q_nextB hf (by decide)).of ?_
              rintro v τ1 ⟨i, ds1, rfl, h0, h2, rfl⟩
              have hi : i = 0 ∨ i = 1 := by
                simp at h2
                omega
              rcases hi with hi | hi
              · (walk_at "q"; repeat (simp only [hi, hd1]; walk_at "q"))
                refine (ih a ns τ _ ka (by rw [ea]; rfl) hn (by omega)).of ?_
                rintro v τ9 ⟨p, ds9, rfl, tp, dp, rfl⟩
                walk_at "q"
                exact ⟨.left b p, ds9, rfl, ⟨hF, a, rfl, tp⟩, by simp only [Pg.pd]; omega, rfl⟩
              · (walk_at "q"; repeat (simp only [hi, hd1]; walk_at "q"))
                refine (ih b ns τ _ kb (by rw [eb]; rfl) hn (by omega)).of ?_
                rintro v τ9 ⟨p, ds9, rfl, tp, dp, rfl⟩
                walk_at "q"
                exact ⟨.right a p, ds9, rfl, ⟨hF, b, rfl, tp⟩, by simp only [Pg.pd]; omega, rfl⟩
theorem q_grownB (hf : HasB U) {d r : Nat} (hd : d ≤ 7) (hr : 31 ≤ r) (im : 0 < d → GrownB U d r "_law_made") (ih : 0 < d → GrownB U (d - 1) r "_law_grown") : GrownB U d (r + 1) "_law_grown" := by
  intro k ns τ ds hk hle hn hl
  have hkd := hk.dep
  have hl' := hn.len
  obtain ⟨p0, hp0, tp0, dp0⟩ := least_p (d := d) hk hle
  have hF : FP k := hk.F (by omega)
  have least : ∀ ds : List Int, callQ U (r + 1) "_law_least" [.v (.tup (ns.map K)), .v (K k)] (Dk ds :: τ) = .ok (PP p0) (Dk ds :: τ) := fun ds => by
    rw [q_leastB hf k ns r _ hn (by omega) (by omega) (by omega), hp0]
    rfl
  refine wq_call hf.grown rfl rfl ?_
  simp only [B.f_law_grown]
  rw [x_cons]
  refine Wx.imp (N := fun e τ2 => ∃ way ds1, (0 ≤ way ∧ way < 12) ∧ e = [some (.c 0), some (.v (.tup (ns.map K))), some (.v (K k)), some (.v (.int (d : Nat))), some (.v (.int way)), none, none, none, none, none, none] ∧ τ2 = Dk ds1 :: τ) ?s1 ?r1 (fun _ _ _ z => z) (fun _ _ _ _ z => z)
  case s1 =>
    walk_at "q"
    refine (q_nextB hf (by decide)).of ?_
    rintro v τ1 ⟨way, ds1, rfl, w0, w12, rfl⟩
    walk_at "q"
    exact ⟨way, ds1, ⟨w0, w12⟩, rfl, rfl⟩
  case r1 =>
  rintro e τ2 ⟨way, ds1, ⟨w0, w12⟩, rfl, rfl⟩
  have hmx2 : ∀ h : 0 < d, (if (1 : Int) < (d : Int) then (d : Int) else 1) = (d : Int) := fun h => by split <;> omega
  rw [x_cons]
  refine Wx.imp (N := fun e τ2 => (0 < d ∧ ¬ way < 4) ∧ e = [some (.c 0), some (.v (.tup (ns.map K))), some (.v (K k)), some (.v (.int (d : Nat))), some (.v (.int way)), none, none, none, none, none, none] ∧ τ2 = Dk ds1 :: τ) ?s2 ?r2 (fun _ _ _ z => z) (fun _ _ _ _ z => z)
  case s2 =>
    by_cases hd0 : d = 0
    · subst hd0
      walk_at "q"
      rw [least]
      walk_at "q"
      exact ⟨p0, ds1, rfl, tp0, dp0, rfl⟩
    · have h1 : ¬ (d : Int) < 1 := by omega
      have h0 : (0 : Int) < (d : Int) := by omega
      by_cases h4 : way < 4
      · (walk_at "q"; repeat (simp only [h1, h4, h0, hmx2 (by omega)]; walk_at "q"))
        refine (im (by omega) k ns τ ds1 hk hle hn hl).of ?_
        rintro v τ9 ⟨p, ds9, rfl, tp, dp, rfl⟩
        walk_at "q"
        exact ⟨p, ds9, rfl, tp, dp, rfl⟩
      · (walk_at "q"; repeat (simp only [h1, h4]; walk_at "q"))
        omega
  case r2 =>
  rintro e τ2 ⟨⟨hdp, h4⟩, rfl, rfl⟩
  have hd1 : (d : Int) - 1 = ((d - 1 : Nat) : Int) := by omega
  have made := fun ds => im hdp k ns τ ds hk hle hn hl
  have ih := ih hdp
  have up : ∀ {x : Kd}, BK (10 - d) x → BK (9 - (d - 1)) x := fun h => h.mono (by omega)
  have hkk : BK (9 - (d - 1)) k := hk.mono (by omega)
  rw [x_cons]
  refine Wx.imp (N := fun e τ2 => ∃ mo ds2, (BK 2 mo ∧ (leastB ns mo).isSome = true) ∧ e = [some (.c 0), some (.v (.tup (ns.map K))), some (.v (K k)), some (.v (.int (d : Nat))), some (.v (.int way)), some (.v (K mo)), none, none, none, none, none] ∧ τ2 = Dk ds2 :: τ) ?s3 ?r3 (fun _ _ _ z => z) (fun _ _ _ _ z => z)
  case s3 =>
    walk_at "q"
    refine (q_kindB hf hn (by omega) (by omega)).of ?_
    rintro v τ9 ⟨mo, ds2, rfl, bm, lm, rfl⟩
    walk_at "q"
    exact ⟨mo, ds2, ⟨bm, lm⟩, rfl, rfl⟩
  case r3 =>
  rintro e τ2 ⟨mo, ds2, ⟨bm, lm⟩, rfl, rfl⟩
  have bm9 : BK (9 - d) mo := bm.mono (by omega)
  have hmo : BK (9 - (d - 1)) mo := bm.mono (by omega)
  have hmd := bm.dep
  have hFm : FP mo := bm.F (by omega)
  have hn2 : NsB (mo :: ns) := hn.cons (by omega) (by omega)
  have qsm : ∀ (x y z : Kd) (e τ : QSt) (d2 : Nat), d2 ≤ 12 → (z = .both x y ∨ z = .way x y ∨ z = .either x y) → BK d2 x → BK d2 y → callQ U (r + 1) "_law_is_small" [.v (K z)] τ = .ok (.bl (smallB z)) τ := fun x y z e τ d2 hd2 hz hx hy => by
    have h1 := hx.dep; have h2 := hy.dep
    rcases hz with rfl | rfl | rfl
    · exact q_small hf (fun w hw => ⟨hx.cw w hw, hy.cw w hw, hx.wd w hw, hy.wd w hw⟩) (by simp only [Kd.dep]; omega)
    · exact q_small hf (fun w hw => ⟨hx.cw w hw, hy.cw w hw, hx.wd w hw, hy.wd w hw⟩) (by simp only [Kd.dep]; omega)
    · exact q_small hf (fun w hw => ⟨hx.cw w hw, hy.cw w hw, hx.wd w hw, hy.wd w hw⟩) (by simp only [Kd.dep]; omega)
  rw [x_cons]
  refine Wx.imp (N := fun e τ2 => e = [some (.c 0), some (.v (.tup (ns.map K))), some (.v (K k)), some (.v (.int (d : Nat))), some (.v (.int way)), some (.v (K mo)), none, none, none, none, none] ∧ τ2 = Dk ds2 :: τ) ?s4 ?r4 (fun _ _ _ z => z) (fun _ _ _ _ z => z)
  case s4 =>
    by_cases h6 : way < 6
    · (walk_at "q"; repeat (simp only [h6]; walk_at "q"))
      rw [show PV.tup [.str "both", K k, K mo] = K (.both k mo) from rfl, qsm k mo (.both k mo) [] _ (9 - d) (by omega) (.inl rfl) hk bm9]
      cases hs : smallB (.both k mo) with
      | false => walk_at "q"
      | true =>
        have hw45 : way = 4 ∨ way = 5 := by omega
        rcases hw45 with hw | hw
        · (walk_at "q"; repeat (simp only [hw, hd1]; walk_at "q"))
          rw [show PV.tup [.str "both", K k, K mo] = K (.both k mo) from rfl]
          refine (ih (.both k mo) ns τ _ (up ((hk.cons bm9 (.inr (.inl rfl)) hs).mono (by omega))) (leastB_both hle lm) hn (by omega)).of ?_
          rintro v τ9 ⟨p, ds9, rfl, tp, dp, rfl⟩
          walk_at "q"
          exact ⟨.first p, ds9, rfl, ⟨hF, mo, tp⟩, by simp only [Pg.pd]; omega, rfl⟩
        · (walk_at "q"; repeat (simp only [hw, hd1]; walk_at "q"))
          rw [show PV.tup [.str "both", K mo, K k] = K (.both mo k) from rfl]
          refine (ih (.both mo k) ns τ _ (up ((bm9.cons hk (.inr (.inl rfl)) (by rw [small_comm]; exact hs)).mono (by omega))) (leastB_both lm hle) hn (by omega)).of ?_
          rintro v τ9 ⟨p, ds9, rfl, tp, dp, rfl⟩
          walk_at "q"
          exact ⟨.second p, ds9, rfl, ⟨hF, mo, tp⟩, by simp only [Pg.pd]; omega, rfl⟩
    · (walk_at "q"; repeat (simp only [h6]; walk_at "q"))
  case r4 =>
  rintro e τ2 ⟨rfl, rfl⟩
  rw [x_cons]
  refine Wx.imp (N := fun e τ2 => e = [some (.c 0), some (.v (.tup (ns.map K))), some (.v (K k)), some (.v (.int (d : Nat))), some (.v (.int way)), some (.v (K mo)), none, none, none, none, none] ∧ τ2 = Dk ds2 :: τ) ?s5 ?r5 (fun _ _ _ z => z) (fun _ _ _ _ z => z)
  case s5 =>
    by_cases h8 : way < 8
    · (walk_at "q"; repeat (simp only [h8]; walk_at "q"))
      rw [show PV.tup [.str "way", K mo, K k] = K (.way mo k) from rfl, qsm mo k (.way mo k) [] _ (9 - d) (by omega) (.inr (.inl rfl)) bm9 hk]
      cases hs : smallB (.way mo k) with
      | false => walk_at "q"
      | true =>
        (walk_at "q"; repeat (simp only [hd1]; walk_at "q"))
        rw [show PV.tup [.str "way", K mo, K k] = K (.way mo k) from rfl]
        refine (ih (.way mo k) ns τ _ (up ((bm9.cons hk (.inr (.inr rfl)) hs).mono (by omega))) (leastB_way hle) hn (by omega)).of ?_
        rintro v τ9 ⟨p, ds9, rfl, tp, dp, rfl⟩
        (walk_at "q"; repeat (simp only [hd1]; walk_at "q"))
        refine (ih mo ns τ _ hmo lm hn (by omega)).of ?_
        rintro v τ9 ⟨q, ds10, rfl, tq, dq, rfl⟩
        walk_at "q"
        exact ⟨.give p q, ds10, rfl, ⟨hF, mo, tp, tq⟩, by simp only [Pg.pd]; omega, rfl⟩
    · (walk_at "q"; repeat (simp only [h8]; walk_at "q"))
  case r5 =>
  rintro e τ2 ⟨rfl, rfl⟩
  rw [x_cons]
  refine Wx.imp (N := fun e τ2 => e = [some (.c 0), some (.v (.tup (ns.map K))), some (.v (K k)), some (.v (.int (d : Nat))), some (.v (.int way)), some (.v (K mo)), none, none, none, none, none] ∧ τ2 = Dk ds2 :: τ) ?s6 ?r6 (fun _ _ _ z => z) (fun _ _ _ _ z => z)
  case s6 =>
    by_cases h10 : way < 10
    · (walk_at "q"; repeat (simp only [h10, hd1]; walk_at "q"))
      refine (ih mo ns τ _ hmo lm hn (by omega)).of ?_
      rintro v τ9 ⟨p, ds9, rfl, tp, dp, rfl⟩
      (walk_at "q"; repeat (simp only [hd1]; walk_at "q"))
      refine ⟨big (by omega), ?_⟩
      rw [map_cons1']
      refine (ih k (mo :: ns) τ _ hkk (leastB_cons hle) hn2 (by simp; omega)).of ?_
      rintro v τ9 ⟨q, ds10, rfl, tq, dq, rfl⟩
      walk_at "q"
      exact ⟨.lets p q, ds10, rfl, ⟨hF, mo, tp, tq⟩, by simp only [Pg.pd]; omega, rfl⟩
    · (walk_at "q"; repeat (simp only [h10]; walk_at "q"))
  case r6 =>
  rintro e τ2 ⟨rfl, rfl⟩
  rw [x_cons]
  refine Wx.imp (N := fun e τ2 => e = [some (.c 0), some (.v (.tup (ns.map K))), some (.v (K k)), some (.v (.int (d : Nat))), some (.v (.int way)), some (.v (K mo)), none, none, none, some (.v (K .none)), none] ∧ τ2 = Dk ds2 :: τ) ?s7 ?r7 (fun _ _ _ z => z) (fun _ _ _ _ z => z)
  case s7 =>
    walk_at "q"
    rfl
  case r7 =>
  rintro e τ2 ⟨rfl, rfl⟩
  rw [x_cons]
  refine Wx.imp (N := fun e τ2 => ∃ ot ds3, BK 2 ot ∧ e = [some (.c 0), some (.v (.tup (ns.map K))), some (.v (K k)), some (.v (.int (d : Nat))), some (.v (.int way)), some (.v (K mo)), none, none, none, some (.v (K ot)), none] ∧ τ2 = Dk ds3 :: τ) ?s8 ?r8 (fun _ _ _ z => z) (fun _ _ _ _ z => z)
  case s8 =>
    walk_at "q"
    refine (q_nextB hf (by decide)).of ?_
    rintro v τ9 ⟨i, ds3, rfl, _, _, rfl⟩
    by_cases hi : 0 < i
    · (walk_at "q"; repeat (simp only [hi]; walk_at "q"))
      refine (q_kindB hf hn (by omega) (by omega)).of ?_
      rintro v τ9 ⟨ot, ds4, rfl, bo, lo, rfl⟩
      walk_at "q"
      exact ⟨ot, ds4, bo, rfl, rfl⟩
    · (walk_at "q"; repeat (simp only [hi]; walk_at "q"))
      exact ⟨.none, ds3, BK.of_dep (by simp [Kd.dep]), rfl, rfl⟩
  case r8 =>
  rintro e τ2 ⟨ot, ds3, bo, rfl, rfl⟩
  have bo9 : BK (9 - d) ot := bo.mono (by omega)
  have hod := bo.dep
  have hn3 : NsB (ot :: ns) := hn.cons (by omega) (by omega)
  walk_at "q"
  rw [show PV.tup [.str "either", K mo, K ot] = K (.either mo ot) from rfl, qsm mo ot (.either mo ot) [] _ (9 - d) (by omega) (.inr (.inr rfl)) bm9 bo9]
  cases hs : smallB (.either mo ot) with
  | false =>
    walk_at "q"
    refine (made ds3).of ?_
    rintro v τ9 ⟨p, ds9, rfl, tp, dp, rfl⟩
    walk_at "q"
    exact ⟨p, ds9, rfl, tp, dp, rfl⟩
  | true =>
    (walk_at "q"; repeat (simp only [hd1]; walk_at "q"))
    rw [show PV.tup [.str "either", K mo, K ot] = K (.either mo ot) from rfl]
    refine (ih (.either mo ot) ns τ _ (up ((bm9.cons bo9 (.inl rfl) hs).mono (by omega))) (leastB_either lm) hn (by omega)).of ?_
    rintro v τ9 ⟨p, ds9, rfl, tp, dp, rfl⟩
    (walk_at "q"; repeat (simp only [hd1]; walk_at "q"))
    refine ⟨big (by omega), ?_⟩
    rw [map_cons1']
    refine (ih k (mo :: ns) τ _ hkk (leastB_cons hle) hn2 (by simp; omega)).of ?_
    rintro v τ9 ⟨q, ds10, rfl, tq, dq, rfl⟩
    (walk_at "q"; repeat (simp only [hd1]; walk_at "q"))
    refine ⟨big (by omega), ?_⟩
    rw [map_cons1']
    refine (ih k (ot :: ns) τ _ hkk (leastB_cons hle) hn3 (by simp; omega)).of ?_
    rintro v τ9 ⟨q2, ds11, rfl, tq2, dq2, rfl⟩
    walk_at "q"
    exact ⟨.case p q q2, ds11, rfl, ⟨hF, mo, ot, tp, tq, tq2⟩, by simp only [Pg.pd]; omega, rfl⟩
theorem grownB_all (hf : HasB U) : ∀ (d r : Nat), d ≤ 7 → 2 * d + 32 ≤ r → GrownB U d r "_law_grown"
  | 0, r + 1, _, h => q_grownB hf (by omega) (by omega) (fun z => absurd z (by omega)) fun z => absurd z (by omega)
  | d + 1, r + 2, hd, h => q_grownB hf hd (by omega) (fun _ => q_madeB hf hd (by omega) (grownB_all hf d r (by omega) (by omega))) fun _ => grownB_all hf d (r + 1) (by omega) (by omega)
structure HasBn (U : QT) : Prop extends HasB U where
  names : HasFn U "_law_names" B.f_law_names false
  parts : HasFn U "_law_parts" B.f_law_parts false
def bas (w : Str) (ns : List Kd) : Nat := match ns with
  | [] => 1
  | n :: _ => wideN w n
theorem p_maxN {a : Nat} {l : List Nat} {P : PV → Prop} : @Ho _ (primQ .max1 [.vl ((a :: l).map fun n => .int ((n : Nat) : Int))]) P = P (.int (maxN (a :: l) : Nat)) := by
  have e1 : ((a :: l).map fun n => PV.int ((n : Nat) : Int)) = ((a :: l).map fun n => ((n : Nat) : Int)).map PV.int := by rw [List.map_map]; rfl
  rw [e1]
  simp only [primQ, lstQ, Option.bind_some, ints_map]
  have e3 := maxI_nat a l
  rw [List.map_cons] at e3 ⊢
  simp only [e3]
  rfl
theorem ok_six {w : Str} (hw : w ∈ sixW) : strOkB w = true := by
  simp only [sixW, List.mem_cons, List.not_mem_nil, or_false] at hw
  rcases hw with rfl | rfl | rfl | rfl | rfl | rfl
  · exact ok_let
  · exact ok_star
  · exact ok_split
  · exact ok_pair
  · exact ok_way
  · exact ok_never
theorem q_namesB (hf : HasBn U) {ds : List Int} (hr : 20 ≤ r) : @Wq _ (callQ U (r + 1) "_law_names" [.c 0] (Dk ds :: τ)) (fun v τ' => ∃ (ns : List Kd) (ds' : List Int), v = .tup (ns.map K) ∧ ns.length ≤ 2 ∧ (∀ k ∈ ns, k.dep ≤ 2) ∧ τ' = Dk ds' :: τ) nQ := by
  obtain ⟨r, rfl⟩ : ∃ r', r = r' + 1 := ⟨r - 1, by omega⟩
  have hfB := hf.toHasB
  refine wq_call hf.names rfl rfl ?_
  simp only [B.f_law_names]
  walk_at "q"
  refine wx_for ?_
  walk_at "q"
  refine (q_nextB hfB (by decide)).of ?_
  rintro v τ1 ⟨i, ds1, rfl, i0, i3, rfl⟩
  obtain ⟨n, rfl⟩ : ∃ n : Nat, i = n := ⟨i.toNat, by omega⟩
  walk_at "q"
  have er := range_nat (n := n) (by omega)
  refine ⟨rangeP 0 n, er, fun pre e τ2 => ∃ (ns : List Kd) (ds : List Int) (o2 o3 o4 o5 : Option QX), e = [some (.c 0), some (.v (.tup (ns.map K))), o2, o3, o4, o5, none] ∧ ns.length ≤ pre.length ∧ (∀ k ∈ ns, k.dep ≤ 2) ∧ τ2 = Dk ds :: τ, ⟨[], ds1, _, _, _, _, rfl, Nat.le_refl _, by simp, rfl⟩, ?_, fun _ _ _ _ => er, ?_⟩
  · rintro e τ2 ⟨ns, ds2, o2, o3, o4, o5, rfl, h1, h2, rfl⟩
    rw [range_len] at h1
    walk_at "q"
    exact ⟨ns, ds2, rfl, by omega, h2, rfl⟩
  · rintro pre x suf e τ2 hx ⟨ns, ds2, o2, o3, o4, o5, rfl, h1, h2, rfl⟩
    obtain ⟨hp, rfl⟩ := range_mid hx
    walk_at "q"
    refine (q_nextB hfB (by decide)).of ?_
    rintro v τ9 ⟨j, ds3, rfl, j0, j3, rfl⟩
    obtain ⟨m, rfl⟩ : ∃ n : Nat, j = n := ⟨j.toNat, by omega⟩
    walk_at "q"
    refine (q_anyB hfB m r ds3 τ (by omega)).of ?_
    rintro v τ9 ⟨k, ds4, rfl, hk, rfl⟩
    walk_at "q"
    refine q_mapL sixW PV.str (fun w => .int ((wideN w k * bas w ns : Nat) : Int)) ?_
    walk_at "q"
    refine ⟨rfl, rfl, fun w τ' hw => ?_, ?_⟩
    · have okw := ok_six hw
      have hwk : wideN w k ≤ 2000 := Nat.le_trans (wide_dep w (k := k) (by omega)) (wT_le _ (by omega))
      walk_at "q"
      rw [q_wide hfB okw k r _ (cW_dep w (by omega)) (by omega)]
      cases ns with
      | nil =>
        walk_at "q"
        refine ⟨mulOk_r (by decide), ?_⟩
        simp only [bas, Nat.mul_one, Int.mul_one]
      | cons n0 ns =>
        have h0 := h2 n0 List.mem_cons_self
        have hpos : (0 : Int) < ((ns.length + 1 : Nat) : Int) := by omega
        (walk_at "q"; repeat (simp only [hpos]; walk_at "q"))
        rw [q_wide hfB okw n0 r _ (cW_dep w (by omega)) (by omega)]
        walk_at "q"
        refine ⟨mulOk_l (by omega), ?_⟩
        simp only [bas, Int.natCast_mul]
    · obtain ⟨a, l, eal⟩ : ∃ a l, sixW.map (fun w => wideN w k * bas w ns) = a :: l := ⟨_, _, rfl⟩
      have ec : sixW.map (fun w => PV.int ((wideN w k * bas w ns : Nat) : Int)) = (a :: l).map fun n => .int ((n : Nat) : Int) := by rw [← eal, List.map_map]; rfl
      rw [ec, p_maxN]
      have fin : ∀ (k : Kd) (ds : List Int) (o4 o5 : Option QX), k.dep ≤ 2 → ∃ (ns' : List Kd) (ds' : List Int) (p2 p3 p4 p5 : Option QX), ([some (.c 0), some (.v (.tup (ns.map K ++ [K k]))), some (.v (.int (0 + (pre.length : Nat)))), some (.v (K k)), o4, o5, none] : QEnv) = [some (.c 0), some (.v (.tup (ns'.map K))), p2, p3, p4, p5, none] ∧ ns'.length ≤ pre.length + 1 ∧ (∀ k ∈ ns', k.dep ≤ 2) ∧ Dk ds :: τ = Dk ds' :: τ := fun k ds o4 o5 hk => by
        refine ⟨ns ++ [k], ds, _, _, _, _, by rw [List.map_append]; rfl, by simp; omega, ?_, rfl⟩
        intro k' hk'
        rcases List.mem_append.mp hk' with h | h
        · exact h2 k' h
        · rw [List.mem_singleton.mp h]; exact hk
      have hsz : ns.length + 1 ≤ sizeLine := big (by omega)
      generalize maxN (a :: l) = M
      by_cases hb : (16 : Int) < (M : Nat)
      · (walk_at "q"; repeat (simp only [hb]; walk_at "q"))
        refine ⟨hsz, ?_⟩
        exact fin .one ds4 _ _ (by simp [Kd.dep])
      · by_cases ha : ((a : Nat) : Int) = 0
        · (walk_at "q"; repeat (simp only [hb, ha]; walk_at "q"))
          refine (q_nextB hfB (by decide)).of ?_
          rintro v τ9 ⟨j, ds5, rfl, j0, j3, rfl⟩
          by_cases hj : 0 < j
          · (walk_at "q"; repeat (simp only [hj]; walk_at "q"))
            refine ⟨hsz, ?_⟩
            exact fin .one ds5 _ _ (by simp [Kd.dep])
          · (walk_at "q"; repeat (simp only [hj]; walk_at "q"))
            refine ⟨hsz, ?_⟩
            exact fin k ds5 _ _ (by omega)
        · (walk_at "q"; repeat (simp only [hb, ha]; walk_at "q"))
          refine ⟨hsz, ?_⟩
          exact fin k ds4 _ _ (by omega)
theorem q_partsB (hf : HasBn U) : ∀ (n : Nat) (p : Pg) (r : Nat) (τ : QSt), p.pd < n → p.pd + 3 ≤ r → callQ U (r + 1) "_law_parts" [.v (PP p)] τ = .ok (.int (p.parts : Nat)) τ := by
  intro n
  induction n with
  | zero => intro p r τ h; omega
  | succ n ih =>
    intro p r τ hn hr
    obtain ⟨r, rfl⟩ : ∃ r', r = r' + 2 := ⟨r - 2, by omega⟩
    refine Wq.eq (wq_call hf.parts rfl rfl ?_)
    simp only [B.f_law_parts]
    walk_at "q"
    refine q_mapL p.kids PP (fun q => .int (q.parts : Nat)) ?_
    walk_at "q"
    rw [q_innerF hf.toHasFi hf.inner]
    walk_at "q"
    refine ⟨big (by have := kids_len p; omega), ?_, ?_⟩
    · intro q τ' hq
      have := kids_pd hq
      walk_at "q"
      rw [ih q (r + 1) _ (by omega) (by omega)]
      walk_at "q"
    · rw [show (p.kids.map fun q => PV.int ((q.parts : Nat) : Int)) = (p.kids.map fun q => ((q.parts : Nat) : Int)).map PV.int by rw [List.map_map]; rfl, p_sum]
      walk_at "q"
      have e : (p.kids.map fun q => ((q.parts : Nat) : Int)).sum = (((p.kids.map Pg.parts).sum : Nat) : Int) := by
        generalize p.kids = L
        induction L with
        | nil => rfl
        | cons a L ih => rw [List.map_cons, List.sum_cons, List.map_cons, List.sum_cons, ih]; omega
      rw [e, kids_parts p]
      congr 1
theorem q_fitB (hf : HasBn U) (hfit : HasFn U "_law_fit" B.f_law_fit false) {k : Kd} {ns : List Kd} {p : Pg} (hk : BK 9 k) (hle : (leastB ns k).isSome = true) (hn : NsB ns) (hl : ns.length ≤ 60) (tp : TyP FP ns p k) (hp : p.pd ≤ 20) (hr : 40 ≤ r) :
    @Wq _ (callQ U (r + 1) "_law_fit" [.v (PP p), .v (.tup (ns.map K)), .v (K k)] τ) (fun v τ' => ∃ q, v = PP q ∧ TyP FP ns q k ∧ q.pd ≤ 20 ∧ τ' = τ) nQ := by
  obtain ⟨r, rfl⟩ : ∃ r', r = r' + 1 := ⟨r - 1, by omega⟩
  have hkd := hk.dep
  obtain ⟨p0, hp0, tp0, dp0⟩ := least_p (d := 0) hk hle
  refine wq_call hfit rfl rfl ?_
  simp only [B.f_law_fit]
  walk_at "q"
  rw [q_partsB hf _ p r _ (Nat.lt_succ_self _) (by omega)]
  walk_at "q"
  by_cases h : ((p.parts : Nat) : Int) ≤ 140
  · (walk_at "q"; repeat (simp only [h]; walk_at "q"))
    exact ⟨p, rfl, tp, hp⟩
  · (walk_at "q"; repeat (simp only [h]; walk_at "q"))
    rw [q_leastB hf.toHasB k ns r _ hn (by omega) (by omega) (by omega), hp0]
    simp only [opV]
    walk_at "q"
    exact ⟨p0, rfl, tp0, by omega⟩
end
end EK

namespace EK
open PySem PySem.Spec L2
local macro_rules | `(tactic| walk_at "q") => `(tactic| (try simp (config := {decide := true}) only [ho_some, ho_none, wq_ok, wq_exc, x_nil, x_cons, x_asg, tupX_v, x_asgT, x_asgC, newQ_vl, x_exp, cGe_v, cGe_c, x_ret, x_ifs, x_pass, x_raise, x_asgIx, q_slot, vs_v, vs_c, Option.isSome_some, nf_v, nf_c, q_isTru, q_revL, q_enGet, q_new, q_mcall, q_callc, q_callv, x_tryN, x_cloRet, bx_v, ob_v, eg_v, cl_z, cl_s, cp_n, cp_c, q_cst, c_non, c_bl, c_int, c_str, q_glo, q_nil, q_cons, q_anil, q_acons, cellA_f, cellA_v, frz_v, frz_c, frzs_n, frzs_c, q_tup, q_lst, q_dsp, q_bin, q_cmp, q_ix, intX_i, q_neg, q_not, q_chn, q_and, q_or, q_ite, q_isN, q_notN, q_part, q_sl, q_prim, q_lrg, q_meth, q_ch, q_isT, q_cel, q_c0, q_c1, q_call, getS_z, getS_s, vw_v, vw_c, vws_n, vws_s, tru_r, co_z, co_s, co_a, co_a1, take_a, nQ_cut, b_addI, b_subI, b_mulI, b_divI, b_modI, b_powI, b_addT, b_addL, b_addS, o_ltI, o_leI, o_gtI, o_geI, o_eqI, o_neI, o_eqS, o_neS, o_in, o_nin, i_s2, i_s3, i_s4, x_T, x_L, x_C, x_D, d_c, s_T, s_L, s_C, p_lenT, p_lenL, p_lenC, p_intI, p_intB, p_abs, p_max, p_min, p_sum, p_tupT, p_tupL, p_lstT, p_lstL, p_any, p_all, p_lrg, m_ixT2, m_ixL2, m_get1, m_get2, k_app, k_ext, k_pop0, k_pop, k_clr, u_bl, u_int, u_non, u_tup, u_vl, g_nm, g_tp, g_wt, g_s0, g_s1, n_v, n_c, y_non, y_bl, y_int, y_str, y_tup, y_vl, pm_0, pm_1, non_vl, mq_app, mq_ext, mq_pop, mq_clr, mq_ixC, mq_ixT, mq_ixV, mq_get, im_o, im_oc, im_e, im_ec, sq_t, sq_l, ls_l, im_r, im_r2, im_r3, im_zT, im_zL, im_v, ok_both, ok_case, ok_either, ok_first, ok_give, ok_k, ok_kp, ok_l, ok_left, ok_let, ok_name, ok_never, ok_none, ok_odd, ok_one, ok_other, ok_p, ok_pair, ok_r, ok_right, ok_second, ok_split, ok_star, ok_w, ok_way, ok_within, ok_without, ok_wrong, ok_yes, ok_no, ok_n, ok_led, ok_lr, ok_pp, ok_ppp, non_int, non_non, non_tup, non_str, non_ref, non_bl, kit_tuple_NoneType, kit_tuple_bool, kit_tuple_int, kit_tuple_str, kit_tuple_tuple, kit_tuple_list, kit_list_NoneType, kit_list_bool, kit_list_int, kit_list_str, kit_list_tuple, kit_list_list, kit_int_NoneType, kit_int_bool, kit_int_int, kit_int_str, kit_int_tuple, kit_int_list, kit_bool_NoneType, kit_bool_bool, kit_bool_int, kit_bool_str, kit_bool_tuple, kit_bool_list, kit_str_NoneType, kit_str_bool, kit_str_int, kit_str_str, kit_str_tuple, kit_str_list, at_0, at_1, at_2, at_3, List.set_cons_zero, List.set_cons_succ, Option.some.injEq, exists_eq_left', true_and, and_true, and_self, decide_eq_true_eq, ↓reduceIte, if_true, if_false, decide_true, decide_false, Bool.false_eq_true, reduceCtorEq, List.length_cons, List.length_nil, List.map_cons, List.map_nil, Nat.zero_add, Int.reduceSub, Int.reduceAdd, Int.reduceNeg, Int.reduceMul, Nat.reduceAdd, Nat.reduceSub, Bool.not_true, Bool.not_false, Bool.or_false, Bool.or_true, Bool.true_or, Bool.false_or, Bool.and_true, Bool.and_false, Bool.true_and, Bool.false_and, List.replicate_succ, List.replicate_zero, List.cons_append, List.nil_append, List.append_assoc, List.take_length, List.take_succ_cons, List.length_append, isCel, frE, isCh, wipeQ, List.drop_nil, List.drop_zero, false_implies, true_implies, implies_true, forall_const, QX.v.injEq, sz_0, sz_1, sz_2, sz_3, sz_4, sz_5, sz_6, sz_7, sz_8, sz_9, sz_10, sz_11, sz_12, p_srt, co_dk, List.length_map, set_a, take_an, List.take_zero, List.take_nil, q_bnd, q_okO, ho_map, en_l, en_t, opt_map]))
namespace Lib
def f_ways : FnI := ⟨["many", "things_given"], ["many", "things_given", "found", "turn"], [],
  (.cons (.asg (.nm 2) (.lst (.cons (.tup .nil) .nil))) (.cons (.for (.nm 3) .range (.cons (.slot 0) .nil) (.cons (.asg (.nm 2) (.call "longer" (.cons (.slot 2) (.cons (.slot 1) .nil)))) .nil)) (.cons (.ret (.slot 2)) .nil)))⟩
def f_longer : FnI := ⟨["rows", "some"], ["rows", "some", "found", "row", "thing"], [],
  (.cons (.asgC 2 (.lst .nil)) (.cons (.for (.nm 3) .over (.cons (.slot 0) .nil) (.cons (.exp (.meth .extend (.slot 2) (.cons (.comp [4] (.nm 4) .over (.cons (.slot 1) .nil) .nil (.bin .add (.slot 3) (.tup (.cons (.slot 4) .nil)))) .nil))) .nil)) (.cons (.ret (.slot 2)) .nil)))⟩
def f_pairs : FnI := ⟨["some", "others"], ["some", "others", "found", "one", "other"], [],
  (.cons (.asgC 2 (.lst .nil)) (.cons (.for (.nm 3) .over (.cons (.slot 0) .nil) (.cons (.exp (.meth .extend (.slot 2) (.cons (.comp [4] (.nm 4) .over (.cons (.slot 1) .nil) .nil (.tup (.cons (.cst (.str "p")) (.cons (.slot 3) (.cons (.slot 4) .nil))))) .nil))) .nil)) (.cons (.ret (.slot 2)) .nil)))⟩
def f_things : FnI := ⟨["kind"], ["kind", "one", "other", "thing", "row"], [],
  (.cons (.ifs (.cmp .eq (.ix (.slot 0) (.cst (.int 0))) (.cst (.str "none"))) (.cons (.ret (.lst .nil)) .nil) .nil) (.cons (.ifs (.cmp .eq (.ix (.slot 0) (.cst (.int 0))) (.cst (.str "one"))) (.cons (.ret (.lst (.cons (.tup .nil) .nil))) .nil) .nil) (.cons (.asg (.nm 1) (.call "things" (.cons (.ix (.slot 0) (.cst (.int 1))) .nil))) (.cons (.asg (.nm 2) (.call "things" (.cons (.ix (.slot 0) (.cst (.int 2))) .nil))) (.cons (.ifs (.cmp .eq (.ix (.slot 0) (.cst (.int 0))) (.cst (.str "either"))) (.cons (.ret (.bin .add (.comp [3] (.nm 3) .over (.cons (.slot 1) .nil) .nil (.tup (.cons (.cst (.str "l")) (.cons (.slot 3) .nil)))) (.comp [3] (.nm 3) .over (.cons (.slot 2) .nil) .nil (.tup (.cons (.cst (.str "r")) (.cons (.slot 3) .nil)))))) .nil) .nil) (.cons (.ifs (.cmp .eq (.ix (.slot 0) (.cst (.int 0))) (.cst (.str "both"))) (.cons (.ret (.call "pairs" (.cons (.slot 1) (.cons (.slot 2) .nil)))) .nil) .nil) (.cons (.ret (.comp [4] (.nm 4) .over (.cons (.call "ways" (.cons (.prim .len (.cons (.slot 1) .nil)) (.cons (.slot 2) .nil))) .nil) .nil (.tup (.cons (.cst (.str "w")) (.cons (.slot 4) .nil))))) .nil)))))))⟩
def f_gift : FnI := ⟨["kind", "way", "thing"], ["kind", "way", "thing"], [],
  (.cons (.ret (.ix (.ix (.slot 1) (.cst (.int 1))) (.meth .index (.call "things" (.cons (.ix (.slot 0) (.cst (.int 1))) .nil)) (.cons (.slot 2) .nil)))) .nil)⟩
def f_count : FnI := ⟨["kind"], ["kind", "one", "other", "many", "turn"], [],
  (.cons (.ifs (.cmp .eq (.ix (.slot 0) (.cst (.int 0))) (.cst (.str "none"))) (.cons (.ret (.cst (.int 0))) .nil) .nil) (.cons (.ifs (.cmp .eq (.ix (.slot 0) (.cst (.int 0))) (.cst (.str "one"))) (.cons (.ret (.cst (.int 1))) .nil) .nil) (.cons (.asg (.nm 1) (.call "count" (.cons (.ix (.slot 0) (.cst (.int 1))) .nil))) (.cons (.asg (.nm 2) (.call "count" (.cons (.ix (.slot 0) (.cst (.int 2))) .nil))) (.cons (.ifs (.cmp .eq (.ix (.slot 0) (.cst (.int 0))) (.cst (.str "either"))) (.cons (.ret (.bin .add (.slot 1) (.slot 2))) .nil) .nil) (.cons (.ifs (.cmp .eq (.ix (.slot 0) (.cst (.int 0))) (.cst (.str "both"))) (.cons (.ret (.bin .mul (.slot 1) (.slot 2))) .nil) .nil) (.cons (.asg (.nm 3) (.cst (.int 1))) (.cons (.for (.nm 4) .range (.cons (.slot 1) .nil) (.cons (.asg (.nm 3) (.bin .mul (.slot 3) (.slot 2))) .nil)) (.cons (.ret (.slot 3)) .nil)))))))))⟩
end Lib
open Lib
structure HasThs (U : QT) : Prop where
  longer : HasFn U "longer" f_longer false
  ways : HasFn U "ways" f_ways false
  pairs : HasFn U "pairs" f_pairs false
  things : HasFn U "things" f_things false
section
variable {U : QT} {r : Nat} {τ : QSt}
theorem q_longer {rows bs : List PV} (hf : HasThs U) (hr : ∀ x ∈ rows, ∃ l, x = .tup l ∧ l.length ≤ 1000) (hz : rows.length * bs.length ≤ 1000000) (hb : bs.length ≤ 1000000) :
    callQ U (r + 1) "longer" [.v (.vl rows), .v (.vl bs)] τ = .ok (.vl (rows.flatMap fun x => bs.map (ap1 x))) τ := by
  refine Wq.eq (wq_call hf.longer rfl rfl ?_)
  simp only [f_longer]
  walk_at "q"
  refine wx_for ?_
  walk_at "q"
  refine ⟨fun pre e τ2 => (∃ o, e = [some (.v (.vl rows)), some (.v (.vl bs)), some (.c τ.length), o, none]) ∧ τ2 = τ ++ [some (pre.flatMap fun x => bs.map (ap1 x))], ⟨⟨_, rfl⟩, rfl⟩, ?_, ?_⟩
  · rintro e τ2 ⟨⟨o, rfl⟩, rfl⟩
    walk_at "q"
  · rintro pre x suf e τ2 hx ⟨⟨o, rfl⟩, rfl⟩
    obtain ⟨l, rfl, hl⟩ := hr x (by rw [hx]; simp)
    walk_at "q"
    refine q_map (ap1 (.tup l)) ?_
    walk_at "q"
    refine ⟨big hb, fun t _ => ⟨big (by omega), rfl⟩, ?_, ⟨_, rfl⟩, ?_⟩
    · rw [flat_len]
      refine big (Nat.le_trans ?_ hz)
      rw [hx, List.length_append, List.length_cons, ← Nat.succ_mul]
      exact Nat.mul_le_mul_right _ (by omega)
    · simp
theorem q_pairs {as bs : List PV} (hf : HasThs U) (hz : as.length * bs.length ≤ 1000000) (hb : bs.length ≤ 1000000) :
    callQ U (r + 1) "pairs" [.v (.vl as), .v (.vl bs)] τ = .ok (.vl (as.flatMap fun x => bs.map fun y => .tup [.str "p", x, y])) τ := by
  refine Wq.eq (wq_call hf.pairs rfl rfl ?_)
  simp only [f_pairs]
  walk_at "q"
  refine wx_for ?_
  walk_at "q"
  refine ⟨fun pre e τ2 => (∃ o, e = [some (.v (.vl as)), some (.v (.vl bs)), some (.c τ.length), o, none]) ∧ τ2 = τ ++ [some (pre.flatMap fun x => bs.map fun y => .tup [.str "p", x, y])], ⟨⟨_, rfl⟩, rfl⟩, ?_, ?_⟩
  · rintro e τ2 ⟨⟨o, rfl⟩, rfl⟩
    walk_at "q"
  · rintro pre x suf e τ2 hx ⟨⟨o, rfl⟩, rfl⟩
    walk_at "q"
    refine q_map (fun y => .tup [.str "p", x, y]) ?_
    walk_at "q"
    refine ⟨big hb, ?_, ⟨_, rfl⟩, ?_⟩
    · rw [flat_len]
      refine big (Nat.le_trans ?_ hz)
      rw [hx, List.length_append, List.length_cons, ← Nat.succ_mul]
      exact Nat.mul_le_mul_right _ (by omega)
    · simp
theorem q_ways {n : Nat} {bs : List PV} (hf : HasThs U) (hn : n ≤ 1000) (hb : bs.length ≤ 1000) (hz : bs.length ^ n ≤ 1000) :
    callQ U (r + 2) "ways" [.v (.int (n : Nat)), .v (.vl bs)] τ = .ok (.vl (wys bs n)) τ := by
  refine Wq.eq (wq_call hf.ways rfl rfl ?_)
  simp only [f_ways]
  walk_at "q"
  refine wx_for ?_
  walk_at "q"
  simp only [range_nat (n := n) (by omega), Option.some.injEq, exists_eq_left']
  refine ⟨fun pre e τ2 => (∃ o, e = [some (.v (.int (n : Nat))), some (.v (.vl bs)), some (.v (.vl (wys bs pre.length))), o]) ∧ τ2 = τ, ⟨⟨_, rfl⟩, rfl⟩, ?_, fun _ _ _ _ => trivial, ?_⟩
  · rintro e τ2 ⟨⟨o, rfl⟩, rfl⟩
    walk_at "q"
    rw [range_len]
  · rintro pre x suf e τ2 hx ⟨⟨o, rfl⟩, rfl⟩
    have hp : pre.length < n := (range_mid hx).1
    have hw := wys_len bs pre.length
    have hpow := pow_mid (b := bs.length) (Nat.le_of_lt hp)
    have hpow2 := pow_mid (b := bs.length) hp
    walk_at "q"
    rw [q_longer hf (fun x hx => ?h1) ?h2 (by omega)]
    case h1 =>
      obtain ⟨l, e, hl, _⟩ := wys_tup bs _ hx
      exact ⟨l, e, by omega⟩
    · walk_at "q"
      exact ⟨some (.v x), by simp [wys]⟩
    · rw [hw, ← Nat.pow_succ]
      have : max 1 (bs.length ^ n) ≤ 1000 := by omega
      exact Nat.le_trans hpow2 (by omega)
theorem q_things (hf : HasThs U) : ∀ (k : Kd) (r : Nat) (τ : QSt), k.le 1000 → k.dep + 2 ≤ r → callQ U (r + 1) "things" [.v (K k)] τ = .ok (.vl (ths k)) τ
  | .none, r, τ, _, _ => by
    refine Wq.eq (wq_call hf.things rfl rfl ?_)
    simp only [f_things, K]
    walk_at "q"
    rfl
  | .one, r, τ, _, _ => by
    refine Wq.eq (wq_call hf.things rfl rfl ?_)
    simp only [f_things, K]
    walk_at "q"
    rfl
  | .either a b, r + 1, τ, hk, hr => by
    have hr : max a.dep b.dep + 1 + 2 ≤ r + 1 := hr
    have la := ths_len a
    have lb := ths_len b
    have ca := hk.2.1.cnt
    have cb := hk.2.2.cnt
    refine Wq.eq (wq_call hf.things rfl rfl ?_)
    simp only [f_things, K]
    walk_at "q"
    rw [q_things hf a r τ hk.2.1 (by omega)]
    walk_at "q"
    rw [q_things hf b r τ hk.2.2 (by omega)]
    walk_at "q"
    refine q_map (fun x => .tup [.str "l", x]) ?_
    walk_at "q"
    refine ⟨big (by omega), q_map (fun x => .tup [.str "r", x]) ?_⟩
    walk_at "q"
    exact ⟨big (by omega), big (by omega), rfl⟩
  | .both a b, r + 1, τ, hk, hr => by
    have hr : max a.dep b.dep + 1 + 2 ≤ r + 1 := hr
    have la := ths_len a
    have lb := ths_len b
    have ca := hk.2.1.cnt
    have cb := hk.2.2.cnt
    refine Wq.eq (wq_call hf.things rfl rfl ?_)
    simp only [f_things, K]
    walk_at "q"
    rw [q_things hf a r τ hk.2.1 (by omega)]
    walk_at "q"
    rw [q_things hf b r τ hk.2.2 (by omega)]
    walk_at "q"
    rw [q_pairs hf (by rw [la, lb]; have : a.cnt * b.cnt ≤ 1000 := hk.1; omega) (by omega)]
    walk_at "q"
    rfl
  | .way a b, r + 1, τ, hk, hr => by
    have hr : max a.dep b.dep + 1 + 2 ≤ r + 1 := hr
    have la := ths_len a
    have lb := ths_len b
    have ca := hk.2.1.cnt
    have cb := hk.2.2.cnt
    have cw : b.cnt ^ a.cnt ≤ 1000 := hk.1
    refine Wq.eq (wq_call hf.things rfl rfl ?_)
    simp only [f_things, K]
    walk_at "q"
    rw [q_things hf a r τ hk.2.1 (by omega)]
    walk_at "q"
    rw [q_things hf b r τ hk.2.2 (by omega)]
    walk_at "q"
    refine q_map (fun x => .tup [.str "w", x]) ?_
    walk_at "q"
    obtain ⟨r, rfl⟩ : ∃ r', r = r' + 1 := ⟨r - 1, by omega⟩
    rw [q_ways hf (by omega) (by omega) (by rw [la, lb]; exact cw)]
    walk_at "q"
    exact ⟨big (by rw [wys_len, la, lb]; omega), rfl⟩
theorem idxQ_at {x : PV} {xs : List PV} {i : Nat} (hn : xs.Nodup) (hc : ∀ y ∈ xs, clean y = true) (hd : ∀ y ∈ xs, depth y ≤ 150) (h : xs[i]? = some x) : idxQ x xs = some (.int i) := by
  have hm := List.mem_of_getElem? h
  unfold idxQ
  rw [if_pos (by simp [hc x hm, cleans_iff.mpr hc, hd x hm, depths_le.mpr hd]), find_at (hc x hm) hn hc h]
  rfl
theorem q_gift {a b : Kd} {row : List PV} {x y : PV} {i : Nat} (hf : HasThs U) (hg : HasFn U "gift" f_gift false) (ha : a.le 1000) (hr : a.dep + 2 ≤ r) (hd : a.dep ≤ 70) (hx : (ths a)[i]? = some x) (hy : row[i]? = some y) :
    callQ U (r + 2) "gift" [.v (.tup [.str "way", K a, K b]), .v (.tup [.str "w", .tup row]), .v x] τ = .ok y τ := by
  refine Wq.eq (wq_call hg rfl rfl ?_)
  simp only [f_gift]
  walk_at "q"
  rw [q_things hf a r τ ha hr]
  walk_at "q"
  rw [idxQ_at (nodup_ths a) (fun y hy => (ok_ths a hy).1) (fun y hy => by have := (ok_ths a hy).2; omega) hx]
  walk_at "q"
  refine Ho.mk (at_nat hy) ?_
  walk_at "q"
theorem q_cnt (hf : HasFn U "count" f_count false) : ∀ (k : Kd) (r : Nat) (τ : QSt), k.fit → k.dep ≤ r → callQ U (r + 1) "count" [.v (K k)] τ = .ok (.int (k.cnt : Nat)) τ
  | .none, r, τ, _, _ => by
    refine Wq.eq (wq_call hf rfl rfl ?_)
    simp only [f_count, K]
    walk_at "q"
    rfl
  | .one, r, τ, _, _ => by
    refine Wq.eq (wq_call hf rfl rfl ?_)
    simp only [f_count, K]
    walk_at "q"
    rfl
  | .either a b, r + 1, τ, hk, hr => by
    have hr : max a.dep b.dep + 1 ≤ r + 1 := hr
    refine Wq.eq (wq_call hf rfl rfl ?_)
    simp only [f_count, K]
    walk_at "q"
    rw [q_cnt hf a r τ hk.1 (by omega)]
    walk_at "q"
    rw [q_cnt hf b r τ hk.2 (by omega)]
    walk_at "q"
    rfl
  | .both a b, r + 1, τ, hk, hr => by
    have hr : max a.dep b.dep + 1 ≤ r + 1 := hr
    refine Wq.eq (wq_call hf rfl rfl ?_)
    simp only [f_count, K]
    walk_at "q"
    rw [q_cnt hf a r τ hk.1 (by omega)]
    walk_at "q"
    rw [q_cnt hf b r τ hk.2.1 (by omega)]
    walk_at "q"
    exact ⟨hk.2.2, by rw [Kd.cnt, Int.natCast_mul]⟩
  | .way a b, r + 1, τ, hk, hr => by
    have hr : max a.dep b.dep + 1 ≤ r + 1 := hr
    have h3 : a.cnt ≤ 1000 := hk.2.2.1
    have h4 : b.cnt < 2 ^ 62 := hk.2.2.2
    refine Wq.eq (wq_call hf rfl rfl ?_)
    simp only [f_count, K]
    walk_at "q"
    rw [q_cnt hf a r τ hk.1 (by omega)]
    walk_at "q"
    rw [q_cnt hf b r τ hk.2.1 (by omega)]
    walk_at "q"
    refine wx_for ?_
    walk_at "q"
    simp only [range_nat (n := a.cnt) (by omega), Option.some.injEq, exists_eq_left']
    refine ⟨fun pre e τ2 => (∃ o, e = [some (.v (.tup [.str "way", K a, K b])), some (.v (.int (a.cnt : Nat))), some (.v (.int (b.cnt : Nat))), some (.v (.int ((b.cnt ^ pre.length : Nat)))), o]) ∧ τ2 = τ, ⟨⟨_, rfl⟩, rfl⟩, ?_, fun _ _ _ _ => trivial, ?_⟩
    · rintro e τ2 ⟨⟨o, rfl⟩, rfl⟩
      walk_at "q"
      rw [range_len]
      rfl
    · rintro pre x suf e τ2 hx ⟨⟨o, rfl⟩, rfl⟩
      walk_at "q"
      refine ⟨mulOk_r (by omega), some (.v x), ?_⟩
      rw [Nat.pow_succ, Int.natCast_mul]
end
end EK

namespace EK
open PySem PySem.Spec L2
open Lib
local macro_rules | `(tactic| walk_at "q") => `(tactic| (try simp (config := {decide := true}) only [ho_some, ho_none, wq_ok, wq_exc, x_nil, x_cons, x_asg, tupX_v, x_asgT, x_asgC, newQ_vl, x_exp, cGe_v, cGe_c, x_ret, x_ifs, x_pass, x_raise, x_asgIx, q_slot, vs_v, vs_c, Option.isSome_some, nf_v, nf_c, q_isTru, q_revL, q_enGet, q_new, q_mcall, q_callc, q_callv, x_tryN, x_cloRet, bx_v, ob_v, eg_v, cl_z, cl_s, cp_n, cp_c, q_cst, c_non, c_bl, c_int, c_str, q_glo, q_nil, q_cons, q_anil, q_acons, cellA_f, cellA_v, frz_v, frz_c, frzs_n, frzs_c, q_tup, q_lst, q_dsp, q_bin, q_cmp, q_ix, intX_i, q_neg, q_not, q_chn, q_and, q_or, q_ite, q_isN, q_notN, q_part, q_sl, q_prim, q_lrg, q_meth, q_ch, q_isT, q_cel, q_c0, q_c1, q_call, getS_z, getS_s, vw_v, vw_c, vws_n, vws_s, tru_r, co_z, co_s, co_a, co_a1, take_a, nQ_cut, b_addI, b_subI, b_mulI, b_divI, b_modI, b_powI, b_addT, b_addL, b_addS, o_ltI, o_leI, o_gtI, o_geI, o_eqI, o_neI, o_eqS, o_neS, o_in, o_nin, i_s2, i_s3, i_s4, x_T, x_L, x_C, x_D, d_c, s_T, s_L, s_C, p_lenT, p_lenL, p_lenC, p_intI, p_intB, p_abs, p_max, p_min, p_sum, p_tupT, p_tupL, p_lstT, p_lstL, p_any, p_all, p_lrg, m_ixT2, m_ixL2, m_get1, m_get2, k_app, k_ext, k_pop0, k_pop, k_clr, u_bl, u_int, u_non, u_tup, u_vl, g_nm, g_tp, g_wt, g_s0, g_s1, n_v, n_c, y_non, y_bl, y_int, y_str, y_tup, y_vl, pm_0, pm_1, non_vl, mq_app, mq_ext, mq_pop, mq_clr, mq_ixC, mq_ixT, mq_ixV, mq_get, im_o, im_oc, im_e, im_ec, sq_t, sq_l, ls_l, im_r, im_r2, im_r3, im_zT, im_zL, im_v, ok_both, ok_case, ok_either, ok_first, ok_give, ok_k, ok_kp, ok_l, ok_left, ok_let, ok_name, ok_never, ok_none, ok_odd, ok_one, ok_other, ok_p, ok_pair, ok_r, ok_right, ok_second, ok_split, ok_star, ok_w, ok_way, ok_within, ok_without, ok_wrong, ok_yes, ok_no, ok_n, ok_led, ok_lr, ok_pp, ok_ppp, non_int, non_non, non_tup, non_str, non_ref, non_bl, kit_tuple_NoneType, kit_tuple_bool, kit_tuple_int, kit_tuple_str, kit_tuple_tuple, kit_tuple_list, kit_list_NoneType, kit_list_bool, kit_list_int, kit_list_str, kit_list_tuple, kit_list_list, kit_int_NoneType, kit_int_bool, kit_int_int, kit_int_str, kit_int_tuple, kit_int_list, kit_bool_NoneType, kit_bool_bool, kit_bool_int, kit_bool_str, kit_bool_tuple, kit_bool_list, kit_str_NoneType, kit_str_bool, kit_str_int, kit_str_str, kit_str_tuple, kit_str_list, at_0, at_1, at_2, at_3, List.set_cons_zero, List.set_cons_succ, Option.some.injEq, exists_eq_left', true_and, and_true, and_self, decide_eq_true_eq, ↓reduceIte, if_true, if_false, decide_true, decide_false, Bool.false_eq_true, reduceCtorEq, List.length_cons, List.length_nil, List.map_cons, List.map_nil, Nat.zero_add, Int.reduceSub, Int.reduceAdd, Int.reduceNeg, Int.reduceMul, Nat.reduceAdd, Nat.reduceSub, Bool.not_true, Bool.not_false, Bool.or_false, Bool.or_true, Bool.true_or, Bool.false_or, Bool.and_true, Bool.and_false, Bool.true_and, Bool.false_and, List.replicate_succ, List.replicate_zero, List.cons_append, List.nil_append, List.append_assoc, List.take_length, List.take_succ_cons, List.length_append, isCel, frE, isCh, wipeQ, List.drop_nil, List.drop_zero, false_implies, true_implies, implies_true, forall_const, QX.v.injEq, sz_0, sz_1, sz_2, sz_3, sz_4, sz_5, sz_6, sz_7, sz_8, sz_9, sz_10, sz_11, sz_12, p_srt, co_dk, List.length_map, set_a, take_an, List.take_zero, List.take_nil, q_bnd, q_okO, ho_map, en_l, en_t, opt_map]))
/-! ### rows by number -/
theorem flat_at {α β γ : Type} {f : α → β → γ} {ys : List β} : ∀ {xs : List α} {j : Nat} {z : γ}, (xs.flatMap fun x => ys.map (f x))[j]? = some z → ∃ i j' x y, j = i * ys.length + j' ∧ xs[i]? = some x ∧ ys[j']? = some y ∧ z = f x y
  | [], j, z, h => by simp at h
  | x :: xs, j, z, h => by
    rw [List.flatMap_cons] at h
    by_cases hj : j < ys.length
    · rw [List.getElem?_append_left (by simpa using hj), List.getElem?_map, List.getElem?_eq_getElem hj] at h
      cases h
      exact ⟨0, j, x, ys[j], by omega, rfl, List.getElem?_eq_getElem hj, rfl⟩
    · rw [List.getElem?_append_right (by simpa using hj), List.length_map] at h
      obtain ⟨i, j', x', y, h1, h2, h3, h4⟩ := flat_at h
      refine ⟨i + 1, j', x', y, ?_, by simpa using h2, h3, h4⟩
      rw [Nat.add_mul, Nat.one_mul]
      omega
/-- a row's number, from some on -/
def numL : List (Kd × PV) → Nat → Nat
  | [], acc => acc
  | p :: L, acc => numL L (acc * (ths p.1).length + ixP (ths p.1) p.2)
theorem numL_row : ∀ {ns : List Kd} {j : Nat} {row : List PV} (acc : Nat), (wP.rws ns)[j]? = some row → numL (ns.zip row) acc = acc * (wP.rws ns).length + j
  | [], j, row, acc, h => by
    have : j = 0 ∧ row = [] := by
      cases j with
      | zero => simp [WS.rws] at h; exact ⟨rfl, h⟩
      | succ j => simp [WS.rws] at h
    obtain ⟨rfl, rfl⟩ := this
    simp [numL, WS.rws]
  | k :: ns, j, row, acc, h => by
    simp only [WS.rws, ths_P] at h
    obtain ⟨i, j', x, row', h1, h2, h3, rfl⟩ := flat_at h
    have hix : ixP (ths k) x = i := ixP_at (nodup_ths k) (fun y hy => (ok_ths k hy).1) h2
    have hlen : (wP.rws (k :: ns)).length = (ths k).length * (wP.rws ns).length := by
      simp only [WS.rws, ths_P]
      exact flat_len _ _ _
    rw [List.zip_cons_cons]
    simp only [numL, hix]
    rw [numL_row _ h3, hlen, h1, Nat.add_mul, Nat.mul_assoc]
    omega
theorem zipP_eq : ∀ (ns : List Kd) (row : List PV), zipP (ns.map K) row = (ns.zip row).map fun p => .wt [K p.1, p.2]
  | [], _ => rfl
  | _ :: _, [] => rfl
  | k :: ns, x :: row => by
    show PV.wt [K k, x] :: zipP (ns.map K) row = _
    rw [zipP_eq ns row]
    rfl
namespace Law
theorem hasFi : HasFi U := ⟨rfl, ⟨rfl, rfl⟩⟩
theorem hasB : HasB U := ⟨hasFi, ⟨rfl, rfl⟩, ⟨rfl, rfl⟩, ⟨rfl, rfl⟩, ⟨rfl, rfl⟩, ⟨rfl, rfl⟩, ⟨rfl, rfl⟩, ⟨rfl, rfl⟩, ⟨rfl, rfl⟩, ⟨rfl, rfl⟩, ⟨rfl, rfl⟩, ⟨rfl, rfl⟩⟩
theorem hasBn : HasBn U := ⟨hasB, ⟨rfl, rfl⟩, ⟨rfl, rfl⟩⟩
theorem hasKo : HasKo U := ⟨⟨rfl, rfl⟩, ⟨rfl, rfl⟩, ⟨rfl, rfl⟩, ⟨rfl, rfl⟩, ⟨rfl, rfl⟩⟩
theorem hasWp : HasWp U := ⟨hasKo, ⟨rfl, rfl⟩, ⟨rfl, rfl⟩, rfl, ⟨rfl, rfl⟩, ⟨rfl, rfl⟩, ⟨rfl, rfl⟩, ⟨rfl, rfl⟩, ⟨rfl, rfl⟩, ⟨rfl, rfl⟩, ⟨rfl, rfl⟩, ⟨rfl, rfl⟩, ⟨rfl, rfl⟩, ⟨rfl, rfl⟩, ⟨rfl, rfl⟩, ⟨rfl, rfl⟩, ⟨rfl, rfl⟩, ⟨rfl, rfl⟩, ⟨rfl, rfl⟩, ⟨rfl, rfl⟩, ⟨rfl, rfl⟩, ⟨rfl, rfl⟩, ⟨rfl, rfl⟩, ⟨rfl, rfl⟩, ⟨rfl, rfl⟩⟩
theorem hasTb : HasTb U := ⟨hasWp, ⟨rfl, rfl⟩, ⟨rfl, rfl⟩, ⟨rfl, rfl⟩⟩
theorem hasThs : HasThs U := ⟨⟨rfl, rfl⟩, ⟨rfl, rfl⟩, ⟨rfl, rfl⟩, ⟨rfl, rfl⟩⟩
theorem hm : U.T.cls.contains "World" = true := by decide
theorem hasLaw : HasFn U "law" f_law false := ⟨rfl, rfl⟩
theorem hasFit : HasFn U "_law_fit" B.f_law_fit false := ⟨rfl, rfl⟩
theorem hasNumber : HasFn U "_law_number" f_law_number false := ⟨rfl, rfl⟩
theorem hasRight : HasFn U "_law_right" f_law_right false := ⟨rfl, rfl⟩
theorem frDeck : U.fr "_law_deck" = true := rfl
theorem frRows : U.fr "rows" = true := rfl
theorem frTable : U.fr "table" = true := rfl
theorem idx_row {k : Kd} {x : PV} (hk : k.dep ≤ 20) (hx : x ∈ ths k) : idxQ x (ths k) = some (.int (ixP (ths k) x : Nat)) := by
  obtain ⟨i, hi⟩ := List.getElem?_of_mem hx
  have hix : ixP (ths k) x = i := ixP_at (nodup_ths k) (fun y hy => (ok_ths k hy).1) hi
  unfold idxQ
  have c1 : cleans (ths k) = true := cleans_iff.mpr fun y hy => (ok_ths k hy).1
  have c2 : depths (ths k) ≤ 150 := depths_le.mpr fun y hy => by have := (ok_ths k hy).2; omega
  have c3 := ok_ths k hx
  rw [if_pos (by simp [c3.1, c1, c2]; omega), find_at c3.1 (nodup_ths k) (fun y hy => (ok_ths k hy).1) hi, hix]
  rfl
theorem q_number {ns : List Kd} {row : List PV} {r : Nat} {τ : QSt} (hF : ∀ k ∈ ns, FP k) (hr : wP.RI ns row) (h : 30 ≤ r) : callQ U (r + 1) "_law_number" [.v (.tup (ns.map K)), .v (.tup row)] τ = .ok (.int (numL (ns.zip row) 0 : Nat)) τ := by
  obtain ⟨r, rfl⟩ : ∃ r', r = r' + 1 := ⟨r - 1, by omega⟩
  refine Wq.eq (wq_call hasNumber rfl rfl ?_)
  simp only [f_law_number]
  walk_at "q"
  refine wx_forS (xs := [.v (.tup (ns.map K)), .v (.tup row)]) (τ1 := τ) (items := zipP (ns.map K) row) (fun pre e τ2 => ∃ (acc : Nat) (p s : List (Kd × PV)) (o3 o4 o5 : Option QX), e = [some (.v (.tup (ns.map K))), some (.v (.tup row)), some (.v (.int (acc : Nat))), o3, o4, o5] ∧ ns.zip row = p ++ s ∧ pre = (p.map fun p => PV.wt [K p.1, p.2]) ∧ numL (ns.zip row) 0 = numL s acc ∧ τ2 = τ) ?src ⟨0, [], ns.zip row, _, _, _, rfl, rfl, rfl, rfl, rfl⟩ ?end1 (fun _ _ _ _ => rfl) ?step
  case src => walk_at "q"
  case end1 =>
    rintro e τ2 ⟨acc, p, s, o3, o4, o5, rfl, h1, h2, h3, rfl⟩
    have hs : s = [] := by
      have e1 := congrArg List.length h2
      have e2 := congrArg List.length h1
      rw [zipP_eq, List.length_map, List.length_map] at e1
      rw [List.length_append] at e2
      exact List.length_eq_zero_iff.mp (by omega)
    subst hs
    walk_at "q"
    rw [h3]
    rfl
  case step =>
    rintro pre x suf e τ2 hx ⟨acc, p, s, o3, o4, o5, rfl, h1, h2, h3, rfl⟩
    rw [zipP_eq, h1, List.map_append, h2] at hx
    have hx := List.append_cancel_left hx
    cases s with
    | nil => cases hx
    | cons q s =>
      rw [List.map_cons] at hx
      cases hx
      obtain ⟨k, x⟩ := q
      have hmem : (k, x) ∈ ns.zip row := by rw [h1]; simp
      have hkn : k ∈ ns := (List.of_mem_zip hmem).1
      have hxk : x ∈ ths k := by
        obtain ⟨i, hi⟩ := List.getElem?_of_mem hmem
        rw [List.getElem?_zip_eq_some] at hi
        obtain ⟨y, hy, hm⟩ := hr.get hi.1
        rw [hi.2] at hy
        cases hy
        rw [ths_P] at hm
        exact hm
      have hk := hF k hkn
      have hkd := hk.2
      walk_at "q"
      rw [q_things hasThs k _ _ (hk.1.mono (by decide)) (by omega)]
      walk_at "q"
      have hcnt := ths_len k
      have hle := hk.1.cnt
      refine ⟨mulOk_r (by omega), ?_⟩
      rw [idx_row (by omega) hxk]
      walk_at "q"
      refine ⟨acc * (ths k).length + ixP (ths k) x, p ++ [(k, x)], s, _, _, _, by rw [Int.natCast_add, Int.natCast_mul], by rw [h1]; simp, by rw [h2]; simp, ?_⟩
      rw [h3]
      rfl
theorem prods : ∀ (ns : List Kd), (wP.rws ns).length = (ns.map fun k => (ths k).length).prod := fun ns => by
  rw [WS.rws_len]
  congr 1
  exact List.map_congr_left fun k _ => by rw [ths_P]
theorem q_right {ns : List Kd} {p : Pg} {k : Kd} {r : Nat} {τ : QSt} (hF : ∀ k ∈ ns, FP k) (hl : ns.length ≤ 10) (hr : RowsOk wP ns) (ht : TyP FP ns p k) (hp : p.pd ≤ 20) (hk : k.dep ≤ 15) (h : 150 ≤ r) : callQ U (r + 1) "_law_right" [.v (PP p), .v (.tup (ns.map K))] τ = .ok (.bl true) τ := by
  obtain ⟨r, rfl⟩ : ∃ r', r = r' + 1 := ⟨r - 1, by omega⟩
  have h1 := hr ns.length
  rw [List.take_length] at h1
  refine Wq.eq (wq_call hasRight rfl rfl ?_)
  simp only [f_law_right]
  walk_at "q"
  rw [q_rows hasTb hm hF (by omega) hr (by omega)]
  simp only [frRows]
  walk_at "q"
  refine wx_forS (xs := [.v (.tup (ns.map K))]) (τ1 := τ ++ [some ((wP.rws ns).map tupR)]) (items := ns.map K) (fun pre e τ2 => ∃ (p0 : List Kd) (o4 : Option QX), pre = p0.map K ∧ p0 <+: ns ∧ e = [some (.v (PP p)), some (.v (.tup (ns.map K))), some (.c τ.length), some (.v (.int ((wP.rws p0).length : Nat))), o4, none, none, none] ∧ τ2 = τ ++ [some ((wP.rws ns).map tupR)]) ?src ⟨[], _, rfl, List.nil_prefix, rfl, rfl⟩ ?end1 (fun _ _ _ _ => rfl) ?step
  case src => walk_at "q"
  case step =>
    rintro pre x suf e τ2 hx ⟨p0, o4, rfl, hpre, rfl, rfl⟩
    obtain ⟨q, k1, s, hns, hq, rfl⟩ := map_mid hx
    have hpq : p0 = q := by
      have := congrArg List.length hq
      rw [List.length_map, List.length_map] at this
      obtain ⟨t, ht⟩ := hpre
      rw [hns] at ht
      exact (List.append_inj ht this).1
    subst hpq
    have hk1 : FP k1 := hF k1 (by rw [hns]; simp)
    have hk1d := hk1.2
    have hle := hr p0.length
    rw [show ns.take p0.length = p0 by rw [hns]; simp] at hle
    have hcnt := ths_len k1
    have hc3 := hk1.1.cnt
    walk_at "q"
    rw [q_things hasThs k1 _ _ (hk1.1.mono (by decide)) (by omega)]
    walk_at "q"
    refine ⟨mulOk_l (by omega), p0 ++ [k1], some (.v (K k1)), by simp, ⟨s, by rw [hns]; simp⟩, ?_⟩
    rw [show (wP.rws (p0 ++ [k1])).length = (wP.rws p0).length * (ths k1).length by rw [WS.rws_snoc, ← ths_P]; exact flat_len _ _ _, Int.natCast_mul]
  case end1 =>
  rintro e τ2 ⟨p0, o4, hp0, hpre, rfl, rfl⟩
  have hpn : p0 = ns := by
    have := congrArg List.length hp0
    rw [List.length_map, List.length_map] at this
    exact hpre.eq_of_length this.symm
  subst hpn
  walk_at "q"
  refine wx_forS (xs := [.c τ.length]) (τ1 := τ ++ [some ((wP.rws p0).map tupR)]) (items := enumF ((wP.rws p0).map tupR)) (fun pre e τ2 => (∃ (o5 o6 : Option QX), e = [some (.v (PP p)), some (.v (.tup (p0.map K))), some (.c τ.length), some (.v (.int ((wP.rws p0).length : Nat))), o4, o5, o6, none]) ∧ τ2 = τ ++ [some ((wP.rws p0).map tupR)]) ?src2 ⟨⟨_, _, rfl⟩, rfl⟩ ?end2 (fun _ _ _ h => by rw [h.2, im_ec, co_a]; rfl) ?step2
  case src2 =>
    (walk_at "q"; repeat (simp only [im_ec]; walk_at "q"))
  case step2 =>
    rintro pre x suf e τ2 hx ⟨⟨o5, o6, rfl⟩, rfl⟩
    obtain ⟨y, hy, rfl⟩ := enum_mid hx
    rw [List.getElem?_map] at hy
    cases e0 : (wP.rws p0)[pre.length]? with
    | none => rw [e0] at hy; cases hy
    | some row =>
      rw [e0] at hy
      cases hy
      have hRI := WS.rws_mem.mp (List.mem_of_getElem? e0)
      have hn := numL_row 0 e0
      rw [Nat.zero_mul, Nat.zero_add] at hn
      have hlen := hRI.len
      simp only [tupR]
      (walk_at "q"; repeat (simp only [hlen]; walk_at "q"))
      rw [show PV.tup row = .tup row from rfl, q_number hF hRI (by omega), hn]
      walk_at "q"
      exact ⟨_, _, rfl⟩
  case end2 =>
  rintro e τ2 ⟨⟨o5, o6, rfl⟩, rfl⟩
  walk_at "q"
  rw [q_table hasTb hm ht hF (by omega) hr (by omega) (by omega)]
  simp only [frTable]
  (walk_at "q"; repeat (simp only [Nat.add_zero]; walk_at "q"))
  refine q_mapL (wP.rws p0) tupR (wP.ev p0 p) ?_
  (walk_at "q"; repeat (simp only [im_oc, Nat.add_zero]; walk_at "q"))
  have hthing : ∀ y ∈ (wP.rws p0).map (wP.ev p0 p), clean y = true ∧ depth y ≤ 40 := fun y hy => by
    obtain ⟨row, hrow, rfl⟩ := List.mem_map.mp hy
    have hin := WS.ev_in wP_ok ht (WS.rws_mem.mp hrow)
    rw [ths_P] at hin
    have := ok_ths k hin
    exact ⟨this.1, by omega⟩
  have hc : clean (.vl ((wP.rws p0).map (wP.ev p0 p))) = true := by
    simp only [clean]
    exact cleans_iff.mpr fun y hy => (hthing y hy).1
  have hd : depth (.vl ((wP.rws p0).map (wP.ev p0 p))) ≤ 140 := by
    simp only [depth]
    have : depths ((wP.rws p0).map (wP.ev p0 p)) ≤ 40 := depths_le.mpr fun y hy => (hthing y hy).2
    omega
  refine ⟨big (by omega), fun row τ' hrow => ?_, ?_⟩
  · simp only [tupR]
    rw [q_told hasTb hm ht hF (WS.rws_mem.mp hrow) (by omega) (by omega)]
    walk_at "q"
  · rw [o_ne]
    refine ⟨cmp_of hc hc hd hd, ?_⟩
    rw [beq_refl _ hc]
    (walk_at "q"; repeat (simp only [Nat.add_zero]; walk_at "q"))
    refine ⟨Nat.lt_of_lt_of_le (show _ < 1000000 by omega) (big (Nat.le_refl _)), ?_⟩
    rw [List.set_append_right _ _ (by omega)]
    simp
theorem two_K : PV.tup [.str "either", PV.tup [.str "one"], PV.tup [.str "one"]] = K (.either .one .one) := rfl
theorem three_K : PV.tup [.str "either", PV.tup [.str "one"], K (.either .one .one)] = K (.either .one (.either .one .one)) := rfl
theorem FP.of2 {k : Kd} (h : k.dep ≤ 2) : FP k := (BK.of_dep h).F (by decide)
theorem rowsOk {ns : List Kd} (hl : ns.length ≤ 3) (h : ∀ k ∈ ns, k.dep ≤ 2) : RowsOk wP ns := fun i => by
  have hb : ∀ L : List Kd, (∀ k ∈ L, k.dep ≤ 2) → (wP.rws L).length ≤ 4 ^ L.length := fun L hL => by
    induction L with
    | nil => simp [WS.rws]
    | cons k L ih =>
      have e : (wP.rws (k :: L)).length = (ths k).length * (wP.rws L).length := by
        simp only [WS.rws, ths_P]
        exact flat_len _ _ _
      rw [e, ths_len, List.length_cons, Nat.pow_succ, Nat.mul_comm]
      exact Nat.mul_le_mul (ih fun k hk => hL k (List.mem_cons_of_mem _ hk)) (le_dep (hL k List.mem_cons_self)).1.cnt
  have h1 := hb (ns.take i) fun k hk => h k (List.mem_of_mem_take hk)
  have h2 : (ns.take i).length ≤ 3 := by rw [List.length_take]; omega
  exact Nat.le_trans h1 (Nat.le_trans (Nat.pow_le_pow_right (by decide) h2) (by decide))
theorem runs (ns : List Int) (hl : ns.length ≤ 63) : @Wq _ (callQ U 221 "law" [.v (.con (ns.map .int))] []) (fun v _ => v = .bl true) nQ := by
  refine wq_call (r := 220) hasLaw rfl rfl ?_
  simp only [f_law]
  rw [x_cons]
  refine Wx.imp (N := fun e τ2 => ∃ ds, e = [some (.v (.con (ns.map .int))), some (.c 0), none, none, none, none, none] ∧ τ2 = Dk ds :: []) ?s1 ?r1 (fun _ _ _ z => z) (fun _ _ _ _ z => z)
  case s1 =>
    walk_at "q"
    refine (q_deckB (r := 218) hasB hl).of ?_
    rintro v τ1 ⟨ds, rfl, rfl⟩
    simp only [frDeck]
    walk_at "q"
    exact ⟨ds, rfl⟩
  case r1 =>
  rintro e τ2 ⟨ds, rfl, rfl⟩
  rw [x_cons]
  refine Wx.imp (N := fun e τ2 => ∃ (nms : List Kd) (ds : List Int), (nms.length ≤ 2 ∧ ∀ k ∈ nms, k.dep ≤ 2) ∧ e = [some (.v (.con (ns.map .int))), some (.c 0), some (.v (.tup (nms.map K))), none, none, none, none] ∧ τ2 = Dk ds :: []) ?s2 ?r2 (fun _ _ _ z => z) (fun _ _ _ _ z => z)
  case s2 =>
    walk_at "q"
    refine (q_namesB hasBn (by decide)).of ?_
    rintro v τ1 ⟨nms, ds1, rfl, h1, h2, rfl⟩
    walk_at "q"
    exact ⟨nms, ds1, ⟨h1, h2⟩, rfl, rfl⟩
  case r2 =>
  rintro e τ2 ⟨nm0, ds1, ⟨h1, h2⟩, rfl, rfl⟩
  rw [x_cons]
  refine Wx.imp (N := fun e τ2 => ∃ (nms : List Kd) (ds : List Int) (o3 o4 : Option QX), (nms.length ≤ 3 ∧ ∀ k ∈ nms, k.dep ≤ 2) ∧ e = [some (.v (.con (ns.map .int))), some (.c 0), some (.v (.tup (nms.map K))), o3, o4, none, none] ∧ τ2 = Dk ds :: []) ?s3 ?r3 (fun _ _ _ z => z) (fun _ _ _ _ z => z)
  case s3 =>
    walk_at "q"
    refine (q_nextB hasB (by decide)).of ?_
    rintro v τ1 ⟨i, ds2, rfl, _, _, rfl⟩
    by_cases hi : i = 0
    · (walk_at "q"; repeat (simp only [hi]; walk_at "q"))
      refine (q_nextB hasB (by decide)).of ?_
      rintro v τ1 ⟨j, ds3, rfl, j0, j3, rfl⟩
      have hj : j = 0 ∨ j = 1 ∨ j = 2 := by omega
      rcases hj with hj | hj | hj
      · (walk_at "q"; repeat (simp only [hj]; walk_at "q"))
        exact ⟨[.either .one .one, .either .one (.either .one .one), .either .one .one], ds3, _, _, ⟨by simp, by simp [Kd.dep]⟩, rfl, rfl⟩
      · (walk_at "q"; repeat (simp only [hj]; walk_at "q"))
        exact ⟨[.either .one (.either .one .one), .either .one .one, .either .one .one], ds3, _, _, ⟨by simp, by simp [Kd.dep]⟩, rfl, rfl⟩
      · (walk_at "q"; repeat (simp only [hj]; walk_at "q"))
        exact ⟨[.either .one .one, .either .one .one, .either .one (.either .one .one)], ds3, _, _, ⟨by simp, by simp [Kd.dep]⟩, rfl, rfl⟩
    · (walk_at "q"; repeat (simp only [hi]; walk_at "q"))
      exact ⟨nm0, ds2, _, _, ⟨by omega, h2⟩, rfl, rfl⟩
  case r3 =>
  rintro e τ2 ⟨nms, ds2, o3, o4, ⟨h1, h2⟩, rfl, rfl⟩
  have hn : NsB nms := ⟨by omega, fun k hk => by have := h2 k hk; omega⟩
  have hF : ∀ k ∈ nms, FP k := fun k hk => FP.of2 (h2 k hk)
  walk_at "q"
  refine (q_kindB hasB hn (by omega) (by decide)).of ?_
  rintro v τ1 ⟨k, ds3, rfl, bk, lk, rfl⟩
  have hkd := bk.dep
  walk_at "q"
  have bk9 : BK (9 - 3) k := bk.mono (by decide)
  refine (grownB_all hasB 3 219 (by decide) (by decide) k nms [] ds3 bk9 lk hn (by omega)).of ?_
  rintro v τ1 ⟨p, ds4, rfl, tp, dp, rfl⟩
  walk_at "q"
  refine (q_fitB (r := 219) hasBn hasFit (bk.mono (by decide)) lk hn (by omega) tp (by omega) (by decide)).of ?_
  rintro v τ1 ⟨q, rfl, tq, dq, rfl⟩
  walk_at "q"
  have hr := q_right (r := 219) (τ := Dk ds4 :: []) hF (by omega) (rowsOk h1 h2) tq dq (by omega) (by decide)
  rw [hr]
  walk_at "q"
  rw [hr]
  walk_at "q"
theorem yes (ns : List Int) (hl : ns.length ≤ 63) : lawYes U.T 221 "law" ns := yes_of uok (by
  obtain ⟨v, τ, e, rfl⟩ := (runs ns hl).get
  exact ⟨τ, e⟩)
end Law
end EK

theorem PySem.Challenge.cw_evenkinds_k34_rows_and_tables_holds : PySem.Challenge.rw_evenkinds_k34_rows_and_tables.Holds := by
  exact law_ends EK.Law.yes
