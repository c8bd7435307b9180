import PyProof.Rows.All
import Wide.All
import OpenK.AllK
import Wide.FinOn
import HandS.ForMost
import HandS.Defaults
import HandS.Words
import HandS.Ends
import HandS.HeadEnd
import HandS.HeadHook1
import HandS.HeadHook2
import HandS.Head0
import HandS.Head1
import HandS.Head2
import HandS.ExcIs
import PySem.Challenge.RW_standsfast_k76_whole_programs_ring_by_te
import HandS.Walk
import HandS.TupAny
import HandS.TupMul
import HandS.Wide
import HandS.IsInst
import HandS.SortInts
import HandS.Rev
import HandS.Zip
import HandS.Flow
import HandS.DeepEq
import KE.GoesMore
import KE.GoesEnum
import HandS.Text
import HandS.Strs
import HandS.SetFor
import HandS.Conv
import HandS.Exc
import HandS.HotCalls
import HandS.ExcOwn
import HandS.WordsExc
set_option Elab.async false
set_option linter.all false
set_option maxRecDepth 100000
set_option maxHeartbeats 0
/-! SfEv: a small language of plain data (numbers, texts, tuples, lists), its evaluator; no heap in it. -/
namespace Sf
open PySem

/-- plain data; ptr k: the k-th cell (a list that is changed in place and known by more than one name) -/
inductive D where
  | non | bl (b : Bool) | int (i : Int) | str (s : List Nat) | tup (ds : List D) | lst (ds : List D) | rol (ds : List D) | ptr (k : Nat)
  deriving Inhabited

/-- what an expression hands back: data, a list of this frame that is read, a list just made -/
inductive VR where
  | dat (d : D) | bor (ds : List D) | new (ds : List D)

/-- a name's place -/
inductive Slot where
  | un | dat (d : D) | own (ds : List D)

abbrev Env := List Slot
abbrev Cells := List (List D)

inductive BOp where
  | add | sub | mul | fdiv | mod | pow
  deriving DecidableEq
inductive COp where
  | eq | ne | lt | le | gt | ge | inn | notin
  deriving DecidableEq
/-- built-in functions of values -/
inductive BI where
  | len | abs | sum | maxl | minl | max2 | min2 | int | tuple | list | sorted | sortedSet | isTup | isList | isInt | isBool | isStr | lenSet
  deriving DecidableEq
/-- targets -/
inductive MT where
  | nm (i : Nat)
  | tnil
  | tcons (a r : MT)
  | tup (ts : MT)

mutual
inductive ME where
  | v (i : Nat)
  | int (i : Int) | bl (b : Bool) | non | str (s : List Nat)
  | gl (g : Nat)
  | bin (o : BOp) (a b : ME)
  | neg (a : ME)
  | cmp (o : COp) (a b : ME)
  | isN (n : Bool) (a : ME)
  | ch (o o' : COp) (a b c : ME)
  | bop (isAnd : Bool) (es : MEs)
  | not (a : ME)
  | ite (c a b : ME)
  | tup (es : MEs) | lst (es : MEs) | cell (es : MEs)
  | ix (a i : ME)
  | sl (a : ME) (lo hi : MO)
  | call (f : Nat) (es : MEs)
  | bi (b : BI) (es : MEs)
  | index (a x : ME) | gindex (g : Nat) (x : ME)
  | lc (own : List (Str × Nat)) (tg : MT) (it : MI) (c : MO) (elt : ME)
  | lc2 (own : List (Str × Nat)) (vs1 : List Nat) (tg : MT) (it : MI) (tg1 : MT) (it1 : MI) (elt : ME)
  | sset (a : ME) | rgL (a : ME) | rgT (a : ME) | strI (a : ME)
  | tr (a : ME)
inductive MEs where
  | nil | cons (a : ME) (r : MEs)
inductive MO where
  | none | some (a : ME)
inductive MI where
  | seq (a : ME) | rng1 (a : ME) | rng2 (a b : ME) | enum (a : ME) | zip (a b : ME) | rev (a : ME)
end

/-- what an except suite hands back -/
inductive HE where
  | non | bl (b : Bool) | emp
  | isN (i : Nat)
  | isE (f : Nat) (s : List Nat)
  | isI (k : Nat)
  | nt (a : HE) | con (a b : HE) | ite (c a b : HE)
mutual
inductive MS where
  | set (i : Nat) (e : ME)
  | own (i : Nat) (e : ME)
  | unp (t : MT) (e : ME)
  | par (i j : Nat) (a b : ME)
  | aug (i : Nat) (sub : Bool) (e : ME)
  | setIx (i : Nat) (ix e : ME)
  | setCell (a ix e : ME)
  | app (i : Nat) (e : ME)
  | ext (i : Nat) (e : ME)
  | frz (i : Nat)
  | ret (e : ME)
  | retN
  | iff (c : ME) (a b : MSs)
  | forr (t : MT) (it : MI) (body : MSs)
  | whl (c : ME) (body : MSs)
  | brk | cnt | pass | never
  | expr (e : ME)
  | rais (k : Nat)
  | tryR (b : MS) (cl : Nat) (i : Nat) (h : HE)
inductive MSs where
  | nil | cons (s : MS) (r : MSs)
end

/-! ### operations on data -/
/-- the data of a value that is handed on -/
def VR.data : VR → Option D
  | .dat d => some d
  | .bor _ => none
  | .new ds => some (.lst ds)
/-- as it is read at once -/
def VR.read : VR → D
  | .dat d => d
  | .bor ds => .lst ds
  | .new ds => .lst ds

mutual
/-- == -/
def D.eqb : D → D → Bool
  | .non, .non => true
  | .bl a, .bl b => a == b
  | .bl a, .int j => (if a then 1 else 0) == j
  | .int i, .bl b => i == (if b then 1 else 0)
  | .int i, .int j => i == j
  | .str x, .str y => x == y
  | .tup xs, .tup ys => D.eqbs xs ys
  | .lst xs, .lst ys => D.eqbs xs ys
  | .lst xs, .rol ys => D.eqbs xs ys
  | .rol xs, .lst ys => D.eqbs xs ys
  | .rol xs, .rol ys => D.eqbs xs ys
  | _, _ => false
def D.eqbs : List D → List D → Bool
  | [], [] => true
  | x :: xs, y :: ys => D.eqb x y && D.eqbs xs ys
  | _, _ => false
end
mutual
/-- no cell in it, at most n deep -/
def D.shp : Nat → D → Bool
  | _, .non => true
  | _, .bl _ => true
  | _, .int _ => true
  | _, .str s => s.all fun c => decide (c < 1114112)
  | 0, _ => false
  | n + 1, .tup ds => D.shps n ds
  | n + 1, .lst ds => D.shps n ds
  | n + 1, .rol ds => D.shps n ds
  | _ + 1, .ptr _ => false
def D.shps : Nat → List D → Bool
  | _, [] => true
  | n, d :: ds => D.shp n d && D.shps n ds
end

/-- the place that an index means -/
def ixOf (n : Nat) (i : Int) : Option Nat := if 0 ≤ i then (if i < n then some i.toNat else none) else if -(n : Int) ≤ i then some (i + n).toNat else none
def getI {α : Type} (xs : List α) (i : Int) : Option α := (ixOf xs.length i).bind fun j => xs[j]?
/-- the place that a slice's end means -/
def slIx (n d : Nat) : Option Int → Nat
  | none => d
  | some v => if v < 0 then (v + n).toNat else min v.toNat n
def cut {α : Type} (xs : List α) (lo hi : Option Int) : List α := (xs.drop (slIx xs.length 0 lo)).take (slIx xs.length xs.length hi - slIx xs.length 0 lo)

def line : Nat := 16777216

def bits (i : Int) : Nat := i.natAbs.log2

def dBin (o : BOp) (x y : VR) : Option VR :=
  match o, x.read, y.read with
  | .add, .int i, .int j => some (.dat (.int (i + j)))
  | .sub, .int i, .int j => some (.dat (.int (i - j)))
  | .mul, .int i, .int j => if bits i + bits j < 1000000 then some (.dat (.int (i * j))) else none
  | .fdiv, .int i, .int j => if j ≠ 0 ∧ bits j < 9000 then some (.dat (.int (i.fdiv j))) else none
  | .mod, .int i, .int j => if j ≠ 0 then some (.dat (.int (i.fmod j))) else none
  | .pow, .int i, .int j => if 0 ≤ j ∧ j ≤ 1000 ∧ i.natAbs < 2 ^ 64 then some (.dat (.int (i ^ j.toNat))) else none
  | .add, .str a, .str b => if a.length + b.length ≤ line then some (.dat (.str (a ++ b))) else none
  | .add, .tup a, .tup b => if a.length + b.length ≤ line then some (.dat (.tup (a ++ b))) else none
  | .add, .lst a, .lst b => if a.length + b.length ≤ line then some (.new (a ++ b)) else none
  | .mul, .tup a, .int k => if -(2 ^ 62) ≤ k ∧ k < 2 ^ 62 ∧ a.length * k.toNat ≤ line then some (.dat (.tup (List.replicate k.toNat a).flatten)) else none
  | .mul, .lst a, .int k => if -(2 ^ 62) ≤ k ∧ k < 2 ^ 62 ∧ a.length * k.toNat ≤ line then some (.new (List.replicate k.toNat a).flatten) else none
  | _, _, _ => none

def D.flat : D → Bool
  | .non | .bl _ | .int _ | .str _ => true
  | _ => false
def D.items : D → Option (List D)
  | .tup ds => some ds
  | .lst ds => some ds
  | .rol ds => some ds
  | _ => none

def dCmp (o : COp) (x y : VR) : Option Bool :=
  match o with
  | .eq => if x.read.shp 60 && y.read.shp 60 then some (D.eqb x.read y.read) else none
  | .ne => if x.read.shp 60 && y.read.shp 60 then some (!D.eqb x.read y.read) else none
  | .inn => match y.read.items with
    | some ds => if (x.read.flat && ds.all D.flat) || (x.read.shp 50 && D.shps 50 ds) then some (ds.any fun d => D.eqb d x.read) else none
    | none => none
  | .notin => match y.read.items with
    | some ds => if (x.read.flat && ds.all D.flat) || (x.read.shp 50 && D.shps 50 ds) then some (!(ds.any fun d => D.eqb d x.read)) else none
    | none => none
  | o => match x.read, y.read with
    | .int i, .int j => match o with
      | .lt => some (decide (i < j))
      | .le => some (decide (i ≤ j))
      | .gt => some (decide (j < i))
      | _ => some (decide (j ≤ i))
    | _, _ => none

def D.truth : D → Option Bool
  | .non => some false
  | .bl b => some b
  | .int i => some (i != 0)
  | .tup ds => some (!ds.isEmpty)
  | .lst ds => some (!ds.isEmpty)
  | .rol ds => some (!ds.isEmpty)
  | _ => none

def intsOf : List D → Option (List Int)
  | [] => some []
  | .int i :: r => (intsOf r).map (i :: ·)
  | _ :: _ => none

/-- ascending, each once -/
def insertSet (i : Int) : List Int → List Int
  | [] => [i]
  | j :: r => if i < j then i :: j :: r else if i = j then j :: r else j :: insertSet i r
def sortSet (is : List Int) : List Int := is.foldl (fun acc i => insertSet i acc) []
def insertInt (i : Int) : List Int → List Int
  | [] => [i]
  | j :: r => if i < j then i :: j :: r else j :: insertInt i r
def sortInts (is : List Int) : List Int := is.foldl (fun acc i => insertInt i acc) []

def maxOf : List Int → Option Int
  | [] => none
  | i :: r => some (r.foldl (fun a b => if b > a then b else a) i)
def minOf : List Int → Option Int
  | [] => none
  | i :: r => some (r.foldl (fun a b => if b < a then b else a) i)

def D.isTup : D → Bool
  | .tup _ => true
  | _ => false
def D.isList : D → Bool
  | .lst _ => true
  | .rol _ => true
  | .ptr _ => true
  | _ => false
def D.isInt : D → Bool
  | .int _ => true
  | .bl _ => true
  | _ => false
def D.isBool : D → Bool
  | .bl _ => true
  | _ => false
def D.isStr : D → Bool
  | .str _ => true
  | _ => false

def dBi (b : BI) (xs : List VR) : Option VR :=
  match b, xs with
  | .len, [x] => match x.read with
    | .str s => if s.length ≤ line then some (.dat (.int s.length)) else none
    | d => d.items.map fun ds => .dat (.int ds.length)
  | .abs, [x] => match x.read with
    | .int i => some (.dat (.int (if i < 0 then -i else i)))
    | _ => none
  | .int, [x] => match x.read with
    | .int i => some (.dat (.int i))
    | .bl b => some (.dat (.int (if b then 1 else 0)))
    | _ => none
  | .max2, [x, y] => match x.read, y.read with
    | .int i, .int j => some (.dat (.int (if j > i then j else i)))
    | _, _ => none
  | .min2, [x, y] => match x.read, y.read with
    | .int i, .int j => some (.dat (.int (if j < i then j else i)))
    | _, _ => none
  | .sum, [x] => match x.read with
    | .lst ds => (intsOf ds).map fun is => .dat (.int is.sum)
    | _ => none
  | .maxl, [x] => match x.read with
    | .lst ds => ((intsOf ds).bind maxOf).map fun i => .dat (.int i)
    | _ => none
  | .minl, [x] => match x.read with
    | .lst ds => ((intsOf ds).bind minOf).map fun i => .dat (.int i)
    | _ => none
  | .tuple, [x] => match x.read with
    | .tup ds => some (.dat (.tup ds))
    | .lst ds => some (.dat (.tup ds))
    | .rol ds => some (.dat (.tup ds))
    | _ => none
  | .list, [x] => (x.read.items).map fun ds => .new ds
  | .isTup, [x] => some (.dat (.bl x.read.isTup))
  | .isList, [x] => some (.dat (.bl x.read.isList))
  | .isInt, [x] => some (.dat (.bl x.read.isInt))
  | .isBool, [x] => some (.dat (.bl x.read.isBool))
  | .isStr, [x] => some (.dat (.bl x.read.isStr))
  | _, _ => none

/-- the first place of a flat thing in a tuple or list of flat things -/
def findIdx (x : D) : List D → Option Nat
  | [] => none
  | d :: r => if D.eqb d x then some 0 else (findIdx x r).map (· + 1)

/-! ### the evaluator -/
abbrev CallT := Nat → List D → Cells → Option (D × Cells)

def Env.wipe (ρ : Env) : List Nat → Env
  | [] => ρ
  | i :: r => (Env.wipe ρ r).set i .un

/-- a value goes to a target -/
def bindT : MT → D → Env → Option Env
  | .nm i, d, ρ => if i < ρ.length then some (ρ.set i (.dat d)) else none
  | .tnil, .tup ds, ρ => if ds = [] then some ρ else none
  | .tcons a r, .tup (d :: ds), ρ => (bindT a d ρ).bind fun ρ1 => bindT r (.tup ds) ρ1
  | .tup ts, .tup ds, ρ => bindT ts (.tup ds) ρ
  | _, _, _ => none

def lcL (own : List Nat) (tg : MT) (c : Env → Cells → Option (Bool × Cells)) (elt : Env → Cells → Option (D × Cells)) (ρ : Env) : List D → Cells → Option (List D × Cells)
  | [], st => some ([], st)
  | x :: xs, st => (bindT tg x (ρ.wipe own)).bind fun ρ1 => (c ρ1 st).bind fun b =>
    if b.1 = true then (elt ρ1 b.2).bind fun y => (lcL own tg c elt ρ xs y.2).map fun r => (y.1 :: r.1, r.2)
    else lcL own tg c elt ρ xs b.2

/-- two clauses: inner tells what is made for one item of the first -/
def lc2L (own : List Nat) (tg : MT) (inner : Env → Cells → Option (List D × Cells)) (ρ : Env) : List D → Cells → Option (List D × Cells)
  | [], st => some ([], st)
  | x :: xs, st => (bindT tg x (ρ.wipe own)).bind fun ρ1 => (inner ρ1 st).bind fun ys => (lc2L own tg inner ρ xs ys.2).map fun r => (ys.1 ++ r.1, r.2)

def rngD (lo : Int) (n : Nat) : List D := (List.range n).map fun (k : Nat) => D.int (lo + (k : Int))
def zipD (xs ys : List D) : List D := List.zipWith (fun x y => D.tup [x, y]) xs ys
def enumD (xs : List D) : List D := List.zipWith (fun x y => D.tup [x, y]) (rngD 0 xs.length) xs

/-- what may be walked: bor: a list of the frame too -/
def walked (bor : Bool) (r : VR) : Option (List D) := match r with
  | .bor ds => if bor = true then some ds else none
  | .new ds => some ds
  | .dat d => d.items

mutual
def eE (C : CallT) (G : List D) : ME → Env → Cells → Option (VR × Cells)
  | .v i, ρ, st => match ρ[i]? with
    | some (.dat d) => some (.dat d, st)
    | some (.own ds) => some (.bor ds, st)
    | _ => none
  | .int i, _, st => some (.dat (.int i), st)
  | .bl b, _, st => some (.dat (.bl b), st)
  | .non, _, st => some (.dat .non, st)
  | .str s, _, st => some (.dat (.str s), st)
  | .gl g, _, st => (G[g]?).map fun d => (.dat d, st)
  | .bin o a b, ρ, st => (eE C G a ρ st).bind fun x => (eE C G b ρ x.2).bind fun y => (dBin o x.1 y.1).map fun r => (r, y.2)
  | .neg a, ρ, st => (eE C G a ρ st).bind fun x => match x.1 with
    | .dat (.int i) => some (.dat (.int (-i)), x.2)
    | _ => none
  | .cmp o a b, ρ, st => (eE C G a ρ st).bind fun x => (eE C G b ρ x.2).bind fun y => (dCmp o x.1 y.1).map fun r => (.dat (.bl r), y.2)
  | .isN n a, ρ, st => (eE C G a ρ st).bind fun x => match x.1 with
    | .dat .non => some (.dat (.bl !n), x.2)
    | _ => some (.dat (.bl n), x.2)
  | .ch o o' a b c, ρ, st => (eE C G a ρ st).bind fun x => (eE C G b ρ x.2).bind fun y => (dCmp o x.1 y.1).bind fun r =>
    if r = true then (eE C G c ρ y.2).bind fun z => (dCmp o' y.1 z.1).map fun r' => (.dat (.bl r'), z.2) else some (.dat (.bl false), y.2)
  | .bop k es, ρ, st => eBop C G k es ρ st
  | .not a, ρ, st => (eE C G a ρ st).bind fun x => x.1.read.truth.map fun b => (.dat (.bl !b), x.2)
  | .ite c a b, ρ, st => (eT C G c ρ st).bind fun r => if r.1 = true then eE C G a ρ r.2 else eE C G b ρ r.2
  | .tup es, ρ, st => (eEs C G es ρ st).bind fun r => if r.1.length ≤ line then some (.dat (.tup r.1), r.2) else none
  | .lst es, ρ, st => (eEs C G es ρ st).bind fun r => if r.1.length ≤ line then some (.new r.1, r.2) else none
  | .cell es, ρ, st => (eEs C G es ρ st).bind fun r => if r.1.length ≤ line then some (.dat (.ptr r.2.length), r.2 ++ [r.1]) else none
  | .ix a i, ρ, st => (eE C G a ρ st).bind fun x => (eE C G i ρ x.2).bind fun y => match y.1 with
    | .dat (.int k) => match x.1.read with
      | .ptr p => (y.2[p]?).bind fun ds => (getI ds k).map fun d => (.dat d, y.2)
      | .str s => if s.length ≤ line then (getI s k).map fun c => (.dat (.str [c]), y.2) else none
      | d => d.items.bind fun ds => (getI ds k).map fun d => (.dat d, y.2)
    | _ => none
  | .sl a lo hi, ρ, st => (eE C G a ρ st).bind fun x => (eO C G lo ρ x.2).bind fun l => (eO C G hi ρ l.2).bind fun h => match x.1.read with
    | .tup ds => some (.dat (.tup (cut ds l.1 h.1)), h.2)
    | .lst ds => some (.new (cut ds l.1 h.1), h.2)
    | .str s => if s.length ≤ line then some (.dat (.str (cut s l.1 h.1)), h.2) else none
    | _ => none
  | .call f es, ρ, st => (eEs C G es ρ st).bind fun r => (C f r.1 r.2).map fun q => (.dat q.1, q.2)
  | .bi b es, ρ, st => (eVs C G es ρ st).bind fun r => (dBi b r.1).map fun q => (q, r.2)
  | .index a x, ρ, st => (eE C G a ρ st).bind fun q => (eE C G x ρ q.2).bind fun y => match q.1.read with
    | .lst ds => if y.1.read.flat && ds.all D.flat then (findIdx y.1.read ds).map fun (k : Nat) => (.dat (.int (k : Int)), y.2) else none
    | _ => none
  | .gindex g x, ρ, st => (eE C G x ρ st).bind fun y => match G[g]? with
    | some (.tup ds) => if y.1.read.isStr && ds.all D.isStr then (findIdx y.1.read ds).map fun (k : Nat) => (.dat (.int (k : Int)), y.2) else none
    | _ => none
  | .lc own tg it c elt, ρ, st => (eI C G true it ρ st).bind fun r => (lcL (own.map (·.2)) tg (fun ρ' st' => eC C G c ρ' st') (fun ρ' st' => (eE C G elt ρ' st').bind fun q => q.1.data.map fun d => (d, q.2)) ρ r.1 r.2).bind fun q =>
    if r.1.length ≤ line then some (.new q.1, q.2) else none
  | .lc2 own vs1 tg it tg1 it1 elt, ρ, st => (eI C G true it ρ st).bind fun r => (lc2L (own.map (·.2)) tg (fun ρ1 st1 => (eI C G false it1 ρ1 st1).bind fun r1 => lcL vs1 tg1 (fun _ st' => some (true, st')) (fun ρ' st' => (eE C G elt ρ' st').bind fun q => q.1.data.map fun d => (d, q.2)) ρ1 r1.1 r1.2) ρ r.1 r.2).bind fun q =>
    if q.1.length ≤ line then some (.new q.1, q.2) else none
  | .sset a, ρ, st => (eE C G a ρ st).bind fun x => match x.1 with
    | .dat (.tup ds) => (intsOf ds).bind fun is => if is.length < 64 then some (.new ((sortSet is).map .int), x.2) else none
    | _ => none
  | .rgL a, ρ, st => (eE C G a ρ st).bind fun x => match x.1 with
    | .dat (.int i) => if 0 ≤ i ∧ i ≤ 16777216 then some (.new (rngD 0 i.toNat), x.2) else none
    | _ => none
  | .rgT a, ρ, st => (eE C G a ρ st).bind fun x => match x.1 with
    | .dat (.int i) => if 0 ≤ i ∧ i ≤ 16777216 then some (.dat (.tup (rngD 0 i.toNat)), x.2) else none
    | _ => none
  | .strI a, ρ, st => (eE C G a ρ st).bind fun x => match x.1 with
    | .dat (.int i) => if bits i < 1920 then some (.dat (.str (Str.ofString (toString i)).cps.toList), x.2) else none
    | _ => none
  | .tr _, _, _ => none
/-- arguments: data -/
def eEs (C : CallT) (G : List D) : MEs → Env → Cells → Option (List D × Cells)
  | .nil, _, st => some ([], st)
  | .cons a r, ρ, st => (eE C G a ρ st).bind fun x => x.1.data.bind fun d => (eEs C G r ρ x.2).map fun ds => (d :: ds.1, ds.2)
/-- arguments of built-ins: read at once -/
def eVs (C : CallT) (G : List D) : MEs → Env → Cells → Option (List VR × Cells)
  | .nil, _, st => some ([], st)
  | .cons a r, ρ, st => (eE C G a ρ st).bind fun x => (eVs C G r ρ x.2).map fun ds => (x.1 :: ds.1, ds.2)
/-- and, or as values: all but the last True or False -/
def eBop (C : CallT) (G : List D) (k : Bool) : MEs → Env → Cells → Option (VR × Cells)
  | .nil, _, _ => none
  | .cons a r, ρ, st => (eE C G a ρ st).bind fun x => match r with
    | .nil => some x
    | r => match x.1 with
      | .dat (.bl c) => if c = k then eBop C G k r ρ x.2 else some (.dat (.bl c), x.2)
      | _ => none
/-- a test -/
def eT (C : CallT) (G : List D) : ME → Env → Cells → Option (Bool × Cells)
  | .not a, ρ, st => (eT C G a ρ st).map fun r => (!r.1, r.2)
  | .bop k es, ρ, st => eTs C G k es ρ st
  | .tr a, ρ, st => (eE C G a ρ st).bind fun x => x.1.read.truth.map fun b => (b, x.2)
  | .cmp o a b, ρ, st => (eE C G a ρ st).bind fun x => (eE C G b ρ x.2).bind fun y => (dCmp o x.1 y.1).map fun r => (r, y.2)
  | .isN n a, ρ, st => (eE C G a ρ st).bind fun x => match x.1 with
    | .dat .non => some (!n, x.2)
    | _ => some (n, x.2)
  | .ch o o' a b c, ρ, st => (eE C G a ρ st).bind fun x => (eE C G b ρ x.2).bind fun y => (dCmp o x.1 y.1).bind fun r =>
    if r = true then (eE C G c ρ y.2).bind fun z => (dCmp o' y.1 z.1).map fun r' => (r', z.2) else some (false, y.2)
  | _, _, _ => none
def eTs (C : CallT) (G : List D) (k : Bool) : MEs → Env → Cells → Option (Bool × Cells)
  | .nil, _, _ => none
  | .cons a r, ρ, st => (eT C G a ρ st).bind fun x => match r with
    | .nil => some x
    | r => if x.1 = k then eTs C G k r ρ x.2 else some (x.1, x.2)
/-- a part of a slice -/
def eO (C : CallT) (G : List D) : MO → Env → Cells → Option (Option Int × Cells)
  | .none, _, st => some (none, st)
  | .some a, ρ, st => (eE C G a ρ st).bind fun x => match x.1 with
    | .dat (.int i) => some (some i, x.2)
    | _ => none
/-- a clause's test -/
def eC (C : CallT) (G : List D) : MO → Env → Cells → Option (Bool × Cells)
  | .none, _, st => some (true, st)
  | .some a, ρ, st => eT C G a ρ st
/-- what is walked; bor: a list of the frame may be walked (in a comprehension) -/
def eI (C : CallT) (G : List D) (bor : Bool) : MI → Env → Cells → Option (List D × Cells)
  | .seq a, ρ, st => (eE C G a ρ st).bind fun x => (walked bor x.1).map fun ds => (ds, x.2)
  | .rng1 a, ρ, st => (eE C G a ρ st).bind fun x => match x.1 with
    | .dat (.int i) => if -(2 ^ 62) ≤ i ∧ i < 2 ^ 62 then some (rngD 0 i.toNat, x.2) else none
    | _ => none
  | .rng2 a b, ρ, st => (eE C G a ρ st).bind fun x => (eE C G b ρ x.2).bind fun y => match x.1, y.1 with
    | .dat (.int i), .dat (.int j) => if (-(2 ^ 62) ≤ i ∧ i < 2 ^ 62) ∧ (-(2 ^ 62) ≤ j ∧ j < 2 ^ 62) then some (rngD i (j - i).toNat, y.2) else none
    | _, _ => none
  | .enum a, ρ, st => (eE C G a ρ st).bind fun x => (walked bor x.1).map fun ds => (enumD ds, x.2)
  | .zip a b, ρ, st => (eE C G a ρ st).bind fun x => (eE C G b ρ x.2).bind fun y => (walked bor x.1).bind fun xs => (walked bor y.1).map fun ys => (zipD xs ys, y.2)
  | .rev a, ρ, st => (eE C G a ρ st).bind fun x => match x.1 with
    | .dat (.lst ds) => some (ds.reverse, x.2)
    | .dat _ => none
    | r => (walked bor r).map fun ds => (ds.reverse, x.2)
end

/-! ### statements -/
inductive Out where
  | nx (ρ : Env) (st : Cells) | ret (d : D) (st : Cells) | brk (ρ : Env) (st : Cells) | cnt (ρ : Env) (st : Cells)

def forL (tg : MT) (body : Env → Cells → Option Out) : List D → Env → Cells → Option Out
  | [], ρ, st => some (.nx ρ st)
  | x :: xs, ρ, st => (bindT tg x ρ).bind fun ρ1 => (body ρ1 st).bind fun o => match o with
    | .nx ρ2 st2 => forL tg body xs ρ2 st2
    | .cnt ρ2 st2 => forL tg body xs ρ2 st2
    | .brk ρ2 st2 => some (.nx ρ2 st2)
    | .ret d st2 => some (.ret d st2)
def whlL (c : Env → Cells → Option (Bool × Cells)) (body : Env → Cells → Option Out) : Nat → Env → Cells → Option Out
  | 0, _, _ => none
  | k + 1, ρ, st => (c ρ st).bind fun b => if b.1 = true then (body ρ b.2).bind fun o => match o with
    | .nx ρ2 st2 => whlL c body k ρ2 st2
    | .cnt ρ2 st2 => whlL c body k ρ2 st2
    | .brk ρ2 st2 => some (.nx ρ2 st2)
    | .ret d st2 => some (.ret d st2)
    else some (.nx ρ b.2)
open Classical in
/-- a while loop, run to its end -/
noncomputable def whl (c : Env → Cells → Option (Bool × Cells)) (body : Env → Cells → Option Out) (ρ : Env) (st : Cells) : Option Out :=
  if h : ∃ k o, whlL c body k ρ st = some o then some (Classical.choose (Classical.choose_spec h)) else none

def slotD (ρ : Env) (i : Nat) : Option D := match ρ[i]? with
  | some (.dat d) => some d
  | _ => none
def slotO (ρ : Env) (i : Nat) : Option (List D) := match ρ[i]? with
  | some (.own ds) => some ds
  | _ => none

/-! ### exceptions: the classes by their numbers: 0 StandError (a ValueError), of it 1 NotWritten, 2 NotLet, 3 BadDeed, 4 Unknown, 5 NothingLeft -/
def XB : Nat := 100000
/-- is a class one of another's -/
def isSub (k l : Nat) : Bool := k == l || l == 0
/-- the law's look at an error: its class k, what is due -/
def errOk (k : Nat) (s : List Nat) : Bool := ((k == 1) == (s == [119, 114, 105, 116, 116, 101, 110]) && ((k == 2) == (s == [108, 101, 116]) && (k != 3 && k != 4))) && k != 5
def exName : Nat → Str
  | 0 => "StandError"
  | 1 => "NotWritten"
  | 2 => "NotLet"
  | 3 => "BadDeed"
  | 4 => "Unknown"
  | _ => "NothingLeft"
/-- what an expression raises (C at XB + f: what the def f raises) -/
def xE (C : CallT) (G : List D) : ME → Env → Cells → Option (Nat × Cells)
  | .call f es, ρ, st => (eEs C G es ρ st).bind fun r => (C (XB + f) r.1 r.2).bind fun q => match q.1 with
    | .int k => some (k.toNat, q.2)
    | _ => none
  | .lst (.cons a .nil), ρ, st => xE C G a ρ st
  | _, _, _ => none
/-- what a small statement raises -/
def xS1 (C : CallT) (G : List D) : MS → Env → Cells → Option (Nat × Cells)
  | .set _ e, ρ, st => xE C G e ρ st
  | .unp _ e, ρ, st => xE C G e ρ st
  | .ret e, ρ, st => xE C G e ρ st
  | .expr e, ρ, st => xE C G e ρ st
  | .rais k, _, st => some (k, st)
  | _, _, _ => none
/-- what a suite hands back of an exception of the class k -/
def hE (k : Nat) (ρ : Env) : HE → Option VR
  | .non => some (.dat .non)
  | .bl b => some (.dat (.bl b))
  | .emp => some (.new [])
  | .isN i => match ρ[i]? with
    | some (.dat .non) => some (.dat (.bl true))
    | some (.dat _) => some (.dat (.bl false))
    | _ => none
  | .isE _ s => some (.dat (.bl (errOk k s)))
  | .isI l => some (.dat (.bl (isSub k l)))
  | .nt a => (hE k ρ a).bind fun x => match x with
    | .dat (.bl b) => some (.dat (.bl !b))
    | _ => none
  | .con a b => (hE k ρ a).bind fun x => match x with
    | .dat (.bl true) => hE k ρ b
    | .dat (.bl false) => some (.dat (.bl false))
    | _ => none
  | .ite c a b => (hE k ρ c).bind fun x => match x with
    | .dat (.bl true) => hE k ρ a
    | .dat (.bl false) => hE k ρ b
    | _ => none

mutual
noncomputable def eS (C : CallT) (G : List D) : MS → Env → Cells → Option Out
  | .set i e, ρ, st => (eE C G e ρ st).bind fun x => x.1.data.bind fun d => if i < ρ.length then some (.nx (ρ.set i (.dat d)) x.2) else none
  | .own i e, ρ, st => (eE C G e ρ st).bind fun x => match x.1 with
    | .new ds => if i < ρ.length then some (.nx (ρ.set i (.own ds)) x.2) else none
    | _ => none
  | .unp t e, ρ, st => (eE C G e ρ st).bind fun x => x.1.data.bind fun d => (bindT t d ρ).map fun ρ1 => .nx ρ1 x.2
  | .par i j a b, ρ, st => (eE C G a ρ st).bind fun x => x.1.data.bind fun d => (eE C G b ρ x.2).bind fun y => y.1.data.bind fun d' =>
    if i < ρ.length ∧ j < ρ.length then some (.nx ((ρ.set i (.dat d)).set j (.dat d')) y.2) else none
  | .aug i s e, ρ, st => (eE C G e ρ st).bind fun x => match slotD ρ i, x.1 with
    | some (.int a), .dat (.int b) => some (.nx (ρ.set i (.dat (.int (if s then a - b else a + b)))) x.2)
    | _, _ => none
  | .setIx i ix e, ρ, st => (eE C G e ρ st).bind fun x => x.1.data.bind fun d => (eE C G ix ρ x.2).bind fun y => match y.1 with
    | .dat (.int k) => (slotO ρ i).bind fun ds => (ixOf ds.length k).map fun j => .nx (ρ.set i (.own (ds.set j d))) y.2
    | _ => none
  | .setCell a ix e, ρ, st => (eE C G e ρ st).bind fun x => x.1.data.bind fun d => (eE C G a ρ x.2).bind fun z => (eE C G ix ρ z.2).bind fun y => match z.1, y.1 with
    | .dat (.ptr p), .dat (.int k) => (y.2[p]?).bind fun ds => (ixOf ds.length k).map fun j => .nx ρ (y.2.set p (ds.set j d))
    | _, _ => none
  | .app i e, ρ, st => (eE C G e ρ st).bind fun x => x.1.data.bind fun d => (slotO ρ i).bind fun ds =>
    if ds.length < line then some (.nx (ρ.set i (.own (ds ++ [d]))) x.2) else none
  | .ext i e, ρ, st => (eE C G e ρ st).bind fun x => (slotO ρ i).bind fun ds => match x.1.read with
    | .lst es => if ds.length + es.length ≤ line then some (.nx (ρ.set i (.own (ds ++ es))) x.2) else none
    | .tup es => if ds.length + es.length ≤ line then some (.nx (ρ.set i (.own (ds ++ es))) x.2) else none
    | _ => none
  | .frz i, ρ, st => match slotO ρ i with
    | some ds => some (.nx (ρ.set i (.dat (.lst ds))) st)
    | none => some (.nx ρ st)
  | .ret e, ρ, st => match e with
    | .v i => match ρ[i]? with
      | some (.dat d) => some (.ret d st)
      | some (.own ds) => some (.ret (.lst ds) st)
      | _ => none
    | e => (eE C G e ρ st).bind fun x => x.1.data.map fun d => .ret d x.2
  | .retN, _, st => some (.ret .non st)
  | .iff c a b, ρ, st => (eT C G c ρ st).bind fun r => if r.1 = true then eSs C G a ρ r.2 else eSs C G b ρ r.2
  | .forr t it body, ρ, st => (eI C G false it ρ st).bind fun r => forL t (fun ρ' st' => eSs C G body ρ' st') r.1 ρ r.2
  | .whl c body, ρ, st => whl (fun ρ' st' => eT C G c ρ' st') (fun ρ' st' => eSs C G body ρ' st') ρ st
  | .brk, ρ, st => some (.brk ρ st)
  | .cnt, ρ, st => some (.cnt ρ st)
  | .pass, ρ, st => some (.nx ρ st)
  | .never, _, _ => none
  | .expr e, ρ, st => (eE C G e ρ st).map fun x => .nx ρ x.2
  | .rais _, _, _ => none
  | .tryR b cl i h, ρ, st => match xS1 C G b ρ st with
    | some (k, st') => if isSub k cl = true ∧ i < ρ.length then ((hE k ρ h).bind VR.data).map fun d => .ret d st' else none
    | none => eS C G b ρ st
noncomputable def eSs (C : CallT) (G : List D) : MSs → Env → Cells → Option Out
  | .nil, ρ, st => some (.nx ρ st)
  | .cons s r, ρ, st => (eS C G s ρ st).bind fun o => match o with
    | .nx ρ1 st1 => eSs C G r ρ1 st1
    | o => some o
end

/-! ### what a block raises -/
def forX (tg : MT) (body : Env → Cells → Option Out) (bodyX : Env → Cells → Option (Nat × Cells)) : List D → Env → Cells → Option (Nat × Cells)
  | [], _, _ => none
  | x :: xs, ρ, st => (bindT tg x ρ).bind fun ρ1 => match body ρ1 st with
    | some (.nx ρ2 st2) => forX tg body bodyX xs ρ2 st2
    | some (.cnt ρ2 st2) => forX tg body bodyX xs ρ2 st2
    | some _ => none
    | none => bodyX ρ1 st
mutual
noncomputable def xS (C : CallT) (G : List D) : MS → Env → Cells → Option (Nat × Cells)
  | .iff c a b, ρ, st => (eT C G c ρ st).bind fun r => if r.1 = true then xSs C G a ρ r.2 else xSs C G b ρ r.2
  | .forr t it body, ρ, st => (eI C G false it ρ st).bind fun r => forX t (fun ρ' st' => eSs C G body ρ' st') (fun ρ' st' => xSs C G body ρ' st') r.1 ρ r.2
  | .set _ e, ρ, st => xE C G e ρ st
  | .unp _ e, ρ, st => xE C G e ρ st
  | .ret e, ρ, st => xE C G e ρ st
  | .expr e, ρ, st => xE C G e ρ st
  | .rais k, _, st => some (k, st)
  | _, _, _ => none
noncomputable def xSs (C : CallT) (G : List D) : MSs → Env → Cells → Option (Nat × Cells)
  | .nil, _, _ => none
  | .cons s r, ρ, st => match eS C G s ρ st with
    | some (.nx ρ1 st1) => xSs C G r ρ1 st1
    | some _ => none
    | none => xS C G s ρ st
end

/-- a def: its name, its names by slot (parameters first), how many parameters, its body -/
structure Def where
  name : Str
  N : List Str
  k : Nat
  body : MSs
/-- err: the number of the law's look at errors, if it has one -/
structure Prog where
  fns : List Def
  gls : List (Str × D)
  err : Option Nat := none
  exc : List Nat := []

def start (n : Nat) (ds : List D) : Env := ds.map .dat ++ List.replicate (n - ds.length) .un
noncomputable def runDef (C : CallT) (G : List D) (d : Def) (ds : List D) (st : Cells) : Option (D × Cells) :=
  if ds.length = d.k then (eSs C G d.body (start d.N.length ds) st).bind fun o => match o with
    | .nx _ st' => some (.non, st')
    | .ret x st' => some (x, st')
    | _ => none
  else none
/-- what a def raises -/
noncomputable def runDefX (C : CallT) (G : List D) (d : Def) (ds : List D) (st : Cells) : Option (D × Cells) :=
  if ds.length = d.k then (xSs C G d.body (start d.N.length ds) st).map fun r => (.int r.1, r.2) else none
noncomputable def callN (T : Prog) : Nat → CallT
  | 0 => fun _ _ _ => none
  | n + 1 => fun i ds st => match T.fns[i]? with
    | some d => runDef (callN T n) (T.gls.map (·.2)) d ds st
    | none => if XB ≤ i then (T.fns[i - XB]?).bind fun d => runDefX (callN T n) (T.gls.map (·.2)) d ds st else none
end Sf
/-! SfHk: what the head looks at. -/
namespace Sf
open PySem PySem.Spec PyProof.Rows L2

def bltNames : List String := ["len", "abs", "sum", "max", "min", "int", "tuple", "list", "sorted", "isinstance", "range", "enumerate", "zip", "reversed", "str", "bool", "set", "ValueError"]
abbrev exA (K : PySem.W.Frag) (k : Nat) : Addr := He.ga K (exName k)
mutual
def cstB (K : PySem.W.Frag) : D → Value → Bool
  | .non, v => (match v with
    | .none => true
    | _ => false)
  | .bl b, v => (match v with
    | .bool b' => decide (b = b')
    | _ => false)
  | .int i, v => (match v with
    | .int j _ => decide (j = i)
    | _ => false)
  | .str s, v => (match v with
    | .str y _ => decide (y.cps.toList = s)
    | _ => false)
  | .tup ds, v => (match v with
    | .ref a => (match K.lookup a with
      | some ⟨.type c, none, .seq its _, _⟩ => decide (c = "tuple") && (decide (its.size ≤ sizeLine) && cstBs K ds its.toList)
      | _ => false)
    | _ => false)
  | _, _ => false
def cstBs (K : PySem.W.Frag) : List D → List Value → Bool
  | [], vs => vs.isEmpty
  | d :: ds, vs => (match vs with
    | v :: vs => cstB K d v && cstBs K ds vs
    | [] => false)
end
def glBq (K : PySem.W.Frag) (p : Str × D) : Bool := match PySem.W.nsIn K mainGlobals p.1 with
  | some (some u) => cstB K p.2 u
  | _ => false

abbrev AlG : Type := He.AlD × Bool
/-- the exceptions' classes stand as they should -/
def exB1 (K : PySem.W.Frag) (k : Nat) : Bool := (He.Fa.glo (exName k)).ok K && ((He.Fa.exc (exName k)).ok K && (He.eqO (PySem.W.findIn K (.ref (exA K k)) "__getattribute__") (some (some (.builtin "BaseException.__getattribute__"))) &&
  (He.eqO (PySem.W.findIn K (.ref (exA K k)) "__getattr__") (some none) && (decide (PySem.W.subIn K (.ref (exA K k)) (.type "BaseException") = some true) && (PySem.W.hasDictIn K (exA K k) && (He.eqO (PySem.W.findIn K (.ref (exA K k)) "__class__") (some (some (.builtin "object.__class__"))) &&
  (He.eqO (PySem.W.specialIn K (.builtin "object.__class__") "__get__") (some (some (.builtin "getset_descriptor.__get__"))) && (decide (PySem.W.takesIn K (.builtin "object.__class__") = some true) && (decide (PySem.W.mroIn K (exA K k) (.type "object") = some true) &&
  decide (PySem.W.kitOne K (.ref (exA K k)) (.type "ValueError") = some true))))))))))
def exB2 (K : PySem.W.Frag) (k l : Nat) : Bool := decide (PySem.W.kitOne K (.ref (exA K k)) (.ref (exA K l)) = some (isSub k l)) && decide (PySem.W.exmOne K (.ref (exA K k)) (.ref (exA K l)) = some (isSub k l))
def exB (K : PySem.W.Frag) (L : List Nat) : Bool := L.all fun k => exB1 K k && L.all fun l => exB2 K k l
def obsC (fa : List He.Fa) (fn : List He.DefD) (gs : List (Str × D)) (ex : List Nat) (K : PySem.W.Frag) : AlG := (He.obsD fa fn K, gs.all (glBq K) && exB K ex)
def valC (fn : List He.DefD) : AlG := (He.valD fn, true)
def obsCG (n : Nat) (fa : List He.Fa) (fn : List He.DefD) (gs : List (Str × D)) (ex : List Nat) (g : Addr → Option Obj) : AlG := obsC fa fn gs ex (He.frG g (He.asD g n))
def SaysC (fa : List He.Fa) (fn : List He.DefD) (gs : List (Str × D)) (ex : List Nat) (K : PySem.W.Frag) : Prop := obsC fa fn gs ex K = valC fn
def hookC (n : Nat) (fa : List He.Fa) (fn : List He.DefD) (gs : List (Str × D)) (ex : List Nat) : PySem.W.Hook where
  α := AlG
  obs := fun s => obsCG n fa fn gs ex s.heap.get?
  val := fun _ => valC fn
  says := fun _ h => ∃ K : PySem.W.Frag, K.In h ∧ SaysC fa fn gs ex K
  of := fun _ _ e => ⟨_, He.frG_in, e⟩
  keeps := fun _ _ _ ⟨K, hK, c⟩ k => ⟨K, PySem.W.Frag.In.keeps hK k, c⟩
theorem obsCG_eq {n : Nat} {fa : List He.Fa} {fn : List He.DefD} {gs : List (Str × D)} {ex : List Nat} {g : Addr → Option Obj} {s : Shared} (h : ∀ a, g a = s.heap.get? a) : obsCG n fa fn gs ex g = (hookC n fa fn gs ex).obs s := by
  have e : g = s.heap.get? := funext h
  rw [e] <;> rfl
/-- the defs as data of the head -/
def dOf (d : Def) (st : Stmt) : He.DefD := ⟨(d.name, none), d.name, d.name, defArgs st, defBody st, defScope st, [], []⟩
def fnOf_ (T : Prog) (sts : List Stmt) : List He.DefD := List.zipWith dOf T.fns sts
def faOf (T : Prog) : List He.Fa := bltNames.map (fun x => .free (Str.ofString x)) ++ T.fns.map fun d => .glo d.name

end Sf
namespace K76
open PySem Sf
def top (i : Nat) : Stmt := PySem.Challenge.pw_standsfast_k76_whole_programs_ring_by_te.main.body.getD i (.Pass ⟨0, 0, 0, 0⟩)
/-- is_word -/
def b_is_word : MSs := .cons (.ret (.ch .le .le (.gl 9) (.v 0) (.gl 10))) .nil
def f_is_word : Def := ⟨"is_word", ["n"], 1, b_is_word⟩
/-- result_of -/
def b_result_of : MSs := .cons (.iff (.cmp .eq (.v 0) (.gl 2)) (.cons (.ret (.bin .mul (.v 1) (.v 2))) .nil) .nil) (.cons (.iff (.cmp .eq (.v 0) (.gl 3)) (.cons (.ret (.bin .add (.v 1) (.v 2))) .nil) .nil) (.cons (.iff (.cmp .eq (.v 0) (.gl 4)) (.cons (.ret (.bin .sub (.v 1) (.v 2))) .nil) .nil) (.cons (.ret (.bi .int (.cons (.cmp .ge (.v 1) (.v 2)) .nil))) .nil)))
def f_result_of : Def := ⟨"result_of", ["word", "a", "b"], 3, b_result_of⟩
/-- grown -/
def b_grown : MSs := .cons (.set 3 (.v 2)) (.cons (.iff (.cmp .eq (.ix (.v 0) (.int 0)) (.gl 0)) (.cons (.set 4 (.ix (.v 0) (.int 1))) .nil) (.cons (.iff (.cmp .eq (.ix (.v 0) (.int 0)) (.gl 1)) (.cons (.set 4 (.ix (.v 1) (.ix (.v 0) (.int 1)))) .nil) (.cons (.iff (.cmp .lt (.bi .len (.cons (.v 2) .nil)) (.int 2)) (.cons (.ret .non) .nil) (.cons (.set 4 (.call 1 (.cons (.ix (.v 0) (.int 0)) (.cons (.ix (.v 2) (.neg (.int 2))) (.cons (.ix (.v 2) (.neg (.int 1))) .nil))))) (.cons (.set 3 (.sl (.v 2) .none (.some (.neg (.int 2))))) .nil))) .nil)) .nil)) (.cons (.iff (.bop false (.cons (.isN false (.v 4)) (.cons (.not (.tr (.call 0 (.cons (.v 4) .nil)))) (.cons (.cmp .eq (.bi .len (.cons (.v 3) .nil)) (.gl 11)) .nil)))) (.cons (.ret .non) .nil) .nil) (.cons (.ret (.bin .add (.v 3) (.tup (.cons (.v 4) .nil)))) .nil)))
def f_grown : Def := ⟨"grown", ["instruction", "turn", "stack", "rest", "number"], 3, b_grown⟩
/-- stepped -/
def b_stepped : MSs := .cons (.set 4 (.ix (.v 0) (.v 2))) (.cons (.iff (.cmp .eq (.ix (.v 4) (.int 0)) (.gl 8)) (.cons (.ret (.tup (.cons (.gl 15) .nil))) .nil) .nil) (.cons (.iff (.cmp .eq (.ix (.v 4) (.int 0)) (.gl 7)) (.cons (.ret (.tup (.cons (.gl 14) (.cons (.ite (.isN false (.ix (.v 1) (.ix (.v 4) (.int 1)))) (.ix (.v 4) (.int 2)) (.bin .add (.v 2) (.int 1))) (.cons (.v 3) .nil))))) .nil) .nil) (.cons (.iff (.cmp .eq (.ix (.v 4) (.int 0)) (.gl 6)) (.cons (.iff (.cmp .eq (.v 3) (.tup .nil)) (.cons (.ret (.tup (.cons (.gl 17) (.cons (.v 2) .nil)))) .nil) .nil) (.cons (.ret (.ite (.cmp .ne (.ix (.v 3) (.neg (.int 1))) (.int 0)) (.tup (.cons (.gl 16) (.cons (.ix (.v 4) (.int 1)) .nil))) (.tup (.cons (.gl 14) (.cons (.bin .add (.v 2) (.int 1)) (.cons (.sl (.v 3) .none (.some (.neg (.int 1)))) .nil)))))) .nil)) .nil) (.cons (.set 3 (.call 2 (.cons (.v 4) (.cons (.v 1) (.cons (.v 3) .nil))))) (.cons (.ret (.ite (.isN false (.v 3)) (.tup (.cons (.gl 17) (.cons (.v 2) .nil))) (.tup (.cons (.gl 14) (.cons (.bin .add (.v 2) (.int 1)) (.cons (.v 3) .nil)))))) .nil)))))
def f_stepped : Def := ⟨"stepped", ["program", "turn", "place", "stack", "instruction"], 4, b_stepped⟩
/-- trace -/
def b_trace : MSs := .cons (.own 2 (.lst (.cons (.tup (.cons (.int 0) (.cons (.tup .nil) .nil))) .nil))) (.cons (.forr (.nm 3) (.rng1 (.bi .len (.cons (.v 0) .nil))) (.cons (.set 4 (.call 3 (.cons (.v 0) (.cons (.v 1) (.cons (.ix (.ix (.v 2) (.neg (.int 1))) (.int 0)) (.cons (.ix (.ix (.v 2) (.neg (.int 1))) (.int 1)) .nil)))))) (.cons (.iff (.cmp .ne (.ix (.v 4) (.int 0)) (.gl 14)) (.cons (.frz 2) (.cons (.ret (.tup (.cons (.v 2) (.cons (.v 4) .nil)))) .nil)) .nil) (.cons (.app 2 (.sl (.v 4) (.some (.int 1)) .none)) .nil)))) (.cons (.frz 2) (.cons (.ret (.tup (.cons (.v 2) (.cons (.tup (.cons (.gl 17) (.cons (.ix (.ix (.v 2) (.neg (.int 1))) (.int 0)) .nil))) .nil)))) .nil)))
def f_trace : Def := ⟨"trace", ["program", "turn", "states", "k", "found"], 2, b_trace⟩
/-- run -/
def b_run : MSs := .cons (.ret (.ix (.call 4 (.cons (.v 0) (.cons (.v 1) .nil))) (.int 1))) .nil
def f_run : Def := ⟨"run", ["program", "turn"], 2, b_run⟩
/-- is_range -/
def b_is_range : MSs := .cons (.ret (.bop true (.cons (.call 0 (.cons (.ix (.v 0) (.int 0)) .nil)) (.cons (.call 0 (.cons (.ix (.v 0) (.int 1)) .nil)) (.cons (.cmp .le (.ix (.v 0) (.int 0)) (.ix (.v 0) (.int 1))) .nil))))) .nil
def f_is_range : Def := ⟨"is_range", ["pair"], 1, b_is_range⟩
/-- are_ranges -/
def b_are_ranges : MSs := .cons (.ret (.bop true (.cons (.cmp .le (.bi .len (.cons (.v 0) .nil)) (.gl 18)) (.cons (.cmp .eq (.bi .len (.cons (.lc [("pair", 1)] (.nm 1) (.seq (.v 0)) (.some (.not (.tr (.call 6 (.cons (.v 1) .nil))))) (.int 1)) .nil)) (.int 0)) .nil)))) .nil
def f_are_ranges : Def := ⟨"are_ranges", ["ranges", "pair"], 1, b_are_ranges⟩
/-- range_result -/
def b_range_result : MSs := .cons (.iff (.cmp .eq (.v 0) (.gl 2)) (.cons (.set 5 (.lc2 [("a", 3), ("b", 4)] [4] (.nm 3) (.seq (.v 1)) (.nm 4) (.seq (.v 2)) (.bin .mul (.v 3) (.v 4)))) (.cons (.ret (.tup (.cons (.bi .minl (.cons (.v 5) .nil)) (.cons (.bi .maxl (.cons (.v 5) .nil)) .nil)))) .nil)) .nil) (.cons (.iff (.cmp .eq (.v 0) (.gl 3)) (.cons (.ret (.tup (.cons (.bin .add (.ix (.v 1) (.int 0)) (.ix (.v 2) (.int 0))) (.cons (.bin .add (.ix (.v 1) (.int 1)) (.ix (.v 2) (.int 1))) .nil)))) .nil) .nil) (.cons (.iff (.cmp .eq (.v 0) (.gl 4)) (.cons (.ret (.tup (.cons (.bin .sub (.ix (.v 1) (.int 0)) (.ix (.v 2) (.int 1))) (.cons (.bin .sub (.ix (.v 1) (.int 1)) (.ix (.v 2) (.int 0))) .nil)))) .nil) .nil) (.cons (.ret (.tup (.cons (.int 0) (.cons (.int 1) .nil)))) .nil)))
def f_range_result : Def := ⟨"range_result", ["word", "first", "second", "a", "b", "ends"], 3, b_range_result⟩
/-- range_grown -/
def b_range_grown : MSs := .cons (.unp (.tup (.tcons (.nm 3) (.tcons (.nm 4) .tnil))) (.v 2)) (.cons (.set 5 (.v 3)) (.cons (.iff (.cmp .eq (.ix (.v 0) (.int 0)) (.gl 0)) (.cons (.set 6 (.tup (.cons (.ix (.v 0) (.int 1)) (.cons (.ix (.v 0) (.int 1)) .nil)))) .nil) (.cons (.iff (.cmp .eq (.ix (.v 0) (.int 0)) (.gl 1)) (.cons (.iff (.cmp .notin (.ix (.v 0) (.int 1)) (.v 4)) (.cons (.ret .non) .nil) .nil) (.cons (.set 6 (.ix (.v 1) (.ix (.v 0) (.int 1)))) .nil)) (.cons (.iff (.cmp .lt (.bi .len (.cons (.v 3) .nil)) (.int 2)) (.cons (.ret .non) .nil) (.cons (.set 6 (.call 8 (.cons (.ix (.v 0) (.int 0)) (.cons (.ix (.v 3) (.neg (.int 2))) (.cons (.ix (.v 3) (.neg (.int 1))) .nil))))) (.cons (.set 5 (.sl (.v 3) .none (.some (.neg (.int 2))))) .nil))) .nil)) .nil)) (.cons (.iff (.bop false (.cons (.not (.tr (.call 6 (.cons (.v 6) .nil)))) (.cons (.cmp .eq (.bi .len (.cons (.v 5) .nil)) (.gl 11)) .nil))) (.cons (.ret .non) .nil) .nil) (.cons (.ret (.bin .add (.v 5) (.tup (.cons (.v 6) .nil)))) .nil))))
def f_range_grown : Def := ⟨"range_grown", ["instruction", "ranges", "entry", "stack", "told", "rest", "made"], 3, b_range_grown⟩
/-- with_told -/
def b_with_told : MSs := .cons (.ret (.bi .tuple (.cons (.sset (.bin .add (.v 0) (.tup (.cons (.v 1) .nil)))) .nil))) .nil
def f_with_told : Def := ⟨"with_told", ["told", "g"], 2, b_with_told⟩
/-- outcomes -/
def b_outcomes : MSs := .cons (.set 4 (.ix (.v 0) (.v 2))) (.cons (.unp (.tup (.tcons (.nm 5) (.tcons (.nm 6) .tnil))) (.v 3)) (.cons (.iff (.cmp .eq (.ix (.v 4) (.int 0)) (.gl 8)) (.cons (.ret (.lst .nil)) .nil) .nil) (.cons (.iff (.cmp .eq (.ix (.v 4) (.int 0)) (.gl 7)) (.cons (.ret (.lst (.cons (.tup (.cons (.bin .add (.v 2) (.int 1)) (.cons (.tup (.cons (.v 5) (.cons (.call 10 (.cons (.v 6) (.cons (.ix (.v 4) (.int 1)) .nil))) .nil))) .nil))) (.cons (.tup (.cons (.ix (.v 4) (.int 2)) (.cons (.v 3) .nil))) .nil)))) .nil) .nil) (.cons (.iff (.cmp .eq (.ix (.v 4) (.int 0)) (.gl 6)) (.cons (.ret (.ite (.cmp .eq (.v 5) (.tup .nil)) .non (.lst (.cons (.tup (.cons (.bin .add (.v 2) (.int 1)) (.cons (.tup (.cons (.sl (.v 5) .none (.some (.neg (.int 1)))) (.cons (.v 6) .nil))) .nil))) .nil)))) .nil) .nil) (.cons (.set 5 (.call 9 (.cons (.v 4) (.cons (.v 1) (.cons (.v 3) .nil))))) (.cons (.ret (.ite (.isN false (.v 5)) .non (.lst (.cons (.tup (.cons (.bin .add (.v 2) (.int 1)) (.cons (.tup (.cons (.v 5) (.cons (.v 6) .nil))) .nil))) .nil)))) .nil))))))
def f_outcomes : Def := ⟨"outcomes", ["program", "ranges", "place", "entry", "instruction", "stack", "told"], 4, b_outcomes⟩
/-- put_together -/
def b_put_together : MSs := .cons (.iff (.isN false (.v 0)) (.cons (.ret (.v 1)) .nil) .nil) (.cons (.set 4 (.lc [("first", 2), ("second", 3)] (.tup (.tcons (.nm 2) (.tcons (.nm 3) .tnil))) (.zip (.ix (.v 0) (.int 0)) (.ix (.v 1) (.int 0))) .none (.tup (.cons (.bi .min2 (.cons (.ix (.v 2) (.int 0)) (.cons (.ix (.v 3) (.int 0)) .nil))) (.cons (.bi .max2 (.cons (.ix (.v 2) (.int 1)) (.cons (.ix (.v 3) (.int 1)) .nil))) .nil))))) (.cons (.ret (.tup (.cons (.bi .tuple (.cons (.v 4) .nil)) (.cons (.bi .tuple (.cons (.lc [("g", 5)] (.nm 5) (.seq (.ix (.v 0) (.int 1))) (.some (.cmp .inn (.v 5) (.ix (.v 1) (.int 1)))) (.v 5)) .nil)) .nil)))) .nil))
def f_put_together : Def := ⟨"put_together", ["one", "other", "first", "second", "stack", "g"], 2, b_put_together⟩
/-- chart_of -/
def b_chart_of : MSs := .cons (.own 2 (.bin .mul (.lst (.cons .non .nil)) (.bi .len (.cons (.v 0) .nil)))) (.cons (.setIx 2 (.int 0) (.tup (.cons (.tup .nil) (.cons (.tup .nil) .nil)))) (.cons (.forr (.nm 3) (.rng1 (.bi .len (.cons (.v 0) .nil))) (.cons (.iff (.isN true (.ix (.v 2) (.v 3))) (.cons (.set 4 (.call 11 (.cons (.v 0) (.cons (.v 1) (.cons (.v 3) (.cons (.ix (.v 2) (.v 3)) .nil)))))) (.cons (.iff (.isN false (.v 4)) (.cons (.ret .non) .nil) .nil) (.cons (.forr (.tup (.tcons (.nm 5) (.tcons (.nm 6) .tnil))) (.seq (.v 4)) (.cons (.iff (.bop true (.cons (.isN true (.ix (.v 2) (.v 5))) (.cons (.cmp .ne (.bi .len (.cons (.ix (.ix (.v 2) (.v 5)) (.int 0)) .nil)) (.bi .len (.cons (.ix (.v 6) (.int 0)) .nil))) .nil))) (.cons (.ret .non) .nil) .nil) (.cons (.setIx 2 (.v 5) (.call 12 (.cons (.ix (.v 2) (.v 5)) (.cons (.v 6) .nil)))) .nil))) .nil))) .nil) .nil)) (.cons (.ret (.bi .tuple (.cons (.v 2) .nil))) .nil)))
def f_chart_of : Def := ⟨"chart_of", ["program", "ranges", "chart", "place", "found", "there", "entry"], 2, b_chart_of⟩
/-- used_gauges -/
def b_used_gauges : MSs := .cons (.ret (.lc [("g", 1), ("a", 2)] (.tup (.tcons (.nm 1) (.tcons (.nm 2) .tnil))) (.enum (.ix (.v 0) (.int 0))) (.some (.cmp .ne (.v 2) (.int 0))) (.v 1))) .nil
def f_used_gauges : Def := ⟨"used_gauges", ["test", "g", "a"], 1, b_used_gauges⟩
/-- product_range -/
def b_product_range : MSs := .cons (.set 2 (.lst (.cons (.bin .mul (.v 0) (.ix (.v 1) (.int 0))) (.cons (.bin .mul (.v 0) (.ix (.v 1) (.int 1))) .nil)))) (.cons (.ret (.tup (.cons (.bi .minl (.cons (.v 2) .nil)) (.cons (.bi .maxl (.cons (.v 2) .nil)) .nil)))) .nil)
def f_product_range : Def := ⟨"product_range", ["a", "pair", "ends"], 2, b_product_range⟩
/-- sum_ranges -/
def b_sum_ranges : MSs := .cons (.own 2 (.lst (.cons (.tup (.cons (.int 0) (.cons (.int 0) .nil))) .nil))) (.cons (.forr (.nm 3) (.seq (.call 14 (.cons (.v 0) .nil))) (.cons (.set 4 (.call 15 (.cons (.ix (.ix (.v 0) (.int 0)) (.v 3)) (.cons (.ix (.v 1) (.v 3)) .nil)))) (.cons (.app 2 (.tup (.cons (.bin .add (.ix (.ix (.v 2) (.neg (.int 1))) (.int 0)) (.ix (.v 4) (.int 0))) (.cons (.bin .add (.ix (.ix (.v 2) (.neg (.int 1))) (.int 1)) (.ix (.v 4) (.int 1))) .nil)))) .nil))) (.cons (.ret (.v 2)) .nil))
def f_sum_ranges : Def := ⟨"sum_ranges", ["test", "ranges", "found", "g", "pair"], 2, b_sum_ranges⟩
/-- may_ring -/
def b_may_ring : MSs := .cons (.ret (.cmp .gt (.ix (.ix (.call 16 (.cons (.v 0) (.cons (.v 1) .nil))) (.neg (.int 1))) (.int 1)) (.ix (.v 0) (.int 1)))) .nil
def f_may_ring : Def := ⟨"may_ring", ["test", "ranges"], 2, b_may_ring⟩
/-- is_worded -/
def b_is_worded : MSs := .cons (.own 2 (.bi .list (.cons (.call 16 (.cons (.v 0) (.cons (.v 1) .nil))) .nil))) (.cons (.forr (.nm 3) (.seq (.call 14 (.cons (.v 0) .nil))) (.cons (.app 2 (.call 15 (.cons (.ix (.ix (.v 0) (.int 0)) (.v 3)) (.cons (.ix (.v 1) (.v 3)) .nil)))) (.cons (.app 2 (.tup (.cons (.ix (.ix (.v 0) (.int 0)) (.v 3)) (.cons (.ix (.ix (.v 0) (.int 0)) (.v 3)) .nil)))) .nil))) (.cons (.ret (.cmp .eq (.bi .len (.cons (.lc [("low", 4), ("high", 5)] (.tup (.tcons (.nm 4) (.tcons (.nm 5) .tnil))) (.seq (.v 2)) (.some (.bop false (.cons (.not (.tr (.call 0 (.cons (.v 4) .nil)))) (.cons (.not (.tr (.call 0 (.cons (.v 5) .nil)))) .nil)))) (.int 1)) .nil)) (.int 0))) .nil))
def f_is_worded : Def := ⟨"is_worded", ["test", "ranges", "pairs", "g", "low", "high"], 2, b_is_worded⟩
/-- sum_code -/
def b_sum_code : MSs := .cons (.set 1 (.call 14 (.cons (.v 0) .nil))) (.cons (.iff (.cmp .eq (.v 1) (.lst .nil)) (.cons (.ret (.lst (.cons (.tup (.cons (.gl 0) (.cons (.int 0) .nil))) .nil))) .nil) .nil) (.cons (.own 2 (.lst .nil)) (.cons (.forr (.tup (.tcons (.nm 3) (.tcons (.nm 4) .tnil))) (.enum (.v 1)) (.cons (.own 2 (.bin .add (.v 2) (.lst (.cons (.tup (.cons (.gl 1) (.cons (.v 4) .nil))) (.cons (.tup (.cons (.gl 0) (.cons (.ix (.ix (.v 0) (.int 0)) (.v 4)) .nil))) (.cons (.tup (.cons (.gl 2) .nil)) .nil)))))) (.cons (.iff (.cmp .gt (.v 3) (.int 0)) (.cons (.app 2 (.tup (.cons (.gl 3) .nil))) .nil) .nil) .nil))) (.cons (.ret (.v 2)) .nil))))
def f_sum_code : Def := ⟨"sum_code", ["test", "used", "found", "k", "g"], 1, b_sum_code⟩
/-- test_code -/
def b_test_code : MSs := .cons (.set 4 (.bi .max2 (.cons (.bin .add (.ix (.v 1) (.int 1)) (.int 1)) (.cons (.ix (.ix (.call 16 (.cons (.v 1) (.cons (.v 2) .nil))) (.neg (.int 1))) (.int 0)) .nil)))) (.cons (.set 5 (.bin .add (.call 19 (.cons (.v 1) .nil)) (.lst (.cons (.tup (.cons (.gl 0) (.cons (.v 4) .nil))) (.cons (.tup (.cons (.gl 5) .nil)) (.cons (.tup (.cons (.gl 6) (.cons (.v 0) .nil))) .nil)))))) (.cons (.set 6 (.call 14 (.cons (.v 1) .nil))) (.cons (.set 7 (.bin .add (.bin .add (.v 3) (.bi .len (.cons (.v 6) .nil))) (.bi .len (.cons (.v 5) .nil)))) (.cons (.ret (.bin .add (.lc [("g", 8)] (.nm 8) (.seq (.v 6)) .none (.tup (.cons (.gl 7) (.cons (.v 8) (.cons (.v 7) .nil))))) (.v 5))) .nil))))
def f_test_code : Def := ⟨"test_code", ["k", "test", "ranges", "start", "least", "body", "used", "behind", "g"], 4, b_test_code⟩
/-- program_of -/
def b_program_of : MSs := .cons (.iff (.bop false (.cons (.not (.tr (.call 7 (.cons (.v 1) .nil)))) (.cons (.cmp .gt (.bi .len (.cons (.v 0) .nil)) (.gl 13)) .nil))) (.cons (.rais 2) .nil) .nil) (.cons (.own 2 (.lst .nil)) (.cons (.forr (.tup (.tcons (.nm 3) (.tcons (.nm 4) .tnil))) (.enum (.v 0)) (.cons (.iff (.tr (.call 17 (.cons (.v 4) (.cons (.v 1) .nil)))) (.cons (.iff (.not (.tr (.call 18 (.cons (.v 4) (.cons (.v 1) .nil))))) (.cons (.rais 2) .nil) .nil) (.cons (.own 2 (.bin .add (.v 2) (.call 20 (.cons (.v 3) (.cons (.v 4) (.cons (.v 1) (.cons (.bi .len (.cons (.v 2) .nil)) .nil))))))) .nil)) .nil) .nil)) (.cons (.app 2 (.tup (.cons (.gl 8) .nil))) (.cons (.iff (.cmp .gt (.bi .len (.cons (.v 2) .nil)) (.gl 12)) (.cons (.rais 2) .nil) .nil) (.cons (.ret (.bi .tuple (.cons (.v 2) .nil))) .nil)))))
def f_program_of : Def := ⟨"program_of", ["tests", "ranges", "found", "k", "test"], 2, b_program_of⟩
/-- _law_deal -/
def b__law_deal : MSs := .cons (.own 1 (.lst .nil)) (.cons (.forr (.nm 2) (.rng1 (.bi .min2 (.cons (.bi .len (.cons (.v 0) .nil)) (.cons (.int 63) .nil)))) (.cons (.set 3 (.bi .abs (.cons (.bi .int (.cons (.ix (.v 0) (.v 2)) .nil)) .nil))) (.cons (.iff (.cmp .ge (.v 3) (.bin .pow (.int 10) (.int 18))) (.cons (.forr (.nm 4) (.rng1 (.int 40)) (.cons (.iff (.cmp .gt (.v 3) (.int 0)) (.cons (.app 1 (.bin .mod (.v 3) (.int 1009))) (.cons (.set 3 (.bin .fdiv (.v 3) (.int 1009))) .nil)) .nil) .nil)) .nil) (.cons (.set 3 (.bin .add (.bin .add (.bin .mul (.bin .mod (.v 3) (.int 2147483629)) (.int 48271)) (.bin .mul (.v 2) (.int 69621))) (.int 11))) (.cons (.forr (.nm 4) (.rng1 (.int 5)) (.cons (.set 3 (.bin .mod (.bin .add (.bin .add (.bin .mul (.v 3) (.int 16807)) (.int 12345)) (.v 4)) (.int 2147483647))) (.cons (.app 1 (.bin .mod (.bin .fdiv (.v 3) (.int 7)) (.int 1009))) .nil))) .nil))) .nil))) (.cons (.set 5 (.bin .add (.bi .sum (.cons (.v 1) .nil)) (.bi .len (.cons (.v 0) .nil)))) (.cons (.frz 1) (.cons (.ret (.lst (.cons (.v 1) (.cons (.cell (.cons (.int 0) .nil)) (.cons (.v 5) .nil))))) .nil))))
def f__law_deal : Def := ⟨"_law_deal", ["script", "row", "k", "cell", "turn", "total"], 1, b__law_deal⟩
/-- _law_take -/
def b__law_take : MSs := .cons (.set 2 (.ix (.ix (.v 0) (.int 1)) (.int 0))) (.cons (.setCell (.ix (.v 0) (.int 1)) (.int 0) (.bin .add (.v 2) (.int 1))) (.cons (.iff (.cmp .lt (.v 2) (.bi .len (.cons (.ix (.v 0) (.int 0)) .nil))) (.cons (.ret (.bin .mod (.ix (.ix (.v 0) (.int 0)) (.v 2)) (.v 1))) .nil) .nil) (.cons (.set 3 (.bin .mod (.bin .add (.bin .add (.bin .mul (.v 2) (.int 7919)) (.bin .mul (.ix (.v 0) (.int 2)) (.int 31))) (.int 17)) (.int 2147483629))) (.cons (.forr (.nm 4) (.rng1 (.int 3)) (.cons (.set 3 (.bin .mod (.bin .add (.bin .add (.bin .mul (.v 3) (.v 3)) (.bin .mul (.int 48271) (.v 2))) (.int 12345)) (.int 2147483647))) .nil)) (.cons (.ret (.bin .mod (.bin .fdiv (.v 3) (.int 7)) (.v 1))) .nil)))))
def f__law_take : Def := ⟨"_law_take", ["deal", "many", "at", "cell", "turn"], 2, b__law_take⟩
/-- _law_same -/
def b__law_same : MSs := .cons (.iff (.bop false (.cons (.tr (.bi .isTup (.cons (.v 1) .nil))) (.cons (.tr (.bi .isList (.cons (.v 1) .nil))) .nil))) (.cons (.iff (.bop false (.cons (.bop true (.cons (.tr (.bi .isTup (.cons (.v 1) .nil))) (.cons (.not (.tr (.bi .isTup (.cons (.v 0) .nil)))) .nil))) (.cons (.bop true (.cons (.tr (.bi .isList (.cons (.v 1) .nil))) (.cons (.not (.tr (.bi .isList (.cons (.v 0) .nil)))) .nil))) .nil))) (.cons (.ret (.bl false)) .nil) .nil) (.cons (.iff (.cmp .ne (.bi .len (.cons (.v 0) .nil)) (.bi .len (.cons (.v 1) .nil))) (.cons (.ret (.bl false)) .nil) .nil) (.cons (.forr (.nm 2) (.rng1 (.bi .len (.cons (.v 1) .nil))) (.cons (.iff (.not (.tr (.call 24 (.cons (.ix (.v 0) (.v 2)) (.cons (.ix (.v 1) (.v 2)) .nil))))) (.cons (.ret (.bl false)) .nil) .nil) .nil)) (.cons (.ret (.bl true)) .nil)))) .nil) (.cons (.iff (.bop false (.cons (.tr (.bi .isBool (.cons (.v 0) .nil))) (.cons (.tr (.bi .isBool (.cons (.v 1) .nil))) .nil))) (.cons (.ret (.bop true (.cons (.bi .isBool (.cons (.v 0) .nil)) (.cons (.bi .isBool (.cons (.v 1) .nil)) (.cons (.cmp .eq (.v 0) (.v 1)) .nil))))) .nil) .nil) (.cons (.iff (.tr (.bi .isInt (.cons (.v 1) .nil))) (.cons (.ret (.bop true (.cons (.bi .isInt (.cons (.v 0) .nil)) (.cons (.cmp .eq (.v 0) (.v 1)) .nil)))) .nil) .nil) (.cons (.iff (.tr (.bi .isStr (.cons (.v 1) .nil))) (.cons (.ret (.bop true (.cons (.bi .isStr (.cons (.v 0) .nil)) (.cons (.cmp .eq (.v 0) (.v 1)) .nil)))) .nil) .nil) (.cons (.ret (.bop true (.cons (.isN false (.v 0)) (.cons (.isN false (.v 1)) .nil)))) .nil))))
def f__law_same : Def := ⟨"_law_same", ["a", "b", "k"], 2, b__law_same⟩
/-- _law_bool -/
def b__law_bool : MSs := .cons (.ret (.bop true (.cons (.bi .isBool (.cons (.v 0) .nil)) (.cons (.cmp .eq (.v 0) (.v 1)) .nil)))) .nil
def f__law_bool : Def := ⟨"_law_bool", ["answer", "due"], 2, b__law_bool⟩
/-- _law_with -/
def b__law_with : MSs := .cons (.ret (.bin .add (.bin .add (.sl (.v 0) .none (.some (.v 1))) (.tup (.cons (.v 2) .nil))) (.sl (.v 0) (.some (.bin .add (.v 1) (.int 1))) .none))) .nil
def f__law_with : Def := ⟨"_law_with", ["row", "k", "thing"], 3, b__law_with⟩
/-- _law_wholes_sum -/
def b__law_wholes_sum : MSs := .cons (.set 2 (.int 0)) (.cons (.forr (.nm 3) (.rng1 (.bi .len (.cons (.v 0) .nil))) (.cons (.set 2 (.bin .add (.v 2) (.bin .mul (.ix (.v 0) (.v 3)) (.ix (.v 1) (.v 3))))) .nil)) (.cons (.ret (.v 2)) .nil))
def f__law_wholes_sum : Def := ⟨"_law_wholes_sum", ["row", "wholes", "total", "g"], 2, b__law_wholes_sum⟩
/-- _law_breaks -/
def b__law_breaks : MSs := .cons (.iff (.cmp .gt (.bi .len (.cons (.lc [("g", 2)] (.nm 2) (.rng1 (.bi .len (.cons (.v 1) .nil))) (.some (.bop true (.cons (.cmp .ne (.ix (.ix (.v 0) (.int 0)) (.v 2)) (.int 0)) (.cons (.isN false (.ix (.v 1) (.v 2))) .nil)))) (.v 2)) .nil)) (.int 0)) (.cons (.ret (.bl false)) .nil) .nil) (.cons (.ret (.cmp .gt (.call 27 (.cons (.ix (.v 0) (.int 0)) (.cons (.lc [("r", 3)] (.nm 3) (.seq (.v 1)) .none (.ite (.isN false (.v 3)) (.int 0) (.v 3))) .nil))) (.ix (.v 0) (.int 1)))) .nil)
def f__law_breaks : Def := ⟨"_law_breaks", ["test", "turn", "g", "r"], 2, b__law_breaks⟩
/-- _law_first_ring -/
def b__law_first_ring : MSs := .cons (.set 3 (.lc [("k", 2)] (.nm 2) (.rng1 (.bi .len (.cons (.v 0) .nil))) (.some (.tr (.call 28 (.cons (.ix (.v 0) (.v 2)) (.cons (.v 1) .nil))))) (.v 2))) (.cons (.ret (.ite (.cmp .eq (.bi .len (.cons (.v 3) .nil)) (.int 0)) .non (.ix (.v 3) (.int 0)))) .nil)
def f__law_first_ring : Def := ⟨"_law_first_ring", ["tests", "turn", "k", "places"], 2, b__law_first_ring⟩
/-- _law_is_word -/
def b__law_is_word : MSs := .cons (.ret (.ch .le .le (.neg (.int 2147483648)) (.v 0) (.int 2147483647))) .nil
def f__law_is_word : Def := ⟨"_law_is_word", ["n"], 1, b__law_is_word⟩
/-- _law_made -/
def b__law_made : MSs := .cons (.iff (.cmp .eq (.ix (.v 0) (.int 0)) (.str [112, 117, 115, 104])) (.cons (.ret (.tup (.cons (.v 2) (.cons (.ix (.v 0) (.int 1)) .nil)))) .nil) .nil) (.cons (.iff (.cmp .eq (.ix (.v 0) (.int 0)) (.str [114, 101, 97, 100, 105, 110, 103])) (.cons (.ret (.tup (.cons (.v 2) (.cons (.ix (.v 1) (.ix (.v 0) (.int 1))) .nil)))) .nil) .nil) (.cons (.iff (.cmp .lt (.bi .len (.cons (.v 2) .nil)) (.int 2)) (.cons (.ret (.tup (.cons (.v 2) (.cons .non .nil)))) .nil) .nil) (.cons (.par 3 4 (.ix (.v 2) (.bin .sub (.bi .len (.cons (.v 2) .nil)) (.int 2))) (.ix (.v 2) (.bin .sub (.bi .len (.cons (.v 2) .nil)) (.int 1)))) (.cons (.set 5 (.sl (.v 2) .none (.some (.bin .sub (.bi .len (.cons (.v 2) .nil)) (.int 2))))) (.cons (.iff (.cmp .eq (.ix (.v 0) (.int 0)) (.str [116, 105, 109, 101, 115])) (.cons (.ret (.tup (.cons (.v 5) (.cons (.bin .mul (.v 3) (.v 4)) .nil)))) .nil) .nil) (.cons (.iff (.cmp .eq (.ix (.v 0) (.int 0)) (.str [97, 100, 100])) (.cons (.ret (.tup (.cons (.v 5) (.cons (.bin .add (.v 3) (.v 4)) .nil)))) .nil) .nil) (.cons (.ret (.ite (.cmp .eq (.ix (.v 0) (.int 0)) (.str [108, 101, 115, 115])) (.tup (.cons (.v 5) (.cons (.bin .sub (.v 3) (.v 4)) .nil))) (.tup (.cons (.v 5) (.cons (.bi .int (.cons (.cmp .ge (.v 3) (.v 4)) .nil)) .nil))))) .nil)))))))
def f__law_made : Def := ⟨"_law_made", ["instruction", "turn", "stack", "a", "b", "rest"], 3, b__law_made⟩
/-- _law_trace -/
def b__law_trace : MSs := .cons (.set 2 (.int 0)) (.cons (.set 3 (.tup .nil)) (.cons (.own 4 (.lst .nil)) (.cons (.forr (.nm 5) (.rng1 (.bi .len (.cons (.v 0) .nil))) (.cons (.app 4 (.tup (.cons (.v 2) (.cons (.v 3) .nil)))) (.cons (.set 6 (.ix (.v 0) (.v 2))) (.cons (.iff (.cmp .eq (.ix (.v 6) (.int 0)) (.str [101, 110, 100])) (.cons (.frz 4) (.cons (.ret (.tup (.cons (.v 4) (.cons (.tup (.cons (.str [115, 105, 108, 101, 110, 116]) .nil)) .nil)))) .nil)) .nil) (.cons (.iff (.cmp .eq (.ix (.v 6) (.int 0)) (.str [115, 107, 105, 112])) (.cons (.set 2 (.ite (.isN false (.ix (.v 1) (.ix (.v 6) (.int 1)))) (.ix (.v 6) (.int 2)) (.bin .add (.v 2) (.int 1)))) .nil) (.cons (.iff (.cmp .eq (.ix (.v 6) (.int 0)) (.str [114, 105, 110, 103])) (.cons (.iff (.cmp .eq (.bi .len (.cons (.v 3) .nil)) (.int 0)) (.cons (.frz 4) (.cons (.ret (.tup (.cons (.v 4) (.cons (.tup (.cons (.str [98, 114, 111, 107, 101, 110]) (.cons (.v 2) .nil))) .nil)))) .nil)) .nil) (.cons (.iff (.cmp .ne (.ix (.v 3) (.bin .sub (.bi .len (.cons (.v 3) .nil)) (.int 1))) (.int 0)) (.cons (.frz 4) (.cons (.ret (.tup (.cons (.v 4) (.cons (.tup (.cons (.str [114, 105, 110, 103, 115]) (.cons (.ix (.v 6) (.int 1)) .nil))) .nil)))) .nil)) .nil) (.cons (.set 3 (.sl (.v 3) .none (.some (.bin .sub (.bi .len (.cons (.v 3) .nil)) (.int 1))))) (.cons (.set 2 (.bin .add (.v 2) (.int 1))) .nil)))) (.cons (.unp (.tup (.tcons (.nm 7) (.tcons (.nm 8) .tnil))) (.call 31 (.cons (.v 6) (.cons (.v 1) (.cons (.v 3) .nil))))) (.cons (.iff (.bop false (.cons (.isN false (.v 8)) (.cons (.not (.tr (.call 30 (.cons (.v 8) .nil)))) (.cons (.cmp .gt (.bi .len (.cons (.v 7) .nil)) (.int 7)) .nil)))) (.cons (.frz 4) (.cons (.ret (.tup (.cons (.v 4) (.cons (.tup (.cons (.str [98, 114, 111, 107, 101, 110]) (.cons (.v 2) .nil))) .nil)))) .nil)) .nil) (.cons (.set 3 (.bin .add (.v 7) (.tup (.cons (.v 8) .nil)))) (.cons (.set 2 (.bin .add (.v 2) (.int 1))) .nil))))) .nil)) .nil))))) (.cons (.frz 4) (.cons (.ret (.tup (.cons (.v 4) (.cons (.tup (.cons (.str [98, 114, 111, 107, 101, 110]) (.cons (.v 2) .nil))) .nil)))) .nil)))))
def f__law_trace : Def := ⟨"_law_trace", ["program", "turn", "place", "stack", "states", "k", "instruction", "rest", "number"], 2, b__law_trace⟩
/-- _law_ranges -/
def b__law_ranges : MSs := .cons (.own 2 (.lst .nil)) (.cons (.forr (.nm 3) (.rng1 (.v 1)) (.cons (.set 4 (.ix (.lst (.cons (.neg (.int 9)) (.cons (.neg (.int 1)) (.cons (.int 0) (.cons (.int 3) (.cons (.neg (.int 2147483648)) (.cons (.neg (.int 70000)) .nil))))))) (.call 23 (.cons (.v 0) (.cons (.int 6) .nil))))) (.cons (.app 2 (.tup (.cons (.v 4) (.cons (.bin .add (.v 4) (.ix (.lst (.cons (.int 0) (.cons (.int 1) (.cons (.int 12) (.cons (.int 70000) (.cons (.int 2147483647) .nil)))))) (.call 23 (.cons (.v 0) (.cons (.int 5) .nil))))) .nil)))) .nil))) (.cons (.ret (.bi .tuple (.cons (.lc [("pair", 5)] (.nm 5) (.seq (.v 2)) .none (.tup (.cons (.ix (.v 5) (.int 0)) (.cons (.bi .min2 (.cons (.ix (.v 5) (.int 1)) (.cons (.int 2147483647) .nil))) .nil)))) .nil))) .nil))
def f__law_ranges : Def := ⟨"_law_ranges", ["deal", "gauges", "found", "g", "low", "pair"], 2, b__law_ranges⟩
/-- _law_within -/
def b__law_within : MSs := .cons (.own 2 (.lst .nil)) (.cons (.forr (.nm 3) (.seq (.v 1)) (.cons (.set 4 (.ix (.lst (.cons (.ix (.v 3) (.int 0)) (.cons (.ix (.v 3) (.int 1)) (.cons (.bin .add (.ix (.v 3) (.int 0)) (.bin .fdiv (.bin .sub (.ix (.v 3) (.int 1)) (.ix (.v 3) (.int 0))) (.int 2))) (.cons (.bi .min2 (.cons (.ix (.v 3) (.int 1)) (.cons (.bin .add (.ix (.v 3) (.int 0)) (.call 23 (.cons (.v 0) (.cons (.int 9) .nil)))) .nil))) .nil))))) (.call 23 (.cons (.v 0) (.cons (.int 4) .nil))))) (.cons (.app 2 (.ite (.cmp .eq (.call 23 (.cons (.v 0) (.cons (.int 5) .nil))) (.int 0)) .non (.v 4))) .nil))) (.cons (.ret (.bi .tuple (.cons (.v 2) .nil))) .nil))
def f__law_within : Def := ⟨"_law_within", ["deal", "ranges", "found", "pair", "r"], 2, b__law_within⟩
/-- _law_is_error -/
def b__law_is_error : MSs := .cons .never (.cons .never (.cons .never .nil))
def f__law_is_error : Def := ⟨"_law_is_error", ["error", "due", "kinds"], 2, b__law_is_error⟩
/-- _law_product -/
def b__law_product : MSs := .cons (.ret (.tup (.cons (.bi .min2 (.cons (.bin .mul (.v 0) (.ix (.v 1) (.int 0))) (.cons (.bin .mul (.v 0) (.ix (.v 1) (.int 1))) .nil))) (.cons (.bi .max2 (.cons (.bin .mul (.v 0) (.ix (.v 1) (.int 0))) (.cons (.bin .mul (.v 0) (.ix (.v 1) (.int 1))) .nil))) .nil)))) .nil
def f__law_product : Def := ⟨"_law_product", ["a", "pair"], 2, b__law_product⟩
/-- _law_sums -/
def b__law_sums : MSs := .cons (.own 2 (.lst (.cons (.tup (.cons (.int 0) (.cons (.int 0) .nil))) .nil))) (.cons (.forr (.nm 3) (.rng1 (.bi .len (.cons (.v 1) .nil))) (.cons (.iff (.cmp .ne (.ix (.ix (.v 0) (.int 0)) (.v 3)) (.int 0)) (.cons (.set 4 (.call 36 (.cons (.ix (.ix (.v 0) (.int 0)) (.v 3)) (.cons (.ix (.v 1) (.v 3)) .nil)))) (.cons (.set 5 (.ix (.v 2) (.bin .sub (.bi .len (.cons (.v 2) .nil)) (.int 1)))) (.cons (.app 2 (.tup (.cons (.bin .add (.ix (.v 5) (.int 0)) (.ix (.v 4) (.int 0))) (.cons (.bin .add (.ix (.v 5) (.int 1)) (.ix (.v 4) (.int 1))) .nil)))) .nil))) .nil) .nil)) (.cons (.ret (.v 2)) .nil))
def f__law_sums : Def := ⟨"_law_sums", ["test", "ranges", "found", "g", "pair", "last"], 2, b__law_sums⟩
/-- _law_code -/
def b__law_code : MSs := .cons (.set 5 (.lc [("g", 4)] (.nm 4) (.rng1 (.bi .len (.cons (.v 2) .nil))) (.some (.cmp .ne (.ix (.ix (.v 1) (.int 0)) (.v 4)) (.int 0))) (.v 4))) (.cons (.set 6 (.call 37 (.cons (.v 1) (.cons (.v 2) .nil)))) (.cons (.own 7 (.ite (.cmp .eq (.bi .len (.cons (.v 5) .nil)) (.int 0)) (.lst (.cons (.tup (.cons (.str [112, 117, 115, 104]) (.cons (.int 0) .nil))) .nil)) (.lst .nil))) (.cons (.forr (.nm 4) (.seq (.v 5)) (.cons (.own 7 (.bin .add (.v 7) (.lst (.cons (.tup (.cons (.str [114, 101, 97, 100, 105, 110, 103]) (.cons (.v 4) .nil))) (.cons (.tup (.cons (.str [112, 117, 115, 104]) (.cons (.ix (.ix (.v 1) (.int 0)) (.v 4)) .nil))) (.cons (.tup (.cons (.str [116, 105, 109, 101, 115]) .nil)) .nil)))))) (.cons (.iff (.cmp .ne (.v 4) (.ix (.v 5) (.int 0))) (.cons (.app 7 (.tup (.cons (.str [97, 100, 100]) .nil))) .nil) .nil) .nil))) (.cons (.own 7 (.bin .add (.v 7) (.lst (.cons (.tup (.cons (.str [112, 117, 115, 104]) (.cons (.bi .max2 (.cons (.bin .add (.ix (.v 1) (.int 1)) (.int 1)) (.cons (.ix (.ix (.v 6) (.bin .sub (.bi .len (.cons (.v 6) .nil)) (.int 1))) (.int 0)) .nil))) .nil))) (.cons (.tup (.cons (.str [108, 101, 97, 115, 116]) .nil)) (.cons (.tup (.cons (.str [114, 105, 110, 103]) (.cons (.v 0) .nil))) .nil)))))) (.cons (.ret (.bin .add (.lc [("g", 4)] (.nm 4) (.seq (.v 5)) .none (.tup (.cons (.str [115, 107, 105, 112]) (.cons (.v 4) (.cons (.bin .add (.bin .add (.v 3) (.bi .len (.cons (.v 5) .nil))) (.bi .len (.cons (.v 7) .nil))) .nil))))) (.v 7))) .nil)))))
def f__law_code : Def := ⟨"_law_code", ["k", "test", "ranges", "start", "g", "used", "sums", "body"], 4, b__law_code⟩
/-- _law_due -/
def b__law_due : MSs := .cons (.set 3 (.lc [("pair", 2)] (.nm 2) (.seq (.v 1)) (.some (.bop false (.cons (.cmp .gt (.ix (.v 2) (.int 0)) (.ix (.v 2) (.int 1))) (.cons (.not (.tr (.call 30 (.cons (.ix (.v 2) (.int 0)) .nil)))) (.cons (.not (.tr (.call 30 (.cons (.ix (.v 2) (.int 1)) .nil)))) .nil))))) (.v 2))) (.cons (.iff (.bop false (.cons (.cmp .gt (.bi .len (.cons (.v 3) .nil)) (.int 0)) (.cons (.cmp .gt (.bi .len (.cons (.v 1) .nil)) (.int 6)) (.cons (.cmp .gt (.bi .len (.cons (.v 0) .nil)) (.int 1000)) .nil)))) (.cons (.ret .non) .nil) .nil) (.cons (.set 4 (.lst .nil)) (.cons (.forr (.nm 5) (.rng1 (.bi .len (.cons (.v 0) .nil))) (.cons (.set 6 (.call 37 (.cons (.ix (.v 0) (.v 5)) (.cons (.v 1) .nil)))) (.cons (.iff (.cmp .gt (.ix (.ix (.v 6) (.bin .sub (.bi .len (.cons (.v 6) .nil)) (.int 1))) (.int 1)) (.ix (.ix (.v 0) (.v 5)) (.int 1))) (.cons (.set 8 (.lc [("g", 7)] (.nm 7) (.rng1 (.bi .len (.cons (.v 1) .nil))) (.some (.cmp .ne (.ix (.ix (.ix (.v 0) (.v 5)) (.int 0)) (.v 7)) (.int 0))) (.call 36 (.cons (.ix (.ix (.ix (.v 0) (.v 5)) (.int 0)) (.v 7)) (.cons (.ix (.v 1) (.v 7)) .nil))))) (.cons (.set 8 (.bin .add (.bin .add (.v 8) (.v 6)) (.lc [("a", 9)] (.nm 9) (.seq (.ix (.ix (.v 0) (.v 5)) (.int 0))) .none (.tup (.cons (.v 9) (.cons (.v 9) .nil)))))) (.cons (.iff (.cmp .gt (.bi .len (.cons (.lc [("pair", 2)] (.nm 2) (.seq (.v 8)) (.some (.bop false (.cons (.not (.tr (.call 30 (.cons (.ix (.v 2) (.int 0)) .nil)))) (.cons (.not (.tr (.call 30 (.cons (.ix (.v 2) (.int 1)) .nil)))) .nil)))) (.v 2)) .nil)) (.int 0)) (.cons (.ret .non) .nil) .nil) (.cons (.set 4 (.bin .add (.v 4) (.call 38 (.cons (.v 5) (.cons (.ix (.v 0) (.v 5)) (.cons (.v 1) (.cons (.bi .len (.cons (.v 4) .nil)) .nil))))))) .nil)))) .nil) .nil))) (.cons (.ret (.ite (.cmp .gt (.bi .len (.cons (.v 4) .nil)) (.int 3999)) .non (.bi .tuple (.cons (.bin .add (.v 4) (.lst (.cons (.tup (.cons (.str [101, 110, 100]) .nil)) .nil))) .nil)))) .nil))))
def f__law_due : Def := ⟨"_law_due", ["tests", "ranges", "pair", "wrong", "found", "k", "sums", "g", "pairs", "a"], 2, b__law_due⟩
/-- _law_told -/
def b__law_told : MSs := .cons (.set 2 (.call 39 (.cons (.v 0) (.cons (.v 1) .nil)))) (.cons (.tryR (.set 3 (.call 21 (.cons (.v 0) (.cons (.v 1) .nil)))) 0 4 (.con (.isN 2) (.isE 35 [108, 101, 116]))) (.cons (.ret (.bop true (.cons (.isN true (.v 2)) (.cons (.call 24 (.cons (.v 3) (.cons (.v 2) .nil))) .nil)))) .nil))
def f__law_told : Def := ⟨"_law_told", ["tests", "ranges", "due", "program", "e"], 2, b__law_told⟩
/-- _law_test -/
def b__law_test : MSs := .cons (.set 2 (.cmp .eq (.call 23 (.cons (.v 0) (.cons (.int 6) .nil))) (.int 0))) (.cons (.own 3 (.lst .nil)) (.cons (.forr (.nm 4) (.seq (.v 1)) (.cons (.set 5 (.bin .sub (.call 23 (.cons (.v 0) (.cons (.int 9) .nil))) (.int 4))) (.cons (.app 3 (.ite (.bop true (.cons (.tr (.v 2)) (.cons (.cmp .eq (.call 23 (.cons (.v 0) (.cons (.int 2) .nil))) (.int 0)) .nil))) (.bin .mul (.v 5) (.ix (.lst (.cons (.int 53687091) (.cons (.int 4294967296) .nil))) (.call 23 (.cons (.v 0) (.cons (.int 2) .nil))))) (.ite (.cmp .eq (.call 23 (.cons (.v 0) (.cons (.int 3) .nil))) (.int 0)) (.int 0) (.v 5)))) .nil))) (.cons (.frz 3) (.cons (.set 6 (.call 37 (.cons (.tup (.cons (.v 3) (.cons (.int 0) .nil))) (.cons (.v 1) .nil)))) (.cons (.unp (.tup (.tcons (.nm 7) (.tcons (.nm 8) .tnil))) (.ix (.v 6) (.bin .sub (.bi .len (.cons (.v 6) .nil)) (.int 1)))) (.cons (.set 9 (.ix (.lst (.cons (.bin .sub (.v 7) (.int 1)) (.cons (.v 7) (.cons (.bin .sub (.v 8) (.int 1)) (.cons (.v 8) (.cons (.bin .add (.v 8) (.int 1)) (.cons (.bin .fdiv (.bin .add (.v 7) (.v 8)) (.int 2)) (.cons (.bin .sub (.v 7) (.int 5000000000)) .nil)))))))) (.call 23 (.cons (.v 0) (.cons (.int 7) .nil))))) (.cons (.ret (.tup (.cons (.bi .tuple (.cons (.v 3) .nil)) (.cons (.v 9) .nil)))) .nil)))))))
def f__law_test : Def := ⟨"_law_test", ["deal", "ranges", "great", "row", "pair", "a", "sums", "low", "high", "at"], 2, b__law_test⟩
/-- _law_many -/
def b__law_many : MSs := .cons (.set 1 (.call 23 (.cons (.v 0) (.cons (.int 4) .nil)))) (.cons (.iff (.cmp .lt (.v 1) (.int 2)) (.cons (.ret (.call 40 (.cons (.bin .mul (.tup (.cons (.tup (.cons (.tup (.cons (.int 1) .nil)) (.cons (.int 9) .nil))) .nil)) (.bin .add (.int 1000) (.v 1))) (.cons (.tup (.cons (.tup (.cons (.int 0) (.cons (.int 9) .nil))) .nil)) .nil)))) .nil) .nil) (.cons (.ret (.call 40 (.cons (.bin .add (.bin .mul (.tup (.cons (.tup (.cons (.tup (.cons (.int 1) .nil)) (.cons (.int 0) .nil))) .nil)) (.bin .sub (.int 571) (.v 1))) (.bin .mul (.tup (.cons (.tup (.cons (.tup (.cons (.int 0) .nil)) (.cons (.neg (.int 1)) .nil))) .nil)) (.bin .mul (.int 2) (.v 1)))) (.cons (.tup (.cons (.tup (.cons (.int 0) (.cons (.int 9) .nil))) .nil)) .nil)))) .nil))
def f__law_many : Def := ⟨"_law_many", ["deal", "kind"], 1, b__law_many⟩
/-- _law_wrong_ranges -/
def b__law_wrong_ranges : MSs := .cons (.forr (.nm 2) (.rng1 (.bi .len (.cons (.v 1) .nil))) (.cons (.forr (.nm 3) (.seq (.lst (.cons (.tup (.cons (.ix (.ix (.v 1) (.v 2)) (.int 1)) (.cons (.bin .sub (.ix (.ix (.v 1) (.v 2)) (.int 0)) (.int 1)) .nil))) (.cons (.tup (.cons (.ix (.ix (.v 1) (.v 2)) (.int 0)) (.cons (.int 2147483648) .nil))) (.cons (.tup (.cons (.neg (.int 2147483649)) (.cons (.ix (.ix (.v 1) (.v 2)) (.int 1)) .nil))) .nil))))) (.cons (.iff (.not (.tr (.call 40 (.cons (.v 0) (.cons (.call 26 (.cons (.v 1) (.cons (.v 2) (.cons (.v 3) .nil)))) .nil))))) (.cons (.ret (.bl false)) .nil) .nil) .nil)) .nil)) (.cons (.set 5 (.bi .tuple (.cons (.lc [("test", 4)] (.nm 4) (.seq (.v 0)) .none (.tup (.cons (.bin .add (.ix (.v 4) (.int 0)) (.bin .mul (.tup (.cons (.int 0) .nil)) (.bin .sub (.int 7) (.bi .len (.cons (.v 1) .nil))))) (.cons (.ix (.v 4) (.int 1)) .nil)))) .nil))) (.cons (.ret (.call 40 (.cons (.v 5) (.cons (.bin .add (.v 1) (.bin .mul (.tup (.cons (.tup (.cons (.int 0) (.cons (.int 1) .nil))) .nil)) (.bin .sub (.int 7) (.bi .len (.cons (.v 1) .nil))))) .nil)))) .nil))
def f__law_wrong_ranges : Def := ⟨"_law_wrong_ranges", ["tests", "ranges", "k", "pair", "test", "seven"], 2, b__law_wrong_ranges⟩
/-- law -/
def b_law : MSs := .cons (.set 1 (.call 22 (.cons (.v 0) .nil))) (.cons (.set 2 (.call 23 (.cons (.v 1) (.cons (.int 7) .nil)))) (.cons (.set 3 (.call 33 (.cons (.v 1) (.cons (.v 2) .nil)))) (.cons (.iff (.cmp .gt (.call 23 (.cons (.v 1) (.cons (.int 3) .nil))) (.int 0)) (.cons (.set 3 (.bi .tuple (.cons (.lc [("pair", 4)] (.nm 4) (.seq (.v 3)) .none (.ite (.bop true (.cons (.cmp .lt (.ix (.v 4) (.int 0)) (.int 99)) (.cons (.cmp .gt (.ix (.v 4) (.int 1)) (.neg (.int 99))) .nil))) (.tup (.cons (.bi .max2 (.cons (.ix (.v 4) (.int 0)) (.cons (.neg (.int 99)) .nil))) (.cons (.bi .min2 (.cons (.ix (.v 4) (.int 1)) (.cons (.int 99) .nil))) .nil))) (.tup (.cons (.neg (.int 3)) (.cons (.int 3) .nil))))) .nil))) .nil) .nil) (.cons (.set 6 (.bi .tuple (.cons (.lc [("k", 5)] (.nm 5) (.rng1 (.call 23 (.cons (.v 1) (.cons (.int 6) .nil)))) .none (.call 41 (.cons (.v 1) (.cons (.v 3) .nil)))) .nil))) (.cons (.forr (.nm 7) (.seq (.v 6)) (.cons (.set 8 (.call 37 (.cons (.v 7) (.cons (.v 3) .nil)))) (.cons (.iff (.not (.tr (.call 25 (.cons (.call 17 (.cons (.v 7) (.cons (.v 3) .nil))) (.cons (.cmp .gt (.ix (.ix (.v 8) (.bin .sub (.bi .len (.cons (.v 8) .nil)) (.int 1))) (.int 1)) (.ix (.v 7) (.int 1))) .nil))))) (.cons (.ret (.bl false)) .nil) .nil) .nil))) (.cons (.iff (.bop false (.cons (.not (.tr (.call 40 (.cons (.v 6) (.cons (.v 3) .nil))))) (.cons (.not (.tr (.call 43 (.cons (.v 6) (.cons (.v 3) .nil))))) .nil))) (.cons (.ret (.bl false)) .nil) .nil) (.cons (.iff (.bop true (.cons (.cmp .eq (.call 23 (.cons (.v 1) (.cons (.int 16) .nil))) (.int 0)) (.cons (.not (.tr (.call 42 (.cons (.v 1) .nil)))) .nil))) (.cons (.ret (.bl false)) .nil) .nil) (.cons (.iff (.isN false (.call 39 (.cons (.v 6) (.cons (.v 3) .nil)))) (.cons (.ret (.bl true)) .nil) .nil) (.cons (.set 9 (.call 21 (.cons (.v 6) (.cons (.v 3) .nil)))) (.cons (.iff (.isN false (.call 13 (.cons (.v 9) (.cons (.v 3) .nil)))) (.cons (.ret (.bl false)) .nil) .nil) (.cons (.forr (.nm 5) (.rng1 (.int 5)) (.cons (.set 10 (.call 34 (.cons (.v 1) (.cons (.v 3) .nil)))) (.cons (.set 11 (.call 29 (.cons (.v 6) (.cons (.v 10) .nil)))) (.cons (.set 12 (.ite (.isN false (.v 11)) (.tup (.cons (.str [115, 105, 108, 101, 110, 116]) .nil)) (.tup (.cons (.str [114, 105, 110, 103, 115]) (.cons (.v 11) .nil))))) (.cons (.iff (.bop false (.cons (.cmp .ne (.ix (.call 32 (.cons (.v 9) (.cons (.v 10) .nil))) (.int 1)) (.v 12)) (.cons (.not (.tr (.call 24 (.cons (.call 5 (.cons (.v 9) (.cons (.v 10) .nil))) (.cons (.v 12) .nil))))) .nil))) (.cons (.ret (.bl false)) .nil) .nil) .nil))))) (.cons (.ret (.bl true)) .nil))))))))))))
def f_law : Def := ⟨"law", ["script", "deal", "gauges", "ranges", "pair", "k", "tests", "test", "sums", "program", "turn", "first", "due"], 1, b_law⟩
def gls : List (Str × D) := [("PUSH", .str [112, 117, 115, 104]), ("READING", .str [114, 101, 97, 100, 105, 110, 103]), ("TIMES", .str [116, 105, 109, 101, 115]), ("ADD", .str [97, 100, 100]), ("LESS", .str [108, 101, 115, 115]), ("LEAST", .str [108, 101, 97, 115, 116]), ("RING", .str [114, 105, 110, 103]), ("SKIP", .str [115, 107, 105, 112]), ("END", .str [101, 110, 100]), ("LEAST_WORD", .int (-2147483648)), ("MOST_WORD", .int 2147483647), ("MOST_HEIGHT", .int 8), ("MOST_STEPS", .int 4000), ("MOST_TESTS", .int 1000), ("ON", .str [111, 110]), ("SILENT", .str [115, 105, 108, 101, 110, 116]), ("RINGS", .str [114, 105, 110, 103, 115]), ("BROKEN", .str [98, 114, 111, 107, 101, 110]), ("MOST_GAUGES", .int 6)]
def T : Prog := ⟨[f_is_word, f_result_of, f_grown, f_stepped, f_trace, f_run, f_is_range, f_are_ranges, f_range_result, f_range_grown, f_with_told, f_outcomes, f_put_together, f_chart_of, f_used_gauges, f_product_range, f_sum_ranges, f_may_ring, f_is_worded, f_sum_code, f_test_code, f_program_of, f__law_deal, f__law_take, f__law_same, f__law_bool, f__law_with, f__law_wholes_sum, f__law_breaks, f__law_first_ring, f__law_is_word, f__law_made, f__law_trace, f__law_ranges, f__law_within, f__law_is_error, f__law_product, f__law_sums, f__law_code, f__law_due, f__law_told, f__law_test, f__law_many, f__law_wrong_ranges, f_law], gls, some 35, [0, 1, 2, 3, 4, 5]⟩
def sts : List Stmt := [top 19, top 20, top 21, top 22, top 23, top 24, top 34, top 35, top 36, top 37, top 38, top 39, top 40, top 41, top 43, top 44, top 45, top 46, top 47, top 48, top 49, top 50, top 52, top 53, top 54, top 55, top 56, top 57, top 58, top 59, top 60, top 61, top 62, top 63, top 64, top 65, top 66, top 67, top 68, top 69, top 70, top 71, top 72, top 73, top 74]
def GV : List D := T.gls.map (·.2)
theorem gv_0 : GV[0]? = some (.str [112, 117, 115, 104]) := rfl
theorem gv_1 : GV[1]? = some (.str [114, 101, 97, 100, 105, 110, 103]) := rfl
theorem gv_2 : GV[2]? = some (.str [116, 105, 109, 101, 115]) := rfl
theorem gv_3 : GV[3]? = some (.str [97, 100, 100]) := rfl
theorem gv_4 : GV[4]? = some (.str [108, 101, 115, 115]) := rfl
theorem gv_5 : GV[5]? = some (.str [108, 101, 97, 115, 116]) := rfl
theorem gv_6 : GV[6]? = some (.str [114, 105, 110, 103]) := rfl
theorem gv_7 : GV[7]? = some (.str [115, 107, 105, 112]) := rfl
theorem gv_8 : GV[8]? = some (.str [101, 110, 100]) := rfl
theorem gv_9 : GV[9]? = some (.int (-2147483648)) := rfl
theorem gv_10 : GV[10]? = some (.int 2147483647) := rfl
theorem gv_11 : GV[11]? = some (.int 8) := rfl
theorem gv_12 : GV[12]? = some (.int 4000) := rfl
theorem gv_13 : GV[13]? = some (.int 1000) := rfl
theorem gv_14 : GV[14]? = some (.str [111, 110]) := rfl
theorem gv_15 : GV[15]? = some (.str [115, 105, 108, 101, 110, 116]) := rfl
theorem gv_16 : GV[16]? = some (.str [114, 105, 110, 103, 115]) := rfl
theorem gv_17 : GV[17]? = some (.str [98, 114, 111, 107, 101, 110]) := rfl
theorem gv_18 : GV[18]? = some (.int 6) := rfl
abbrev i_is_word : Nat := 0
abbrev i_result_of : Nat := 1
abbrev i_grown : Nat := 2
abbrev i_stepped : Nat := 3
abbrev i_trace : Nat := 4
abbrev i_run : Nat := 5
abbrev i_is_range : Nat := 6
abbrev i_are_ranges : Nat := 7
abbrev i_range_result : Nat := 8
abbrev i_range_grown : Nat := 9
abbrev i_with_told : Nat := 10
abbrev i_outcomes : Nat := 11
abbrev i_put_together : Nat := 12
abbrev i_chart_of : Nat := 13
abbrev i_used_gauges : Nat := 14
abbrev i_product_range : Nat := 15
abbrev i_sum_ranges : Nat := 16
abbrev i_may_ring : Nat := 17
abbrev i_is_worded : Nat := 18
abbrev i_sum_code : Nat := 19
abbrev i_test_code : Nat := 20
abbrev i_program_of : Nat := 21
abbrev i__law_deal : Nat := 22
abbrev i__law_take : Nat := 23
abbrev i__law_same : Nat := 24
abbrev i__law_bool : Nat := 25
abbrev i__law_with : Nat := 26
abbrev i__law_wholes_sum : Nat := 27
abbrev i__law_breaks : Nat := 28
abbrev i__law_first_ring : Nat := 29
abbrev i__law_is_word : Nat := 30
abbrev i__law_made : Nat := 31
abbrev i__law_trace : Nat := 32
abbrev i__law_ranges : Nat := 33
abbrev i__law_within : Nat := 34
abbrev i__law_is_error : Nat := 35
abbrev i__law_product : Nat := 36
abbrev i__law_sums : Nat := 37
abbrev i__law_code : Nat := 38
abbrev i__law_due : Nat := 39
abbrev i__law_told : Nat := 40
abbrev i__law_test : Nat := 41
abbrev i__law_many : Nat := 42
abbrev i__law_wrong_ranges : Nat := 43
abbrev i_law : Nat := 44
end K76
namespace K76
open PySem PySem.Spec PyProof.Rows L2 Sf
abbrev hRow : PySem.W.OpenRow := PySem.W.OpenLaw.row PySem.Challenge.rw_standsfast_k76_whole_programs_ring_by_te
def hFa : List He.Fa := faOf T
def hFn : List He.DefD := fnOf_ T sts
abbrev hHook : PySem.W.Hook := hookC 4 hFa hFn gls T.exc
def hOb (s : PySem.W.SharedT) : AlG := obsCG 4 hFa hFn gls T.exc (HandSHeadRun.getT s)
theorem hOb_eq (s : PySem.W.SharedT) : hOb s = hHook.obs s.abs := obsCG_eq (HandSHeadRun.getT_eq s)
def loose0 : List Str := ["PUSH", "READING", "TIMES", "ADD", "LESS", "LEAST", "RING", "SKIP", "END", "LEAST_WORD", "MOST_WORD", "MOST_HEIGHT", "MOST_STEPS", "MOST_TESTS", "ON", "SILENT", "RINGS", "BROKEN", "is_word", "result_of", "grown", "stepped", "trace", "run", "StandError", "NotWritten", "NotLet", "BadDeed", "Unknown", "NothingLeft"]
def loose1 : List Str := ["MOST_GAUGES", "is_range", "are_ranges", "range_result", "range_grown", "with_told", "outcomes", "put_together", "chart_of", "used_gauges", "product_range", "sum_ranges", "may_ring", "is_worded", "sum_code", "test_code", "program_of", "_law_deal", "_law_take", "_law_same", "_law_bool", "_law_with", "_law_wholes_sum", "_law_breaks", "_law_first_ring", "_law_is_word", "_law_made", "_law_trace", "_law_ranges", "_law_within"]
def loose2 : List Str := ["_law_is_error", "_law_product", "_law_sums", "_law_code", "_law_due", "_law_told", "_law_test", "_law_many", "_law_wrong_ranges"]
def loose : List Str := loose0 ++ loose1 ++ loose2
theorem hRun (w : World) : HandSHeadRun.RunEq hRow (PySem.W.view hRow.prog [74]) hHook hOb 12000 loose w := by
  intro os
  kernel_rfl
end K76
/-! SfRep: how plain data lies in the heap; what an expression, a statement may change. -/
namespace Sf
open PySem PySem.Spec PyProof.Rows L2

/-- the ghost: where the cells lie, which lists are frozen, the heap -/
structure Gh where
  m : List Addr
  Z : Addr → Prop
  H : Hp

/-- a list that may be read and never changes: the script -/
def RoL (K : PySem.W.Frag) (H : Hp) (a : Addr) (xs : List V) : Prop :=
  (∃ o, H a = some (.frz o (.lst xs))) ∨
    ∃ (o : Obj) (its : Array Value) (n : Nat), K.lookup a = some o ∧ o.cls = .type "list" ∧ o.dict = none ∧ o.data = .seq its n ∧ its.size ≤ sizeLine ∧ Vals xs its.toList

mutual
def Rep (K : PySem.W.Frag) (g : Gh) : D → V → Prop
  | .non, v => v = .non
  | .bl b, v => v = .bl b
  | .int i, v => v = .int i
  | .str s, v => v = .str ⟨s.toArray⟩
  | .tup ds, v => ∃ a vs, v = .ref a ∧ SqT K g.H a vs ∧ Reps K g ds vs
  | .lst ds, v => ∃ a vs, v = .ref a ∧ g.H a = some (.lst vs) ∧ g.Z a ∧ Reps K g ds vs
  | .rol ds, v => ∃ a vs, v = .ref a ∧ RoL K g.H a vs ∧ Reps K g ds vs
  | .ptr k, v => ∃ a, v = .ref a ∧ g.m[k]? = some a
def Reps (K : PySem.W.Frag) (g : Gh) : List D → List V → Prop
  | [], vs => vs = []
  | d :: ds, vs => ∃ v r, vs = v :: r ∧ Rep K g d v ∧ Reps K g ds r
end

/-- what keeps data -/
structure RepLe (g g' : Gh) : Prop where
  m : ∃ e, g'.m = g.m ++ e
  Z : ∀ a, g.Z a → g'.Z a
  frz : ∀ a o, g.Z a → g.H a = some o → g'.H a = some o
  tup : ∀ a xs, g.H a = some (.tup xs) → g'.H a = some (.tup xs)
  known : ∀ a o u, g.H a = some (.frz o u) → g'.H a = some (.frz o u)
  there : ∀ a, g.H a ≠ none → g'.H a ≠ none

theorem RepLe.refl (g : Gh) : RepLe g g := ⟨⟨[], by simp⟩, fun _ h => h, fun _ _ _ h => h, fun _ _ h => h, fun _ _ _ h => h, fun _ h => h⟩
theorem RepLe.trans {g1 g2 g3 : Gh} (a : RepLe g1 g2) (b : RepLe g2 g3) : RepLe g1 g3 := by
  obtain ⟨e1, h1⟩ := a.m
  obtain ⟨e2, h2⟩ := b.m
  exact ⟨⟨e1 ++ e2, by rw [h2, h1, List.append_assoc]⟩, fun x h => b.Z x (a.Z x h), fun x o z h => b.frz x o (a.Z x z) (a.frz x o z h), fun x xs h => b.tup x xs (a.tup x xs h), fun x o u h => b.known x o u (a.known x o u h), fun x h => b.there x (a.there x h)⟩

section
variable {K : PySem.W.Frag} {g g' : Gh}
theorem SqT.le (l : RepLe g g') {a : Addr} {vs : List V} (h : SqT K g.H a vs) : SqT K g'.H a vs := by
  rcases h with (h | ⟨o, h⟩) | h
  · exact .inl (.inl (l.tup _ _ h))
  · exact .inl (.inr ⟨o, l.known _ _ _ h⟩)
  · exact .inr h
theorem RoL.le (l : RepLe g g') {a : Addr} {vs : List V} (h : RoL K g.H a vs) : RoL K g'.H a vs := by
  rcases h with ⟨o, h⟩ | h
  · exact .inl ⟨o, l.known _ _ _ h⟩
  · exact .inr h
theorem RoL.sq {H : Hp} {a : Addr} {vs : List V} (h : RoL K H a vs) : SqL K H a vs := by
  rcases h with ⟨o, h⟩ | h
  · exact .inl (.inr ⟨o, h⟩)
  · exact .inr h
mutual
theorem Rep.le (l : RepLe g g') : ∀ (d : D) (v : V), Rep K g d v → Rep K g' d v
  | .non, v, h => by rw [Rep] at h ⊢; exact h
  | .bl _, v, h => by rw [Rep] at h ⊢; exact h
  | .int _, v, h => by rw [Rep] at h ⊢; exact h
  | .str _, v, h => by rw [Rep] at h ⊢; exact h
  | .tup ds, v, h => by
    rw [Rep] at h ⊢
    obtain ⟨a, vs, e, h1, h2⟩ := h
    exact ⟨a, vs, e, SqT.le l h1, Reps.le l ds vs h2⟩
  | .lst ds, v, h => by
    rw [Rep] at h ⊢
    obtain ⟨a, vs, e, h1, z, h2⟩ := h
    exact ⟨a, vs, e, l.frz _ _ z h1, l.Z _ z, Reps.le l ds vs h2⟩
  | .rol ds, v, h => by
    rw [Rep] at h ⊢
    obtain ⟨a, vs, e, h1, h2⟩ := h
    exact ⟨a, vs, e, RoL.le l h1, Reps.le l ds vs h2⟩
  | .ptr k, v, h => by
    rw [Rep] at h ⊢
    obtain ⟨a, e, h1⟩ := h
    obtain ⟨e2, h2⟩ := l.m
    refine ⟨a, e, ?_⟩
    rw [h2, List.getElem?_append_left]
    · exact h1
    · exact (List.getElem?_eq_some_iff.mp h1).1
theorem Reps.le (l : RepLe g g') : ∀ (ds : List D) (vs : List V), Reps K g ds vs → Reps K g' ds vs
  | [], vs, h => by rw [Reps] at h ⊢; exact h
  | d :: ds, vs, h => by
    rw [Reps] at h ⊢
    obtain ⟨v, r, e, h1, h2⟩ := h
    exact ⟨v, r, e, Rep.le l d v h1, Reps.le l ds r h2⟩
end
theorem Reps.length : ∀ {ds : List D} {vs : List V}, Reps K g ds vs → ds.length = vs.length
  | [], vs, h => by rw [Reps] at h; subst h; rfl
  | d :: ds, vs, h => by
    rw [Reps] at h
    obtain ⟨v, r, rfl, _, h2⟩ := h
    simp [Reps.length h2]
theorem Reps.get : ∀ {ds : List D} {vs : List V} {i : Nat} {d : D}, Reps K g ds vs → ds[i]? = some d → ∃ v, vs[i]? = some v ∧ Rep K g d v
  | [], vs, i, d, h, e => by simp at e
  | d :: ds, vs, 0, d', h, e => by
    rw [Reps] at h
    obtain ⟨v, r, rfl, h1, _⟩ := h
    simp at e; subst e
    exact ⟨v, rfl, h1⟩
  | d :: ds, vs, i + 1, d', h, e => by
    rw [Reps] at h
    obtain ⟨v, r, rfl, _, h2⟩ := h
    simp at e
    obtain ⟨v', e', h'⟩ := Reps.get h2 e
    exact ⟨v', by simpa using e', h'⟩
theorem Reps.get' : ∀ {ds : List D} {vs : List V} {i : Nat} {v : V}, Reps K g ds vs → vs[i]? = some v → ∃ d, ds[i]? = some d ∧ Rep K g d v
  | [], vs, i, v, h, e => by rw [Reps] at h; subst h; simp at e
  | d :: ds, vs, 0, v', h, e => by
    rw [Reps] at h
    obtain ⟨v, r, rfl, h1, _⟩ := h
    simp at e; subst e
    exact ⟨d, rfl, h1⟩
  | d :: ds, vs, i + 1, v', h, e => by
    rw [Reps] at h
    obtain ⟨v, r, rfl, _, h2⟩ := h
    simp at e
    obtain ⟨v', e', h'⟩ := Reps.get' h2 e
    exact ⟨v', by simpa using e', h'⟩
theorem Reps.nil : Reps K g [] [] := by rw [Reps]
theorem Reps.cons {d : D} {ds : List D} {v : V} {vs : List V} (h : Rep K g d v) (t : Reps K g ds vs) : Reps K g (d :: ds) (v :: vs) := by
  rw [Reps]; exact ⟨v, vs, rfl, h, t⟩
theorem Reps.append : ∀ {ds es : List D} {vs ws : List V}, Reps K g ds vs → Reps K g es ws → Reps K g (ds ++ es) (vs ++ ws)
  | [], _, _, _, h, t => by rw [Reps] at h; subst h; exact t
  | d :: ds, es, vs, ws, h, t => by
    rw [Reps] at h
    obtain ⟨v, r, rfl, h1, h2⟩ := h
    exact Reps.cons h1 (Reps.append h2 t)
theorem Reps.take : ∀ {ds : List D} {vs : List V} (n : Nat), Reps K g ds vs → Reps K g (ds.take n) (vs.take n)
  | _, _, 0, h => by simpa using Reps.nil
  | [], vs, n + 1, h => by rw [Reps] at h; subst h; simpa using Reps.nil
  | d :: ds, vs, n + 1, h => by
    rw [Reps] at h
    obtain ⟨v, r, rfl, h1, h2⟩ := h
    exact Reps.cons h1 (Reps.take n h2)
theorem Reps.drop : ∀ {ds : List D} {vs : List V} (n : Nat), Reps K g ds vs → Reps K g (ds.drop n) (vs.drop n)
  | _, _, 0, h => by simpa using h
  | [], vs, n + 1, h => by rw [Reps] at h; subst h; simpa using Reps.nil
  | d :: ds, vs, n + 1, h => by
    rw [Reps] at h
    obtain ⟨v, r, rfl, h1, h2⟩ := h
    exact Reps.drop n h2
theorem Reps.set : ∀ {ds : List D} {vs : List V} {d : D} {v : V} (i : Nat), Reps K g ds vs → Rep K g d v → Reps K g (ds.set i d) (vs.set i v)
  | [], vs, _, _, i, h, _ => by rw [Reps] at h; subst h; simpa using Reps.nil
  | d :: ds, vs, d', v', 0, h, q => by
    rw [Reps] at h
    obtain ⟨v, r, rfl, h1, h2⟩ := h
    exact Reps.cons q h2
  | d :: ds, vs, d', v', i + 1, h, q => by
    rw [Reps] at h
    obtain ⟨v, r, rfl, h1, h2⟩ := h
    exact Reps.cons h1 (Reps.set i h2 q)
theorem Reps.reverse {ds : List D} {vs : List V} (h : Reps K g ds vs) : Reps K g ds.reverse vs.reverse := by
  induction ds generalizing vs with
  | nil => rw [Reps] at h; subst h; simpa using Reps.nil
  | cons d ds ih =>
    rw [Reps] at h
    obtain ⟨v, r, rfl, h1, h2⟩ := h
    simp only [List.reverse_cons]
    exact (ih h2).append (.cons h1 .nil)
theorem Reps.rep {ds : List D} {vs : List V} (h : Reps K g ds vs) : ∀ k : Nat, Reps K g (List.replicate k ds).flatten (List.replicate k vs).flatten
  | 0 => by simpa using Reps.nil
  | k + 1 => by
    simp only [List.replicate_succ,List.flatten_cons]
    exact h.append (Reps.rep h k)
theorem Reps.of_get {ds : List D} {vs : List V} (hl : ds.length = vs.length) (h : ∀ (i : Nat) d v, ds[i]? = some d → vs[i]? = some v → Rep K g d v) : Reps K g ds vs := by
  induction ds generalizing vs with
  | nil => cases vs with
    | nil => exact .nil
    | cons _ _ => simp at hl
  | cons d ds ih => cases vs with
    | nil => simp at hl
    | cons v vs => exact .cons (h 0 d v rfl rfl) (ih (by simpa using hl) fun i d v e1 e2 => h (i + 1) d v (by simpa using e1) (by simpa using e2))
end

/-- the ghost is sound -/
structure GI (g : Gh) : Prop where
  nd : g.m.Nodup
  cell : ∀ a ∈ g.m, (∃ vs, g.H a = some (.lst vs)) ∧ ¬ g.Z a
  zed : ∀ a, g.Z a → g.H a ≠ none
/-- the cells' lists -/
structure StOk (K : PySem.W.Frag) (g : Gh) (st : Cells) : Prop where
  len : g.m.length = st.length
  at_ : ∀ (k : Nat) a ds, g.m[k]? = some a → st[k]? = some ds → ∃ vs, g.H a = some (.lst vs) ∧ Reps K g ds vs

/-- what an expression (a call) may change: cells, new things -/
structure Ext (g g' : Gh) : Prop where
  m : ∃ e, g'.m = g.m ++ e ∧ ∀ a ∈ e, g.H a = none
  keep : ∀ a o, g.H a = some o → a ∉ g.m → g'.H a = some o
  there : ∀ a, g.H a ≠ none → g'.H a ≠ none
  Z : ∀ a, g.Z a → g'.Z a
  Z' : ∀ a, g'.Z a → g.Z a ∨ g.H a = none

theorem Ext.refl (g : Gh) : Ext g g := ⟨⟨[], by simp, fun a h => by cases h⟩, fun _ _ h _ => h, fun _ h => h, fun _ h => h, fun _ h => .inl h⟩
theorem Ext.fresh {g g' : Gh} (a : Ext g g') {x : Addr} (h : g'.H x = none) : g.H x = none := by
  cases q : g.H x with
  | none => rfl
  | some o => exact absurd h (a.there x (by rw [q]; simp))
theorem Ext.notm {g g' : Gh} (a : Ext g g') {x : Addr} (h : g.H x ≠ none) (hm : x ∉ g.m) : x ∉ g'.m := by
  obtain ⟨e, he, hn⟩ := a.m
  rw [he]
  intro z
  rcases List.mem_append.mp z with z | z
  · exact hm z
  · exact h (hn x z)
theorem Ext.trans {g1 g2 g3 : Gh} (a : Ext g1 g2) (b : Ext g2 g3) : Ext g1 g3 := by
  obtain ⟨e1, h1, n1⟩ := a.m
  obtain ⟨e2, h2, n2⟩ := b.m
  refine ⟨⟨e1 ++ e2, by rw [h2, h1, List.append_assoc], fun x hx => ?_⟩, fun x o h hm => b.keep x o (a.keep x o h hm) (a.notm (by rw [h]; simp) hm), fun x h => b.there x (a.there x h), fun x h => b.Z x (a.Z x h), fun x h => ?_⟩
  · rcases List.mem_append.mp hx with hx | hx
    · exact n1 x hx
    · exact a.fresh (n2 x hx)
  · rcases b.Z' x h with h | h
    · exact a.Z' x h
    · exact .inr (a.fresh h)
theorem Ext.le {g g' : Gh} (gi : GI g) (a : Ext g g') : RepLe g g' := by
  obtain ⟨e, he, _⟩ := a.m
  refine ⟨⟨e, he⟩, a.Z, fun x o z h => a.keep x o h fun hm => (gi.cell x hm).2 z, fun x xs h => a.keep x _ h fun hm => ?_, fun x o u h => a.keep x _ h fun hm => ?_, a.there⟩
  · obtain ⟨⟨vs, q⟩, _⟩ := gi.cell x hm
    rw [h] at q; cases q
  · obtain ⟨⟨vs, q⟩, _⟩ := gi.cell x hm
    rw [h] at q; cases q

/-- a result: r as v, behind an expression that began at g0 -/
def RepR (K : PySem.W.Frag) (g0 g : Gh) : VR → V → Prop
  | .dat d, v => Rep K g d v
  | .bor ds, v => ∃ a vs, v = .ref a ∧ g.H a = some (.lst vs) ∧ a ∉ g.m ∧ Reps K g ds vs
  | .new ds, v => ∃ a vs, v = .ref a ∧ g.H a = some (.lst vs) ∧ a ∉ g.m ∧ ¬ g.Z a ∧ g0.H a = none ∧ Reps K g ds vs

theorem RepR.ext {K : PySem.W.Frag} {g0 g g' : Gh} (gi : GI g) (x : Ext g g') : ∀ {r : VR} {v : V}, RepR K g0 g r v → RepR K g0 g' r v
  | .dat d, v, h => Rep.le (x.le gi) d v h
  | .bor ds, v, ⟨a, vs, e, h1, h2, h3⟩ => ⟨a, vs, e, x.keep _ _ h1 h2, x.notm (by rw [h1]; simp) h2, Reps.le (x.le gi) _ _ h3⟩
  | .new ds, v, ⟨a, vs, e, h1, h2, h3, h4, h5⟩ => ⟨a, vs, e, x.keep _ _ h1 h2, x.notm (by rw [h1]; simp) h2, fun z => (x.Z' a z).elim h3 (fun q => by rw [h1] at q; cases q), h4, Reps.le (x.le gi) _ _ h5⟩
theorem RepR.base {K : PySem.W.Frag} {g0 g1 g : Gh} (x : Ext g0 g1) : ∀ {r : VR} {v : V}, RepR K g1 g r v → RepR K g0 g r v
  | .dat d, v, h => h
  | .bor ds, v, h => h
  | .new ds, v, ⟨a, vs, e, h1, h2, h3, h4, h5⟩ => ⟨a, vs, e, h1, h2, h3, x.fresh h4, h5⟩

/-- the frame's names -/
structure EnvOk (K : PySem.W.Frag) (g0 g : Gh) (ρ : Env) (σ : L2.St) : Prop where
  len : ρ.length = σ.length
  ext : Ext g0 g
  gi : GI g
  dat : ∀ (i : Nat) d, ρ[i]? = some (.dat d) → ∃ v, σ[i]? = some (some v) ∧ Rep K g d v
  own : ∀ (i : Nat) ds, ρ[i]? = some (.own ds) → ∃ a vs, σ[i]? = some (some (.ref a)) ∧ g.H a = some (.lst vs) ∧ a ∉ g.m ∧ ¬ g.Z a ∧ g0.H a = none ∧ Reps K g ds vs
  sep : ∀ (i j : Nat) di dj a, ρ[i]? = some (.own di) → ρ[j]? = some (.own dj) → σ[i]? = some (some (.ref a)) → σ[j]? = some (some (.ref a)) → i = j

theorem EnvOk.step {K : PySem.W.Frag} {g0 g g' : Gh} {ρ : Env} {σ : L2.St} (h : EnvOk K g0 g ρ σ) (x : Ext g g') (gi : GI g') : EnvOk K g0 g' ρ σ where
  len := h.len
  ext := h.ext.trans x
  gi := gi
  dat := fun i d e => let ⟨v, e1, e2⟩ := h.dat i d e; ⟨v, e1, Rep.le (x.le h.gi) d v e2⟩
  own := fun i ds e => by
    obtain ⟨a, vs, e1, e2, e3, e4, e5, e6⟩ := h.own i ds e
    exact ⟨a, vs, e1, x.keep _ _ e2 e3, x.notm (by rw [e2]; simp) e3, fun z => (x.Z' a z).elim e4 (fun q => by rw [e2] at q; cases q), e5, Reps.le (x.le h.gi) _ _ e6⟩
  sep := h.sep

/-! ### small changes of the ghost -/
/-- a new object at a free place -/
theorem Ext.laid {g : Gh} {p : Addr} {o : HO} (h : g.H p = none) : Ext g { g with H := upd g.H p o } :=
  ⟨⟨[], by simp, fun a h => by cases h⟩, fun a o' e _ => by show upd g.H p o a = _; rw [upd_ne (ne_of_none e h)]; exact e, fun a e => by
    show upd g.H p o a ≠ _
    by_cases q : a = p
    · subst q; exact absurd h e
    · rw [upd_ne q]; exact e, fun _ z => z, fun _ z => .inl z⟩
theorem GI.laid {g : Gh} {p : Addr} {o : HO} (gi : GI g) (h : g.H p = none) : GI { g with H := upd g.H p o } :=
  ⟨gi.nd, fun a ha => by
    obtain ⟨⟨vs, e⟩, z⟩ := gi.cell a ha
    exact ⟨⟨vs, by show upd g.H p o a = _; rw [upd_ne (ne_of_none e h)]; exact e⟩, z⟩, fun a z => by
    show upd g.H p o a ≠ none
    by_cases q : a = p
    · subst q; rw [upd_same]; simp
    · rw [upd_ne q]; exact gi.zed a z⟩
theorem StOk.le {K : PySem.W.Frag} {g g' : Gh} {st : Cells} (s : StOk K g st) (l : RepLe g g') (hm : g'.m = g.m) (h : ∀ a ∈ g.m, g'.H a = g.H a) : StOk K g' st :=
  ⟨by rw [hm]; exact s.len, fun k a ds e1 e2 => by
    rw [hm] at e1
    obtain ⟨vs, q1, q2⟩ := s.at_ k a ds e1 e2
    exact ⟨vs, by rw [h a (List.mem_of_getElem? e1)]; exact q1, Reps.le l _ _ q2⟩⟩
theorem GI.ne {g : Gh} (gi : GI g) {p a : Addr} (h : g.H p = none) (ha : a ∈ g.m) : a ≠ p := fun e => by
  subst e
  obtain ⟨⟨vs, q⟩, _⟩ := gi.cell a ha
  rw [h] at q; cases q
theorem StOk.laid {K : PySem.W.Frag} {g : Gh} {st : Cells} {p : Addr} {o : HO} (s : StOk K g st) (gi : GI g) (h : g.H p = none) : StOk K { g with H := upd g.H p o } st :=
  s.le ((Ext.laid h).le gi) rfl fun a ha => by
    show upd g.H p o a = _
    rw [upd_ne (gi.ne h ha)]
/-- a list is frozen -/
def Gh.fr (g : Gh) (a : Addr) : Gh := { g with Z := fun b => g.Z b ∨ b = a }
theorem RepLe.fr {g : Gh} {a : Addr} : RepLe g (g.fr a) := ⟨⟨[], by simp [Gh.fr]⟩, fun _ z => .inl z, fun _ _ _ h => h, fun _ _ h => h, fun _ _ _ h => h, fun _ h => h⟩
theorem Ext.fr {g0 g : Gh} {a : Addr} (x : Ext g0 g) (h : g0.H a = none) : Ext g0 (g.fr a) := ⟨x.m, x.keep, x.there, fun b z => .inl (x.Z b z), fun b z => z.elim (x.Z' b) fun e => e ▸ .inr h⟩
theorem StOk.fr {K : PySem.W.Frag} {g : Gh} {st : Cells} {a : Addr} (s : StOk K g st) : StOk K (g.fr a) st := s.le RepLe.fr rfl fun _ _ => rfl
theorem GI.fr {g : Gh} {a : Addr} (gi : GI g) (h : g.H a ≠ none) (hm : a ∉ g.m) : GI (g.fr a) :=
  ⟨gi.nd, fun b hb => ⟨(gi.cell b hb).1, fun z => z.elim (gi.cell b hb).2 fun e => hm (e ▸ hb)⟩, fun b z => z.elim (gi.zed b) fun e => e ▸ h⟩
/-- a value that is handed on as data -/
theorem RepR.data {K : PySem.W.Frag} {g0 g : Gh} {r : VR} {v : V} {d : D} {st : Cells} (x : Ext g0 g) (gi : GI g) (s : StOk K g st) (h : RepR K g0 g r v) (e : r.data = some d) :
    ∃ g', g'.H = g.H ∧ Ext g0 g' ∧ GI g' ∧ StOk K g' st ∧ Rep K g' d v ∧ RepLe g g' := by
  cases r with
  | dat d' =>
    cases e
    exact ⟨g, rfl, x, gi, s, h, .refl g⟩
  | bor ds => cases e
  | new ds =>
    cases e
    obtain ⟨a, vs, rfl, h1, h2, h3, h4, h5⟩ := h
    refine ⟨g.fr a, rfl, x.fr h4, gi.fr (by rw [h1]; simp) h2, s.fr, ?_, .fr⟩
    rw [Rep]
    exact ⟨a, vs, rfl, h1, .inr rfl, Reps.le .fr _ _ h5⟩
/-- what a value is when it is read at once -/
inductive RdR (K : PySem.W.Frag) (g : Gh) : D → V → Prop
  | non : RdR K g .non .non
  | bl (b : Bool) : RdR K g (.bl b) (.bl b)
  | int (i : Int) : RdR K g (.int i) (.int i)
  | str (s : List Nat) : RdR K g (.str s) (.str ⟨s.toArray⟩)
  | tup {ds : List D} {a : Addr} {vs : List V} (h : SqT K g.H a vs) (t : Reps K g ds vs) : RdR K g (.tup ds) (.ref a)
  | lst {ds : List D} {a : Addr} {vs : List V} (h : g.H a = some (.lst vs)) (n : a ∉ g.m) (t : Reps K g ds vs) : RdR K g (.lst ds) (.ref a)
  | rol {ds : List D} {a : Addr} {vs : List V} (h : RoL K g.H a vs) (t : Reps K g ds vs) : RdR K g (.rol ds) (.ref a)
  | ptr {k : Nat} {a : Addr} (h : g.m[k]? = some a) : RdR K g (.ptr k) (.ref a)
theorem Rep.rd {K : PySem.W.Frag} {g : Gh} (gi : GI g) : ∀ {d : D} {v : V}, Rep K g d v → RdR K g d v
  | .non, v, h => by rw [Rep] at h; subst h; exact .non
  | .bl _, v, h => by rw [Rep] at h; subst h; exact .bl _
  | .int _, v, h => by rw [Rep] at h; subst h; exact .int _
  | .str _, v, h => by rw [Rep] at h; subst h; exact .str _
  | .tup ds, v, h => by
    rw [Rep] at h
    obtain ⟨a, vs, rfl, h1, h2⟩ := h
    exact .tup h1 h2
  | .lst ds, v, h => by
    rw [Rep] at h
    obtain ⟨a, vs, rfl, h1, z, h2⟩ := h
    exact .lst h1 (fun hm => (gi.cell a hm).2 z) h2
  | .rol ds, v, h => by
    rw [Rep] at h
    obtain ⟨a, vs, rfl, h1, h2⟩ := h
    exact .rol h1 h2
  | .ptr k, v, h => by
    rw [Rep] at h
    obtain ⟨a, rfl, h1⟩ := h
    exact .ptr h1
theorem RepR.rd {K : PySem.W.Frag} {g0 g : Gh} (gi : GI g) : ∀ {r : VR} {v : V}, RepR K g0 g r v → RdR K g r.read v
  | .dat d, v, h => Rep.rd gi h
  | .bor ds, v, ⟨a, vs, e, h1, h2, h3⟩ => by subst e; exact .lst h1 h2 h3
  | .new ds, v, ⟨a, vs, e, h1, h2, h3, h4, h5⟩ => by subst e; exact .lst h1 h2 h5
theorem RdR.ext {K : PySem.W.Frag} {g g' : Gh} (gi : GI g) (x : Ext g g') {d : D} {v : V} (h : RdR K g d v) : RdR K g' d v := by
  cases h with
  | non => exact .non
  | bl b => exact .bl b
  | int i => exact .int i
  | str s => exact .str s
  | tup h t => exact .tup (SqT.le (x.le gi) h) (Reps.le (x.le gi) _ _ t)
  | lst h n t => exact .lst (x.keep _ _ h n) (x.notm (by rw [h]; simp) n) (Reps.le (x.le gi) _ _ t)
  | rol h t => exact .rol (RoL.le (x.le gi) h) (Reps.le (x.le gi) _ _ t)
  | ptr h =>
    obtain ⟨e2, h2⟩ := (x.le gi).m
    refine .ptr ?_
    rw [h2, List.getElem?_append_left]
    · exact h
    · exact (List.getElem?_eq_some_iff.mp h).1
/-- a sequence -/
theorem RdR.seq {K : PySem.W.Frag} {g : Gh} {d : D} {v : V} {ds : List D} (h : RdR K g d v) (e : d.items = some ds) : ∃ a vs, v = .ref a ∧ (SqL K g.H a vs ∨ SqT K g.H a vs) ∧ Reps K g ds vs := by
  cases h with
  | tup h t => cases e; exact ⟨_, _, rfl, .inr h, t⟩
  | lst h n t => cases e; exact ⟨_, _, rfl, .inl (.inl (.inl h)), t⟩
  | rol h t => cases e; exact ⟨_, _, rfl, .inl h.sq, t⟩
  | _ => cases e
/-- a list of one's own changes -/
theorem Ext.own {g0 g : Gh} {a : Addr} {o : HO} (x : Ext g0 g) (h : g0.H a = none) : Ext g0 { g with H := upd g.H a o } :=
  ⟨x.m, fun b u e hm => by
    show upd g.H a o b = _
    rw [upd_ne (ne_of_none e h)]; exact x.keep b u e hm, fun b e => by
    show upd g.H a o b ≠ none
    by_cases q : b = a
    · subst q; rw [upd_same]; simp
    · rw [upd_ne q]; exact x.there b e, x.Z, x.Z'⟩
theorem GI.own {g : Gh} {a : Addr} {vs : List V} (gi : GI g) (hm : a ∉ g.m) : GI { g with H := upd g.H a (.lst vs) } :=
  ⟨gi.nd, fun b hb => by
    have ne : b ≠ a := fun e => hm (e ▸ hb)
    obtain ⟨⟨ws, e⟩, z⟩ := gi.cell b hb
    exact ⟨⟨ws, by show upd g.H a _ b = _; rw [upd_ne ne]; exact e⟩, z⟩, fun b z => by
    show upd g.H a _ b ≠ none
    by_cases q : b = a
    · subst q; rw [upd_same]; simp
    · rw [upd_ne q]; exact gi.zed b z⟩
theorem RepLe.own {g : Gh} {a : Addr} {vs ws : List V} (h : g.H a = some (.lst vs)) (z : ¬ g.Z a) : RepLe g { g with H := upd g.H a (.lst ws) } :=
  ⟨⟨[], by simp⟩, fun _ q => q, fun b o q e => by
    show upd g.H a _ b = _
    have ne : b ≠ a := fun h => z (h ▸ q)
    rw [upd_ne ne]; exact e, fun b xs e => by
    show upd g.H a _ b = _
    rw [upd_ne (fun q => by subst q; rw [h] at e; cases e)]; exact e, fun b o u e => by
    show upd g.H a _ b = _
    rw [upd_ne (fun q => by subst q; rw [h] at e; cases e)]; exact e, fun b e => by
    show upd g.H a _ b ≠ none
    by_cases q : b = a
    · subst q; rw [upd_same]; simp
    · rw [upd_ne q]; exact e⟩
theorem StOk.own {K : PySem.W.Frag} {g : Gh} {st : Cells} {a : Addr} {vs ws : List V} (s : StOk K g st) (gi : GI g) (hm : a ∉ g.m) (h : g.H a = some (.lst vs)) (z : ¬ g.Z a) : StOk K { g with H := upd g.H a (.lst ws) } st :=
  s.le (RepLe.own h z) rfl fun b hb => by
    show upd g.H a _ b = _
    have ne : b ≠ a := fun h => hm (h ▸ hb)
    rw [upd_ne ne]
end Sf
/-! SfOps: the operations on data, in the model. -/
namespace Sf
open PySem PySem.Spec PyProof.Rows L2

/-! ### what is wanted, said of the syntax -/
def WE (X : Cx) (e : Expr) : TE := fun σ H Q => ∀ pins s, Inv X pins σ H s → wpAny (model X.prog X.w) X.A (eval e X.env) (EP X pins σ Q) X.xe s
def WT (X : Cx) (e : Expr) : TT := fun σ H Q => ∀ pins s, Inv X pins σ H s → wpAny (model X.prog X.w) X.A (PySem.isTrue e X.env (eval e X.env)) (TP X pins σ Q) X.xe s
def WO (X : Cx) (f : Value → Value → Sem Value) : R2 := fun x y H Q => ∀ pins s σ v u, Inv X pins σ H s → RelV x v → RelV y u → wpAny (model X.prog X.w) X.A (f v u) (EP X pins σ Q) X.xe s
def WC (X : Cx) (f : Value) : List V → Hp → VK → Prop := fun xs H Q => ∀ pins s σ us, Inv X pins σ H s → Vals xs us → wpAny (model X.prog X.w) X.A (PySem.call f us) (EP X pins σ Q) X.xe s
theorem we_pe {X : Cx} {e : Expr} : PE X e (WE X e) := ⟨fun pins s σ H Q I h => h pins s I⟩
theorem wt_pt {X : Cx} {e : Expr} : PT X e (WT X e) := ⟨fun pins s σ H Q I h => h pins s I⟩
theorem wo_op {X : Cx} {f : Value → Value → Sem Value} : OpR X f (WO X f) := fun pins s σ H x y v u Q I rx ry h => h pins s σ v u I rx ry
theorem wc_call {X : Cx} {f : Value} : CallR X f (WC X f) := fun pins s σ H xs us Q I r h => h pins s σ us I r
theorem pew {X : Cx} {e : Expr} {t : TE} (h : PE X e t) {σ : L2.St} {H : Hp} {Q : VK} (q : t σ H Q) : WE X e σ H Q := fun pins s I => h.run pins s σ H Q I q
theorem ptw {X : Cx} {e : Expr} {t : TT} (h : PT X e t) {σ : L2.St} {H : Hp} {Q : Bool → Hp → Prop} (q : t σ H Q) : WT X e σ H Q := fun pins s I => h.run pins s σ H Q I q
theorem opw {X : Cx} {f : Value → Value → Sem Value} {r : R2} (h : OpR X f r) {x y : V} {H : Hp} {Q : VK} (q : r x y H Q) : WO X f x y H Q := fun pins s σ v u I rx ry => h pins s σ H x y v u Q I rx ry q
theorem callw {X : Cx} {f : Value} {r : List V → Hp → VK → Prop} (h : CallR X f r) {xs : List V} {H : Hp} {Q : VK} (q : r xs H Q) : WC X f xs H Q := fun pins s σ us I rx => h pins s σ H xs us Q I rx q

/-- where an end is wanted: any result r at v, behind g -/
def Fin (K : PySem.W.Frag) (gp g : Gh) (st : Cells) (r : VR) (Q : VK) : Prop := ∀ v g', Ext g g' → GI g' → StOk K g' st → RepR K gp g' r v → Q v g'.H

section
variable {K : PySem.W.Frag} {gp g : Gh} {st : Cells} {Q : VK}
theorem Fin.here {r : VR} {v : V} (f : Fin K gp g st r Q) (gi : GI g) (s : StOk K g st) (h : RepR K gp g r v) : Q v g.H := f v g (.refl g) gi s h
/-- a new tuple -/
theorem Fin.tup {ds : List D} {vs : List V} (f : Fin K gp g st (.dat (.tup ds)) Q) (gi : GI g) (s : StOk K g st) (h : Reps K g ds vs) : ∀ p, g.H p = none → Q (.ref p) (upd g.H p (.tup vs)) := fun p hp =>
  f (.ref p) { g with H := upd g.H p (.tup vs) } (.laid hp) (gi.laid hp) (s.laid gi hp) (by
    show Rep K _ _ _
    rw [Rep]
    exact ⟨p, vs, rfl, .inl (.inl upd_same), Reps.le ((Ext.laid hp).le gi) _ _ h⟩)
/-- a new list -/
theorem Fin.new {ds : List D} {vs : List V} (f : Fin K gp g st (.new ds) Q) (x : Ext gp g) (gi : GI g) (s : StOk K g st) (h : Reps K g ds vs) : ∀ p, g.H p = none → Q (.ref p) (upd g.H p (.lst vs)) := fun p hp =>
  f (.ref p) { g with H := upd g.H p (.lst vs) } (.laid hp) (gi.laid hp) (s.laid gi hp)
    ⟨p, vs, rfl, upd_same, fun hm => gi.ne hp hm rfl, fun z => gi.zed p z hp, x.fresh hp, Reps.le ((Ext.laid hp).le gi) _ _ h⟩
end

theorem line_eq : line = sizeLine := by rw [sizeLine_eq]; rfl

/-! ### slices' places -/
theorem slIx_eq (n d : Nat) (o : Option Int) : slIx n d o = HT.sIx n d o := by
  cases o <;> rfl
theorem cut_eq (vs : List V) (lo hi : Option Int) : cut vs lo hi = cutV vs lo hi := by
  unfold cut cutV
  rw [slIx_eq, slIx_eq]
theorem Reps.cut {K : PySem.W.Frag} {g : Gh} {ds : List D} {vs : List V} (h : Reps K g ds vs) (lo hi : Option Int) : Reps K g (cut ds lo hi) (cutV vs lo hi) := by
  rw [← cut_eq]
  unfold Sf.cut
  rw [h.length]
  exact (h.drop _).take _
theorem ixOf_eq (n : Nat) (i : Int) : ixOf n i = ixN n i := by rfl
theorem Reps.getI {K : PySem.W.Frag} {g : Gh} {ds : List D} {vs : List V} {d : D} {i : Int} (h : Reps K g ds vs) (e : Sf.getI ds i = some d) : ∃ v, atI vs i = some v ∧ Rep K g d v := by
  unfold Sf.getI at e
  unfold atI
  rw [ixOf_eq, h.length] at e
  cases q : ixN vs.length i with
  | none => rw [q] at e; cases e
  | some j =>
    rw [q] at e
    exact h.get e

/-! ### a tuple so many times -/
section
theorem tmul_one (l : Addr) (items : Array Value) (n : Nat) (sl : Array (Option Value)) (dd : Option Addr) (x : Int) (u : Tok) (c0 : (decide (x < -(2 ^ 63)) || decide (x ≥ 2 ^ 63)) = false) (c1 : (items.isEmpty || x == 1) = true) :
    Meets (Builtin.«tuple.__mul__» ⟨[.ref l, .int x u], []⟩) (fun _ R s => s.heap.get? l = some { cls := .type "tuple", dict := dd, data := .seq items n, slots := sl } ∧ R (.ok (.ret (Value.ref l))) s) :=
  .of_wp fun prog w A R s h => by
    obtain ⟨hp, gg, dr, tk, os⟩ := s
    obtain ⟨hl, hR⟩ := h
    have f1 := AutoSeq1.idx_int
    wp_walk using wpAny_loadPart' hl
    repeat (first
      | (refine wpAny_ite_false (decide_eq_false (by rw [c0]; exact Bool.false_ne_true)) ?_; wp_walk using wpAny_loadPart' hl)
      | (refine wpAny_ite_true (decide_eq_true c1) ?_; wp_walk using wpAny_loadPart' hl))
    exact ⟨_, rfl, hR⟩
theorem tmul_none (l : Addr) (items : Array Value) (n : Nat) (sl : Array (Option Value)) (dd : Option Addr) (x : Int) (u : Tok) (c0 : (decide (x < -(2 ^ 63)) || decide (x ≥ 2 ^ 63)) = false) (c1 : (items.isEmpty || x == 1) = false) (c2 : (decide (x ≤ 0) || items.isEmpty) = true) :
    Meets (Builtin.«tuple.__mul__» ⟨[.ref l, .int x u], []⟩) (fun _ R s => s.heap.get? l = some { cls := .type "tuple", dict := dd, data := .seq items n, slots := sl } ∧
      R (.ok (.ret (Value.ref s.heap.objs.size))) { s with heap := s.heap.push { cls := Value.type "tuple", data := Data.seq #[] }, toks := s.toks }) :=
  .of_wp fun prog w A R s h => by
    obtain ⟨hp, gg, dr, tk, os⟩ := s
    obtain ⟨hl, hR⟩ := h
    have f1 := AutoSeq1.idx_int
    wp_walk using wpAny_loadPart' hl
    repeat (first
      | (refine wpAny_ite_false (decide_eq_false (by rw [c0]; exact Bool.false_ne_true)) ?_; wp_walk using wpAny_loadPart' hl)
      | (refine wpAny_ite_false (decide_eq_false (by rw [c1]; exact Bool.false_ne_true)) ?_; wp_walk using wpAny_loadPart' hl)
      | (refine wpAny_ite_true (decide_eq_true c2) ?_; wp_walk using wpAny_loadPart' hl))
    exact ⟨_, rfl, hR⟩
/-- (x, ..) * k -/
def rRepG (K : PySem.W.Frag) : R2 := fun x y H Q => ∃ l k xs, x = .ref l ∧ y = .int k ∧ SqT K H l xs ∧ -(2 ^ 62) ≤ k ∧ k < 2 ^ 62 ∧ xs.length * k.toNat ≤ sizeLine ∧
  (xs = [] ∨ k = 1 → Q (.ref l) H) ∧ (∀ p, H p = none → Q (.ref p) (upd H p (.tup (List.replicate k.toNat xs).flatten)))
theorem op_repG {X : Cx} : OpR X (binaryOp .Mult) (rRepG X.K) := by
  intro pins s σ H x y v u Q I rx ry h
  obtain ⟨l, k, xs, rfl, rfl, hT, k1, k2, hz, q1, q2⟩ := h
  cases rx
  obtain ⟨t, rfl⟩ := ry
  obtain ⟨its, r, ⟨⟨cls, dd, data, sl⟩, ho, hc, n, hd⟩, hs⟩ := I.tuple hT
  simp only at hc hd
  subst hc hd
  have hle : its.length = xs.length := r.length.symm
  have c0 : (decide (k < -(2 ^ 63)) || decide (k ≥ 2 ^ 63)) = false := by
    rw [decide_eq_false (by omega), decide_eq_false (by omega)] <;> rfl
  have hi : its.toArray.isEmpty = true ↔ xs = [] := by
    cases its with
    | nil => exact ⟨fun _ => List.eq_nil_of_length_eq_zero hle.symm, fun _ => rfl⟩
    | cons a b => exact ⟨fun z => by simp at z, fun z => by rw [z] at hle; simp at hle⟩
  have mulr := fun {R : Result → Shared → Prop} (h : codeAny (model X.prog X.w) X.A (.call (.builtin "tuple.__mul__") ⟨[.ref l, .int k t], []⟩) R s) => h
  by_cases hq : xs = [] ∨ k = 1
  · have c1 : (its.toArray.isEmpty || k == 1) = true := by
      rcases hq with e | e
      · rw [hi.mpr e]; rfl
      · rw [e]; simp
    refine wpAny_binaryOp_repeat_ref (T := "tuple") (U := "int") (by decide) ⟨_, ho, rfl⟩ (fun s' => typeIs_int s' k t) noFill_tuple_mul F.fills_int_mul F.slot_int_rmul repeat_tuple F.slot_int_index.lookup
      (call_meets F.slot_int_rmul (typeIs_int s k t) F.entry_int_rmul (F.args_int_rmul_2 _ _) (int_rmul_tuple k t l its.toArray n dd sl)
        ⟨ho, rfl, ⟨_, ho, rfl⟩, call_meets F.slot_tuple_mul ⟨_, ho, rfl⟩ F.entry_tuple_mul (F.args_tuple_mul_2 _ _) (tmul_one l its.toArray n sl dd k t c0 c1) ⟨ho, ?_⟩⟩)
    exact ⟨.ref l, H, I, rfl, q1 hq⟩
  · have hne : ¬ xs = [] := fun e => hq (.inl e)
    have hk1 : k ≠ 1 := fun e => hq (.inr e)
    have he : its.toArray.isEmpty = false := by
      cases b : its.toArray.isEmpty with
      | false => rfl
      | true => exact absurd (hi.mp b) hne
    have c1 : (its.toArray.isEmpty || k == 1) = false := by
      rw [he, Bool.false_or]
      exact beq_eq_false_iff_ne.mpr hk1
    by_cases hk : k ≤ 0
    · have c2 : (decide (k ≤ 0) || its.toArray.isEmpty) = true := by rw [decide_eq_true hk, Bool.true_or]
      have e0 : (List.replicate k.toNat xs).flatten = [] := by
        have : k.toNat = 0 := by omega
        rw [this]; rfl
      refine wpAny_binaryOp_repeat_ref (T := "tuple") (U := "int") (by decide) ⟨_, ho, rfl⟩ (fun s' => typeIs_int s' k t) noFill_tuple_mul F.fills_int_mul F.slot_int_rmul repeat_tuple F.slot_int_index.lookup
        (call_meets F.slot_int_rmul (typeIs_int s k t) F.entry_int_rmul (F.args_int_rmul_2 _ _) (int_rmul_tuple k t l its.toArray n dd sl)
          ⟨ho, rfl, ⟨_, ho, rfl⟩, call_meets F.slot_tuple_mul ⟨_, ho, rfl⟩ F.entry_tuple_mul (F.args_tuple_mul_2 _ _) (tmul_none l its.toArray n sl dd k t c0 c1 c2) ⟨ho, ?_⟩⟩)
      have q3 := q2 _ (I.hok.fresh (Nat.le_refl _))
      rw [e0] at q3
      exact ⟨.ref s.heap.objs.size, _, I.laid (t' := s.toks) (o := .tup []) (fun b ob q => Heap.get?_push_of_some _ q) (Nat.le_refl _) ⟨Nat.zero_le _, [], .nil, IsTup.new _ _⟩, rfl, q3⟩
    · have hkn : ((k.toNat : Nat) : Int) = k := by omega
      have hm : ((its.toArray.size : Nat) : Int) * k ≤ 16777216 := by
        rw [sizeLine_eq] at hz
        rw [← hkn, List.size_toArray, hle]
        have h1 : ((xs.length * k.toNat : Nat) : Int) ≤ ((16777216 : Nat) : Int) := Int.ofNat_le.mpr hz
        rw [Int.natCast_mul] at h1
        exact h1
      have flen : (List.replicate k.toNat its).flatten.length ≤ sizeLine := by
        rw [PyProof.Rows.lm_len_rep_flat, hle, Nat.mul_comm]
        exact hz
      have c2 : (decide (k ≤ 0) || its.toArray.isEmpty) = false := by
        rw [he, Bool.or_false]
        exact decide_eq_false hk
      have c4 : Builtin.Tuple.tupleTooMany (((its.toArray.size : Nat) : Int) * k) = false := by
        unfold Builtin.Tuple.tupleTooMany
        rw [sizeLine_eq]
        exact decide_eq_false (by omega)
      refine wpAny_binaryOp_repeat_ref (T := "tuple") (U := "int") (by decide) ⟨_, ho, rfl⟩ (fun s' => typeIs_int s' k t) noFill_tuple_mul F.fills_int_mul F.slot_int_rmul repeat_tuple F.slot_int_index.lookup
        (call_meets F.slot_int_rmul (typeIs_int s k t) F.entry_int_rmul (F.args_int_rmul_2 _ _) (int_rmul_tuple k t l its.toArray n dd sl)
          ⟨ho, rfl, ⟨_, ho, rfl⟩, call_meets F.slot_tuple_mul ⟨_, ho, rfl⟩ F.entry_tuple_mul (F.args_tuple_mul_2 _ _) (tuple_mulW l its.toArray n dd sl k t c0 c1 c2 (by omega) c4 (by rw [size_rep, List.size_toArray]; exact flen)) ⟨ho, ?_⟩⟩)
      rw [size_rep]
      have hzz : (List.replicate k.toNat xs).flatten.length ≤ sizeLine := by
        rw [PyProof.Rows.lm_len_rep_flat, Nat.mul_comm]
        exact hz
      exact ⟨.ref s.heap.objs.size, _, I.laid (t' := s.toks) (o := .tup (List.replicate k.toNat xs).flatten) (fun b ob q => Heap.get?_push_of_some _ q) (Nat.le_refl _) ⟨hzz, _, r.rep k.toNat, IsTup.new _ _⟩, rfl, q2 _ (I.hok.fresh (Nat.le_refl _))⟩
end

/-! ### == -/
mutual
def toPy : D → PyData
  | .non => .none
  | .bl b => .bool b
  | .int i => .int i
  | .str s => .str ⟨s.toArray⟩
  | .tup ds => .tuple (toPys ds)
  | .lst ds => .list (toPys ds)
  | .rol ds => .list (toPys ds)
  | .ptr _ => .none
def toPys : List D → List PyData
  | [] => []
  | d :: ds => toPy d :: toPys ds
end
theorem str_beq (a b : List Nat) : ((⟨a.toArray⟩ : Str) == (⟨b.toArray⟩ : Str)) = (a == b) := by
  by_cases h : a = b
  · subst h; simp
  · have h2 : ¬ (⟨a.toArray⟩ : Str) = ⟨b.toArray⟩ := fun e => h (by simpa using congrArg (fun z : Str => z.cps.toList) e)
    rw [beq_eq_false_iff_ne.mpr h2, beq_eq_false_iff_ne.mpr h]
mutual
theorem eqv_eqb : ∀ (n m : Nat) (d e : D), d.shp n = true → e.shp m = true → PyData.eqv (toPy d) (toPy e) = D.eqb d e
  | n, m, d, e, hd, he => by
    cases d <;> cases e <;> first
      | (rw [toPy, toPy, PyData.eqv, D.eqb] <;> done)
      | (rw [toPy, toPy, PyData.eqv, D.eqb]; exact str_beq _ _)
      | (rw [toPy, toPy, PyData.eqv, D.eqb]; rfl)
      | (cases n <;> simp [D.shp] at hd <;> done)
      | (cases m <;> simp [D.shp] at he <;> done)
      | (simp [toPy, PyData.eqv, D.eqb] <;> done)
      | skip
    all_goals (cases n with
      | zero => simp [D.shp] at hd
      | succ n => cases m with
        | zero => simp [D.shp] at he
        | succ m =>
          simp only [D.shp] at hd he
          simp only [toPy,PyData.eqv,D.eqb]
          first | exact eqvs_eqbs n m _ _ hd he | skip)
theorem eqvs_eqbs : ∀ (n m : Nat) (ds es : List D), D.shps n ds = true → D.shps m es = true → PyData.eqvAll (toPys ds) (toPys es) = D.eqbs ds es
  | n, m, [], [], _, _ => by simp [toPys, PyData.eqvAll, D.eqbs]
  | n, m, [], _ :: _, _, _ => by simp [toPys, PyData.eqvAll, D.eqbs]
  | n, m, _ :: _, [], _, _ => by simp [toPys, PyData.eqvAll, D.eqbs]
  | n, m, d :: ds, e :: es, hd, he => by
    simp only [D.shps,Bool.and_eq_true] at hd he
    simp only [toPys,PyData.eqvAll,D.eqbs]
    rw [eqv_eqb n m d e hd.1 he.1, eqvs_eqbs n m ds es hd.2 he.2]
end

mutual
theorem lay_of : ∀ (n : Nat) (d : D), d.shp n = true → (toPy d).canLay0 = true ∧ (toPy d).depth ≤ n
  | n, .non, _ => by simp [toPy, PyData.canLay0, PyData.depth]
  | n, .bl _, _ => by simp [toPy, PyData.canLay0, PyData.depth]
  | n, .int _, _ => by simp [toPy, PyData.canLay0, PyData.depth]
  | n, .str s, h => by
    have h' : s.all (fun c => decide (c < 1114112)) = true := by
      cases n <;> simpa [D.shp] using h
    refine ⟨?_, by simp [toPy, PyData.depth]⟩
    simp only [toPy,PyData.canLay0,PyData.strOk]
    simpa using h'
  | 0, .tup ds, h => by simp [D.shp] at h
  | 0, .lst ds, h => by simp [D.shp] at h
  | 0, .rol ds, h => by simp [D.shp] at h
  | 0, .ptr _, h => by simp [D.shp] at h
  | n + 1, .tup ds, h => by
    have ih := lays_of n ds (by simpa [D.shp] using h)
    simp only [toPy,PyData.canLay0,PyData.depth]
    exact ⟨ih.1, Nat.succ_le_succ ih.2⟩
  | n + 1, .lst ds, h => by
    have ih := lays_of n ds (by simpa [D.shp] using h)
    simp only [toPy,PyData.canLay0,PyData.depth]
    exact ⟨ih.1, Nat.succ_le_succ ih.2⟩
  | n + 1, .rol ds, h => by
    have ih := lays_of n ds (by simpa [D.shp] using h)
    simp only [toPy,PyData.canLay0,PyData.depth]
    exact ⟨ih.1, Nat.succ_le_succ ih.2⟩
  | n + 1, .ptr _, h => by simp [D.shp] at h
theorem lays_of : ∀ (n : Nat) (ds : List D), D.shps n ds = true → PyData.canLayAll0 (toPys ds) = true ∧ PyData.depthAll (toPys ds) ≤ n
  | n, [], _ => by simp [toPys, PyData.canLayAll0, PyData.depthAll]
  | n, d :: ds, h => by
    simp only [D.shps,Bool.and_eq_true] at h
    have h1 := lay_of n d h.1
    have h2 := lays_of n ds h.2
    simp only [toPys,PyData.canLayAll0,PyData.depthAll,Bool.and_eq_true]
    exact ⟨⟨h1.1, h2.1⟩, Nat.max_le.mpr ⟨h1.2, h2.2⟩⟩
end
theorem shaped_of {n : Nat} {d : D} (h : d.shp n = true) (hn : n ≤ 64) : SeqAt.shaped (toPy d) = true := by
  obtain ⟨h1, h2⟩ := lay_of n d h
  unfold SeqAt.shaped
  rw [h1, decide_eq_true (Nat.le_trans h2 hn)]
  rfl
mutual
theorem Rep.dp {K : PySem.W.Frag} {g : Gh} : ∀ (n : Nat) (d : D) (v : V), d.shp n = true → Rep K g d v → Dp K g.H v (toPy d)
  | n, .non, v, _, h => by rw [Rep] at h; subst h; exact .non
  | n, .bl _, v, _, h => by rw [Rep] at h; subst h; exact .bl _
  | n, .int _, v, _, h => by rw [Rep] at h; subst h; exact .int _
  | n, .str _, v, _, h => by rw [Rep] at h; subst h; exact .str _
  | n, .tup ds, v, hs, h => by
    rw [Rep] at h
    obtain ⟨a, vs, rfl, h1, h2⟩ := h
    cases n with
    | zero => simp [D.shp] at hs
    | succ n => exact .tup h1 (Reps.dp n ds vs (by simpa [D.shp] using hs) h2)
  | n, .lst ds, v, hs, h => by
    rw [Rep] at h
    obtain ⟨a, vs, rfl, h1, _, h2⟩ := h
    cases n with
    | zero => simp [D.shp] at hs
    | succ n => exact .lst (.inl (.inl h1)) (Reps.dp n ds vs (by simpa [D.shp] using hs) h2)
  | n, .rol ds, v, hs, h => by
    rw [Rep] at h
    obtain ⟨a, vs, rfl, h1, h2⟩ := h
    cases n with
    | zero => simp [D.shp] at hs
    | succ n => exact .lst h1.sq (Reps.dp n ds vs (by simpa [D.shp] using hs) h2)
  | n, .ptr _, v, hs, h => by cases n <;> simp [D.shp] at hs
theorem Reps.dp {K : PySem.W.Frag} {g : Gh} : ∀ (n : Nat) (ds : List D) (vs : List V), D.shps n ds = true → Reps K g ds vs → DpAll K g.H vs (toPys ds)
  | n, [], vs, _, h => by rw [Reps] at h; subst h; rw [toPys]; exact .nil
  | n, d :: ds, vs, hs, h => by
    rw [Reps] at h
    obtain ⟨v, r, rfl, h1, h2⟩ := h
    simp only [D.shps,Bool.and_eq_true] at hs
    rw [toPys]
    exact .cons (Rep.dp n d v hs.1 h1) (Reps.dp n ds r hs.2 h2)
end
theorem RdR.dp {K : PySem.W.Frag} {g : Gh} {n : Nat} {d : D} {v : V} (hs : d.shp n = true) (h : RdR K g d v) : Dp K g.H v (toPy d) := by
  cases h with
  | non => exact .non
  | bl b => exact .bl b
  | int i => exact .int i
  | str s => exact .str _
  | tup h t => cases n with
    | zero => simp [D.shp] at hs
    | succ n => rw [toPy]; exact .tup h (Reps.dp n _ _ (by simpa [D.shp] using hs) t)
  | lst h m t => cases n with
    | zero => simp [D.shp] at hs
    | succ n => rw [toPy]; exact .lst (.inl (.inl h)) (Reps.dp n _ _ (by simpa [D.shp] using hs) t)
  | rol h t => cases n with
    | zero => simp [D.shp] at hs
    | succ n => rw [toPy]; exact .lst h.sq (Reps.dp n _ _ (by simpa [D.shp] using hs) t)
  | ptr h => cases n <;> simp [D.shp] at hs

/-! ### in -/
def flV : D → V
  | .bl b => .bl b
  | .int i => .int i
  | .str s => .str ⟨s.toArray⟩
  | _ => .non
theorem RdR.flat {K : PySem.W.Frag} {g : Gh} {d : D} {v : V} (h : RdR K g d v) (f : d.flat = true) : v = flV d ∧ flatV v = true := by
  cases h <;> first | exact ⟨rfl, rfl⟩ | cases f
theorem Rep.flat {K : PySem.W.Frag} {g : Gh} {d : D} {v : V} (h : Rep K g d v) (f : d.flat = true) : v = flV d ∧ flatV v = true := by
  cases d <;> first | (cases f; done) | (rw [Rep] at h; subst h; exact ⟨rfl, rfl⟩)
theorem eqV_eqb {d e : D} (fd : d.flat = true) (fe : e.flat = true) : eqV (flV d) (flV e) = D.eqb d e := by
  cases d <;> first | (cases fd; done) | (cases e <;> first | (cases fe; done) | (simp [flV, eqV, D.eqb]; done) | (simp only [flV,eqV,D.eqb]; exact str_beq _ _))
theorem Reps.flat {K : PySem.W.Frag} {g : Gh} : ∀ {ds : List D} {vs : List V}, Reps K g ds vs → ds.all D.flat = true → vs.all flatV = true ∧ ∀ {e : D}, e.flat = true → (vs.any fun y => eqV y (flV e)) = ds.any fun d => D.eqb d e
  | [], vs, h, _ => by rw [Reps] at h; subst h; exact ⟨rfl, fun _ => rfl⟩
  | d :: ds, vs, h, f => by
    rw [Reps] at h
    obtain ⟨v, r, rfl, h1, h2⟩ := h
    simp only [List.all_cons,Bool.and_eq_true] at f
    obtain ⟨e1, f1⟩ := h1.flat f.1
    have ih := Reps.flat h2 f.2
    refine ⟨by simp [f1, ih.1], fun {e} fe => ?_⟩
    simp only [List.any_cons]
    rw [ih.2 fe, e1, eqV_eqb f.1 fe]
end Sf
/-! SfIn: x in xs of things in one another. -/
namespace Sf
open PySem PySem.Spec PyProof PyProof.Rows L2
section
variable {X : Cx}
theorem DpAll.get {K : PySem.W.Frag} {H : Hp} : ∀ {vs : List V} {ds : List PyData}, DpAll K H vs ds → vs.length = ds.length
  | _, _, h => by
    cases h with
    | nil => rfl
    | cons h t => rw [List.length_cons, List.length_cons, DpAll.get t]
def rInD (K : PySem.W.Frag) (neg : Bool) : R2 := fun x y H Q => ∃ p xs d ds, y = .ref p ∧ (SqL K H p xs ∨ SqT K H p xs) ∧ Dp K H x d ∧ DpAll K H xs ds ∧ d.canLay0 = true ∧ PyData.canLayAll0 ds = true ∧ d.depth ≤ 60 ∧ Q (.bl (if neg then !(ds.any fun e => PyData.eqv e d) else ds.any fun e => PyData.eqv e d)) H
open Classical in
/-- what an item answers -/
noncomputable def ansW (h : Heap) (d : PyData) (w : Value) : Bool := if q : ∃ e as, Reads h w e as ∧ e.canLay0 = true then PyData.eqv (Classical.choose q) d else false
theorem ansW_of {h : Heap} {d e : PyData} {w : Value} {as : List Addr} (r : Reads h w e as) (hl : e.canLay0 = true) : ansW h d w = PyData.eqv e d := by
  have q : ∃ e as, Reads h w e as ∧ e.canLay0 = true := ⟨e, as, r, hl⟩
  unfold ansW
  rw [dif_pos q]
  obtain ⟨bs, r', hl'⟩ := Classical.choose_spec q
  rw [SeqAt.Reads.unique _ _ _ _ _ hl' r' r]
theorem ans_any {h : Heap} {d : PyData} : ∀ {us : List Value} {ds : List PyData} {as : List Addr}, ReadsAll h us ds as → PyData.canLayAll0 ds = true → us.any (ansW h d) = ds.any fun e => PyData.eqv e d
  | _, _, _, .nil, _ => rfl
  | _, _, _, .cons r t, hl => by
    simp only [PyData.canLayAll0,Bool.and_eq_true] at hl
    rw [List.any_cons, List.any_cons, ansW_of r hl.1, ans_any t hl.2]
theorem ans_at {A : Around} {s : Shared} {v : Value} {d : PyData} {bs : List Addr} (rv : Reads s.heap v d bs) (hd : d.canLay0 = true) (hu : A.units + d.depth < cLine) : ∀ {us : List Value} {ds : List PyData} {as : List Addr}, ReadsAll s.heap us ds as → PyData.canLayAll0 ds = true → ∀ u ∈ us, SeqAt.EqAt A s u v (ansW s.heap d u)
  | _, _, _, .nil, _ => fun u hu => by cases hu
  | _, _, _, .cons r t, hl => fun u hm => by
    simp only [PyData.canLayAll0,Bool.and_eq_true] at hl
    rcases List.mem_cons.mp hm with rfl | hm
    · rw [ansW_of r hl.1]
      exact SeqAt.eqAt_reads _ _ _ _ _ _ _ _ r rv hl.1 hd (Nat.lt_of_le_of_lt (Nat.add_le_add_left (Nat.min_le_right _ _) _) hu)
    · exact ans_at rv hd hu t hl.2 u hm
theorem op_inD (hu : X.A.units + 64 < cLine) : OpR X (compareOp .In) (rInD X.K false) := by
  intro pins s σ H x y v u Q I rx ry h
  obtain ⟨p, xs, d, ds, rfl, hq, hd, hds, hl, hls, hdp, q⟩ := h
  cases ry
  obtain ⟨bs, rv⟩ := Dp.reads I d x v hd rx
  have hu' : X.A.in1.units + d.depth < cLine := by
    show X.A.units + 1 + d.depth < cLine
    omega
  rcases hq with hq | hq
  · obtain ⟨its, r, pl, hz⟩ := I.list hq
    obtain ⟨as, ra⟩ := Dp.readsAll I ds xs its hds r
    refine SeqAt.in_listAt (ansW s.heap d) pl.isList (fun w hw => ans_at rv hl hu' ra hls w (by simpa using hw)) ⟨.bl _, H, I, rfl, ?_⟩
    rw [show its.toArray.any (ansW s.heap d) = its.any (ansW s.heap d) by simp, ans_any ra hls]
    exact q
  · obtain ⟨its, r, pl, hz⟩ := I.tuple hq
    obtain ⟨as, ra⟩ := Dp.readsAll I ds xs its hds r
    refine SeqAt.in_tupleAt (ansW s.heap d) pl (fun w hw => ans_at rv hl hu' ra hls w (by simpa using hw)) ⟨.bl _, H, I, rfl, ?_⟩
    rw [show its.toArray.any (ansW s.heap d) = its.any (ansW s.heap d) by simp, ans_any ra hls]
    exact q
theorem op_notInD (hu : X.A.units + 64 < cLine) : OpR X (compareOp .NotIn) (rInD X.K true) := by
  intro pins s σ H x y v u Q I rx ry h
  obtain ⟨p, xs, d, ds, rfl, hq, hd, hds, hl, hls, hdp, q⟩ := h
  cases ry
  obtain ⟨bs, rv⟩ := Dp.reads I d x v hd rx
  have hu' : X.A.in1.units + d.depth < cLine := by
    show X.A.units + 1 + d.depth < cLine
    omega
  rcases hq with hq | hq
  · obtain ⟨its, r, pl, hz⟩ := I.list hq
    obtain ⟨as, ra⟩ := Dp.readsAll I ds xs its hds r
    refine SeqAt.notIn_listAt (ansW s.heap d) pl.isList (fun w hw => ans_at rv hl hu' ra hls w (by simpa using hw)) ⟨.bl _, H, I, rfl, ?_⟩
    rw [show its.toArray.any (ansW s.heap d) = its.any (ansW s.heap d) by simp, ans_any ra hls]
    exact q
  · obtain ⟨its, r, pl, hz⟩ := I.tuple hq
    obtain ⟨as, ra⟩ := Dp.readsAll I ds xs its hds r
    refine SeqAt.notIn_tupleAt (ansW s.heap d) pl (fun w hw => ans_at rv hl hu' ra hls w (by simpa using hw)) ⟨.bl _, H, I, rfl, ?_⟩
    rw [show its.toArray.any (ansW s.heap d) = its.any (ansW s.heap d) by simp, ans_any ra hls]
    exact q
end
/-- membership, by the data -/
theorem any_eqb {n m : Nat} {d : D} (hd : d.shp m = true) : ∀ {ds : List D}, D.shps n ds = true → ((toPys ds).any fun e => PyData.eqv e (toPy d)) = ds.any fun e => D.eqb e d
  | [], _ => by rw [toPys]; rfl
  | e :: ds, h => by
    rw [toPys, List.any_cons, List.any_cons]
    have h : (D.shp n e && D.shps n ds) = true := by cases n <;> exact h
    rw [Bool.and_eq_true] at h
    rw [eqv_eqb n m e d h.1 hd, any_eqb hd h.2]
end Sf
/-! SfOps2: binary operators, comparisons, built-in functions, by the data. -/
namespace Sf
open PySem PySem.Spec PyProof.Rows L2

def bopOf : BOp → Operator
  | .add => .Add
  | .sub => .Sub
  | .mul => .Mult
  | .fdiv => .FloorDiv
  | .mod => .Mod
  | .pow => .Pow
def copOf : COp → CmpOp
  | .eq => .Eq
  | .ne => .NotEq
  | .lt => .Lt
  | .le => .LtE
  | .gt => .Gt
  | .ge => .GtE
  | .inn => .In
  | .notin => .NotIn

section
variable {X : Cx} {gp g : Gh} {st : Cells} {Q : VK}

theorem str_app (a b : List Nat) : (⟨a.toArray⟩ : Str) ++ (⟨b.toArray⟩ : Str) = ⟨(a ++ b).toArray⟩ := by
  show (⟨a.toArray ++ b.toArray⟩ : Str) = _
  simp
theorem str_len (a : List Nat) : (⟨a.toArray⟩ : Str).length = a.length := by simp [Str.length]
theorem rep_int {K : PySem.W.Frag} (i : Int) : RepR K gp g (.dat (.int i)) (.int i) := by show Rep _ _ _ _; rw [Rep]
theorem rep_bl {K : PySem.W.Frag} (b : Bool) : RepR K gp g (.dat (.bl b)) (.bl b) := by show Rep _ _ _ _; rw [Rep]
theorem rep_str {K : PySem.W.Frag} (s : List Nat) : RepR K gp g (.dat (.str s)) (.str ⟨s.toArray⟩) := by show Rep _ _ _ _; rw [Rep]
theorem op_fdivG : OpR X (binaryOp .FloorDiv) (rI (fun _ j => j ≠ 0 ∧ j.natAbs.log2 < 9000) fun i j => .int (i.fdiv j)) :=
  opI fun _ _ _ _ _ _ _ hc q => floordiv_int hc.1 q (.inl (PyProof.noPylong_of_log2 hc.2))

theorem sBin {o : BOp} {x y : VR} {vx vy : V} {r : VR} (e : dBin o x y = some r) (xg : Ext gp g) (gi : GI g) (s : StOk X.K g st) (rx : RdR X.K g x.read vx) (ry : RdR X.K g y.read vy) (f : Fin X.K gp g st r Q) : WO X (binaryOp (bopOf o)) vx vy g.H Q := by
  unfold dBin at e
  split at e
  -- add
  · rename_i i j h1 h2
    rw [h1] at rx; rw [h2] at ry
    cases rx; cases ry; cases e
    exact opw op_add ⟨i, j, rfl, rfl, f.here gi s (rep_int _)⟩
  -- sub
  · rename_i i j h1 h2
    rw [h1] at rx; rw [h2] at ry
    cases rx; cases ry; cases e
    exact opw op_sub ⟨i, j, rfl, rfl, f.here gi s (rep_int _)⟩
  -- mul
  · rename_i i j h1 h2
    rw [h1] at rx; rw [h2] at ry
    cases rx; cases ry
    split at e
    · rename_i hb
      cases e
      exact opw op_mulW ⟨i, j, rfl, rfl, hb, f.here gi s (rep_int _)⟩
    · cases e
  -- fdiv
  · rename_i i j h1 h2
    rw [h1] at rx; rw [h2] at ry
    cases rx; cases ry
    split at e
    · rename_i hb
      cases e
      exact opw op_fdivG ⟨i, j, rfl, rfl, hb, f.here gi s (rep_int _)⟩
    · cases e
  -- mod
  · rename_i i j h1 h2
    rw [h1] at rx; rw [h2] at ry
    cases rx; cases ry
    split at e
    · rename_i hb
      cases e
      exact opw op_modN ⟨i, j, rfl, rfl, hb, f.here gi s (rep_int _)⟩
    · cases e
  -- pow
  · rename_i i j h1 h2
    rw [h1] at rx; rw [h2] at ry
    cases rx; cases ry
    split at e
    · rename_i hb
      cases e
      exact opw op_pow ⟨i, j, rfl, rfl, ⟨hb.1, by omega, hb.2.2⟩, f.here gi s (rep_int _)⟩
    · cases e
  -- texts
  · rename_i a b h1 h2
    rw [h1] at rx; rw [h2] at ry
    cases rx; cases ry
    split at e
    · rename_i hb
      cases e
      rw [line_eq] at hb
      refine opw op_add_str ⟨_, _, rfl, rfl, by rw [str_len, str_len]; exact hb, ?_⟩
      rw [str_app]
      exact f.here gi s (rep_str _)
    · cases e
  -- tuples
  · rename_i a b h1 h2
    rw [h1] at rx; rw [h2] at ry
    cases rx with
    | tup ha ta =>
      cases ry with
      | tup hb tb =>
        split at e
        · rename_i hz
          cases e
          rw [line_eq, ta.length, tb.length] at hz
          refine opw op_catA ⟨_, _, _, _, rfl, rfl, ha, hb, hz, fun e0 => ?_, fun _ e1 => ?_, fun _ _ => f.tup gi s (ta.append tb)⟩
          · subst e0
            have e2 := ta.length
            have e3 : a = [] := List.eq_nil_of_length_eq_zero e2
            subst e3
            refine f.here gi s ?_
            show Rep _ _ _ _
            rw [Rep]
            exact ⟨_, _, rfl, hb, tb⟩
          · subst e1
            have e2 := tb.length
            have e3 : b = [] := List.eq_nil_of_length_eq_zero e2
            subst e3
            refine f.here gi s ?_
            show Rep _ _ _ _
            rw [Rep, List.append_nil]
            exact ⟨_, _, rfl, ha, ta⟩
        · cases e
  -- lists
  · rename_i a b h1 h2
    rw [h1] at rx; rw [h2] at ry
    cases rx with
    | lst ha na ta =>
      cases ry with
      | lst hb nb tb =>
        split at e
        · rename_i hz
          cases e
          rw [line_eq, ta.length, tb.length] at hz
          exact opw op_cat ⟨_, _, _, _, rfl, rfl, ha, hb, hz, f.new xg gi s (ta.append tb)⟩
        · cases e
  -- a tuple so many times
  · rename_i a k h1 h2
    rw [h1] at rx; rw [h2] at ry
    cases rx with
    | tup ha ta =>
      cases ry
      split at e
      · rename_i hz
        cases e
        rw [line_eq, ta.length] at hz
        refine opw op_repG ⟨_, k, _, rfl, rfl, ha, hz.1, hz.2.1, hz.2.2, fun hq => ?_, f.tup gi s (ta.rep _)⟩
        refine f.here gi s ?_
        show Rep _ _ _ _
        rw [Rep]
        rcases hq with e0 | e0
        · subst e0
          have e3 : a = [] := List.eq_nil_of_length_eq_zero ta.length
          subst e3
          refine ⟨_, _, rfl, ha, ?_⟩
          have : (List.replicate k.toNat ([] : List D)).flatten = [] := by simp
          rw [this]
          exact .nil
        · subst e0
          refine ⟨_, _, rfl, ha, ?_⟩
          have : (List.replicate (1 : Int).toNat a).flatten = a := by simp
          rw [this]
          exact ta
      · cases e
  -- a list so many times
  · rename_i a k h1 h2
    rw [h1] at rx; rw [h2] at ry
    cases rx with
    | lst ha na ta =>
      cases ry
      split at e
      · rename_i hz
        cases e
        rw [line_eq, ta.length] at hz
        exact opw op_rep ⟨_, k, _, rfl, rfl, ha, by omega, by omega, hz.2.2, f.new xg gi s (ta.rep _)⟩
      · cases e
  · cases e

theorem sCmp {o : COp} {x y : VR} {vx vy : V} {b : Bool} (hu : X.A.units + 64 < cLine) (e : dCmp o x y = some b) (gi : GI g) (s : StOk X.K g st) (rx : RdR X.K g x.read vx) (ry : RdR X.K g y.read vy)
    (q : Q (.bl b) g.H) : WO X (compareOp (copOf o)) vx vy g.H Q := by
  have intv : ∀ {i j : Int} {p : Bool}, x.read = .int i → y.read = .int j → (vx = .int i ∧ vy = .int j) := fun {i j p} h1 h2 => by
    rw [h1] at rx; rw [h2] at ry
    cases rx; cases ry
    exact ⟨rfl, rfl⟩
  cases o with
  | eq =>
    simp only [dCmp] at e
    split at e
    · rename_i h
      rw [Bool.and_eq_true] at h
      cases e
      have hq := opw (op_eqD hu) (x := vx) (y := vy) (H := g.H) (Q := Q) ⟨toPy x.read, toPy y.read, rx.dp h.1, ry.dp h.2, shaped_of h.1 (by omega), shaped_of h.2 (by omega), by rw [eqv_eqb 60 60 _ _ h.1 h.2]; exact q⟩
      exact hq
    · cases e
  | ne =>
    simp only [dCmp] at e
    split at e
    · rename_i h
      rw [Bool.and_eq_true] at h
      cases e
      have hq := opw (op_neD hu) (x := vx) (y := vy) (H := g.H) (Q := Q) ⟨toPy x.read, toPy y.read, rx.dp h.1, ry.dp h.2, shaped_of h.1 (by omega), shaped_of h.2 (by omega), by rw [eqv_eqb 60 60 _ _ h.1 h.2]; exact q⟩
      exact hq
    · cases e
  | inn =>
    simp only [dCmp] at e
    split at e
    · rename_i ds hd
      split at e
      · rename_i h
        cases e
        obtain ⟨a, vs, rfl, hs, t⟩ := ry.seq hd
        rw [Bool.or_eq_true, Bool.and_eq_true, Bool.and_eq_true] at h
        rcases h with h | h
        · rw [← Bool.and_eq_true] at h
          rw [Bool.and_eq_true] at h
          obtain ⟨e1, f1⟩ := rx.flat h.1
          obtain ⟨f2, an⟩ := t.flat h.2
          refine opw op_in_seq ⟨a, vs, rfl, hs, f1, f2, ?_⟩
          rw [e1]
          simp only [inV,an h.1,Bool.false_eq_true,if_false]
          exact q
        · refine opw (op_inD hu) ⟨a, vs, toPy x.read, toPys ds, rfl, hs, rx.dp h.1, Reps.dp 50 ds vs h.2 t, (lay_of 50 _ h.1).1, (lays_of 50 ds h.2).1, Nat.le_trans (lay_of 50 _ h.1).2 (by omega), ?_⟩
          rw [any_eqb h.1 h.2]
          simp only [Bool.false_eq_true,if_false]
          exact q
      · cases e
    · cases e
  | notin =>
    simp only [dCmp] at e
    split at e
    · rename_i ds hd
      split at e
      · rename_i h
        cases e
        obtain ⟨a, vs, rfl, hs, t⟩ := ry.seq hd
        rw [Bool.or_eq_true, Bool.and_eq_true, Bool.and_eq_true] at h
        rcases h with h | h
        · rw [← Bool.and_eq_true] at h
          rw [Bool.and_eq_true] at h
          obtain ⟨e1, f1⟩ := rx.flat h.1
          obtain ⟨f2, an⟩ := t.flat h.2
          refine opw op_notIn_seq ⟨a, vs, rfl, hs, f1, f2, ?_⟩
          rw [e1]
          simp only [inV,an h.1,if_true]
          exact q
        · refine opw (op_notInD hu) ⟨a, vs, toPy x.read, toPys ds, rfl, hs, rx.dp h.1, Reps.dp 50 ds vs h.2 t, (lay_of 50 _ h.1).1, (lays_of 50 ds h.2).1, Nat.le_trans (lay_of 50 _ h.1).2 (by omega), ?_⟩
          rw [any_eqb h.1 h.2]
          simp only [if_true]
          exact q
      · cases e
    · cases e
  | lt =>
    simp only [dCmp] at e
    split at e
    · rename_i i j h1 h2
      obtain ⟨rfl, rfl⟩ := intv (p := true) h1 h2
      cases e
      exact opw op_lt ⟨i, j, rfl, rfl, q⟩
    · cases e
  | le =>
    simp only [dCmp] at e
    split at e
    · rename_i i j h1 h2
      obtain ⟨rfl, rfl⟩ := intv (p := true) h1 h2
      cases e
      exact opw op_le ⟨i, j, rfl, rfl, q⟩
    · cases e
  | gt =>
    simp only [dCmp] at e
    split at e
    · rename_i i j h1 h2
      obtain ⟨rfl, rfl⟩ := intv (p := true) h1 h2
      cases e
      exact opw op_gt ⟨i, j, rfl, rfl, q⟩
    · cases e
  | ge =>
    simp only [dCmp] at e
    split at e
    · rename_i i j h1 h2
      obtain ⟨rfl, rfl⟩ := intv (p := true) h1 h2
      cases e
      exact opw op_ge ⟨i, j, rfl, rfl, q⟩
    · cases e

/-- truth -/
theorem sTru {d : D} {v : V} {b : Bool} (e : d.truth = some b) (r : RdR X.K g d v) : TruV X.K v g.H b := by
  cases r with
  | non => cases e; rfl
  | bl b => cases e; rfl
  | int i => cases e; rfl
  | str s => cases e
  | tup h t =>
    cases e
    refine .inr (.inl ⟨_, h, ?_⟩)
    have := t.length
    cases ‹List D› <;> cases ‹List V› <;> simp_all
  | lst h n t =>
    cases e
    refine .inl ⟨_, .inl (.inl h), ?_⟩
    have := t.length
    cases ‹List D› <;> cases ‹List V› <;> simp_all
  | rol h t =>
    cases e
    refine .inl ⟨_, h.sq, ?_⟩
    have := t.length
    cases ‹List D› <;> cases ‹List V› <;> simp_all
  | ptr h => cases e
end
end Sf
/-! SfOps3: built-in functions. -/
namespace Sf
open PySem PySem.Spec PyProof.Rows L2

def RdRs (K : PySem.W.Frag) (g : Gh) : List VR → List V → Prop
  | [], vs => vs = []
  | x :: xs, vs => ∃ v r, vs = v :: r ∧ RdR K g x.read v ∧ RdRs K g xs r
theorem RdRs.ext {K : PySem.W.Frag} {g g' : Gh} (gi : GI g) (x : Ext g g') : ∀ {xs : List VR} {vs : List V}, RdRs K g xs vs → RdRs K g' xs vs
  | [], _, h => h
  | a :: xs, vs, ⟨v, r, e, h1, h2⟩ => ⟨v, r, e, h1.ext gi x, RdRs.ext gi x h2⟩

theorem ints_of {K : PySem.W.Frag} {g : Gh} : ∀ {ds : List D} {vs : List V} {is : List Int}, intsOf ds = some is → Reps K g ds vs → vs = is.map V.int
  | [], vs, is, e, h => by rw [Reps] at h; subst h; cases e; rfl
  | .int i :: r, vs, is, e, h => by
    rw [Reps] at h
    obtain ⟨v, r', rfl, h1, h2⟩ := h
    rw [Rep] at h1
    subst h1
    simp only [intsOf,Option.map_eq_some_iff] at e
    obtain ⟨js, e1, rfl⟩ := e
    rw [ints_of e1 h2]
    rfl
  | .non :: _, _, _, e, _ => by simp [intsOf] at e
  | .bl _ :: _, _, _, e, _ => by simp [intsOf] at e
  | .str _ :: _, _, _, e, _ => by simp [intsOf] at e
  | .tup _ :: _, _, _, e, _ => by simp [intsOf] at e
  | .lst _ :: _, _, _, e, _ => by simp [intsOf] at e
  | .rol _ :: _, _, _, e, _ => by simp [intsOf] at e
  | .ptr _ :: _, _, _, e, _ => by simp [intsOf] at e

theorem foldMax (is : List Int) : ∀ a : Int, a ≤ is.foldl (fun a b => if b > a then b else a) a ∧ (∀ y ∈ is, y ≤ is.foldl (fun a b => if b > a then b else a) a) ∧ (is.foldl (fun a b => if b > a then b else a) a = a ∨ is.foldl (fun a b => if b > a then b else a) a ∈ is) := by
  induction is with
  | nil => intro a; simp
  | cons i is ih =>
    intro a
    simp only [List.foldl_cons]
    have c1 : a ≤ (if i > a then i else a) := by split <;> omega
    have c2 : i ≤ (if i > a then i else a) := by split <;> omega
    obtain ⟨h1, h2, h3⟩ := ih (if i > a then i else a)
    refine ⟨Int.le_trans c1 h1, fun y hy => ?_, ?_⟩
    · rcases List.mem_cons.mp hy with e | hy
      · rw [e]; exact Int.le_trans c2 h1
      · exact h2 y hy
    · rcases h3 with h3 | h3
      · rw [h3]
        split
        · exact .inr List.mem_cons_self
        · exact .inl rfl
      · exact .inr (List.mem_cons_of_mem _ h3)
theorem foldMin (is : List Int) : ∀ a : Int, is.foldl (fun a b => if b < a then b else a) a ≤ a ∧ (∀ y ∈ is, is.foldl (fun a b => if b < a then b else a) a ≤ y) ∧ (is.foldl (fun a b => if b < a then b else a) a = a ∨ is.foldl (fun a b => if b < a then b else a) a ∈ is) := by
  induction is with
  | nil => intro a; simp
  | cons i is ih =>
    intro a
    simp only [List.foldl_cons]
    have c1 : (if i < a then i else a) ≤ a := by split <;> omega
    have c2 : (if i < a then i else a) ≤ i := by split <;> omega
    obtain ⟨h1, h2, h3⟩ := ih (if i < a then i else a)
    refine ⟨Int.le_trans h1 c1, fun y hy => ?_, ?_⟩
    · rcases List.mem_cons.mp hy with e | hy
      · rw [e]; exact Int.le_trans h1 c2
      · exact h2 y hy
    · rcases h3 with h3 | h3
      · rw [h3]
        split
        · exact .inr List.mem_cons_self
        · exact .inl rfl
      · exact .inr (List.mem_cons_of_mem _ h3)
theorem maxOf_eq {is : List Int} {i m : Int} (e : maxOf is = some i) (hm : m ∈ is) (h : ∀ y ∈ is, y ≤ m) : m = i := by
  cases is with
  | nil => cases e
  | cons a r =>
    cases e
    obtain ⟨h1, h2, h3⟩ := foldMax r a
    have le : m ≤ r.foldl (fun a b => if b > a then b else a) a := by
      rcases List.mem_cons.mp hm with rfl | hm
      · exact h1
      · exact h2 m hm
    have ge : r.foldl (fun a b => if b > a then b else a) a ≤ m := by
      rcases h3 with h3 | h3
      · rw [h3]; exact h a List.mem_cons_self
      · exact h _ (List.mem_cons_of_mem _ h3)
    omega
theorem minOf_eq {is : List Int} {i m : Int} (e : minOf is = some i) (hm : m ∈ is) (h : ∀ y ∈ is, m ≤ y) : m = i := by
  cases is with
  | nil => cases e
  | cons a r =>
    cases e
    obtain ⟨h1, h2, h3⟩ := foldMin r a
    have ge : r.foldl (fun a b => if b < a then b else a) a ≤ m := by
      rcases List.mem_cons.mp hm with rfl | hm
      · exact h1
      · exact h2 m hm
    have le : m ≤ r.foldl (fun a b => if b < a then b else a) a := by
      rcases h3 with h3 | h3
      · rw [h3]; exact h a List.mem_cons_self
      · exact h _ (List.mem_cons_of_mem _ h3)
    omega

/-- a built-in's name, its value, a class that stands behind its argument -/
def biName : BI → String
  | .len => "len"
  | .abs => "abs"
  | .sum => "sum"
  | .maxl => "max"
  | .minl => "min"
  | .max2 => "max"
  | .min2 => "min"
  | .int => "int"
  | .tuple => "tuple"
  | .list => "list"
  | .sorted => "sorted"
  | .sortedSet => "sorted"
  | .lenSet => "len"
  | _ => "isinstance"
def biTy : BI → Bool
  | .int => true
  | .tuple => true
  | .list => true
  | _ => false
def biVal (b : BI) : Value := if biTy b then .type (biName b) else .builtin (biName b)
/-- the class that isinstance is asked for -/
def biCls : BI → Option String
  | .isTup => some "tuple"
  | .isList => some "list"
  | .isInt => some "int"
  | .isBool => some "bool"
  | .isStr => some "str"
  | _ => none
def biMore (b : BI) : List V := match biCls b with
  | some c => [.ty c]
  | none => []

def tyName : D → String
  | .non => "NoneType"
  | .bl _ => "bool"
  | .int _ => "int"
  | .str _ => "str"
  | .tup _ => "tuple"
  | _ => "list"

section
variable {X : Cx} {gp g : Gh} {st : Cells} {Q : VK}
theorem tyX {d : D} {v : V} (gi : GI g) (h : RdR X.K g d v) : TyX X.K g.H v (.type (tyName d)) := by
  cases h with
  | non => exact .base .non
  | bl b => exact .base (.bl b)
  | int i => exact .base (.int i)
  | str s => exact .base (.str _)
  | tup h t =>
    rcases h with (h | ⟨o, h⟩) | ⟨o, its, n, hk, hc, _⟩
    · exact .base (.tup h)
    · exact .fTuple h
    · exact .kTuple hk hc
  | lst h n t => exact .base (.lst h)
  | rol h t =>
    rcases h with ⟨o, h⟩ | ⟨o, its, n, hk, hc, _⟩
    · exact .base (.frz h)
    · exact .kList hk hc
  | ptr h =>
    obtain ⟨⟨vs, e⟩, _⟩ := gi.cell _ (List.mem_of_getElem? h)
    exact .base (.lst e)
theorem isi {d : D} {v : V} {c : String} {b : Bool} (gi : GI g) (h : RdR X.K g d v) (k : kitB (tyName d) c = some b) (q : Q (.bl b) g.H) : WC X (.builtin "isinstance") [v, .ty c] g.H Q :=
  callw call_isi ⟨v, .ty c, _, _, b, rfl, .ty c, tyX gi h, kit_ty k, q⟩

theorem sBi {b : BI} {xs : List VR} {vs : List V} {r : VR} (hc : X.calm = true) (e : dBi b xs = some r) (xg : Ext gp g) (gi : GI g) (s : StOk X.K g st) (rx : RdRs X.K g xs vs) (f : Fin X.K gp g st r Q) : WC X (biVal b) (vs ++ biMore b) g.H Q := by
  unfold dBi at e
  split at e
  -- len
  · rename_i x
    obtain ⟨v, r', rfl, h1, h2⟩ := rx
    obtain rfl := h2
    split at e
    · rename_i sx hx
      rw [hx] at h1
      cases h1
      split at e
      · rename_i hz
        cases e
        rw [line_eq] at hz
        exact callw call_len_str ⟨_, rfl, by rw [str_len]; exact hz, by rw [str_len]; exact f.here gi s (rep_int _)⟩
      · cases e
    · rename_i dx _
      obtain ⟨ds, e1, e2⟩ := Option.map_eq_some_iff.mp e
      cases e2
      obtain ⟨a, ws, rfl, hs, t⟩ := h1.seq e1
      refine callw call_len_seq ⟨a, ws, rfl, hs, ?_⟩
      rw [← t.length]
      exact f.here gi s (rep_int _)
  -- abs
  · rename_i x
    obtain ⟨v, r', rfl, h1, h2⟩ := rx
    obtain rfl := h2
    split at e
    · rename_i i hx
      rw [hx] at h1
      cases h1; cases e
      exact callw call_abs ⟨i, rfl, f.here gi s (rep_int _)⟩
    · cases e
  -- int
  · rename_i x
    obtain ⟨v, r', rfl, h1, h2⟩ := rx
    obtain rfl := h2
    split at e
    · rename_i i hx
      rw [hx] at h1
      cases h1; cases e
      exact callw call_int1 (.inl ⟨i, rfl, f.here gi s (rep_int _)⟩)
    · rename_i k hx
      rw [hx] at h1
      cases h1; cases e
      exact callw call_int1 (.inr ⟨k, rfl, f.here gi s (rep_int _)⟩)
    · cases e
  -- max of two
  · rename_i x y
    obtain ⟨v, r', rfl, h1, v2, r2, rfl, h2, h3⟩ := rx
    obtain rfl := h3
    split at e
    · rename_i i j hx hy
      rw [hx] at h1; rw [hy] at h2
      cases h1; cases h2; cases e
      exact callw (call_max2 hc) ⟨i, j, rfl, f.here gi s (rep_int _)⟩
    · cases e
  · rename_i x y
    obtain ⟨v, r', rfl, h1, v2, r2, rfl, h2, h3⟩ := rx
    obtain rfl := h3
    split at e
    · rename_i i j hx hy
      rw [hx] at h1; rw [hy] at h2
      cases h1; cases h2; cases e
      exact callw (call_min2 hc) ⟨i, j, rfl, f.here gi s (rep_int _)⟩
    · cases e
  -- sum
  · rename_i x
    obtain ⟨v, r', rfl, h1, h2⟩ := rx
    obtain rfl := h2
    split at e
    · rename_i ds hx
      rw [hx] at h1
      cases h1 with
      | lst h n t =>
        obtain ⟨is, e1, e2⟩ := Option.map_eq_some_iff.mp e
        cases e2
        have e3 := ints_of e1 t
        subst e3
        exact callw (cr_sum hc) ⟨_, is, rfl, .inl (.inl h), f.here gi s (rep_int _)⟩
    · cases e
  -- max, min of a list
  · rename_i x
    obtain ⟨v, r', rfl, h1, h2⟩ := rx
    obtain rfl := h2
    split at e
    · rename_i ds hx
      rw [hx] at h1
      cases h1 with
      | lst h n t =>
        obtain ⟨i, e1, e2⟩ := Option.map_eq_some_iff.mp e
        cases e2
        obtain ⟨is, e3, e4⟩ := Option.bind_eq_some_iff.mp e1
        have e5 := ints_of e3 t
        subst e5
        refine callw (cr_max hc) ⟨_, is, rfl, .inl (.inl h), ?_, fun m hm hy => ?_⟩
        · cases is with
          | nil => cases e4
          | cons _ _ => simp
        · rw [maxOf_eq e4 hm hy]
          exact f.here gi s (rep_int _)
    · cases e
  · rename_i x
    obtain ⟨v, r', rfl, h1, h2⟩ := rx
    obtain rfl := h2
    split at e
    · rename_i ds hx
      rw [hx] at h1
      cases h1 with
      | lst h n t =>
        obtain ⟨i, e1, e2⟩ := Option.map_eq_some_iff.mp e
        cases e2
        obtain ⟨is, e3, e4⟩ := Option.bind_eq_some_iff.mp e1
        have e5 := ints_of e3 t
        subst e5
        refine callw (cr_min hc) ⟨_, is, rfl, .inl (.inl h), ?_, fun m hm hy => ?_⟩
        · cases is with
          | nil => cases e4
          | cons _ _ => simp
        · rw [minOf_eq e4 hm hy]
          exact f.here gi s (rep_int _)
    · cases e
  -- tuple
  · rename_i x
    obtain ⟨v, r', rfl, h1, h2⟩ := rx
    obtain rfl := h2
    split at e
    · rename_i ds hx
      rw [hx] at h1
      cases e
      cases h1 with
      | tup h t =>
        refine callw call_tuple_of ⟨_, _, rfl, .inr ⟨h, f.here gi s ?_⟩⟩
        show Rep _ _ _ _
        rw [Rep]
        exact ⟨_, _, rfl, h, t⟩
    · rename_i ds hx
      rw [hx] at h1
      cases e
      cases h1 with
      | lst h n t => exact callw call_tuple_of ⟨_, _, rfl, .inl ⟨.inl (.inl h), f.tup gi s t⟩⟩
    · rename_i ds hx
      rw [hx] at h1
      cases e
      cases h1 with
      | rol h t => exact callw call_tuple_of ⟨_, _, rfl, .inl ⟨h.sq, f.tup gi s t⟩⟩
    · cases e
  -- list
  · rename_i x
    obtain ⟨v, r', rfl, h1, h2⟩ := rx
    obtain rfl := h2
    obtain ⟨ds, e1, e2⟩ := Option.map_eq_some_iff.mp e
    cases e2
    obtain ⟨a, ws, rfl, hs, t⟩ := h1.seq e1
    exact callw call_list_of ⟨a, ws, rfl, hs, f.new xg gi s t⟩
  -- isinstance
  · rename_i x
    obtain ⟨v, r', rfl, h1, h2⟩ := rx
    obtain rfl := h2
    cases e
    exact isi gi h1 (by cases x.read <;> (simp only [tyName,D.isTup,D.isList,D.isInt,D.isBool,D.isStr]; decide +kernel)) (f.here gi s (rep_bl _))
  · rename_i x
    obtain ⟨v, r', rfl, h1, h2⟩ := rx
    obtain rfl := h2
    cases e
    exact isi gi h1 (by cases x.read <;> (simp only [tyName,D.isTup,D.isList,D.isInt,D.isBool,D.isStr]; decide +kernel)) (f.here gi s (rep_bl _))
  · rename_i x
    obtain ⟨v, r', rfl, h1, h2⟩ := rx
    obtain rfl := h2
    cases e
    exact isi gi h1 (by cases x.read <;> (simp only [tyName,D.isTup,D.isList,D.isInt,D.isBool,D.isStr]; decide +kernel)) (f.here gi s (rep_bl _))
  · rename_i x
    obtain ⟨v, r', rfl, h1, h2⟩ := rx
    obtain rfl := h2
    cases e
    exact isi gi h1 (by cases x.read <;> (simp only [tyName,D.isTup,D.isList,D.isInt,D.isBool,D.isStr]; decide +kernel)) (f.here gi s (rep_bl _))
  · rename_i x
    obtain ⟨v, r', rfl, h1, h2⟩ := rx
    obtain rfl := h2
    cases e
    exact isi gi h1 (by cases x.read <;> (simp only [tyName,D.isTup,D.isList,D.isInt,D.isBool,D.isStr]; decide +kernel)) (f.here gi s (rep_bl _))
  · cases e
end
end Sf
/-! SfIter: enumerate over a tuple. -/
namespace Sf
open PySem PySem.Spec PyProof.Rows L2
open AutoSeq1 (wpAny_loadPart')

theorem meets_enumT {v : Value} {o : Obj} {HH : Heap → Prop} (B : Begins v o HH) :
    Meets (Builtin.«enumerate.__new__» ⟨[.type "enumerate", v], []⟩) (fun _ R s => HH s.heap ∧
      R (.ok (.ret (.ref (s.heap.push o).objs.size))) { s with heap := (s.heap.push o).push { cls := .type "enumerate", data := .fields #[.none, .bool false, .ref s.heap.objs.size, rawInt 0, .none, .none] } }) :=
  .of_wp fun prog w A R s h => by
    obtain ⟨hp, gg, dr, tk, os⟩ := s
    obtain ⟨g1, hR⟩ := h
    have hsub := sub_enumerate
    have q1 : ∀ {A' : Around} {E' : Value → Shared → Prop} {Q' : Value → Shared → Prop}, Q' (.ref hp.objs.size) ⟨hp.push o, gg, dr, tk, os⟩ → wpAny (model prog w) A' (pyIter v) Q' E' ⟨hp, gg, dr, tk, os⟩ :=
      fun q => B.iter prog w _ _ ⟨hp, gg, dr, tk, os⟩ _ g1 q
    wp_walk using q1
    refine wpAny_stack_any fun st => wpAny_pure ?_
    split
    · rename_i c _ _ _ _ _
      cases (c == Value.type "enumerate") <;> (wp_walk using q1; exact ⟨_, rfl, hR⟩)
    · wp_walk using q1
      exact ⟨_, rfl, hR⟩
theorem call_enumT {prog : Program} {w : World} {A : Around} {E : Value → Shared → Prop} {s : Shared} {l : Addr} {items : Array Value} {Q : Value → Shared → Prop} (hL : s.heap.IsTuple l items)
    (k : ∀ h', IsEnum h' (s.heap.objs.size + 1) s.heap.objs.size 0 .none → h'.IsTupleIter s.heap.objs.size l 0 → (∀ b o, s.heap.get? b = some o → h'.get? b = some o) → Q (.ref (s.heap.objs.size + 1)) { s with heap := h' }) :
    wpAny (model prog w) A (PySem.call (.type "enumerate") [.ref l]) Q E s := by
  refine callType_new F.called_enumerate (by decide) (F.typeCall_enumerate_1 _) (F.newCall_enumerate_1 _) (fun obj => F.args_object_init_2 obj _) F.entry_enumerate_new (meets_enumT (begins_tuple l items)) ⟨hL, ?_⟩
  generalize hob : ({ cls := .type "tuple_iterator", data := .fields #[.ref l, .int 0 0] } : Obj) = ob
  have hz : (s.heap.push ob).objs.size = s.heap.objs.size + 1 := Heap.size_push ..
  show _ ∧ _
  rw [hz]
  have he : IsEnum ((s.heap.push ob).push { cls := .type "enumerate", data := .fields #[.none, .bool false, .ref s.heap.objs.size, rawInt 0, .none, .none] }) (s.heap.objs.size + 1) s.heap.objs.size 0 .none := by
    have q := Heap.get?_push_size (s.heap.push ob) (o := { cls := .type "enumerate", data := .fields #[.none, .bool false, .ref s.heap.objs.size, rawInt 0, .none, .none] }) rfl
    rw [hz] at q; exact q
  refine ⟨⟨_, he, rfl⟩, k _ he ⟨ob, Heap.get?_push_of_some _ (Heap.get?_push_size _ (by rw [← hob]; rfl)), by rw [← hob], by rw [← hob]; rfl⟩ fun b o x => Heap.get?_push_of_some _ (Heap.get?_push_of_some _ x)⟩

/-- the items of the tuple at a, each in a new pair with its place -/
def IteT (K : PySem.W.Frag) (a : Addr) : It :=
  ⟨fun i H => ∃ (xs : List V) (x : V), SqT K H a xs ∧ xs[i]? = some x,
   fun i H v H' => ∃ T x, v = .ref T ∧ H T = none ∧ H' = upd H T (.tup [.int (i : Nat), x]) ∧ ∀ xs, SqT K H a xs → xs[i]? = some x,
   fun i H => ∃ xs : List V, SqT K H a xs ∧ xs.length = i⟩
theorem turn_enumT {P : Program} {w : World} {K : PySem.W.Frag} {elts : List Expr} {kk : Nat} {tpos : Pos} (a e it : Addr) (nea : e ≠ a) (nia : a ≠ it) (nei : e ≠ it) :
    Turn P w K (.Tuple elts kk tpos) (IteT K a) [e, it] e (fun i h => (∃ old, IsEnum h e it ((i : Nat) : Int) old) ∧ h.IsTupleIter it a i) where
  mem := by simp
  obj := fun i h st b hb => by
    obtain ⟨⟨old, he⟩, ⟨o, ho, hc, hd⟩⟩ := st
    rcases (by simpa using hb : b = e ∨ b = it) with z | z <;> rw [z]
    · exact ⟨_, he, fun v q => nomatch q⟩
    · exact ⟨o, ho, fun v q => by rw [hd] at q; cases q⟩
  keep := fun i h h' st k => let ⟨⟨old, he⟩, hi⟩ := st; ⟨⟨old, k e (by simp) _ he⟩, hi.at fun o q => k it (by simp) o q⟩
  item := by
    intro X hP hw hK hc i pins s σ H E I hf st hg
    subst hP hw hK
    obtain ⟨⟨old, he⟩, hit⟩ := st
    obtain ⟨xs, x, hq, hx⟩ := hg
    obtain ⟨its, rv, p, hz⟩ := I.tuple hq
    obtain ⟨u, hu, ru⟩ := rv.get hx
    have hel : e < s.heap.objs.size := Heap.lt_size he
    have hil : it < s.heap.objs.size := let ⟨_, q, _⟩ := hit; Heap.lt_size q
    have hlt : i < its.toArray.size := by
      have := (List.getElem?_eq_some_iff.mp hu).1
      simpa using this
    refine wpAny_pyNext_enum_itemD (Draws.tuple (A := X.A.in1) (I.ok.hd hc) it a nia its.toArray) he ⟨hit, (show s.heap.IsTuple a its.toArray from p)⟩ hlt nei (by simp [nei, nea]) fun u' h' tk hP ho hs' hT hsz hk => ?_
    have eu : u' = u := by
      have h1 : its.toArray[i]? = some u' := hP
      have h2 : its.toArray[i]? = some u := by simpa using hu
      rw [h2] at h1
      exact (Option.some.inj h1).symm
    subst eu
    refine ⟨_, rfl, wpAny_letOwnedTupleGo_enum (s := { s with heap := h', toks := tk + 1 }) ho fun h'' he' sb => ?_⟩
    have hT2 := (sb.2 _ (Nat.ne_of_gt hel)).trans hT
    have new : ObjOk X.prog X.w (upd H s.heap.objs.size (.tup [.int (i : Nat), x])) h'' s.heap.objs.size (.tup [.int (i : Nat), x]) :=
      ⟨(by decide : 2 ≤ sizeLine), [.int i tk, u'], .cons ⟨_, rfl⟩ (.cons ru .nil), ⟨_, hT2, rfl, _, rfl⟩⟩
    have I1 : Inv X pins σ (upd H s.heap.objs.size (.tup [.int (i : Nat), x])) { s with heap := h'', toks := tk + 1 } :=
      I.turnedNew (ch := [e, it]) (fun b ob hb q => by
        have n1 : b ≠ e := fun z => hb (by simp [z])
        have n2 : b ≠ it := fun z => hb (by simp [z])
        exact (sb.2 b n1).trans (hk b ob n1 n2 q)) hf (Nat.le_refl _) new
    refine ⟨.ref s.heap.objs.size, _, I1, rfl, ⟨_, x, rfl, I.hok.fresh (Nat.le_refl _), rfl, fun ys hy => by rw [I.tuple_inj hy hq]; exact hx⟩, ⟨⟨u', ?_⟩, hs'.1.at fun o q => (sb.2 it (Ne.symm nei)).trans q⟩, fun b hb => ?_⟩
    · rw [show ((i + 1 : Nat) : Int) = (i : Int) + 1 by omega]; exact he'
    · have hb' : b < s.heap.objs.size := by
        rcases (by simpa using hb : b = e ∨ b = it) with z | z <;> rw [z]
        · exact hel
        · exact hil
      rw [upd_ne (Nat.ne_of_lt hb')]
      exact (hf b hb).1
  done := by
    intro X hP hw hK hc i pins s σ H E I hf st hg
    subst hP hw hK
    obtain ⟨⟨old, he⟩, hit⟩ := st
    obtain ⟨xs, hq, hx⟩ := hg
    obtain ⟨its, rv, p, hz⟩ := I.tuple hq
    obtain ⟨f0, f1, f2, f3, f4, f5⟩ := hf it (by simp)
    have hl : its.toArray.size = i := by rw [List.size_toArray, ← rv.length]; exact hx
    exact wpAny_pyNext_enum_endD (Draws.tuple (A := X.A.in1) (I.ok.hd hc) it a nia its.toArray) he ⟨by rw [hl]; exact hit, (show s.heap.IsTuple a its.toArray from p)⟩ fun h' eb => ⟨rfl, I.turned (t' := s.toks) (fun b o hb q => eb b o hb q) f0 f1 f3 f4 f5⟩
  self := fun A i s Q E st h => let ⟨⟨_, he⟩, _⟩ := st; wpAny_pyIter_enum he h
/-- enumerate(x), x a list or a tuple -/
def iEnumA (K : PySem.W.Frag) (ta : TA) : TI := fun σ H R => ta σ H fun vs H1 => ∃ a xs, vs = [.ref a] ∧ ((SqL K H1 a xs ∧ R (Ite K a) H1) ∨ (SqT K H1 a xs ∧ R (IteT K a) H1))
theorem pi_enumA {X : Cx} {e : Expr} {ta : TA} {p pos tpos : Pos} {elts : List Expr} {kk : Nat} (hg : Gl X "enumerate") (hm : X.mg "enumerate" = none) (ha : PA X [e] ta) (hs : starEach [e] X.env = [(false, eval e X.env)]) :
    PI X (.Tuple elts kk tpos) (.Call (.Name "enumerate" p) [e] [] pos) (iEnumA X.K ta) := by
  refine ⟨fun pins s σ H R I h => ?_⟩
  refine Call_ (ld_blt I hg hm boot_enumerate (PyProof.Rows.callWith_type1 (thn (ha.run pos pins s σ H _ I h) fun us s1 ⟨vs, H1, I1, r1, q1⟩ => ?_) hs rfl))
  obtain ⟨a, xs, ex, q⟩ := q1
  subst ex
  have lt2 : ∀ b, b = s1.heap.objs.size + 1 ∨ b = s1.heap.objs.size → s1.heap.objs.size ≤ b := fun b z => by
    rcases z with z | z <;> rw [z]
    · exact Nat.le_add_right _ _
    · exact Nat.le_refl _
  cases r1 with
  | cons r rr =>
    cases rr
    cases r
    rcases q with ⟨hq, q⟩ | ⟨hq, q⟩
    · obtain ⟨its, rv, p', hz⟩ := I1.list hq
      refine call_enumerate_list p'.isList fun h' he hit hsz hk => wpAny_pyIter_enum he ?_
      refine ⟨_, [s1.heap.objs.size + 1, s1.heap.objs.size], _, _, H1, rfl, I1.kept (t' := s1.toks) hk, turn_enum a (s1.heap.objs.size + 1) s1.heap.objs.size, ⟨⟨.none, he⟩, hit, Nat.succ_ne_self _⟩, fun b hb => ?_, q⟩
      have hle := lt2 b (by simpa using hb)
      exact I1.fpOk hle (I1.hok.fresh hle)
    · obtain ⟨its, rv, p', hz⟩ := I1.tuple hq
      have la : a < s1.heap.objs.size := let ⟨_, q, _⟩ := p'; Heap.lt_size q
      refine call_enumT (show s1.heap.IsTuple a its.toArray from p') fun h' he hit hk => wpAny_pyIter_enum he ?_
      refine ⟨_, [s1.heap.objs.size + 1, s1.heap.objs.size], _, _, H1, rfl, I1.kept (t' := s1.toks) hk, turn_enumT a (s1.heap.objs.size + 1) s1.heap.objs.size (Nat.ne_of_gt (Nat.lt_succ_of_lt la)) (Nat.ne_of_lt la) (Nat.succ_ne_self _), ⟨⟨.none, he⟩, hit⟩, fun b hb => ?_, q⟩
      have hle := lt2 b (by simpa using hb)
      exact I1.fpOk hle (I1.hok.fresh hle)
theorem walk_enumT {K : PySem.W.Frag} {a : Addr} {xs : List V} {H0 : Hp} : Walk (IteT K a) xs.length (fun H => SqT K H a xs) (YPair (fun i => some (.int (i : Nat))) (fun i => xs[i]?)) := by
  refine ⟨fun i _ hi q => ⟨xs, xs[i], q, by simp [hi]⟩, fun _ q => ⟨xs, q, rfl⟩, fun i H v H' _ q y => ?_⟩
  obtain ⟨T, x, e1, e2, e3, e4⟩ := y
  exact ⟨T, .int (i : Nat), x, e1, e2, e3, rfl, e4 xs q⟩
end Sf
/-! SfZip: zip over lists and tuples, mixed. -/
namespace Sf
open PySem PySem.Spec PyProof.Rows L2

/-- k: a list, else a tuple -/
def SqK (k : Bool) (K : PySem.W.Frag) (H : Hp) (a : Addr) (xs : List V) : Prop := if k = true then SqL K H a xs else SqT K H a xs
def ItK (k : Bool) (h : Heap) (it a : Addr) (i : Nat) : Prop := if k = true then h.IsListIter it a i else h.IsTupleIter it a i
def ObK (k : Bool) (h : Heap) (a : Addr) (its : Array Value) : Prop := if k = true then h.IsList a its else h.IsTuple a its

theorem Inv.sqK {X : Cx} {pins : List (Addr × Obj)} {σ : L2.St} {H : Hp} {s : Shared} {k : Bool} {a : Addr} {xs : List V} (I : Inv X pins σ H s) (h : SqK k X.K H a xs) : ∃ its : List Value, Vals xs its ∧ ObK k s.heap a its.toArray ∧ a < s.heap.objs.size := by
  cases k with
  | true =>
    obtain ⟨its, r, p, _⟩ := I.list h
    exact ⟨its, r, p.isList, p.lt⟩
  | false =>
    obtain ⟨its, r, p, _⟩ := I.tuple h
    exact ⟨its, r, p, let ⟨_, q, _⟩ := p; Heap.lt_size q⟩
theorem Inv.injK {X : Cx} {pins : List (Addr × Obj)} {σ : L2.St} {H : Hp} {s : Shared} {k : Bool} {a : Addr} {xs ys : List V} (I : Inv X pins σ H s) (h : SqK k X.K H a xs) (h' : SqK k X.K H a ys) : xs = ys := by
  cases k with
  | true => exact I.list_inj h h'
  | false => exact I.tuple_inj h h'
theorem drawK {prog : Program} {w : World} {A : Around} (k : Bool) (hh : A.handled = none) (it a : Addr) (hne : a ≠ it) (its : Array Value) :
    Draws prog w A it [it, a] its.size (fun i v => its[i]? = some v) (fun i h => ItK k h it a i ∧ ObK k h a its) := by
  cases k with
  | true => exact Draws.list hh it a hne its
  | false => exact Draws.tuple hh it a hne its
def objK (k : Bool) (a : Addr) : Obj := if k = true then { cls := .type "list_iterator", data := .fields #[.ref a, .int 0 0] } else { cls := .type "tuple_iterator", data := .fields #[.ref a, .int 0 0] }
theorem beginsK (k : Bool) (a : Addr) (its : Array Value) : Begins (.ref a) (objK k a) (fun h => ObK k h a its) := by
  cases k with
  | true => exact begins_list a its
  | false => exact begins_tuple a its
theorem itK_obj {k : Bool} {h : Heap} {it a : Addr} {i : Nat} (x : ItK k h it a i) : ∃ o, h.get? it = some o ∧ ∀ v, o.data ≠ .cell v := by
  cases k with
  | true => obtain ⟨o, e, _, d⟩ := (show h.IsListIter it a i from x); exact ⟨o, e, fun v q => by rw [d] at q; cases q⟩
  | false => obtain ⟨o, e, _, d⟩ := (show h.IsTupleIter it a i from x); exact ⟨o, e, fun v q => by rw [d] at q; cases q⟩
theorem itK_at {k : Bool} {h h' : Heap} {it a : Addr} {i : Nat} (x : ItK k h it a i) (f : ∀ o, h.get? it = some o → h'.get? it = some o) : ItK k h' it a i := by
  cases k with
  | true => exact Heap.IsListIter.at (show h.IsListIter it a i from x) f
  | false => exact Heap.IsTupleIter.at (show h.IsTupleIter it a i from x) f
theorem itK_new {k : Bool} {h : Heap} {it a : Addr} (x : h.get? it = some (objK k a)) : ItK k h it a 0 := by
  cases k with
  | true => exact ⟨_, x, rfl, rfl⟩
  | false => exact ⟨_, x, rfl, rfl⟩

def ItzK (k1 k2 : Bool) (K : PySem.W.Frag) (a b : Addr) : It :=
  ⟨fun i H => ∃ (xs ys : List V) (x y : V), SqK k1 K H a xs ∧ SqK k2 K H b ys ∧ xs[i]? = some x ∧ ys[i]? = some y,
   fun i H v H' => ∃ T x y, v = .ref T ∧ H T = none ∧ H' = upd H T (.tup [x, y]) ∧ (∀ xs, SqK k1 K H a xs → xs[i]? = some x) ∧ ∀ ys, SqK k2 K H b ys → ys[i]? = some y,
   fun i H => ∃ xs ys : List V, SqK k1 K H a xs ∧ SqK k2 K H b ys ∧ i = min xs.length ys.length⟩
theorem turn_zipK {P : Program} {w : World} {K : PySem.W.Frag} {elts : List Expr} {kk : Nat} {tpos : Pos} {k1 k2 : Bool} {a b z TI TO i1 i2 : Addr} (S : ZipSep2 z TI TO i1 i2 [i1, a] [i2, b]) (n1 : a ≠ i1) (n2 : b ≠ i2) :
    Turn P w K (.Tuple elts kk tpos) (ItzK k1 k2 K a b) [z, TI, TO, i1, i2] z (fun i h => IsZip h z TI TO .none ∧ IsTupOf2 h TI (.ref i1) (.ref i2) ∧ (∃ x y, IsTupOf2 h TO x y) ∧ ItK k1 h i1 a i ∧ ItK k2 h i2 b i) where
  mem := by simp
  obj := fun i h st c hc => by
    obtain ⟨hz, hTI, ⟨x, y, hTO⟩, q1, q2⟩ := st
    rcases (by simpa using hc : c = z ∨ c = TI ∨ c = TO ∨ c = i1 ∨ c = i2) with q | q | q | q | q <;> rw [q]
    · exact ⟨_, hz, fun v q => nomatch q⟩
    · exact ⟨_, hTI, fun v q => nomatch q⟩
    · exact ⟨_, hTO, fun v q => nomatch q⟩
    · exact itK_obj q1
    · exact itK_obj q2
  keep := fun i h h' st f => by
    obtain ⟨hz, hTI, ⟨x, y, hTO⟩, q1, q2⟩ := st
    exact ⟨f z (by simp) _ hz, f TI (by simp) _ hTI, ⟨x, y, f TO (by simp) _ hTO⟩, itK_at q1 fun o q => f i1 (by simp) o q, itK_at q2 fun o q => f i2 (by simp) o q⟩
  item := by
    intro X hP hw hK hc i pins s σ H E I hf st hg
    subst hP hw hK
    obtain ⟨hz, hTI, ⟨x0, y0, hTO⟩, q1, q2⟩ := st
    obtain ⟨xs, ys, x, y, hqx, hqy, hx, hy⟩ := hg
    obtain ⟨its, rv, p1, _⟩ := Inv.sqK I hqx
    obtain ⟨its2, rv2, p2, _⟩ := Inv.sqK I hqy
    obtain ⟨u, hu, ru⟩ := rv.get hx
    obtain ⟨u2, hu2, ru2⟩ := rv2.get hy
    have hzl : z < s.heap.objs.size := Heap.lt_size hz
    have lt1 : i < its.toArray.size := by simpa using (List.getElem?_eq_some_iff.mp hu).1
    have lt2 : i < its2.toArray.size := by simpa using (List.getElem?_eq_some_iff.mp hu2).1
    refine wpAny_pyNext_zipD2_item S (drawK (A := X.A.in1) k1 (I.ok.hd hc) i1 a n1 its.toArray) (drawK (A := X.A.in1) k2 (I.ok.hd hc) i2 b n2 its2.toArray) hz hTI hTO ⟨q1, p1⟩ ⟨q2, p2⟩ lt1 lt2 fun v1 v2 h' tk e1 e2 z' TO' s1 s2 hT hsz hk => ?_
    have e1' : v1 = u := by
      have t1 : its.toArray[i]? = some v1 := e1
      have t2 : its.toArray[i]? = some u := by simpa using hu
      rw [t2] at t1; exact (Option.some.inj t1).symm
    have e2' : v2 = u2 := by
      have t1 : its2.toArray[i]? = some v2 := e2
      have t2 : its2.toArray[i]? = some u2 := by simpa using hu2
      rw [t2] at t1; exact (Option.some.inj t1).symm
    subst e1' e2'
    refine ⟨_, rfl, wpAny_letOwnedTupleGo_zip (s := { s with heap := h', toks := tk }) z' fun h'' z'' sb => ?_⟩
    have hT2 := (sb.2 _ (Nat.ne_of_gt hzl)).trans hT
    have new : ObjOk X.prog X.w (upd H s.heap.objs.size (.tup [x, y])) h'' s.heap.objs.size (.tup [x, y]) :=
      ⟨(by decide : 2 ≤ sizeLine), [v1, v2], .cons ru (.cons ru2 .nil), ⟨_, hT2, rfl, _, rfl⟩⟩
    have I1 : Inv X pins σ (upd H s.heap.objs.size (.tup [x, y])) { s with heap := h'', toks := tk } :=
      I.turnedNew (ch := [z, TI, TO, i1, i2]) (fun c o hb q => by
        simp only [List.mem_cons,List.not_mem_nil,or_false,not_or] at hb
        exact (sb.2 c hb.1).trans (hk c o hb.1 hb.2.2.1 hb.2.2.2.1 hb.2.2.2.2 q)) hf (Nat.le_refl _) new
    refine ⟨.ref s.heap.objs.size, _, I1, rfl, ⟨_, x, y, rfl, I.hok.fresh (Nat.le_refl _), rfl, fun l hl => by rw [Inv.injK I hl hqx]; exact hx, fun l hl => by rw [Inv.injK I hl hqy]; exact hy⟩, ⟨z'', ?_, ⟨v1, v2, ?_⟩, ?_, ?_⟩, fun c hcm => ?_⟩
    · exact (sb.2 _ S.TIz).trans (hk _ _ S.TIz S.TITO S.TIi1 S.TIi2 hTI)
    · exact (sb.2 _ S.TOz).trans TO'
    · exact itK_at s1.1 fun o q => (sb.2 _ S.zi1.symm).trans q
    · exact itK_at s2.1 fun o q => (sb.2 _ S.zi2.symm).trans q
    · have hlt : c < s.heap.objs.size := by
        rcases (by simpa using hcm : c = z ∨ c = TI ∨ c = TO ∨ c = i1 ∨ c = i2) with q | q | q | q | q <;> rw [q]
        · exact hzl
        · exact Heap.lt_size hTI
        · exact Heap.lt_size hTO
        · obtain ⟨_, e, _⟩ := itK_obj q1; exact Heap.lt_size e
        · obtain ⟨_, e, _⟩ := itK_obj q2; exact Heap.lt_size e
      rw [upd_ne (Nat.ne_of_lt hlt)]
      exact (hf c hcm).1
  done := by
    intro X hP hw hK hc i pins s σ H E I hf st hg
    subst hP hw hK
    obtain ⟨hz, hTI, ⟨x0, y0, hTO⟩, q1, q2⟩ := st
    obtain ⟨xs, ys, hqx, hqy, hend⟩ := hg
    obtain ⟨its, rv, p1, _⟩ := Inv.sqK I hqx
    obtain ⟨its2, rv2, p2, _⟩ := Inv.sqK I hqy
    have l1 : its.toArray.size = xs.length := by rw [List.size_toArray, rv.length]
    have l2 : its2.toArray.size = ys.length := by rw [List.size_toArray, rv2.length]
    exact wpAny_pyNext_zipD2_end S (drawK (A := X.A.in1) k1 (I.ok.hd hc) i1 a n1 its.toArray) (drawK (A := X.A.in1) k2 (I.ok.hd hc) i2 b n2 its2.toArray) hz hTI hTO ⟨q1, p1⟩ ⟨q2, p2⟩ (by omega) (by omega) (by omega)
      fun h' tk hk => ⟨rfl, I.turnedL (t' := tk) (ch := [z, TI, TO, i1, i2]) (fun c o hb q => by
        simp only [List.mem_cons,List.not_mem_nil,or_false,not_or] at hb
        exact hk c o hb.1 hb.2.2.1 hb.2.2.2.1 hb.2.2.2.2 q) hf⟩
  self := fun A i s Q E st h => wpAny_pyIter_zip st.1 h
def iZipK (K : PySem.W.Frag) (ta : TA) : TI := fun σ H R => ta σ H fun vs H1 => ∃ a b xs ys k1 k2, vs = [.ref a, .ref b] ∧ SqK k1 K H1 a xs ∧ SqK k2 K H1 b ys ∧ R (ItzK k1 k2 K a b) H1
theorem pi_zipK {X : Cx} {e e2 : Expr} {ta : TA} {p pos tpos : Pos} {elts : List Expr} {kk : Nat} (hg : Gl X "zip") (hm : X.mg "zip" = none) (ha : PA X [e, e2] ta)
    (hs : starEach [e, e2] X.env = (false, eval e X.env) :: starEach [e2] X.env) (hpl : (backTo pos (starEach [e2] X.env)).any (·.1) = false) :
    PI X (.Tuple elts kk tpos) (.Call (.Name "zip" p) [e, e2] [] pos) (iZipK X.K ta) := by
  refine ⟨fun pins s σ H R I h => ?_⟩
  refine Call_ (ld_blt I hg hm PyProof.Rows.boot_zip (PyProof.Rows.callWith_type1 (thn (ha.run pos pins s σ H _ I h) fun us s1 ⟨vs, H1, I1, r1, q1⟩ => ?_) hs hpl))
  obtain ⟨a, b, xs, ys, k1, k2, ex, hqx, hqy, q⟩ := q1
  subst ex
  obtain ⟨u1, u2, rfl, ra, rb⟩ := vals2 r1
  cases ra
  cases rb
  obtain ⟨its, rv, p1, la⟩ := Inv.sqK I1 hqx
  obtain ⟨its2, rv2, p2, lb⟩ := Inv.sqK I1 hqy
  refine zip_begins2 (beginsK k1 a its.toArray) (beginsK k2 b its2.toArray) p1 p2 fun h' hz hTI hTO h1 h2 hsz hk => wpAny_pyIter_zip hz ?_
  refine ⟨_, [s1.heap.objs.size + 4, s1.heap.objs.size + 2, s1.heap.objs.size + 3, s1.heap.objs.size, s1.heap.objs.size + 1], _, _, H1, rfl, I1.kept (t' := s1.toks) hk,
    turn_zipK (zip_sep2 (N := s1.heap.objs.size) (fp1 := [a]) (fp2 := [b]) (by simpa using la) (by simpa using lb)) (Nat.ne_of_lt la) (Nat.ne_of_lt (Nat.lt_succ_of_lt lb)), ⟨hz, hTI, ⟨_, _, hTO⟩, itK_new h1, itK_new h2⟩, fun c hcm => ?_, q⟩
  have hle : s1.heap.objs.size ≤ c := by
    rcases (by simpa using hcm : c = s1.heap.objs.size + 4 ∨ c = s1.heap.objs.size + 2 ∨ c = s1.heap.objs.size + 3 ∨ c = s1.heap.objs.size ∨ c = s1.heap.objs.size + 1) with z | z | z | z | z <;> rw [z] <;> first | exact Nat.le_add_right _ _ | exact Nat.le_refl _
  exact I1.fpOk hle (I1.hok.fresh hle)
theorem walk_zipK {K : PySem.W.Frag} {k1 k2 : Bool} {a b : Addr} {xs ys : List V} : Walk (ItzK k1 k2 K a b) (min xs.length ys.length) (fun H => SqK k1 K H a xs ∧ SqK k2 K H b ys) (YPair (fun i => xs[i]?) (fun i => ys[i]?)) := by
  refine ⟨fun i _ hi q => ?_, fun _ q => ⟨xs, ys, q.1, q.2, rfl⟩, fun i H v H' _ q y => ?_⟩
  · have g1 : i < xs.length := by omega
    have g2 : i < ys.length := by omega
    exact ⟨xs, ys, xs[i], ys[i], q.1, q.2, by simp [g1], by simp [g2]⟩
  · obtain ⟨T, x, z, h1, h2, h3, h4, h5⟩ := y
    exact ⟨T, x, z, h1, h2, h3, h4 xs q.1, h5 ys q.2⟩
end Sf
/-! SfMat: does a piece of the real syntax match a piece of the small language? -/
namespace Sf
open PySem PySem.Spec PyProof.Rows L2

structure MC where
  N : List Str
  sc : Scope
  fn : Str → Bool
  F : List (Str × Nat)
  G : List (Str × D)
  err : Option Nat := none
  E : List Nat := []

def noStar : Expr → Bool
  | .Starred .. => false
  | _ => true
def noSet : Expr → Bool
  | .Set .. => false
  | _ => true
def noSlice : Expr → Bool
  | .Slice .. => false
  | _ => true
def noCall : Expr → Bool
  | .Call .. => false
  | _ => true
def plainT : Expr → Bool
  | .UnaryOp .. => false
  | .BoolOp .. => false
  | .IfExp .. => false
  | .Compare .. => false
  | _ => true
def nmB (x : Str) : Bool := x != "__debug__" && (x != "__classdict__" && x != "__name__")
def visB (sc : Scope) (x : Str) : Bool := match sc.names.lookup x with
  | some .local => true
  | some .cell => true
  | some .free => true
  | _ => false
def locB (c : MC) (x : Str) : Bool := match c.sc.names.lookup x with
  | some .local => true
  | some .cell => c.fn x
  | _ => false
def plB (c : MC) (x : Str) : Bool := match c.sc.names.lookup x with
  | some .local => true
  | _ => false
def glB (sc : Scope) (x : Str) : Bool := match sc.names.lookup x with
  | some .globalImplicit => true
  | _ => false
def eqS (a b : Str) : Bool := decide (a = b)
def slB (c : MC) (i : Nat) (x : Str) : Bool := decide (c.N[i]? = some x)
def opB (o : BOp) (op : Operator) : Bool := decide (op = bopOf o)
def coB (o : COp) (op : CmpOp) : Bool := decide (op = copOf o)
def inB : COp → Bool
  | .inn => true
  | .notin => true
  | _ => false

def mTg (c : MC) (own : Option (List Nat)) : MT → Expr → Bool
  | .nm i, .Name x _ => slB c i x && (locB c x && (match own with
    | none => true
    | some l => decide (i ∈ l)))
  | .tup ts, .Tuple es _ _ => mTgs c own ts es
  | _, _ => false
where mTgs (c : MC) (own : Option (List Nat)) : MT → List Expr → Bool
  | .tnil, [] => true
  | .tcons a r, e :: es => noStar e && (mTg c own a e && mTgs c own r es)
  | _, _ => false

def MC.blk (c : MC) (scope : Scope) : MC := { c with sc := relS scope c.sc, fn := fun x => scope.names.lookup x == some .cell }

mutual
def mE (c : MC) : ME → Expr → Bool
  | .v i, e => match e with
    | .Name x _ => slB c i x && (visB c.sc x && nmB x)
    | _ => false
  | .int i, e => match e with
    | .Constant (.int j) _ _ => decide (i = j)
    | _ => false
  | .bl b, e => match e with
    | .Constant (.bool b') _ _ => decide (b = b')
    | _ => false
  | .non, e => match e with
    | .Constant .none _ _ => true
    | _ => false
  | .str s, e => match e with
    | .Constant (.str x) _ _ => decide (x.cps.toList = s)
    | _ => false
  | .gl g, e => match e with
    | .Name x _ => glB c.sc x && (nmB x && (match c.G[g]? with
      | some p => eqS p.1 x
      | none => false))
    | _ => false
  | .bin o a b, e => match e with
    | .BinOp x op y _ => opB o op && (mE c a x && mE c b y)
    | _ => false
  | .neg a, e => match e with
    | .UnaryOp .USub x _ => mE c a x
    | _ => false
  | .cmp o a b, e => match e with
    | .Compare x [op] [y] _ => coB o op && (noSet y && (mE c a x && mE c b y))
    | _ => false
  | .isN n a, e => match e with
    | .Compare x [op] [.Constant .none _ _] _ => decide (op = if n then CmpOp.IsNot else CmpOp.Is) && mE c a x
    | _ => false
  | .ch o o' a b d, e => match e with
    | .Compare x [op, op'] [y, z] _ => coB o op && (coB o' op' && (!inB o' && (mE c a x && (mE c b y && mE c d z))))
    | _ => false
  | .bop k es, e => match e with
    | .BoolOp op xs _ => decide (op = if k then BoolOp.And else BoolOp.Or) && mBs c k es xs
    | _ => false
  | .not a, e => match e with
    | .UnaryOp .Not x _ => mE c a x
    | _ => false
  | .ite d a b, e => match e with
    | .IfExp t x y _ => mTt c d t && (mE c a x && mE c b y)
    | _ => false
  | .tup es, e => match e with
    | .Tuple xs _ _ => mEs c es xs
    | _ => false
  | .lst es, e => match e with
    | .List xs _ => mEs c es xs
    | _ => false
  | .cell es, e => match e with
    | .List xs _ => mEs c es xs
    | _ => false
  | .ix a i, e => match e with
    | .Subscript x y _ => noSlice y && (mE c a x && mE c i y)
    | _ => false
  | .sl a lo hi, e => match e with
    | .Subscript x (.Slice l h none _) _ => mE c a x && (mO c lo l && mO c hi h)
    | _ => false
  | .call f es, e => match e with
    | .Call (.Name x _) (y :: ys) [] _ => glB c.sc x && (nmB x && ((match c.F[f]? with
      | some p => eqS p.1 x
      | none => false) && mEs c es (y :: ys)))
    | _ => false
  | .bi b es, e => match e with
    | .Call (.Name x _) (y :: ys) [] _ => glB c.sc x && (nmB x && (eqS x (Str.ofString (biName b)) && (match biCls b with
      | none => decide (b ≠ .sorted) && (decide (b ≠ .sortedSet) && (decide (b ≠ .lenSet) && mVs c es (y :: ys)))
      | some t => (match ys with
        | [.Name z _] => noStar y && (glB c.sc z && (nmB z && (eqS z (Str.ofString t) && mVs c es [y])))
        | _ => false))))
    | _ => false
  | .index a x, e => match e with
    | .Call (.Attribute o at_ ap) [y] [] cp => eqS at_ "index" && (decide (ap.endLine = cp.line) && (noCall o && (noStar y && (mE c a o && mE c x y))))
    | _ => false
  | .gindex g x, e => match e with
    | .Call (.Attribute (.Name o _) at_ ap) [y] [] cp => eqS at_ "index" && (decide (ap.endLine = cp.line) && (noStar y && (glB c.sc o && (nmB o && ((match c.G[g]? with
      | some p => eqS p.1 o
      | none => false) && mE c x y)))))
    | _ => false
  | .lc own tg it d elt, e => match e with
    | .ListComp e [⟨t, iter, ifs, 0⟩] scope _ => blkC c.N c.sc scope own && (noSet iter && (mTg (c.blk scope) (some (own.map (·.2))) tg t && (mI c it t iter && (mC (c.blk scope) d ifs && mE (c.blk scope) elt e))))
    | _ => false
  | .lc2 own vs1 tg it tg1 it1 elt, e => match e with
    | .ListComp e [⟨t, iter, [], 0⟩, ⟨t1, iter1, [], 0⟩] scope _ => blkC c.N c.sc scope own && (noSet iter && (noSet iter1 && (decide (∀ i ∈ vs1, i ∈ own.map (·.2)) && (mTg (c.blk scope) (some (own.map (·.2))) tg t && (mTg (c.blk scope) (some vs1) tg1 t1 && (mI c it t iter && (mI (c.blk scope) it1 t1 iter1 && mE (c.blk scope) elt e)))))))
    | _ => false
  | .sset a, e => match e with
    | .Call (.Name x _) [.Call (.Name y _) [e] [] _] [] _ => glB c.sc x && (eqS x "sorted" && (glB c.sc y && (eqS y "set" && (noStar e && mE c a e))))
    | _ => false
  | .rgL a, e => match e with
    | .Call (.Name x _) [.Call (.Name y _) [e] [] _] [] _ => glB c.sc x && (eqS x "list" && (glB c.sc y && (eqS y "range" && (noStar e && mE c a e))))
    | _ => false
  | .rgT a, e => match e with
    | .Call (.Name x _) [.Call (.Name y _) [e] [] _] [] _ => glB c.sc x && (eqS x "tuple" && (glB c.sc y && (eqS y "range" && (noStar e && mE c a e))))
    | _ => false
  | .strI a, e => match e with
    | .Call (.Name x _) [e] [] _ => glB c.sc x && (eqS x "str" && (noStar e && mE c a e))
    | _ => false
  | .tr _, _ => false
def mEs (c : MC) : MEs → List Expr → Bool
  | .nil, es => es.isEmpty
  | .cons a r, es => match es with
    | e :: es => noStar e && (mE c a e && mEs c r es)
    | [] => false
def mVs (c : MC) : MEs → List Expr → Bool
  | .nil, es => es.isEmpty
  | .cons a r, es => match es with
    | e :: es => noStar e && (mE c a e && mVs c r es)
    | [] => false
def mBs (c : MC) (k : Bool) : MEs → List Expr → Bool
  | .nil, _ => false
  | .cons a r, es => match es with
    | [e] => (match r with
      | .nil => true
      | _ => false) && mE c a e
    | e :: f :: es => mE c a e && mBs c k r (f :: es)
    | [] => false
def mTt (c : MC) : ME → Expr → Bool
  | .not a, e => match e with
    | .UnaryOp .Not x _ => mTt c a x
    | _ => false
  | .bop k es, e => match e with
    | .BoolOp op xs _ => decide (op = if k then BoolOp.And else BoolOp.Or) && mTs c k es xs
    | _ => false
  | .tr a, e => plainT e && mE c a e
  | .cmp o a b, e => match e with
    | .Compare x [op] [y] _ => coB o op && (noSet y && (mE c a x && mE c b y))
    | _ => false
  | .isN n a, e => match e with
    | .Compare x [op] [.Constant .none _ _] _ => decide (op = if n then CmpOp.IsNot else CmpOp.Is) && mE c a x
    | _ => false
  | .ch o o' a b d, e => match e with
    | .Compare x [op, op'] [y, z] _ => coB o op && (coB o' op' && (!inB o' && (mE c a x && (mE c b y && mE c d z))))
    | _ => false
  | _, _ => false
def mTs (c : MC) (k : Bool) : MEs → List Expr → Bool
  | .nil, _ => false
  | .cons a r, es => match es with
    | [e] => (match r with
      | .nil => true
      | _ => false) && mTt c a e
    | e :: f :: es => mTt c a e && mTs c k r (f :: es)
    | [] => false
def mO (c : MC) : MO → Option Expr → Bool
  | .none, e => e.isNone
  | .some a, e => match e with
    | some e => mE c a e
    | none => false
def mC (c : MC) : MO → List Expr → Bool
  | .none, es => es.isEmpty
  | .some a, es => match es with
    | [e] => mTt c a e
    | _ => false
def mI (c : MC) : MI → Expr → Expr → Bool
  | .seq a, _, e => mE c a e
  | .rng1 a, _, e => match e with
    | .Call (.Name x _) [e] [] _ => glB c.sc x && (eqS x "range" && (noStar e && mE c a e))
    | _ => false
  | .rng2 a b, _, e => match e with
    | .Call (.Name x _) [e, f] [] _ => glB c.sc x && (eqS x "range" && (noStar e && (noStar f && (mE c a e && mE c b f))))
    | _ => false
  | .enum a, t, e => match t, e with
    | .Tuple _ _ _, .Call (.Name x _) [e] [] _ => glB c.sc x && (eqS x "enumerate" && (noStar e && mE c a e))
    | _, _ => false
  | .zip a b, t, e => match t, e with
    | .Tuple _ _ _, .Call (.Name x _) [e, f] [] _ => glB c.sc x && (eqS x "zip" && (noStar e && (noStar f && (mE c a e && mE c b f))))
    | _, _ => false
  | .rev a, _, e => match e with
    | .Call (.Name x _) [e] [] _ => glB c.sc x && (eqS x "reversed" && (noStar e && mE c a e))
    | _ => false
end
/-! ### exceptions -/
/-- the name of the caught exception, in slot i -/
def mX (c : MC) (i : Nat) : Expr → Bool
  | .Name x _ => slB c i x && (visB c.sc x && nmB x)
  | _ => false
def mCl (c : MC) (k : Nat) : Expr → Bool
  | .Name x _ => glB c.sc x && (nmB x && (eqS x (exName k) && decide (k ∈ c.E)))
  | _ => false
/-- isinstance(e, C), the law's look at e -/
def mH0 (c : MC) (i : Nat) : HE → Expr → Bool
  | .isE f s, e => match e with
    | .Call (.Name x _) [y, .Constant (.str z) _ _] [] _ => glB c.sc x && (nmB x && (noStar y && (mX c i y && (decide (z.cps.toList = s) && (s.all (fun n => decide (n < 1114112)) && (decide (c.err = some f) && (match c.F[f]? with
      | some p => eqS p.1 x
      | none => false)))))))
    | _ => false
  | .isI k, e => match e with
    | .Call (.Name x _) [y, z] [] _ => glB c.sc x && (eqS x "isinstance" && (noStar y && (mX c i y && (noStar z && mCl c k z))))
    | _ => false
  | _, _ => false
mutual
/-- what a suite hands back, i: the exception's slot -/
def mH (c : MC) (i : Nat) : HE → Expr → Bool
  | .non, e => match e with
    | .Constant .none _ _ => true
    | _ => false
  | .bl b, e => match e with
    | .Constant (.bool b') _ _ => decide (b = b')
    | _ => false
  | .emp, e => match e with
    | .List [] _ => true
    | _ => false
  | .isN j, e => match e with
    | .Compare x [.Is] [.Constant .none _ _] _ => decide (j ≠ i) && mX c j x
    | _ => false
  | .isE f s, e => mH0 c i (.isE f s) e
  | .isI k, e => mH0 c i (.isI k) e
  | .nt a, e => match e with
    | .UnaryOp .Not x _ => mH c i a x
    | _ => false
  | .con a b, e => match e with
    | .BoolOp .And [x, y] _ => mH c i a x && mH c i b y
    | _ => false
  | .ite d a b, e => match e with
    | .IfExp t x y _ => mHt c i d t && (mH c i a x && mH c i b y)
    | _ => false
def mHt (c : MC) (i : Nat) : HE → Expr → Bool
  | .nt a, e => match e with
    | .UnaryOp .Not x _ => mHt c i a x
    | _ => false
  | .con a b, e => match e with
    | .BoolOp .And [x, y] _ => mHt c i a x && mHt c i b y
    | _ => false
  | .isE f s, e => plainT e && mH0 c i (.isE f s) e
  | .isI k, e => plainT e && mH0 c i (.isI k) e
  | _, _ => false
end
end Sf
/-! SfExt: a list is extended by a list or a tuple. -/
namespace Sf
open PySem PySem.Spec PyProof PyProof.Rows L2 PySem.MeetsSeq PySem.MeetsSeq2 PySem.MeetsSeq3
open PySem.AutoSeq1 (wpAny_loadPart')
theorem list_extend_tupW (l : Addr) (items : Array Value) (n : Nat) (b : Addr) (items2 : Array Value) (n2 : Nat) (dd2 : Option Addr) (sl2 : Array (Option Value)) (hs0 : ¬(!items.isEmpty && Builtin.List.listTooLong (items.size + items2.size)) = true) (hs1 : items.size ≤ sizeLine) (hs2 : items.size + items2.size ≤ sizeLine + 1) :
    Meets (Builtin.«list.extend» ⟨[.ref l, .ref b], []⟩) (fun _ R s => s.heap.get? l = some { cls := .type "list", dict := none, data := .seq items n, slots := #[] } ∧ s.heap.get? b = some { cls := .type "tuple", dict := dd2, data := .seq items2 n2, slots := sl2 } ∧ R (.ok (.ret Value.none)) { s with heap := s.heap.update l (Obj.mapSeq fun x => x ++ items2), toks := s.toks }) :=
  .of_wp fun prog w A R s h => by
    obtain ⟨hp, g, d, tk, os⟩ := s; obtain ⟨hl, hb, h⟩ := h; have f2 := AutoSeq1.sub_tuple_tuple; have f3 := AutoSeq1.sub_list_list; have f4 := AutoSeq1.sub_tuple_list; have f5 := AutoSeq1.sub_list_tuple;
    have hz' : (items ++ items2).size ≤ sizeLine + 1 := by rw [Array.size_append]; exact hs2
    wp_walk using (wpAny_updateSeq hl rfl (hz := hs1) (_hz' := hz')), wpAny_loadPart' hl, wpAny_loadPart' hb; exact ⟨_, rfl, h⟩
variable {X : Cx}
def rExtB (X : Cx) : V → List V → Hp → VK → Prop := fun x vs H Q => ∃ l b xs zs, x = .ref l ∧ vs = [.ref b] ∧ H l = some (.lst xs) ∧ (H b = some (.lst zs) ∨ SqT X.K H b zs) ∧ xs.length + zs.length ≤ sizeLine ∧ Q .non (upd H l (.lst (xs ++ zs)))
theorem mt_extB : MtM X "list.extend" (rExtB X) := by
  intro pins s σ H x vs v us Q I rx rv h
  obtain ⟨l, b, xs, zs, rfl, rfl, hH, hB, hz, q⟩ := h
  rcases hB with hB | hB
  · exact mt_extend pins s σ H _ _ v us Q I rx rv ⟨l, b, xs, zs, rfl, rfl, hH, hB, hz, q⟩
  · cases rx
    obtain ⟨u, rfl, ru⟩ := rv.one
    cases ru
    obtain ⟨z, its, n, r, hl, e⟩ := I.lstM hH
    obtain ⟨its2, r2, ⟨o, e2, hc, n2, hd⟩, z2⟩ := I.tuple hB
    obtain ⟨cls, dd, dat, sl⟩ := o
    simp only at hc hd
    subst hc hd
    have hl2 := r2.length
    have hsz : its.toArray.size + its2.toArray.size ≤ sizeLine := by rw [List.size_toArray, List.size_toArray]; omega
    have hlong : ¬ (!its.toArray.isEmpty && Builtin.List.listTooLong (its.toArray.size + its2.toArray.size)) = true := by
      rw [notLongL hsz, Bool.and_false]
      exact Bool.false_ne_true
    refine call_meets F.slot_list_extend ⟨_, e, rfl⟩ F.entry_list_extend (F.args_list_extend_2 _ _)
      (list_extend_tupW l its.toArray n b its2.toArray n2 dd sl hlong (by rw [List.size_toArray]; omega) (by omega)) ⟨e, e2, ?_⟩
    refine ⟨.non, _, I.lset (its' := its ++ its2) hH e (by simp) (r.append r2) ?_, rfl, q⟩
    rw [List.length_append]
    omega
end Sf
/-! SfExp: an expression that matches does what the evaluator says. -/
namespace Sf
open PySem PySem.Spec PyProof.Rows L2

/-! ### the syntax' side conditions -/
theorem starN {e : Expr} {es : List Expr} {env : PySem.Env} (h : noStar e = true) : starEach (e :: es) env = (false, eval e env) :: starEach es env := by
  cases e <;> first | rfl | cases h
theorem assignN {e : Expr} {es : List Expr} {env : PySem.Env} (h : noStar e = true) : assignEach (e :: es) env = (false, assign e env) :: assignEach es env := by
  cases e <;> first | rfl | cases h
theorem setN {op : CmpOp} {e : Expr} (h : noSet e = true) : behindInMarks op e = false := by
  cases e <;> first | rfl | cases h
theorem foldN {e : Expr} {env : PySem.Env} (h : noSet e = true) (x : Value) : foldedSetIterable e env x = pure x := by
  cases e <;> first | rfl | cases h
theorem sliceN {e : Expr} (h : noSlice e = true) : PlainIx e := by
  intro o i
  cases e <;> first | rfl | cases h
theorem callN_ {o : Expr} {f : Str} {env : PySem.Env} {w : Sem Value} (h : noCall o = true) : attributeBase o f env w = w := by
  cases o <;> first | rfl | cases h
theorem truthN {e : Expr} {env : PySem.Env} (h : plainT e = true) (w : Sem Value) : PySem.isTrue e env w = (do let v ← w; standAt e.pos; holding [v] (truthy v)) := by
  cases e <;> first | rfl | cases h
theorem bandT {a b : Bool} (h : (a && b) = true) : a = true ∧ b = true := Bool.and_eq_true_iff.mp h
theorem eqS_ok {a b : Str} (h : eqS a b = true) : a = b := of_decide_eq_true h

/-- a def's promise: what the evaluator hands back -/
def spF (K : PySem.W.Frag) (C : CallT) (f : Nat) : Sp := fun vs H Q _ => ∃ (g : Gh) (ds : List D) (st : Cells) (r : D × Cells), g.H = H ∧ Reps K g ds vs ∧ GI g ∧ StOk K g st ∧ C f ds st = some r ∧
  ∀ v g', Ext g g' → GI g' → StOk K g' r.2 → Rep K g' r.1 v → Q v g'.H


/-- the context: what stands around -/
structure XOk (c : MC) (C : CallT) (n : Nat) (X : Cx) : Prop where
  N : X.N = c.N
  nd : c.N.Nodup
  sc : X.env.scope = c.sc
  fn : ∀ x, c.fn x = true → X.fn x = true
  calm : X.calm = true
  room : Room n X.A
  fns : ∀ (i : Nat) x k, c.F[i]? = some (x, k) → ∃ f fd ps, X.mg x = some (.ref f) ∧ PySem.W.keepIn X.K (.ref f) = true ∧ Binds X.K fd ps [] ∧ FnOk X.prog X.w X.K X.mg X.base CX0 n f fd ps (spF X.K C i)
  gls : ∀ (i : Nat) x d, c.G[i]? = some (x, d) → ∃ v u, X.mg x = some u ∧ RelV v u ∧ (∀ g, Rep X.K g d v) ∧ ∀ ds, d = .tup ds → ∃ a o, v = .ref a ∧ X.K.lookup a = some o ∧ o.cls = .type "tuple" ∧ o.dict = none
  blt : ∀ x ∈ bltNames, X.mg (Str.ofString x) = none

section
variable {c : MC} {C : CallT} {n : Nat} {X : Cx}
theorem XOk.gl (h : XOk c C n X) {x : Str} (e : glB c.sc x = true) : Gl X x := by
  show X.env.scope.names.lookup x = some .globalImplicit
  rw [h.sc]
  unfold glB at e
  split at e
  · assumption
  · cases e
theorem XOk.vis (h : XOk c C n X) {x : Str} (e : visB c.sc x = true) : Vis X.env.scope x := by
  unfold Vis
  rw [h.sc]
  unfold visB at e
  split at e
  · rename_i q; exact .inl q
  · rename_i q; exact .inr (.inl q)
  · rename_i q; exact .inr (.inr q)
  · cases e
theorem XOk.loc (h : XOk c C n X) {x : Str} (e : locB c x = true) : L2.Loc X.env.scope x ∧ (X.fn x = true ∨ X.env.scope.names.lookup x = some .local) := by
  unfold L2.Loc
  rw [h.sc]
  unfold locB at e
  split at e
  · rename_i q; exact ⟨.inl q, .inr q⟩
  · rename_i q; exact ⟨.inr q, .inl (h.fn x e)⟩
  · cases e
theorem XOk.units (h : XOk c C n X) : X.A.units + 64 < cLine := h.room.units
theorem nm_ok {x : Str} (h : nmB x = true) : (x == ("__debug__" : Str)) = false ∧ (x == ("__classdict__" : Str)) = false ∧ x ≠ "__name__" := by
  unfold nmB at h
  obtain ⟨h1, h2⟩ := bandT h
  obtain ⟨h3, h4⟩ := bandT h2
  refine ⟨by simpa using h1, by simpa using h3, by simpa using h4⟩
theorem XOk.slot (h : XOk c C n X) {i : Nat} {x : Str} (e : slB c i x = true) : X.N[i]? = some x := by
  rw [h.N]
  exact of_decide_eq_true e

/-! ### argument lists, slices' parts, iterables, targets: what is wanted -/
def WA (X : Cx) (es : List Expr) : TA := fun σ H Q => ∀ pos pins s, Inv X pins σ H s → wpAny (model X.prog X.w) X.A (spliced (backTo pos (starEach es X.env))) (AP X pins σ Q) X.xe s
theorem wa_pa {es : List Expr} : PA X es (WA X es) := ⟨fun pos pins s σ H Q I h => h pos pins s I⟩
theorem paw {es : List Expr} {t : TA} (h : PA X es t) {σ : L2.St} {H : Hp} {Q : List V → Hp → Prop} (q : t σ H Q) : WA X es σ H Q := fun pos pins s I => h.run pos pins s σ H Q I q
def WI (X : Cx) (tg iter : Expr) : TI := fun σ H R => ∀ pins s, Inv X pins σ H s → wpAny (model X.prog X.w) X.A (eval iter X.env) (fun v s1 => wpAny (model X.prog X.w) X.A (pyIter v) (PIE X pins σ tg R) X.xe s1) X.xe s
theorem wi_pi {tg iter : Expr} : PI X tg iter (WI X tg iter) := ⟨fun pins s σ H R I h => h pins s I⟩
theorem piw {tg iter : Expr} {t : TI} (h : PI X tg iter t) {σ : L2.St} {H : Hp} {R : It → Hp → Prop} (q : t σ H R) : WI X tg iter σ H R := fun pins s I => h.run pins s σ H R I q
def WW (X : Cx) (e : Expr) : TT := fun σ H Q => ∀ whole pins s, Inv X pins σ H s → wpAny (model X.prog X.w) X.A (PySem.isTrue e X.env whole) (TP X pins σ Q) X.xe s
theorem ww_pw {e : Expr} : PW X e (WW X e) := ⟨fun whole pins s σ H Q I h => h whole pins s I⟩
theorem pww {e : Expr} {t : TT} (h : PW X e t) {σ : L2.St} {H : Hp} {Q : Bool → Hp → Prop} (q : t σ H Q) : WW X e σ H Q := fun whole pins s I => h.run whole pins s σ H Q I q

theorem Fin.step {K : PySem.W.Frag} {gp g g' : Gh} {st : Cells} {r : VR} {Q : VK} (f : Fin K gp g st r Q) (x : Ext g g') : Fin K gp g' st r Q := fun v g2 y gi s h => f v g2 (x.trans y) gi s h
theorem Fin.base {K : PySem.W.Frag} {gp gp' g : Gh} {st : Cells} {r : VR} {Q : VK} (f : Fin K gp g st r Q) (x : Ext gp gp') : Fin K gp' g st r Q := fun v g2 y gi s h => f v g2 y gi s (h.base x)

/-- what a walk over items is, while Rl holds of the ghosts -/
structure IterOk (Rl : Gh → Gh → Prop) (K : PySem.W.Frag) (g : Gh) (J : It) (items : List D) : Prop where
  ok : ∃ (G : Hp → Prop) (Y : Nat → Hp → V → Hp → Prop), Walk J items.length G Y ∧ (∀ g', Rl g g' → G g'.H) ∧
    ∀ (i : Nat) (g' : Gh) (x : V) (H' : Hp) (st : Cells), Rl g g' → GI g' → StOk K g' st → i < items.length → Y i g'.H x H' → ∃ d g2, items[i]? = some d ∧ g2.H = H' ∧ Ext g' g2 ∧ GI g2 ∧ StOk K g2 st ∧ Rep K g2 d x

section
variable {Rl : Gh → Gh → Prop} {K : PySem.W.Frag} {g : Gh} {ds es : List D} {vs ws : List V} {a b : Addr}
/-- a sequence that stands while Rl holds -/
structure Stands (Rl : Gh → Gh → Prop) (k : Bool) (K : PySem.W.Frag) (g : Gh) (a : Addr) (vs : List V) (ds : List D) : Prop where
  sq : ∀ g', Rl g g' → SqK k K g'.H a vs
  rep : ∀ g', Rl g g' → Reps K g' ds vs
theorem iter_seqL (h : Stands Rl true K g a vs ds) (hr : Reps K g ds vs) : IterOk Rl K g (Itl K a) ds := by
  refine ⟨_, _, by rw [hr.length]; exact walk_list, fun g' l => h.sq g' l, fun i g' x H' st l gi s hi y => ?_⟩
  obtain ⟨e1, e2⟩ := y
  obtain ⟨d, e3, r⟩ := Reps.get' (h.rep g' l) e2
  exact ⟨d, g', e3, e1.symm, .refl g', gi, s, r⟩
theorem iter_seqT (h : Stands Rl false K g a vs ds) (hr : Reps K g ds vs) : IterOk Rl K g (Itt K a) ds := by
  refine ⟨_, _, by rw [hr.length]; exact walk_tup, fun g' l => h.sq g' l, fun i g' x H' st l gi s hi y => ?_⟩
  obtain ⟨e1, e2⟩ := y
  obtain ⟨d, e3, r⟩ := Reps.get' (h.rep g' l) e2
  exact ⟨d, g', e3, e1.symm, .refl g', gi, s, r⟩
theorem iter_rev (h : Stands Rl true K g a vs ds) (hr : Reps K g ds vs) : IterOk Rl K g (Itv K a vs.length) ds.reverse := by
  refine ⟨_, _, by rw [List.length_reverse, hr.length]; exact walk_rev, fun g' l => h.sq g' l, fun i g' x H' st l gi s hi y => ?_⟩
  obtain ⟨e1, e2⟩ := y
  rw [List.length_reverse, hr.length] at hi
  have r := (h.rep g' l).reverse
  have e2' : vs.reverse[i]? = some x := by rw [List.getElem?_reverse hi]; exact e2
  obtain ⟨d, e3, r⟩ := Reps.get' r e2'
  exact ⟨d, g', e3, e1.symm, .refl g', gi, s, r⟩
theorem rng_len (lo : Int) (n : Nat) : (rngD lo n).length = n := by simp [rngD]
theorem rng_get (lo : Int) (n i : Nat) (h : i < n) : (rngD lo n)[i]? = some (.int (lo + (i : Int))) := by simp [rngD, h]
theorem zip_len (xs ys : List D) : (zipD xs ys).length = min xs.length ys.length := by simp [zipD]
theorem zip_get {xs ys : List D} {i : Nat} {x y : D} (h1 : xs[i]? = some x) (h2 : ys[i]? = some y) : (zipD xs ys)[i]? = some (.tup [x, y]) := by
  simp [zipD, List.getElem?_zipWith, h1, h2]
theorem enum_len (xs : List D) : (enumD xs).length = xs.length := by simp [enumD, rng_len]
theorem enum_get {xs : List D} {i : Nat} {x : D} (h : xs[i]? = some x) : (enumD xs)[i]? = some (.tup [.int (i : Int), x]) := by
  have hi : i < xs.length := (List.getElem?_eq_some_iff.mp h).1
  have h0 := rng_get 0 xs.length i hi
  rw [Int.zero_add] at h0
  simp [enumD, List.getElem?_zipWith, h0, h]
theorem iter_rng {lo : Int} {n : Nat} : IterOk Rl K g (Itr lo n) (rngD lo n) := by
  refine ⟨_, _, by rw [rng_len]; exact walk_range, fun g' l => trivial, fun i g' x H' st l gi s hi y => ?_⟩
  obtain ⟨e1, e2⟩ := y
  rw [rng_len] at hi
  exact ⟨_, g', rng_get lo n i hi, e1.symm, .refl g', gi, s, by rw [Rep]; exact e2⟩
/-- a new pair -/
theorem pair_new {g' : Gh} {st : Cells} {T : Addr} {x y : V} {d e : D} (gi : GI g') (s : StOk K g' st) (hT : g'.H T = none) (r1 : Rep K g' d x) (r2 : Rep K g' e y) :
    ∃ g2 : Gh, g2.H = upd g'.H T (.tup [x, y]) ∧ Ext g' g2 ∧ GI g2 ∧ StOk K g2 st ∧ Rep K g2 (.tup [d, e]) (.ref T) := by
  refine ⟨{ g' with H := upd g'.H T (.tup [x, y]) }, rfl, .laid hT, gi.laid hT, s.laid gi hT, ?_⟩
  rw [Rep]
  exact ⟨T, [x, y], rfl, .inl (.inl upd_same), Reps.le ((Ext.laid hT).le gi) _ _ (.cons r1 (.cons r2 .nil))⟩
theorem iter_enum {k : Bool} (h : Stands Rl k K g a vs ds) (hr : Reps K g ds vs) : IterOk Rl K g (if k = true then Ite K a else IteT K a) (enumD ds) := by
  have fin : ∀ (i : Nat) (g' : Gh) (x : V) (H' : Hp) (st : Cells), Rl g g' → GI g' → StOk K g' st → YPair (fun i => some (.int (i : Nat))) (fun i => vs[i]?) i g'.H x H' →
      ∃ d g2, (enumD ds)[i]? = some d ∧ g2.H = H' ∧ Ext g' g2 ∧ GI g2 ∧ StOk K g2 st ∧ Rep K g2 d x := fun i g' x H' st l gi s y => by
    obtain ⟨T, u, w, rfl, hT, rfl, e1, e2⟩ := y
    have e1' : V.int (i : Nat) = u := Option.some.inj e1
    subst e1'
    obtain ⟨d, e3, r⟩ := Reps.get' (h.rep g' l) e2
    obtain ⟨g2, q1, q2, q3, q4, q5⟩ := pair_new (d := .int (i : Int)) gi s hT (by rw [Rep]) r
    exact ⟨_, g2, enum_get e3, q1, q2, q3, q4, q5⟩
  cases k with
  | true => exact ⟨_, _, by rw [enum_len, hr.length]; exact walk_enum, fun g' l => h.sq g' l, fun i g' x H' st l gi s _ y => fin i g' x H' st l gi s y⟩
  | false => exact ⟨_, _, by rw [enum_len, hr.length]; exact walk_enumT (H0 := g.H), fun g' l => h.sq g' l, fun i g' x H' st l gi s _ y => fin i g' x H' st l gi s y⟩
theorem iter_zip {k1 k2 : Bool} (h1 : Stands Rl k1 K g a vs ds) (h2 : Stands Rl k2 K g b ws es) (r1 : Reps K g ds vs) (r2 : Reps K g es ws) : IterOk Rl K g (ItzK k1 k2 K a b) (zipD ds es) := by
  refine ⟨fun H => SqK k1 K H a vs ∧ SqK k2 K H b ws, _, by rw [zip_len, r1.length, r2.length]; exact walk_zipK, fun g' l => ⟨h1.sq g' l, h2.sq g' l⟩, fun i g' x H' st l gi s hi y => ?_⟩
  obtain ⟨T, u, w, rfl, hT, rfl, e1, e2⟩ := y
  obtain ⟨d, e3, q1⟩ := Reps.get' (h1.rep g' l) e1
  obtain ⟨e, e4, q2⟩ := Reps.get' (h2.rep g' l) e2
  obtain ⟨g2, p1, p2, p3, p4, p5⟩ := pair_new gi s hT q1 q2
  exact ⟨_, g2, zip_get e3 e4, p1, p2, p3, p4, p5⟩

/-- the kinds of ghosts' relation: in a for statement, in a comprehension -/
def RlOf (bor : Bool) : Gh → Gh → Prop := if bor = true then fun g g' => Ext g g' else RepLe
theorem rl_le {bor : Bool} (gi : GI g) {g' : Gh} (h : RlOf bor g g') : RepLe g g' := by
  cases bor with
  | true => exact Ext.le gi h
  | false => exact h
/-- a list, not a tuple -/
def kindR : VR → Bool
  | .dat (.tup _) => false
  | _ => true
/-- what is walked: a value that may be walked, its sequence's kind -/
theorem stands_of {bor : Bool} {gp : Gh} {st : Cells} {r : VR} {v : V} {xs : List D} (xg : Ext gp g) (gi : GI g) (s : StOk K g st) (h : RepR K gp g r v)
    (e : walked bor r = some xs) :
    ∃ g', g'.H = g.H ∧ Ext gp g' ∧ RepLe g g' ∧ GI g' ∧ StOk K g' st ∧ ∃ a vs, v = .ref a ∧ SqK (kindR r) K g'.H a vs ∧ Stands (RlOf bor) (kindR r) K g' a vs xs ∧ Reps K g' xs vs := by
  cases r with
  | bor ds =>
    cases bor with
    | false => cases e
    | true =>
      cases e
      obtain ⟨a, vs, rfl, h1, h2, h3⟩ := h
      exact ⟨g, rfl, xg, .refl g, gi, s, a, vs, rfl, SqL.of h1, ⟨fun g' x => SqL.of (Ext.keep (show Ext g g' from x) _ _ h1 h2), fun g' x => Reps.le (rl_le gi x) _ _ h3⟩, h3⟩
  | new ds =>
    cases e
    obtain ⟨a, vs, rfl, h1, h2, h3, h4, h5⟩ := h
    have r5 : Reps K (g.fr a) xs vs := Reps.le RepLe.fr _ _ h5
    exact ⟨g.fr a, rfl, xg.fr h4, .fr, gi.fr (by rw [h1]; simp) h2, s.fr, a, vs, rfl, SqL.of h1, ⟨fun g' x => SqL.of ((rl_le (gi.fr (by rw [h1]; simp) h2) x).frz a _ (.inr rfl) h1), fun g' x => Reps.le (rl_le (gi.fr (by rw [h1]; simp) h2) x) _ _ r5⟩, r5⟩
  | dat d =>
    cases d with
    | tup ds =>
      cases e
      have h : Rep K g (.tup xs) v := h
      rw [Rep] at h
      obtain ⟨a, vs, rfl, h1, h2⟩ := h
      exact ⟨g, rfl, xg, .refl g, gi, s, a, vs, rfl, h1, ⟨fun g' x => SqT.le (rl_le gi x) h1, fun g' x => Reps.le (rl_le gi x) _ _ h2⟩, h2⟩
    | lst ds =>
      cases e
      have h : Rep K g (.lst xs) v := h
      rw [Rep] at h
      obtain ⟨a, vs, rfl, h1, z, h2⟩ := h
      exact ⟨g, rfl, xg, .refl g, gi, s, a, vs, rfl, SqL.of h1, ⟨fun g' x => SqL.of ((rl_le gi x).frz a _ z h1), fun g' x => Reps.le (rl_le gi x) _ _ h2⟩, h2⟩
    | rol ds =>
      cases e
      have h : Rep K g (.rol xs) v := h
      rw [Rep] at h
      obtain ⟨a, vs, rfl, h1, h2⟩ := h
      exact ⟨g, rfl, xg, .refl g, gi, s, a, vs, rfl, h1.sq, ⟨fun g' x => (RoL.le (rl_le gi x) h1).sq, fun g' x => Reps.le (rl_le gi x) _ _ h2⟩, h2⟩
    | _ => cases e
theorem Stands.le {k : Bool} {bor : Bool} {g2 : Gh} (gi : GI g) (h : Stands (RlOf bor) k K g a vs ds) (x : Ext g g2) : Stands (RlOf bor) k K g2 a vs ds := by
  cases bor with
  | true => exact ⟨fun g' y => h.sq g' (Ext.trans x y), fun g' y => h.rep g' (Ext.trans x y)⟩
  | false => exact ⟨fun g' y => h.sq g' (RepLe.trans (x.le gi) y), fun g' y => h.rep g' (RepLe.trans (x.le gi) y)⟩
theorem Stands.le' {k : Bool} {bor : Bool} {g2 : Gh} (h : Stands (RlOf bor) k K g a vs ds) (x : Ext g g2) (l : RepLe g g2) : Stands (RlOf bor) k K g2 a vs ds := by
  cases bor with
  | true => exact ⟨fun g' y => h.sq g' (Ext.trans x y), fun g' y => h.rep g' (Ext.trans x y)⟩
  | false => exact ⟨fun g' y => h.sq g' (RepLe.trans l y), fun g' y => h.rep g' (RepLe.trans l y)⟩
end
end
end Sf
/-! SfEnv: names are stored. -/
namespace Sf
open PySem PySem.Spec PyProof.Rows L2

section
variable {K : PySem.W.Frag} {g0 g : Gh} {ρ : Env} {σ : L2.St}
theorem set_get {α : Type} {l : List α} {i j : Nat} {x y : α} (h : (l.set i x)[j]? = some y) : (i = j ∧ x = y ∧ i < l.length) ∨ (i ≠ j ∧ l[j]? = some y) := by
  by_cases e : i = j
  · subst e
    by_cases hl : i < l.length
    · rw [List.getElem?_set_self hl] at h
      exact .inl ⟨rfl, Option.some.inj h, hl⟩
    · rw [List.getElem?_eq_none (by simpa using hl)] at h
      cases h
  · rw [List.getElem?_set_ne e] at h
    exact .inr ⟨e, h⟩
theorem EnvOk.setDat (h : EnvOk K g0 g ρ σ) {d : D} {v : V} (r : Rep K g d v) (i : Nat) : EnvOk K g0 g (ρ.set i (.dat d)) (σ.set i (some v)) where
  len := by simpa using h.len
  ext := h.ext
  gi := h.gi
  dat := fun j d' e => by
    rcases set_get e with ⟨e1, e2, hl⟩ | ⟨ne, e⟩
    · subst e1
      cases e2
      exact ⟨v, List.getElem?_set_self (by rw [← h.len]; exact hl), r⟩
    · obtain ⟨v', q1, q2⟩ := h.dat j d' e
      exact ⟨v', by rw [List.getElem?_set_ne ne]; exact q1, q2⟩
  own := fun j ds e => by
    rcases set_get e with ⟨e1, e2, hl⟩ | ⟨ne, e⟩
    · cases e2
    · obtain ⟨a, vs, q1, q2⟩ := h.own j ds e
      exact ⟨a, vs, by rw [List.getElem?_set_ne ne]; exact q1, q2⟩
  sep := fun j k dj dk a e1 e2 f1 f2 => by
    rcases set_get e1 with ⟨_, q, _⟩ | ⟨n1, e1⟩
    · cases q
    · rcases set_get e2 with ⟨_, q, _⟩ | ⟨n2, e2⟩
      · cases q
      · rw [List.getElem?_set_ne n1] at f1
        rw [List.getElem?_set_ne n2] at f2
        exact h.sep j k dj dk a e1 e2 f1 f2
theorem EnvOk.setOwn (h : EnvOk K g0 g ρ σ) {ds : List D} {a : Addr} {vs : List V} (h1 : g.H a = some (.lst vs)) (h2 : a ∉ g.m) (h3 : ¬ g.Z a) (h4 : g0.H a = none) (r : Reps K g ds vs)
    (ne : ∀ (j : Nat) dj, ρ[j]? = some (.own dj) → σ[j]? ≠ some (some (.ref a))) (i : Nat) : EnvOk K g0 g (ρ.set i (.own ds)) (σ.set i (some (.ref a))) where
  len := by simpa using h.len
  ext := h.ext
  gi := h.gi
  dat := fun j d' e => by
    rcases set_get e with ⟨e1, e2, hl⟩ | ⟨ne, e⟩
    · cases e2
    · obtain ⟨v', q1, q2⟩ := h.dat j d' e
      exact ⟨v', by rw [List.getElem?_set_ne ne]; exact q1, q2⟩
  own := fun j ds' e => by
    rcases set_get e with ⟨e1, e2, hl⟩ | ⟨ne, e⟩
    · subst e1
      cases e2
      exact ⟨a, vs, List.getElem?_set_self (by rw [← h.len]; exact hl), h1, h2, h3, h4, r⟩
    · obtain ⟨b, ws, q1, q2⟩ := h.own j ds' e
      exact ⟨b, ws, by rw [List.getElem?_set_ne ne]; exact q1, q2⟩
  sep := fun j k dj dk b e1 e2 f1 f2 => by
    rcases set_get e1 with ⟨q1, _, _⟩ | ⟨n1, e1⟩
    · rcases set_get e2 with ⟨q2, _, _⟩ | ⟨n2, e2⟩
      · rw [← q1, ← q2]
      · subst q1
        rw [List.getElem?_set_ne n2] at f2
        rcases set_get f1 with ⟨_, z, _⟩ | ⟨z, _⟩
        · cases z
          exact absurd f2 (ne k dk e2)
        · exact absurd rfl z
    · rcases set_get e2 with ⟨q2, _, _⟩ | ⟨n2, e2⟩
      · subst q2
        rw [List.getElem?_set_ne n1] at f1
        rcases set_get f2 with ⟨_, z, _⟩ | ⟨z, _⟩
        · cases z
          exact absurd f1 (ne j dj e1)
        · exact absurd rfl z
      · rw [List.getElem?_set_ne n1] at f1
        rw [List.getElem?_set_ne n2] at f2
        exact h.sep j k dj dk b e1 e2 f1 f2
theorem EnvOk.setUn (h : EnvOk K g0 g ρ σ) (o : Option V) (i : Nat) : EnvOk K g0 g (ρ.set i .un) (σ.set i o) where
  len := by simpa using h.len
  ext := h.ext
  gi := h.gi
  dat := fun j d' e => by
    rcases set_get e with ⟨e1, e2, hl⟩ | ⟨ne, e⟩
    · cases e2
    · obtain ⟨v', q1, q2⟩ := h.dat j d' e
      exact ⟨v', by rw [List.getElem?_set_ne ne]; exact q1, q2⟩
  own := fun j ds e => by
    rcases set_get e with ⟨e1, e2, hl⟩ | ⟨ne, e⟩
    · cases e2
    · obtain ⟨a, vs, q1, q2⟩ := h.own j ds e
      exact ⟨a, vs, by rw [List.getElem?_set_ne ne]; exact q1, q2⟩
  sep := fun j k dj dk a e1 e2 f1 f2 => by
    rcases set_get e1 with ⟨_, q, _⟩ | ⟨n1, e1⟩
    · cases q
    · rcases set_get e2 with ⟨_, q, _⟩ | ⟨n2, e2⟩
      · cases q
      · rw [List.getElem?_set_ne n1] at f1
        rw [List.getElem?_set_ne n2] at f2
        exact h.sep j k dj dk a e1 e2 f1 f2
/-- another list changes -/
theorem EnvOk.other (h : EnvOk K g0 g ρ σ) {a : Addr} {vs ws : List V} (h1 : g.H a = some (.lst vs)) (h2 : a ∉ g.m) (h3 : ¬ g.Z a) (h4 : g0.H a = none) (ne : ∀ (j : Nat) dj, ρ[j]? = some (.own dj) → σ[j]? ≠ some (some (.ref a))) :
    EnvOk K g0 { g with H := upd g.H a (.lst ws) } ρ σ where
  len := h.len
  ext := h.ext.own h4
  gi := h.gi.own h2
  dat := fun j d' e' => by
    obtain ⟨v', q1, q2⟩ := h.dat j d' e'
    exact ⟨v', q1, Rep.le (.own h1 h3) _ _ q2⟩
  own := fun j ds' e' => by
    obtain ⟨b, vs', q1, q2, q3, q4, q5, q6⟩ := h.own j ds' e'
    have nb : b ≠ a := fun eb => by subst eb; exact ne j ds' e' q1
    exact ⟨b, vs', q1, by show upd g.H a _ b = _; rw [upd_ne nb]; exact q2, q3, q4, q5, Reps.le (.own h1 h3) _ _ q6⟩
  sep := h.sep
theorem EnvOk.wipe (h : EnvOk K g0 g ρ σ) : ∀ l : List Nat, EnvOk K g0 g (ρ.wipe l) (L2.wipe σ l)
  | [] => h
  | i :: l => (EnvOk.wipe h l).setUn none i
end

theorem wipe_own : ∀ (l : List Nat) {ρ : Env} {σ : L2.St} {i : Nat} {ds : List D}, (ρ.wipe l)[i]? = some (.own ds) → ρ[i]? = some (.own ds) ∧ (L2.wipe σ l)[i]? = σ[i]?
  | [], _, _, _, _, h => ⟨h, rfl⟩
  | j :: l, ρ, σ, i, ds, h => by
    have h : ((ρ.wipe l).set j .un)[i]? = some (.own ds) := h
    rcases set_get h with ⟨_, q, _⟩ | ⟨ne, h⟩
    · cases q
    · obtain ⟨h1, h2⟩ := wipe_own l (σ := σ) h
      exact ⟨h1, by show ((L2.wipe σ l).set j none)[i]? = _; rw [List.getElem?_set_ne ne]; exact h2⟩
theorem wipe_set_in {σ : L2.St} {i : Nat} {x : Option V} : ∀ {l : List Nat}, i ∈ l → L2.wipe (σ.set i x) l = L2.wipe σ l
  | j :: l, h => by
    unfold L2.wipe
    by_cases hl : i ∈ l
    · rw [wipe_set_in hl]
    · have e : i = j := (List.mem_cons.mp h).resolve_right hl
      subst e
      have key : ∀ (l : List Nat), i ∉ l → L2.wipe (σ.set i x) l = (L2.wipe σ l).set i x := by
        intro l
        induction l with
        | nil => intro _; rfl
        | cons k l ih =>
          intro hk
          simp only [List.mem_cons,not_or] at hk
          show (L2.wipe (σ.set i x) l).set k none = ((L2.wipe σ l).set k none).set i x
          rw [ih hk.2, List.set_comm _ _ hk.1]
      rw [key l hl, List.set_set]
theorem wipe_wipe {σ : L2.St} : ∀ (l k : List Nat), (∀ i ∈ k, i ∈ l) → L2.wipe (L2.wipe σ k) l = L2.wipe σ l
  | l, [], _ => rfl
  | l, i :: k, h => by
    show L2.wipe ((L2.wipe σ k).set i none) l = _
    rw [wipe_set_in (h i List.mem_cons_self), wipe_wipe l k fun j hj => h j (List.mem_cons_of_mem _ hj)]

/-! ### targets -/
def slotsT : MT → List Nat
  | .nm i => [i]
  | .tnil => []
  | .tcons a r => slotsT a ++ slotsT r
  | .tup ts => slotsT ts
def lenT : MT → Nat
  | .tcons _ r => lenT r + 1
  | _ => 0
mutual
def tgOf (K : PySem.W.Frag) : MT → TG
  | .nm i => gName i
  | .tup ts => gTup K (lenT ts) (tgsOf K ts)
  | _ => fun _ _ _ _ => False
def tgsOf (K : PySem.W.Frag) : MT → TGs
  | .tnil => gNil
  | .tcons a r => gCons (tgOf K a) (tgsOf K r)
  | _ => fun _ _ _ _ => False
end

section
variable {c : MC} {C : CallT} {n : Nat} {X : Cx}
theorem mTgs_len {own : Option (List Nat)} : ∀ {m : MT} {es : List Expr}, mTg.mTgs c own m es = true → (assignEach es X.env).length = lenT m ∧ (assignEach es X.env).findIdx? (·.1) = none
  | .tnil, [], _ => ⟨rfl, rfl⟩
  | .tcons a r, e :: es, h => by
    simp only [mTg.mTgs,Bool.and_eq_true] at h
    obtain ⟨h1, h2⟩ := mTgs_len (m := r) (es := es) h.2.2
    rw [assignN h.1]
    refine ⟨by simp [lenT, h1], ?_⟩
    rw [List.findIdx?_cons]
    simp [h2]
  | .tnil, _ :: _, h => by simp [mTg.mTgs] at h
  | .tcons _ _, [], h => by simp [mTg.mTgs] at h
  | .nm _, [], h => by simp [mTg.mTgs] at h
  | .nm _, _ :: _, h => by simp [mTg.mTgs] at h
  | .tup _, [], h => by simp [mTg.mTgs] at h
  | .tup _, _ :: _, h => by simp [mTg.mTgs] at h
mutual
theorem sG (xo : XOk c C n X) {own : Option (List Nat)} : ∀ (m : MT) (e : Expr), mTg c own m e = true → PG X e (tgOf X.K m)
  | .nm i, e, h => by
    cases e <;> first | (simp [mTg] at h; done) | skip
    rename_i x pos
    simp only [mTg,Bool.and_eq_true] at h
    obtain ⟨q1, q2⟩ := xo.loc h.2.1
    rw [tgOf]
    exact pg_name (by rw [xo.N]; exact xo.nd) (xo.slot h.1) q1 q2
  | .tup ts, e, h => by
    cases e <;> first | (simp [mTg] at h; done) | skip
    rename_i es k pos
    simp only [mTg] at h
    obtain ⟨h1, h2⟩ := mTgs_len (X := X) h
    rw [tgOf]
    exact pg_tup xo.calm (sGs xo ts es h) h1 h2
  | .tnil, e, h => by cases e <;> simp [mTg] at h
  | .tcons _ _, e, h => by cases e <;> simp [mTg] at h
theorem sGs (xo : XOk c C n X) {own : Option (List Nat)} : ∀ (m : MT) (es : List Expr), mTg.mTgs c own m es = true → PGs X es (tgsOf X.K m)
  | .tnil, es, h => by
    cases es with
    | nil => rw [tgsOf]; exact pgs_nil
    | cons _ _ => simp [mTg.mTgs] at h
  | .tcons a r, es, h => by
    cases es with
    | nil => simp [mTg.mTgs] at h
    | cons e es =>
      simp only [mTg.mTgs,Bool.and_eq_true] at h
      rw [tgsOf]
      exact pgs_cons (sG xo a e h.2.1) (sGs xo r es h.2.2) (by rw [assignN h.1]; rfl)
  | .nm _, es, h => by cases es <;> simp [mTg.mTgs] at h
  | .tup _, es, h => by cases es <;> simp [mTg.mTgs] at h
end
theorem mTg_own {l : List Nat} : ∀ (m : MT), (∀ (e : Expr), mTg c (some l) m e = true → ∀ i ∈ slotsT m, i ∈ l) ∧ (∀ (es : List Expr), mTg.mTgs c (some l) m es = true → ∀ i ∈ slotsT m, i ∈ l)
  | .nm i => by
    refine ⟨fun e h j hj => ?_, fun es h => by cases es <;> simp [mTg.mTgs] at h⟩
    cases e <;> first | (simp [mTg] at h; done) | skip
    simp only [mTg,Bool.and_eq_true,decide_eq_true_eq] at h
    simp only [slotsT,List.mem_singleton] at hj
    rw [hj]; exact h.2.2
  | .tup ts => by
    refine ⟨fun e h j hj => ?_, fun es h => by cases es <;> simp [mTg.mTgs] at h⟩
    cases e <;> first | (simp [mTg] at h; done) | skip
    simp only [mTg] at h
    exact (mTg_own ts).2 _ h j hj
  | .tnil => ⟨fun e h => by cases e <;> simp [mTg] at h, fun es h j hj => by simp [slotsT] at hj⟩
  | .tcons a r => by
    refine ⟨fun e h => by cases e <;> simp [mTg] at h, fun es h j hj => ?_⟩
    cases es with
    | nil => simp [mTg.mTgs] at h
    | cons e es =>
      simp only [mTg.mTgs,Bool.and_eq_true] at h
      rcases List.mem_append.mp hj with hj | hj
      · exact (mTg_own a).1 e h.2.1 j hj
      · exact (mTg_own r).2 es h.2.2 j hj
end

/-- a target takes a value -/
structure Took (l : List Nat) (ρ ρ1 : Env) (σ σ1 : L2.St) : Prop where
  same : ∀ k : List Nat, (∀ i ∈ l, i ∈ k) → L2.wipe σ1 k = L2.wipe σ k
  own : ∀ (i : Nat) ds, ρ1[i]? = some (.own ds) → ρ[i]? = some (.own ds) ∧ σ1[i]? = σ[i]?
theorem bind_len {c : MC} {own : Option (List Nat)} : ∀ (m : MT) (es : List Expr) {ds : List D} {ρ ρ1 : Env}, mTg.mTgs c own m es = true → bindT m (.tup ds) ρ = some ρ1 → ds.length = lenT m
  | .tnil, es, ds, ρ, ρ1, _, b => by
    simp only [bindT] at b
    split at b
    · rename_i e; rw [e]; rfl
    · cases b
  | .tcons a t, es, ds, ρ, ρ1, h, b => by
    cases es with
    | nil => simp [mTg.mTgs] at h
    | cons e es =>
      simp only [mTg.mTgs,Bool.and_eq_true] at h
      cases ds with
      | nil => simp [bindT] at b
      | cons d ds =>
        simp only [bindT,Option.bind_eq_some_iff] at b
        obtain ⟨ρ2, b1, b2⟩ := b
        simp [lenT, bind_len t es h.2.2 b2]
  | .nm _, es, _, _, _, h, _ => by cases es <;> simp [mTg.mTgs] at h
  | .tup _, es, _, _, _, h, _ => by cases es <;> simp [mTg.mTgs] at h
mutual
theorem tgT {c : MC} {own : Option (List Nat)} {K : PySem.W.Frag} {g0 g : Gh} : ∀ (m : MT) (e : Expr) {d : D} {v : V} {ρ ρ1 : Env} {σ : L2.St} {Q : L2.St → Hp → Prop}, mTg c own m e = true → Rep K g d v → bindT m d ρ = some ρ1 → EnvOk K g0 g ρ σ →
    (∀ σ1, EnvOk K g0 g ρ1 σ1 → Took (slotsT m) ρ ρ1 σ σ1 → Q σ1 g.H) → tgOf K m v σ g.H Q
  | .nm i, e, d, v, ρ, ρ1, σ, Q, _, r, b, en, q => by
    rw [tgOf]
    simp only [bindT] at b
    split at b
    · cases b
      refine q _ (en.setDat r i) ⟨fun k hk => wipe_set_in (hk i (by simp [slotsT])), fun j ds e => ?_⟩
      rcases set_get e with ⟨_, q, _⟩ | ⟨ne, e⟩
      · cases q
      · exact ⟨e, List.getElem?_set_ne ne⟩
    · cases b
  | .tup ts, e, d, v, ρ, ρ1, σ, Q, h, r, b, en, q => by
    cases e <;> first | (simp [mTg] at h; done) | skip
    rename_i es k pos
    simp only [mTg] at h
    cases d <;> first | (simp [bindT] at b; done) | skip
    rename_i ds
    simp only [bindT] at b
    rw [Rep] at r
    obtain ⟨a, vs, rfl, h1, h2⟩ := r
    rw [tgOf]
    exact ⟨a, vs, rfl, h1, by rw [← h2.length, bind_len ts es h b], tgsT ts es h h2 b en q⟩
  | .tnil, e, _, _, _, _, _, _, h, _, _, _, _ => by cases e <;> simp [mTg] at h
  | .tcons _ _, e, _, _, _, _, _, _, h, _, _, _, _ => by cases e <;> simp [mTg] at h
theorem tgsT {c : MC} {own : Option (List Nat)} {K : PySem.W.Frag} {g0 g : Gh} : ∀ (m : MT) (es : List Expr) {ds : List D} {vs : List V} {ρ ρ1 : Env} {σ : L2.St} {Q : L2.St → Hp → Prop}, mTg.mTgs c own m es = true → Reps K g ds vs → bindT m (.tup ds) ρ = some ρ1 → EnvOk K g0 g ρ σ →
    (∀ σ1, EnvOk K g0 g ρ1 σ1 → Took (slotsT m) ρ ρ1 σ σ1 → Q σ1 g.H) → tgsOf K m vs σ g.H Q
  | .tnil, es, ds, vs, ρ, ρ1, σ, Q, _, r, b, en, q => by
    simp only [bindT] at b
    split at b
    · rename_i e
      subst e
      cases b
      rw [Reps] at r
      subst r
      rw [tgsOf]
      exact ⟨rfl, q σ en ⟨fun k _ => rfl, fun _ _ e => ⟨e, rfl⟩⟩⟩
    · cases b
  | .tcons a t, es, ds, vs, ρ, ρ1, σ, Q, h, r, b, en, q => by
    cases es with
    | nil => simp [mTg.mTgs] at h
    | cons e es =>
      simp only [mTg.mTgs,Bool.and_eq_true] at h
      cases ds with
      | nil => simp [bindT] at b
      | cons d ds =>
        simp only [bindT,Option.bind_eq_some_iff] at b
        obtain ⟨ρ2, b1, b2⟩ := b
        rw [Reps] at r
        obtain ⟨v, vr, rfl, r1, r2⟩ := r
        rw [tgsOf]
        refine ⟨v, vr, rfl, ?_⟩
        exact tgT a e h.2.1 r1 b1 en fun σ2 en2 tk => tgsT t es h.2.2 r2 b2 en2 fun σ3 en3 tk3 => q σ3 en3 ⟨fun k hk => (tk3.same k fun i hi => hk i (List.mem_append.mpr (.inr hi))).trans (tk.same k fun i hi => hk i (List.mem_append.mpr (.inl hi))), fun j ds e => let ⟨e1, e2⟩ := tk3.own j ds e; let ⟨e3, e4⟩ := tk.own j ds e1; ⟨e3, e2.trans e4⟩⟩
  | .nm _, es, _, _, _, _, _, _, h, _, _, _, _ => by cases es <;> simp [mTg.mTgs] at h
  | .tup _, es, _, _, _, _, _, _, h, _, _, _, _ => by cases es <;> simp [mTg.mTgs] at h
end
end Sf
/-! SfSnd: an expression that matches does what the evaluator says. -/
namespace Sf
open PySem PySem.Spec PyProof.Rows L2

section
variable {C : CallT} {n : Nat}

abbrev GE (C : CallT) (G : List D) (X : Cx) (m : ME) (e : Expr) : Prop := ∀ {g0 g : Gh} {ρ : Env} {σ : L2.St} {st : Cells} {r : VR} {st' : Cells} {Q : VK},
  EnvOk X.K g0 g ρ σ → StOk X.K g st → eE C G m ρ st = some (r, st') → Fin X.K g g st' r Q → WE X e σ g.H Q
abbrev GT (C : CallT) (G : List D) (X : Cx) (m : ME) (e : Expr) : Prop := ∀ {g0 g : Gh} {ρ : Env} {σ : L2.St} {st : Cells} {r : Bool} {st' : Cells} {Q : Bool → Hp → Prop},
  EnvOk X.K g0 g ρ σ → StOk X.K g st → eT C G m ρ st = some (r, st') → (∀ g', Ext g g' → GI g' → StOk X.K g' st' → Q r g'.H) → WT X e σ g.H Q
abbrev GA (C : CallT) (G : List D) (X : Cx) (m : MEs) (es : List Expr) : Prop := ∀ {g0 g : Gh} {ρ : Env} {σ : L2.St} {st : Cells} {r : List D} {st' : Cells} {Q : List V → Hp → Prop},
  EnvOk X.K g0 g ρ σ → StOk X.K g st → eEs C G m ρ st = some (r, st') → (∀ vs g', Ext g g' → GI g' → StOk X.K g' st' → Reps X.K g' r vs → Q vs g'.H) → WA X es σ g.H Q
abbrev GV (C : CallT) (G : List D) (X : Cx) (m : MEs) (es : List Expr) : Prop := ∀ {g0 g : Gh} {ρ : Env} {σ : L2.St} {st : Cells} {r : List VR} {st' : Cells} {Q : List V → Hp → Prop},
  EnvOk X.K g0 g ρ σ → StOk X.K g st → eVs C G m ρ st = some (r, st') → (∀ vs g', Ext g g' → GI g' → StOk X.K g' st' → RdRs X.K g' r vs → Q vs g'.H) → WA X es σ g.H Q
abbrev GI_ (C : CallT) (G : List D) (X : Cx) (m : MI) (t e : Expr) : Prop := ∀ {g0 g : Gh} {ρ : Env} {σ : L2.St} {st : Cells} {bor : Bool} {r : List D} {st' : Cells} {R : It → Hp → Prop},
  EnvOk X.K g0 g ρ σ → StOk X.K g st → eI C G bor m ρ st = some (r, st') → (∀ J g', Ext g g' → GI g' → StOk X.K g' st' → IterOk (RlOf bor) X.K g' J r → R J g'.H) → WI X t e σ g.H R

theorem boot_bi (b : BI) : bootBuiltins (Str.ofString (biName b)) = some (biVal b) := by cases b <;> decide +kernel
theorem boot_ty : ∀ t ∈ ["tuple", "list", "int", "bool", "str"], bootBuiltins (Str.ofString t) = some (.type t) := by decide +kernel
theorem names_in (b : BI) : biName b ∈ bltNames := by cases b <;> decide
theorem cls_in {b : BI} {t : String} (h : biCls b = some t) : t ∈ bltNames ∧ t ∈ ["tuple", "list", "int", "bool", "str"] := by cases b <;> cases h <;> decide

theorem bindE {α β : Type} {x : Option α} {f : α → Option β} {b : β} (h : x.bind f = some b) : ∃ a, x = some a ∧ f a = some b := Option.bind_eq_some_iff.mp h
theorem mapE {α β : Type} {x : Option α} {f : α → β} {b : β} (h : x.map f = some b) : ∃ a, x = some a ∧ f a = b := Option.map_eq_some_iff.mp h

theorem rangeN : ("range" : String) ∈ bltNames := by decide
theorem str_lit (s : String) : (Str.ofString s) = (s : Str) := rfl

/-- a built-in's call by value -/
theorem bi_call {X : Cx} {b : BI} {x : Str} {p pos : Pos} {e : Expr} {es : List Expr} {t : TA} {r : List V → Hp → VK → Prop} (hc : CallR X (biVal b) r) (hg : Gl X x) (hm : X.mg x = none) (hv : bootBuiltins x = some (biVal b)) (ha : PA X (e :: es) t) (hn : x ≠ "__name__") (hd : (x == ("__debug__" : Str)) = false)
    (he : starEach (e :: es) X.env = (false, eval e X.env) :: starEach es X.env) (hpl : (backTo pos (starEach es X.env)).any (·.1) = false) : PE X (.Call (.Name x p) (e :: es) [] pos) (tCB r t) := by
  unfold biVal at hc hv
  split at hv
  · rename_i q
    rw [if_pos q] at hc
    exact pe_callTy hc hg hm hv ha hn hd he hpl
  · rename_i q
    rw [if_neg q] at hc
    exact pe_callB hc hg hm hv ha hn hd he hpl

theorem noStars {c : MC} : ∀ {m : MEs} {es : List Expr}, mEs c m es = true → ∀ (pos : Pos) (env : PySem.Env), (backTo pos (starEach es env)).any (·.1) = false
  | .nil, [], _, _, _ => rfl
  | .nil, _ :: _, h, _, _ => by simp [mEs] at h
  | .cons _ _, [], h, _, _ => by simp [mEs] at h
  | .cons a r, e :: es, h, pos, env => by
    simp only [mEs,Bool.and_eq_true] at h
    rw [starN h.1]
    have ih := noStars h.2.2 pos env
    simpa [backTo] using ih
theorem noStarsV {c : MC} : ∀ {m : MEs} {es : List Expr}, mVs c m es = true → ∀ (pos : Pos) (env : PySem.Env), (backTo pos (starEach es env)).any (·.1) = false
  | .nil, [], _, _, _ => rfl
  | .nil, _ :: _, h, _, _ => by simp [mVs] at h
  | .cons _ _, [], h, _, _ => by simp [mVs] at h
  | .cons a r, e :: es, h, pos, env => by
    simp only [mVs,Bool.and_eq_true] at h
    rw [starN h.1]
    have ih := noStarsV h.2.2 pos env
    simpa [backTo] using ih

/-! ### the simple expressions -/
section
variable {c : MC} {X : Cx}
theorem sE_v {i : Nat} {e : Expr} (xo : XOk c C n X) (h : mE c (.v i) e = true) : GE C (c.G.map (·.2)) X (.v i) e := by
  intro g0 g ρ σ st r st' Q en s ev f
  unfold mE at h
  split at h
  · rename_i x pos
    simp only [Bool.and_eq_true] at h
    obtain ⟨n1, n2, n3⟩ := nm_ok h.2.2
    refine pew (pe_var (xo.slot h.1) (xo.vis h.2.1) n1 n2) ?_
    unfold eE at ev
    split at ev
    · rename_i d hd
      cases ev
      obtain ⟨v, e1, e2⟩ := en.dat i d hd
      exact ⟨v, e1, f.here en.gi s e2⟩
    · rename_i ds hd
      cases ev
      obtain ⟨a, vs, e1, e2, e3, e4, e5, e6⟩ := en.own i ds hd
      exact ⟨_, e1, f.here en.gi s ⟨a, vs, rfl, e2, e3, e6⟩⟩
    · cases ev
  · cases h
theorem sE_int {i : Int} {e : Expr} (h : mE c (.int i) e = true) : GE C (c.G.map (·.2)) X (.int i) e := by
  intro g0 g ρ σ st r st' Q en s ev f
  unfold mE at h
  split at h
  · unfold eE at ev
    cases ev
    obtain rfl := of_decide_eq_true h
    exact pew pe_int (f.here en.gi s (rep_int _))
  · cases h
theorem sE_bl {b : Bool} {e : Expr} (h : mE c (.bl b) e = true) : GE C (c.G.map (·.2)) X (.bl b) e := by
  intro g0 g ρ σ st r st' Q en s ev f
  unfold mE at h
  split at h
  · unfold eE at ev
    cases ev
    obtain rfl := of_decide_eq_true h
    exact pew pe_bl (f.here en.gi s (rep_bl _))
  · cases h
theorem sE_non {e : Expr} (h : mE c .non e = true) : GE C (c.G.map (·.2)) X .non e := by
  intro g0 g ρ σ st r st' Q en s ev f
  unfold mE at h
  split at h
  · unfold eE at ev
    cases ev
    exact pew pe_non (f.here en.gi s (by show Rep _ _ _ _; rw [Rep]))
  · cases h
theorem sE_str {z : List Nat} {e : Expr} (h : mE c (.str z) e = true) : GE C (c.G.map (·.2)) X (.str z) e := by
  intro g0 g ρ σ st r st' Q en s ev f
  unfold mE at h
  split at h
  · rename_i x _ _
    unfold eE at ev
    cases ev
    obtain rfl := of_decide_eq_true h
    refine pew pe_str (f.here en.gi s ?_)
    show Rep _ _ _ _
    rw [Rep]
  · cases h
theorem sE_gl {i : Nat} {e : Expr} (xo : XOk c C n X) (h : mE c (.gl i) e = true) : GE C (c.G.map (·.2)) X (.gl i) e := by
  intro g0 g ρ σ st r st' Q en s ev f
  unfold mE at h
  split at h
  · rename_i x pos
    simp only [Bool.and_eq_true] at h
    obtain ⟨n1, n2, n3⟩ := nm_ok h.2.1
    unfold eE at ev
    obtain ⟨d, e1, e2⟩ := mapE ev
    cases e2
    rw [List.getElem?_map] at e1
    obtain ⟨p, e3, e4⟩ := mapE e1
    have h2 := h.2.2
    rw [e3] at h2
    obtain ⟨x', d'⟩ := p
    obtain rfl := eqS_ok h2
    cases e4
    obtain ⟨v, u, q1, q2, q3, _⟩ := xo.gls i _ _ e3
    exact pew (pe_glob (xo.gl h.1) q1 q2 n1) (f.here en.gi s (q3 g))
  · cases h

/-! ### operators -/
theorem sE_bin {o : BOp} {a b : ME} {e : Expr} (xo : XOk c C n X) (h : mE c (.bin o a b) e = true) (ia : ∀ e, mE c a e = true → GE C (c.G.map (·.2)) X a e) (ib : ∀ e, mE c b e = true → GE C (c.G.map (·.2)) X b e) : GE C (c.G.map (·.2)) X (.bin o a b) e := by
  intro g0 g ρ σ st r st' Q en s ev f
  unfold mE at h
  split at h
  · rename_i x op y pos
    simp only [Bool.and_eq_true] at h
    obtain rfl := of_decide_eq_true h.1
    unfold eE at ev
    obtain ⟨⟨r1, st1⟩, ea, ev⟩ := bindE ev
    obtain ⟨⟨r2, st2⟩, eb, ev⟩ := bindE ev
    obtain ⟨r3, eo, ev⟩ := mapE ev
    cases ev
    refine pew (pe_op wo_op we_pe we_pe) ?_
    refine ia x h.2.1 en s ea fun v1 g1 x1 gi1 s1 q1 => ?_
    refine ib y h.2.2 (en.step x1 gi1) s1 eb fun v2 g2 x2 gi2 s2 q2 => ?_
    exact sBin eo (x1.trans x2) gi2 s2 ((q1.rd gi1).ext gi1 x2) (q2.rd gi2) (f.step (x1.trans x2))
  · cases h
theorem sE_neg {a : ME} {e : Expr} (h : mE c (.neg a) e = true) (ia : ∀ e, mE c a e = true → GE C (c.G.map (·.2)) X a e) : GE C (c.G.map (·.2)) X (.neg a) e := by
  intro g0 g ρ σ st r st' Q en s ev f
  unfold mE at h
  split at h
  · rename_i x pos
    unfold eE at ev
    obtain ⟨⟨r1, st1⟩, ea, ev⟩ := bindE ev
    refine pew (pe_un un_neg we_pe) ?_
    refine ia x h en s ea fun v1 g1 x1 gi1 s1 q1 => ?_
    dsimp only at ev
    split at ev
    · cases ev
      have q1 : Rep _ _ _ _ := q1
      rw [Rep] at q1
      exact ⟨_, q1, (f.step x1).here gi1 s1 (rep_int _)⟩
    · cases ev
  · cases h
theorem cmp_core {o : COp} {a b : ME} {x y : Expr} {op : CmpOp} {pos : Pos} {g0 g : Gh} {ρ : Env} {σ : L2.St} {st : Cells} {r1 r2 : VR × Cells} {r : Bool} {Q : VK} (xo : XOk c C n X) (ho : op = copOf o) (iA : GE C (c.G.map (·.2)) X a x) (iB : GE C (c.G.map (·.2)) X b y)
    (en : EnvOk X.K g0 g ρ σ) (s : StOk X.K g st) (ea : eE C (c.G.map (·.2)) a ρ st = some r1) (eb : eE C (c.G.map (·.2)) b ρ r1.2 = some r2) (eo : dCmp o r1.1 r2.1 = some r)
    (q : ∀ g', Ext g g' → GI g' → StOk X.K g' r2.2 → Q (.bl r) g'.H) : WE X x σ g.H fun v1 H1 => WE X y σ H1 fun v2 H2 => WO X (compareOp op) v1 v2 H2 Q := by
  subst ho
  refine iA en s (r := r1.1) (st' := r1.2) ea fun v1 g1 x1 gi1 s1 q1 => ?_
  refine iB (en.step x1 gi1) s1 (r := r2.1) (st' := r2.2) eb fun v2 g2 x2 gi2 s2 q2 => ?_
  exact sCmp xo.units eo gi2 s2 ((q1.rd gi1).ext gi1 x2) (q2.rd gi2) (q g2 (x1.trans x2) gi2 s2)
theorem sE_cmp {o : COp} {a b : ME} {e : Expr} (xo : XOk c C n X) (h : mE c (.cmp o a b) e = true) (ia : ∀ e, mE c a e = true → GE C (c.G.map (·.2)) X a e) (ib : ∀ e, mE c b e = true → GE C (c.G.map (·.2)) X b e) : GE C (c.G.map (·.2)) X (.cmp o a b) e := by
  intro g0 g ρ σ st r st' Q en s ev f
  unfold mE at h
  split at h
  · rename_i x op y pos
    simp only [Bool.and_eq_true] at h
    unfold eE at ev
    obtain ⟨r1, ea, ev⟩ := bindE ev
    obtain ⟨r2, eb, ev⟩ := bindE ev
    obtain ⟨r3, eo, ev⟩ := mapE ev
    cases ev
    exact pew (pe_cmpR wo_op we_pe we_pe (setN h.2.1)) (cmp_core xo (pos := pos) (of_decide_eq_true h.1) (ia x h.2.2.1) (ib y h.2.2.2) en s ea eb eo fun g' x' gi' s' => f _ g' x' gi' s' (rep_bl _))
  · cases h
theorem sT_cmp {o : COp} {a b : ME} {e : Expr} (xo : XOk c C n X) (h : mTt c (.cmp o a b) e = true) (ia : ∀ e, mE c a e = true → GE C (c.G.map (·.2)) X a e) (ib : ∀ e, mE c b e = true → GE C (c.G.map (·.2)) X b e) : GT C (c.G.map (·.2)) X (.cmp o a b) e := by
  intro g0 g ρ σ st r st' Q en s ev f
  unfold mTt at h
  split at h
  · rename_i x op y pos
    simp only [Bool.and_eq_true] at h
    unfold eT at ev
    obtain ⟨r1, ea, ev⟩ := bindE ev
    obtain ⟨r2, eb, ev⟩ := bindE ev
    obtain ⟨r3, eo, ev⟩ := mapE ev
    cases ev
    exact ptw (pt_cmpR wo_op we_pe we_pe (setN h.2.1)) (cmp_core xo (pos := pos) (Q := fun x H' => ∃ k, x = .bl k ∧ Q k H') (of_decide_eq_true h.1) (ia x h.2.2.1) (ib y h.2.2.2) en s ea eb eo fun g' x' gi' s' => ⟨_, rfl, f g' x' gi' s'⟩)
  · cases h
theorem isN_core {k : Bool} {a : ME} {x : Expr} {g0 g : Gh} {ρ : Env} {σ : L2.St} {st : Cells} {r1 : VR × Cells} {Q : VK} (iA : GE C (c.G.map (·.2)) X a x)
    (en : EnvOk X.K g0 g ρ σ) (s : StOk X.K g st) (ea : eE C (c.G.map (·.2)) a ρ st = some r1) (q : ∀ g', Ext g g' → GI g' → StOk X.K g' r1.2 → ∀ b, (b = true ↔ r1.1 = .dat .non) → Q (.bl (if k then !b else b)) g'.H) :
    WE X x σ g.H fun v1 H1 => Q (.bl (if k then !decide (v1 = .non) else decide (v1 = .non))) H1 := by
  refine iA en s (r := r1.1) (st' := r1.2) ea fun v1 g1 x1 gi1 s1 q1 => ?_
  refine q g1 x1 gi1 s1 _ ?_
  obtain ⟨r1, st1⟩ := r1
  cases r1 with
  | dat d =>
    have q1 : Rep X.K g1 d v1 := q1
    cases d <;> rw [Rep] at q1 <;> first
      | (subst q1; simp; done)
      | (obtain ⟨_, _, rfl, _⟩ := q1; simp; done)
      | (obtain ⟨_, rfl, _⟩ := q1; simp; done)
  | bor ds => obtain ⟨_, _, rfl, _⟩ := q1; simp
  | new ds => obtain ⟨_, _, rfl, _⟩ := q1; simp
theorem sE_isN {k : Bool} {a : ME} {e : Expr} (h : mE c (.isN k a) e = true) (ia : ∀ e, mE c a e = true → GE C (c.G.map (·.2)) X a e) : GE C (c.G.map (·.2)) X (.isN k a) e := by
  intro g0 g ρ σ st r st' Q en s ev f
  unfold mE at h
  split at h
  · rename_i x op j pos' pos
    simp only [Bool.and_eq_true] at h
    unfold eE at ev
    obtain ⟨r1, ea, ev⟩ := bindE ev
    have h1 := of_decide_eq_true h.1
    have key := isN_core (k := k) (Q := Q) (ia x h.2) en s ea fun g' x' gi' s' b hb => by
      split at ev
      · rename_i e1
        cases ev
        rw [hb.mpr e1]
        have := f (.bl (!k)) g' x' gi' s' (rep_bl _)
        cases k <;> exact this
      · rename_i e1
        cases ev
        have hb' : b = false := by
          cases b with
          | false => rfl
          | true => exact absurd (hb.mp rfl) (e1 ·)
        rw [hb']
        have := f (.bl k) g' x' gi' s' (rep_bl _)
        cases k <;> exact this
    cases k with
    | false => subst h1; exact pew (pe_cmp (pc_isN we_pe)) key
    | true => subst h1; exact pew (pe_cmp (pc_notN we_pe)) key
  · cases h
theorem sT_isN {k : Bool} {a : ME} {e : Expr} (h : mTt c (.isN k a) e = true) (ia : ∀ e, mE c a e = true → GE C (c.G.map (·.2)) X a e) : GT C (c.G.map (·.2)) X (.isN k a) e := by
  intro g0 g ρ σ st r st' Q en s ev f
  unfold mTt at h
  split at h
  · rename_i x op j pos' pos
    simp only [Bool.and_eq_true] at h
    unfold eT at ev
    obtain ⟨r1, ea, ev⟩ := bindE ev
    have h1 := of_decide_eq_true h.1
    have key := isN_core (k := k) (Q := fun x H' => ∃ k, x = .bl k ∧ Q k H') (ia x h.2) en s ea fun g' x' gi' s' b hb => by
      split at ev
      · rename_i e1
        cases ev
        rw [hb.mpr e1]
        have := f g' x' gi' s'
        cases k <;> exact ⟨_, rfl, this⟩
      · rename_i e1
        cases ev
        have hb' : b = false := by
          cases b with
          | false => rfl
          | true => exact absurd (hb.mp rfl) (e1 ·)
        rw [hb']
        have := f g' x' gi' s'
        cases k <;> exact ⟨_, rfl, this⟩
    cases k with
    | false => subst h1; exact ptw (pt_cmp (pc_isN we_pe)) key
    | true => subst h1; exact ptw (pt_cmp (pc_notN we_pe)) key
  · cases h
theorem lastM {o' : COp} {op op' : CmpOp} {b d : Expr} (h : op' = copOf o') (hi : inB o' = false) : lastMarks [op, op'] [b, d] = false := by
  subst h
  show behindInMarks (copOf o') d = false
  cases o' <;> first | (cases hi; done) | exact nomark d
theorem ch_core {o o' : COp} {a b d : ME} {x y z : Expr} {op op' : CmpOp} {g0 g : Gh} {ρ : Env} {σ : L2.St} {st st' : Cells} {r1 r2 : VR × Cells} {r3 r : Bool} {Q : VK} (xo : XOk c C n X) (ho : op = copOf o) (ho' : op' = copOf o') (iA : GE C (c.G.map (·.2)) X a x) (iB : GE C (c.G.map (·.2)) X b y) (iD : GE C (c.G.map (·.2)) X d z)
    (en : EnvOk X.K g0 g ρ σ) (s : StOk X.K g st) (ea : eE C (c.G.map (·.2)) a ρ st = some r1) (eb : eE C (c.G.map (·.2)) b ρ r1.2 = some r2) (eo : dCmp o r1.1 r2.1 = some r3)
    (ed : (if r3 = true then (eE C (c.G.map (·.2)) d ρ r2.2).bind fun z => (dCmp o' r2.1 z.1).map fun r' => (r', z.2) else some (false, r2.2)) = some (r, st'))
    (q : ∀ g', Ext g g' → GI g' → StOk X.K g' st' → Q (.bl r) g'.H) : tChain (WO X (compareOp op)) (WO X (compareOp op')) (WE X x) (WE X y) (WE X z) σ g.H Q := by
  subst ho ho'
  refine iA en s (r := r1.1) (st' := r1.2) ea fun v1 g1 x1 gi1 s1 q1 => ?_
  refine iB (en.step x1 gi1) s1 (r := r2.1) (st' := r2.2) eb fun v2 g2 x2 gi2 s2 q2 => ?_
  refine sCmp xo.units eo gi2 s2 ((q1.rd gi1).ext gi1 x2) (q2.rd gi2) ⟨r3, rfl, ?_⟩
  cases r3 with
  | false =>
    rw [if_neg Bool.false_ne_true] at ed
    cases ed
    exact iteF (q g2 (x1.trans x2) gi2 s2)
  | true =>
    rw [if_pos rfl] at ed
    obtain ⟨r4, ed1, e2⟩ := bindE ed
    obtain ⟨r5, e3, e4⟩ := mapE e2
    cases e4
    refine iteT (iD ((en.step x1 gi1).step x2 gi2) s2 (r := r4.1) (st' := r4.2) ed1 fun v3 g3 x3 gi3 s3 q3 => ?_)
    exact sCmp xo.units e3 gi3 s3 ((q2.rd gi2).ext gi2 x3) (q3.rd gi3) (q g3 ((x1.trans x2).trans x3) gi3 s3)
theorem sE_ch {o o' : COp} {a b d : ME} {e : Expr} (xo : XOk c C n X) (h : mE c (.ch o o' a b d) e = true) (ia : ∀ e, mE c a e = true → GE C (c.G.map (·.2)) X a e) (ib : ∀ e, mE c b e = true → GE C (c.G.map (·.2)) X b e) (id_ : ∀ e, mE c d e = true → GE C (c.G.map (·.2)) X d e) :
    GE C (c.G.map (·.2)) X (.ch o o' a b d) e := by
  intro g0 g ρ σ st r st' Q en s ev f
  unfold mE at h
  split at h
  · rename_i x op op' y z pos
    simp only [Bool.and_eq_true] at h
    unfold eE at ev
    obtain ⟨r1, ea, ev⟩ := bindE ev
    obtain ⟨r2, eb, ev⟩ := bindE ev
    obtain ⟨r3, eo, ev⟩ := bindE ev
    have e2 : ∃ b, r = .dat (.bl b) ∧ (if r3 = true then (eE C (c.G.map (·.2)) d ρ r2.2).bind fun z => (dCmp o' r2.1 z.1).map fun r' => (r', z.2) else some (false, r2.2)) = some (b, st') := by
      split at ev
      · rename_i h3
        obtain ⟨r4, ed, ev⟩ := bindE ev
        obtain ⟨r5, e3, ev⟩ := mapE ev
        cases ev
        exact ⟨r5, rfl, by rw [if_pos h3, ed]; simp only [Option.bind_some,e3,Option.map_some]⟩
      · rename_i h3
        cases ev
        exact ⟨false, rfl, by rw [if_neg h3]⟩
    obtain ⟨b, rfl, e2⟩ := e2
    exact pew (pe_chain wo_op wo_op we_pe we_pe we_pe (lastM (of_decide_eq_true h.2.1) (by simpa using h.2.2.1))) (ch_core xo (of_decide_eq_true h.1) (of_decide_eq_true h.2.1) (ia x h.2.2.2.1) (ib y h.2.2.2.2.1) (id_ z h.2.2.2.2.2) en s ea eb eo e2 fun g' x' gi' s' => f _ g' x' gi' s' (rep_bl _))
  · cases h
theorem sT_ch {o o' : COp} {a b d : ME} {e : Expr} (xo : XOk c C n X) (h : mTt c (.ch o o' a b d) e = true) (ia : ∀ e, mE c a e = true → GE C (c.G.map (·.2)) X a e) (ib : ∀ e, mE c b e = true → GE C (c.G.map (·.2)) X b e) (id_ : ∀ e, mE c d e = true → GE C (c.G.map (·.2)) X d e) :
    GT C (c.G.map (·.2)) X (.ch o o' a b d) e := by
  intro g0 g ρ σ st r st' Q en s ev f
  unfold mTt at h
  split at h
  · rename_i x op op' y z pos
    simp only [Bool.and_eq_true] at h
    unfold eT at ev
    obtain ⟨r1, ea, ev⟩ := bindE ev
    obtain ⟨r2, eb, ev⟩ := bindE ev
    obtain ⟨r3, eo, ev⟩ := bindE ev
    exact ptw (pt_chain wo_op wo_op we_pe we_pe we_pe (lastM (of_decide_eq_true h.2.1) (by simpa using h.2.2.1))) (ch_core xo (Q := fun x H' => ∃ k, x = .bl k ∧ Q k H') (of_decide_eq_true h.1) (of_decide_eq_true h.2.1) (ia x h.2.2.2.1) (ib y h.2.2.2.2.1) (id_ z h.2.2.2.2.2) en s ea eb eo ev fun g' x' gi' s' => ⟨_, rfl, f g' x' gi' s'⟩)
  · cases h
end
end
end Sf
/-! SfSnd2: truth, calls, subscripts, displays, comprehensions. -/
namespace Sf
open PySem PySem.Spec PyProof.Rows L2

section
variable {C : CallT} {n : Nat} {c : MC} {X : Cx}

theorem sE_not {a : ME} {e : Expr} (h : mE c (.not a) e = true) (ia : ∀ e, mE c a e = true → GE C (c.G.map (·.2)) X a e) : GE C (c.G.map (·.2)) X (.not a) e := by
  intro g0 g ρ σ st r st' Q en s ev f
  unfold mE at h
  split at h
  · rename_i x pos
    unfold eE at ev
    obtain ⟨r1, ea, ev⟩ := bindE ev
    obtain ⟨b, et, ev⟩ := mapE ev
    cases ev
    refine pew (pe_notT we_pe) ?_
    refine ia x h en s (r := r1.1) (st' := r1.2) ea fun v1 g1 x1 gi1 s1 q1 => ?_
    exact ⟨b, sTru et (q1.rd gi1), (f.step x1).here gi1 s1 (rep_bl _)⟩
  · cases h
theorem sE_ite {d a b : ME} {e : Expr} (h : mE c (.ite d a b) e = true) (id_ : ∀ e, mTt c d e = true → GT C (c.G.map (·.2)) X d e) (ia : ∀ e, mE c a e = true → GE C (c.G.map (·.2)) X a e) (ib : ∀ e, mE c b e = true → GE C (c.G.map (·.2)) X b e) : GE C (c.G.map (·.2)) X (.ite d a b) e := by
  intro g0 g ρ σ st r st' Q en s ev f
  unfold mE at h
  split at h
  · rename_i t x y pos
    simp only [Bool.and_eq_true] at h
    unfold eE at ev
    obtain ⟨r1, ed, ev⟩ := bindE ev
    refine pew (pe_ifExp wt_pt we_pe we_pe) ?_
    refine id_ t h.1 en s (r := r1.1) (st' := r1.2) ed fun g1 x1 gi1 s1 => ?_
    split at ev
    · rename_i hb
      rw [hb]
      exact iteT (ia x h.2.1 (en.step x1 gi1) s1 ev ((f.step x1).base x1))
    · rename_i hb
      have hb' : r1.1 = false := by simpa using hb
      rw [hb']
      exact iteF (ib y h.2.2 (en.step x1 gi1) s1 ev ((f.step x1).base x1))
  · cases h

/-! ### and, or -/
abbrev GB (C : CallT) (G : List D) (X : Cx) (k : Bool) (m : MEs) (es : List Expr) : Prop := ∀ {pos : Pos} {g0 g : Gh} {ρ : Env} {σ : L2.St} {st : Cells} {r : VR} {st' : Cells} {Q : VK},
  EnvOk X.K g0 g ρ σ → StOk X.K g st → eBop C G k m ρ st = some (r, st') → Fin X.K g g st' r Q → WE X (.BoolOp (if k then .And else .Or) es pos) σ g.H Q
abbrev GTs (C : CallT) (G : List D) (X : Cx) (k : Bool) (m : MEs) (es : List Expr) : Prop := ∀ {pos : Pos} {g0 g : Gh} {ρ : Env} {σ : L2.St} {st : Cells} {r : Bool} {st' : Cells} {Q : Bool → Hp → Prop},
  EnvOk X.K g0 g ρ σ → StOk X.K g st → eTs C G k m ρ st = some (r, st') → (∀ g', Ext g g' → GI g' → StOk X.K g' st' → Q r g'.H) → WW X (.BoolOp (if k then .And else .Or) es pos) σ g.H Q
theorem sE_bop {k : Bool} {es : MEs} {e : Expr} (h : mE c (.bop k es) e = true) (ia : ∀ xs, mBs c k es xs = true → GB C (c.G.map (·.2)) X k es xs) : GE C (c.G.map (·.2)) X (.bop k es) e := by
  intro g0 g ρ σ st r st' Q en s ev f
  unfold mE at h
  split at h
  · rename_i op xs pos
    simp only [Bool.and_eq_true] at h
    obtain rfl := of_decide_eq_true h.1
    unfold eE at ev
    exact ia xs h.2 en s ev f
  · cases h
theorem sB_cons {k : Bool} {a : ME} {t : MEs} {es : List Expr} (h : mBs c k (.cons a t) es = true) (ia : ∀ e, mE c a e = true → GE C (c.G.map (·.2)) X a e) (it : ∀ xs, mBs c k t xs = true → GB C (c.G.map (·.2)) X k t xs) : GB C (c.G.map (·.2)) X k (.cons a t) es := by
  intro pos g0 g ρ σ st r st' Q en s ev f
  unfold mBs at h
  split at h
  · rename_i e
    simp only [Bool.and_eq_true] at h
    cases t with
    | cons _ _ => cases h.1
    | nil =>
      unfold eBop at ev
      obtain ⟨r1, ea, ev⟩ := bindE ev
      cases ev
      exact pew (pe_one we_pe) (ia e h.2 en s ea f)
  · rename_i e e' es
    simp only [Bool.and_eq_true] at h
    unfold eBop at ev
    obtain ⟨r1, ea, ev⟩ := bindE ev
    cases t with
    | nil => simp [mBs] at h
    | cons b t =>
      dsimp only at ev
      split at ev
      · rename_i cb hr
        have key : ∀ {R : V → Hp → Prop}, (∀ g1 : Gh, Ext g g1 → GI g1 → StOk X.K g1 r1.2 → R (.bl cb) g1.H) → WE X e σ g.H R := fun {R} q =>
          ia e h.1 en s (r := r1.1) (st' := r1.2) ea fun v1 g1 x1 gi1 s1 q1 => by
            rw [hr] at q1
            have q1 : Rep _ _ _ _ := q1
            rw [Rep] at q1
            rw [q1]
            exact q g1 x1 gi1 s1
        cases k with
        | true =>
          refine pew (pe_and we_pe we_pe) (key fun g1 x1 gi1 s1 => ⟨cb, rfl, ?_⟩)
          cases cb with
          | true =>
            rw [if_pos rfl] at ev
            exact iteT (it (e' :: es) h.2 (en.step x1 gi1) s1 ev ((f.step x1).base x1))
          | false =>
            rw [if_neg (by simp)] at ev
            cases ev
            exact iteF ((f.step x1).here gi1 s1 (rep_bl _))
        | false =>
          refine pew (pe_or we_pe we_pe) (key fun g1 x1 gi1 s1 => ⟨cb, rfl, ?_⟩)
          cases cb with
          | false =>
            rw [if_pos rfl] at ev
            exact iteF (it (e' :: es) h.2 (en.step x1 gi1) s1 ev ((f.step x1).base x1))
          | true =>
            rw [if_neg (by simp)] at ev
            cases ev
            exact iteT ((f.step x1).here gi1 s1 (rep_bl _))
      · cases ev
  · cases h
theorem sT_bop {k : Bool} {es : MEs} {e : Expr} (h : mTt c (.bop k es) e = true) (ia : ∀ xs, mTs c k es xs = true → GTs C (c.G.map (·.2)) X k es xs) : GT C (c.G.map (·.2)) X (.bop k es) e := by
  intro g0 g ρ σ st r st' Q en s ev f
  unfold mTt at h
  split at h
  · rename_i op xs pos
    simp only [Bool.and_eq_true] at h
    obtain rfl := of_decide_eq_true h.1
    unfold eT at ev
    exact ptw ww_pw.pt (ia xs h.2 en s ev f)
  · cases h
theorem sTs_cons {k : Bool} {a : ME} {t : MEs} {es : List Expr} (h : mTs c k (.cons a t) es = true) (ia : ∀ e, mTt c a e = true → GT C (c.G.map (·.2)) X a e) (it : ∀ xs, mTs c k t xs = true → GTs C (c.G.map (·.2)) X k t xs) : GTs C (c.G.map (·.2)) X k (.cons a t) es := by
  intro pos g0 g ρ σ st r st' Q en s ev f
  unfold mTs at h
  split at h
  · rename_i e
    simp only [Bool.and_eq_true] at h
    cases t with
    | cons _ _ => cases h.1
    | nil =>
      unfold eTs at ev
      obtain ⟨r1, ea, ev⟩ := bindE ev
      cases ev
      cases k with
      | true => exact pww (pw_and1 wt_pt) (ia e h.2 en s ea f)
      | false => exact pww (pw_or1 wt_pt) (ia e h.2 en s ea f)
  · rename_i e e' es
    simp only [Bool.and_eq_true] at h
    unfold eTs at ev
    obtain ⟨r1, ea, ev⟩ := bindE ev
    cases t with
    | nil => simp [mTs] at h
    | cons b t =>
      dsimp only at ev
      obtain ⟨cb, st1⟩ := r1
      have key : ∀ {R : Bool → Hp → Prop}, (∀ g1 : Gh, Ext g g1 → GI g1 → StOk X.K g1 st1 → R cb g1.H) → WT X e σ g.H R := fun {R} q => ia e h.1 en s ea q
      cases k with
      | true =>
        refine pww (pw_and wt_pt ww_pw) (key fun g1 x1 gi1 s1 => ?_)
        cases cb with
        | true =>
          rw [if_pos rfl] at ev
          exact iteT (it (e' :: es) h.2 (en.step x1 gi1) s1 ev fun g' x' gi' s' => f g' (x1.trans x') gi' s')
        | false =>
          rw [if_neg (by simp)] at ev
          cases ev
          exact iteF (f g1 x1 gi1 s1)
      | false =>
        refine pww (pw_or wt_pt ww_pw) (key fun g1 x1 gi1 s1 => ?_)
        cases cb with
        | false =>
          rw [if_pos rfl] at ev
          exact iteF (it (e' :: es) h.2 (en.step x1 gi1) s1 ev fun g' x' gi' s' => f g' (x1.trans x') gi' s')
        | true =>
          rw [if_neg (by simp)] at ev
          cases ev
          exact iteT (f g1 x1 gi1 s1)
  · cases h
theorem sT_not {a : ME} {e : Expr} (h : mTt c (.not a) e = true) (ia : ∀ e, mTt c a e = true → GT C (c.G.map (·.2)) X a e) : GT C (c.G.map (·.2)) X (.not a) e := by
  intro g0 g ρ σ st r st' Q en s ev f
  unfold mTt at h
  split at h
  · rename_i x pos
    unfold eT at ev
    obtain ⟨r1, ea, ev⟩ := mapE ev
    cases ev
    exact ptw (pt_not wt_pt) (ia x h en s (r := r1.1) (st' := r1.2) ea f)
  · cases h
theorem sT_tr {a : ME} {e : Expr} (h : mTt c (.tr a) e = true) (ia : ∀ e, mE c a e = true → GE C (c.G.map (·.2)) X a e) : GT C (c.G.map (·.2)) X (.tr a) e := by
  intro g0 g ρ σ st r st' Q en s ev f
  unfold mTt at h
  simp only [Bool.and_eq_true] at h
  unfold eT at ev
  obtain ⟨r1, ea, ev⟩ := bindE ev
  obtain ⟨tb, et, ev⟩ := mapE ev
  cases ev
  refine ptw (pt_truth we_pe fun w => truthN h.1 w) ?_
  refine ia e h.2 en s (r := r1.1) (st' := r1.2) ea fun v1 g1 x1 gi1 s1 q1 => ?_
  exact ⟨_, sTru et (q1.rd gi1), f g1 x1 gi1 s1⟩

/-! ### arguments -/
theorem sA_nil {es : List Expr} (h : mEs c .nil es = true) : GA C (c.G.map (·.2)) X .nil es := by
  intro g0 g ρ σ st r st' Q en s ev f
  unfold mEs at h
  cases es with
  | cons _ _ => cases h
  | nil =>
    unfold eEs at ev
    cases ev
    exact paw pa_nil (f [] g (.refl g) en.gi s .nil)
theorem sA_cons {a : ME} {t : MEs} {es : List Expr} (h : mEs c (.cons a t) es = true) (ia : ∀ e, mE c a e = true → GE C (c.G.map (·.2)) X a e) (it : ∀ xs, mEs c t xs = true → GA C (c.G.map (·.2)) X t xs) : GA C (c.G.map (·.2)) X (.cons a t) es := by
  intro g0 g ρ σ st r st' Q en s ev f
  unfold mEs at h
  split at h
  · rename_i e es
    simp only [Bool.and_eq_true] at h
    unfold eEs at ev
    obtain ⟨r1, ea, ev⟩ := bindE ev
    obtain ⟨d, ed, ev⟩ := bindE ev
    obtain ⟨r2, er, ev⟩ := mapE ev
    cases ev
    refine paw (pa_cons we_pe wa_pa (starN h.1)) ?_
    refine ia e h.2.1 en s (r := r1.1) (st' := r1.2) ea fun v1 g1 x1 gi1 s1 q1 => ?_
    obtain ⟨g2, eH, x2, gi2, s2, q2, l2⟩ := RepR.data x1 gi1 s1 q1 ed
    rw [← eH]
    refine it es h.2.2 (en.step x2 gi2) s2 (r := r2.1) (st' := r2.2) er fun vs g3 x3 gi3 s3 q3 => ?_
    exact f (v1 :: vs) g3 (x2.trans x3) gi3 s3 (.cons (Rep.le (x3.le gi2) _ _ q2) q3)
  · cases h
theorem sV_nil {es : List Expr} (h : mVs c .nil es = true) : GV C (c.G.map (·.2)) X .nil es := by
  intro g0 g ρ σ st r st' Q en s ev f
  unfold mVs at h
  cases es with
  | cons _ _ => cases h
  | nil =>
    unfold eVs at ev
    cases ev
    exact paw pa_nil (f [] g (.refl g) en.gi s rfl)
theorem sV_cons {a : ME} {t : MEs} {es : List Expr} (h : mVs c (.cons a t) es = true) (ia : ∀ e, mE c a e = true → GE C (c.G.map (·.2)) X a e) (it : ∀ xs, mVs c t xs = true → GV C (c.G.map (·.2)) X t xs) : GV C (c.G.map (·.2)) X (.cons a t) es := by
  intro g0 g ρ σ st r st' Q en s ev f
  unfold mVs at h
  split at h
  · rename_i e es
    simp only [Bool.and_eq_true] at h
    unfold eVs at ev
    obtain ⟨r1, ea, ev⟩ := bindE ev
    obtain ⟨r2, er, ev⟩ := mapE ev
    cases ev
    refine paw (pa_cons we_pe wa_pa (starN h.1)) ?_
    refine ia e h.2.1 en s (r := r1.1) (st' := r1.2) ea fun v1 g1 x1 gi1 s1 q1 => ?_
    refine it es h.2.2 (en.step x1 gi1) s1 (r := r2.1) (st' := r2.2) er fun vs g3 x3 gi3 s3 q3 => ?_
    exact f (v1 :: vs) g3 (x1.trans x3) gi3 s3 ⟨v1, vs, rfl, (q1.rd gi1).ext gi1 x3, q3⟩
  · cases h

/-! ### displays, calls -/
theorem sE_tup {es : MEs} {e : Expr} (h : mE c (.tup es) e = true) (ia : ∀ xs, mEs c es xs = true → GA C (c.G.map (·.2)) X es xs) : GE C (c.G.map (·.2)) X (.tup es) e := by
  intro g0 g ρ σ st r st' Q en s ev f
  unfold mE at h
  split at h
  · rename_i xs k pos
    unfold eE at ev
    obtain ⟨r1, ea, ev⟩ := bindE ev
    split at ev
    · rename_i hz
      cases ev
      refine pew (pe_tup wa_pa) ?_
      refine ia xs h en s (r := r1.1) (st' := r1.2) ea fun vs g1 x1 gi1 s1 q1 => ?_
      exact ⟨by rw [← q1.length, ← line_eq]; exact hz, (f.step x1).tup gi1 s1 q1⟩
    · cases ev
  · cases h
theorem sE_lst {es : MEs} {e : Expr} (h : mE c (.lst es) e = true) (ia : ∀ xs, mEs c es xs = true → GA C (c.G.map (·.2)) X es xs) : GE C (c.G.map (·.2)) X (.lst es) e := by
  intro g0 g ρ σ st r st' Q en s ev f
  unfold mE at h
  split at h
  · rename_i xs pos
    unfold eE at ev
    obtain ⟨r1, ea, ev⟩ := bindE ev
    split at ev
    · rename_i hz
      cases ev
      refine pew (pe_lst wa_pa) ?_
      refine ia xs h en s (r := r1.1) (st' := r1.2) ea fun vs g1 x1 gi1 s1 q1 => ?_
      exact ⟨by rw [← q1.length, ← line_eq]; exact hz, (f.step x1).new x1 gi1 s1 q1⟩
    · cases ev
  · cases h
/-- a new cell -/
theorem cell_new {K : PySem.W.Frag} {g : Gh} {st : Cells} {ds : List D} {vs : List V} {p : Addr} (gi : GI g) (s : StOk K g st) (r : Reps K g ds vs) (hp : g.H p = none) :
    Ext g ⟨g.m ++ [p], g.Z, upd g.H p (.lst vs)⟩ ∧ GI ⟨g.m ++ [p], g.Z, upd g.H p (.lst vs)⟩ ∧ StOk K ⟨g.m ++ [p], g.Z, upd g.H p (.lst vs)⟩ (st ++ [ds]) := by
  have nm : p ∉ g.m := fun hm => gi.ne hp hm rfl
  have x : Ext g ⟨g.m ++ [p], g.Z, upd g.H p (.lst vs)⟩ := by
    refine ⟨⟨[p], rfl, fun a ha => by rw [List.mem_singleton.mp ha]; exact hp⟩, fun a o e _ => ?_, fun a e => ?_, fun _ z => z, fun _ z => .inl z⟩
    · show upd g.H p _ a = _
      rw [upd_ne (ne_of_none e hp)]; exact e
    · show upd g.H p _ a ≠ _
      by_cases q : a = p
      · subst q; exact absurd hp e
      · rw [upd_ne q]; exact e
  refine ⟨x, ⟨?_, fun a ha => ?_, fun a z => x.there a (gi.zed a z)⟩, ?_, fun k a ds' e1 e2 => ?_⟩
  · show (g.m ++ [p]).Nodup
    rw [List.nodup_append]
    exact ⟨gi.nd, by simp, fun a ha b hb => by rw [List.mem_singleton.mp hb]; intro e; subst e; exact nm ha⟩
  · rcases List.mem_append.mp ha with ha | ha
    · obtain ⟨⟨ws, e⟩, z⟩ := gi.cell a ha
      exact ⟨⟨ws, by show upd g.H p _ a = _; rw [upd_ne (ne_of_none e hp)]; exact e⟩, z⟩
    · rw [List.mem_singleton.mp ha]
      exact ⟨⟨vs, upd_same⟩, fun z => gi.zed p z hp⟩
  · show (g.m ++ [p]).length = (st ++ [ds]).length
    rw [List.length_append, List.length_append, s.len]; rfl
  · have e1 : (g.m ++ [p])[k]? = some a := e1
    by_cases hk : k < g.m.length
    · rw [List.getElem?_append_left hk] at e1
      rw [List.getElem?_append_left (by rw [← s.len]; exact hk)] at e2
      obtain ⟨ws, q1, q2⟩ := s.at_ k a ds' e1 e2
      exact ⟨ws, (by show upd g.H p _ a = _; rw [upd_ne (ne_of_none q1 hp)]; exact q1), Reps.le (x.le gi) _ _ q2⟩
    · have hk' : g.m.length ≤ k := Nat.le_of_not_lt hk
      rw [List.getElem?_append_right hk'] at e1
      rw [List.getElem?_append_right (by rw [← s.len]; exact hk')] at e2
      have hk0 : k - g.m.length = 0 := by
        have := (List.getElem?_eq_some_iff.mp e1).1
        simp at this; omega
      rw [hk0] at e1
      rw [← s.len, hk0] at e2
      cases e1; cases e2
      exact ⟨vs, upd_same, Reps.le (x.le gi) _ _ r⟩
end
end Sf
/-! SfSnd3: subscripts, slices, calls, what is walked, comprehensions. -/
namespace Sf
open PySem PySem.Spec PyProof.Rows L2

section
variable {C : CallT} {n : Nat} {c : MC} {X : Cx}

theorem sE_cell {es : MEs} {e : Expr} (h : mE c (.cell es) e = true) (ia : ∀ xs, mEs c es xs = true → GA C (c.G.map (·.2)) X es xs) : GE C (c.G.map (·.2)) X (.cell es) e := by
  intro g0 g ρ σ st r st' Q en s ev f
  unfold mE at h
  split at h
  · rename_i xs pos
    unfold eE at ev
    obtain ⟨r1, ea, ev⟩ := bindE ev
    split at ev
    · rename_i hz
      cases ev
      refine pew (pe_lst wa_pa) ?_
      refine ia xs h en s (r := r1.1) (st' := r1.2) ea fun vs g1 x1 gi1 s1 q1 => ⟨by rw [← q1.length, ← line_eq]; exact hz, fun p hp => ?_⟩
      obtain ⟨x2, gi2, s2⟩ := cell_new gi1 s1 q1 hp
      refine f (.ref p) ⟨g1.m ++ [p], g1.Z, upd g1.H p (.lst vs)⟩ (x1.trans x2) gi2 s2 ?_
      show Rep _ _ _ _
      rw [Rep]
      exact ⟨p, rfl, by rw [← s1.len]; exact List.getElem?_concat_length⟩
    · cases ev
  · cases h
theorem sE_ix {a i : ME} {e : Expr} (h : mE c (.ix a i) e = true) (ia : ∀ e, mE c a e = true → GE C (c.G.map (·.2)) X a e) (ii : ∀ e, mE c i e = true → GE C (c.G.map (·.2)) X i e) : GE C (c.G.map (·.2)) X (.ix a i) e := by
  intro g0 g ρ σ st r st' Q en s ev f
  unfold mE at h
  split at h
  · rename_i x y pos
    simp only [Bool.and_eq_true] at h
    unfold eE at ev
    obtain ⟨r1, ea, ev⟩ := bindE ev
    obtain ⟨r2, eb, ev⟩ := bindE ev
    refine pew (pe_ix ix_seq we_pe we_pe (sliceN h.1)) ?_
    refine ia x h.2.1 en s (r := r1.1) (st' := r1.2) ea fun v1 g1 x1 gi1 s1 q1 => ?_
    refine ii y h.2.2 (en.step x1 gi1) s1 (r := r2.1) (st' := r2.2) eb fun v2 g2 x2 gi2 s2 q2 => ?_
    have d1 := (q1.rd gi1).ext gi1 x2
    split at ev
    · rename_i k hk
      rw [hk] at q2
      have q2 : Rep _ _ _ _ := q2
      rw [Rep] at q2
      subst q2
      have f2 := f.step (x1.trans x2)
      split at ev
      · rename_i p hp
        rw [hp] at d1
        cases d1 with
        | ptr hm =>
          obtain ⟨ds, e1, ev⟩ := bindE ev
          obtain ⟨d, e2, ev⟩ := mapE ev
          cases ev
          obtain ⟨vs, hl, rs⟩ := s2.at_ p _ ds hm e1
          obtain ⟨v, ha, hr⟩ := rs.getI e2
          exact .inl ⟨_, vs, k, v, rfl, rfl, .inl (.inl hl), ha, f2.here gi2 s2 hr⟩
      · rename_i sx hs
        rw [hs] at d1
        cases d1
        split at ev
        · rename_i hz
          obtain ⟨d, e2, ev⟩ := mapE ev
          cases ev
          rw [line_eq] at hz
          refine .inr (.inr ⟨_, k, d, rfl, rfl, by rw [str_len]; exact hz, ?_, f2.here gi2 s2 (rep_str [d])⟩)
          have : atI sx k = some d := e2
          simpa using this
        · cases ev
      · rename_i d0 hn1 hn2
        obtain ⟨ds, e1, ev⟩ := bindE ev
        obtain ⟨d, e2, ev⟩ := mapE ev
        cases ev
        obtain ⟨p, vs, rfl, hs, rs⟩ := d1.seq e1
        obtain ⟨v, ha, hr⟩ := rs.getI e2
        rcases hs with hs | hs
        · exact .inl ⟨p, vs, k, v, rfl, rfl, hs, ha, f2.here gi2 s2 hr⟩
        · exact .inr (.inl ⟨p, vs, k, v, rfl, rfl, hs, ha, f2.here gi2 s2 hr⟩)
    · cases ev
  · cases h

/-! ### slices -/
abbrev GO (C : CallT) (G : List D) (X : Cx) (m : MO) (e : Option Expr) (t : TO) : Prop := ∀ {g0 g : Gh} {ρ : Env} {σ : L2.St} {st : Cells} {r : Option Int} {st' : Cells} {Q : Option Int → Hp → Prop},
  EnvOk X.K g0 g ρ σ → StOk X.K g st → eO C G m ρ st = some (r, st') → (∀ g', Ext g g' → GI g' → StOk X.K g' st' → Q r g'.H) → t σ g.H Q
def toOf (X : Cx) : Option Expr → TO
  | none => tNoPart
  | some e => tPart (WE X e)
theorem po_of {e : Option Expr} : PO X e (toOf X e) := by
  cases e with
  | none => exact po_none
  | some e => exact po_some we_pe
theorem sO_none {e : Option Expr} (h : mO c .none e = true) : GO C (c.G.map (·.2)) X .none e (toOf X e) := by
  intro g0 g ρ σ st r st' Q en s ev f
  unfold mO at h
  cases e with
  | some _ => cases h
  | none =>
    unfold eO at ev
    cases ev
    exact f g (.refl g) en.gi s
theorem sO_some {a : ME} {e : Option Expr} (h : mO c (.some a) e = true) (ia : ∀ e, mE c a e = true → GE C (c.G.map (·.2)) X a e) : GO C (c.G.map (·.2)) X (.some a) e (toOf X e) := by
  intro g0 g ρ σ st r st' Q en s ev f
  unfold mO at h
  cases e with
  | none => cases h
  | some e =>
    unfold eO at ev
    obtain ⟨r1, ea, ev⟩ := bindE ev
    refine ia e h en s (r := r1.1) (st' := r1.2) ea fun v1 g1 x1 gi1 s1 q1 => ?_
    split at ev
    · rename_i i hi
      cases ev
      rw [hi] at q1
      have q1 : Rep _ _ _ _ := q1
      rw [Rep] at q1
      exact ⟨i, q1, f g1 x1 gi1 s1⟩
    · cases ev
theorem sE_sl {a : ME} {lo hi : MO} {e : Expr} (h : mE c (.sl a lo hi) e = true) (ia : ∀ e, mE c a e = true → GE C (c.G.map (·.2)) X a e) (il : ∀ e, mO c lo e = true → GO C (c.G.map (·.2)) X lo e (toOf X e)) (ih : ∀ e, mO c hi e = true → GO C (c.G.map (·.2)) X hi e (toOf X e)) : GE C (c.G.map (·.2)) X (.sl a lo hi) e := by
  intro g0 g ρ σ st r st' Q en s ev f
  unfold mE at h
  split at h
  · rename_i x l u p2 pos
    simp only [Bool.and_eq_true] at h
    unfold eE at ev
    obtain ⟨r1, ea, ev⟩ := bindE ev
    obtain ⟨r2, el, ev⟩ := bindE ev
    obtain ⟨r3, eh, ev⟩ := bindE ev
    refine pew (pe_slice (SlR.or sl_tupA (SlR.or sl_list sl_str)) we_pe po_of po_of) ?_
    refine ia x h.1 en s (r := r1.1) (st' := r1.2) ea fun v1 g1 x1 gi1 s1 q1 => ?_
    refine il l h.2.1 (en.step x1 gi1) s1 (r := r2.1) (st' := r2.2) el fun g2 x2 gi2 s2 => ?_
    refine ih u h.2.2 ((en.step x1 gi1).step x2 gi2) s2 (r := r3.1) (st' := r3.2) eh fun g3 x3 gi3 s3 => ?_
    have x13 := x1.trans (x2.trans x3)
    have d1 := (q1.rd gi1).ext gi1 (x2.trans x3)
    have f2 := f.step x13
    split at ev
    · rename_i ds hd
      cases ev
      rw [hd] at d1
      cases d1 with
      | tup hs rs =>
        refine .inl ⟨_, _, rfl, hs, fun hw => ?_, fun _ => f2.tup gi3 s3 (rs.cut _ _)⟩
        refine f2.here gi3 s3 ?_
        show Rep _ _ _ _
        rw [Rep]
        refine ⟨_, _, rfl, hs, ?_⟩
        have e : cut ds r2.1 r3.1 = ds := by
          unfold cut
          rw [slIx_eq, slIx_eq, rs.length, hw.1, hw.2, ← rs.length]
          simp
        rw [e]
        exact rs
    · rename_i ds hd
      cases ev
      rw [hd] at d1
      cases d1 with
      | lst hl nm rs => exact .inr (.inl ⟨_, _, rfl, .inl (.inl hl), f2.new x13 gi3 s3 (rs.cut _ _)⟩)
    · rename_i z hd
      split at ev
      · rename_i hz
        cases ev
        rw [hd] at d1
        cases d1
        rw [line_eq] at hz
        refine .inr (.inr ⟨_, rfl, by rw [str_len]; exact hz, ?_⟩)
        have e : cutS (⟨z.toArray⟩ : Str) r2.1 r3.1 = ⟨(cut z r2.1 r3.1).toArray⟩ := by
          unfold cut
          rw [slIx_eq, slIx_eq]
          show (⟨(((⟨z.toArray⟩ : Str).cps.toList.drop _).take _).toArray⟩ : Str) = _
          rw [str_len]
        rw [e]
        exact f2.here gi3 s3 (rep_str _)
      · cases ev
    · cases ev
  · cases h

/-! ### calls -/
theorem sE_call {i : Nat} {es : MEs} {e : Expr} (xo : XOk c C n X) (h : mE c (.call i es) e = true) (ia : ∀ xs, mEs c es xs = true → GA C (c.G.map (·.2)) X es xs) : GE C (c.G.map (·.2)) X (.call i es) e := by
  intro g0 g ρ σ st r st' Q en s ev f
  unfold mE at h
  split at h
  · rename_i x p y ys pos
    simp only [Bool.and_eq_true] at h
    obtain ⟨hg, hn, hf, hm⟩ := h
    split at hf
    · rename_i q hq
      obtain ⟨x', k⟩ := q
      obtain rfl := eqS_ok hf
      obtain ⟨n1, n2, n3⟩ := nm_ok hn
      obtain ⟨fa, fd, ps, m1, kp, bd, F⟩ := xo.fns i _ _ hq
      unfold eE at ev
      obtain ⟨r1, ea, ev⟩ := bindE ev
      obtain ⟨r2, ec, ev⟩ := mapE ev
      cases ev
      have st0 : noStar y = true := by
        cases es with
        | nil => simp [mEs] at hm
        | cons _ _ =>
          unfold mEs at hm
          simp only [Bool.and_eq_true] at hm
          exact hm.1
      refine pew (pe_call F xo.room (xo.gl hg) m1 kp bd .nil pass0 wa_pa n1 (starN st0) ?_) ?_
      · have := noStars hm pos X.env
        rw [starN st0] at this
        simpa [backTo] using this
      · refine ia _ hm en s (r := r1.1) (st' := r1.2) ea fun vs g1 x1 gi1 s1 q1 => ?_
        rw [List.append_nil]
        exact ⟨g1, r1.1, r1.2, r2, rfl, q1, gi1, s1, ec, fun v g' x' gi' s' q' => f v g' (x1.trans x') gi' s' q'⟩
    · cases hf
  · cases h
theorem sE_bi {b : BI} {es : MEs} {e : Expr} (xo : XOk c C n X) (h : mE c (.bi b es) e = true) (iv : ∀ xs, mVs c es xs = true → GV C (c.G.map (·.2)) X es xs) (ia : ∀ a t e, es = .cons a t → mE c a e = true → GE C (c.G.map (·.2)) X a e) : GE C (c.G.map (·.2)) X (.bi b es) e := by
  intro g0 g ρ σ st r st' Q en s ev f
  unfold mE at h
  split at h
  · rename_i x p y ys pos
    simp only [Bool.and_eq_true] at h
    obtain ⟨hg, hn, hb, hm⟩ := h
    obtain rfl := eqS_ok hb
    obtain ⟨n1, n2, n3⟩ := nm_ok hn
    have m0 := xo.blt _ (names_in b)
    unfold eE at ev
    obtain ⟨r1, ea, ev⟩ := bindE ev
    obtain ⟨r2, ed, ev⟩ := mapE ev
    cases ev
    split at hm
    · rename_i hc
      simp only [Bool.and_eq_true] at hm
      have hm := hm.2.2.2
      have st0 : noStar y = true := by
        cases es with
        | nil => simp [mVs] at hm
        | cons _ _ =>
          unfold mVs at hm
          simp only [Bool.and_eq_true] at hm
          exact hm.1
      refine pew (bi_call wc_call (xo.gl hg) m0 (boot_bi b) wa_pa n3 n1 (starN st0) ?_) ?_
      · have := noStarsV hm pos X.env
        rw [starN st0] at this
        simpa [backTo] using this
      · refine iv _ hm en s (r := r1.1) (st' := r1.2) ea fun vs g1 x1 gi1 s1 q1 => ?_
        have := sBi (X := X) xo.calm ed x1 gi1 s1 q1 (f.step x1)
        have e0 : biMore b = [] := by unfold biMore; rw [hc]
        rw [e0, List.append_nil] at this
        exact this
    · rename_i t hc
      split at hm
      · rename_i z pz
        simp only [Bool.and_eq_true] at hm
        obtain ⟨st0, hgz, hnz, hz, hv⟩ := hm
        obtain rfl := eqS_ok hz
        obtain ⟨z1, z2, z3⟩ := nm_ok hnz
        obtain ⟨c1, c2⟩ := cls_in hc
        cases es with
        | nil => simp [mVs] at hv
        | cons a t' =>
          unfold mVs at hv
          simp only [Bool.and_eq_true] at hv
          cases t' with
          | cons _ _ => simp [mVs] at hv
          | nil =>
            refine pew (bi_call wc_call (xo.gl hg) m0 (boot_bi b) (pa_cons we_pe (pa_cons (pe_bltn (xo.gl hgz) (xo.blt _ c1) (boot_ty _ c2) (v := .ty t) rfl z3 z1) pa_nil) (starN st0)) n3 n1 (starN st0) rfl) ?_
            unfold eVs at ea
            obtain ⟨r3, e3, ea⟩ := bindE ea
            obtain ⟨r4, e4, ea⟩ := mapE ea
            unfold eVs at e4
            cases e4
            cases ea
            refine ia a .nil y rfl hv.2.1 en s (r := r3.1) (st' := r3.2) e3 fun v1 g1 x1 gi1 s1 q1 => ?_
            have := sBi (X := X) xo.calm ed x1 gi1 s1 ⟨v1, [], rfl, q1.rd gi1, rfl⟩ (f.step x1)
            have e0 : biMore b = [.ty t] := by unfold biMore; rw [hc]
            rw [e0] at this
            exact this
      · cases hm
  · cases h

/-! ### the place of a thing -/
theorem findIdx_ok {K : PySem.W.Frag} {g : Gh} {x : D} {vx : V} (fx : x.flat = true) (ex : vx = flV x) : ∀ {ds : List D} {vs : List V} {j : Nat}, Reps K g ds vs → ds.all D.flat = true → findIdx x ds = some j →
    ∃ z, vs[j]? = some z ∧ eqV z vx = true ∧ ∀ (m : Nat) z', m < j → vs[m]? = some z' → eqV z' vx = false
  | [], vs, j, _, _, e => by simp [findIdx] at e
  | d :: ds, vs, j, r, fl, e => by
    rw [Reps] at r
    obtain ⟨v, w, rfl, r1, r2⟩ := r
    simp only [List.all_cons,Bool.and_eq_true] at fl
    obtain ⟨e1, _⟩ := r1.flat fl.1
    unfold findIdx at e
    split at e
    · rename_i hq
      cases e
      exact ⟨v, rfl, by rw [e1, ex, eqV_eqb fl.1 fx]; exact hq, fun m z' hm _ => absurd hm (Nat.not_lt_zero _)⟩
    · rename_i hq
      obtain ⟨j', e2, rfl⟩ := mapE e
      obtain ⟨z, h1, h2, h3⟩ := findIdx_ok fx ex r2 fl.2 e2
      refine ⟨z, by simpa using h1, h2, fun m z' hm hz => ?_⟩
      cases m with
      | zero =>
        have : v = z' := by simpa using hz
        subst this
        rw [e1, ex, eqV_eqb fl.1 fx]
        simpa using hq
      | succ m => exact h3 m z' (by omega) (by simpa using hz)
theorem sE_index {a x : ME} {e : Expr} (h : mE c (.index a x) e = true) (ia : ∀ e, mE c a e = true → GE C (c.G.map (·.2)) X a e) (ix : ∀ e, mE c x e = true → GE C (c.G.map (·.2)) X x e) : GE C (c.G.map (·.2)) X (.index a x) e := by
  intro g0 g ρ σ st r st' Q en s ev f
  unfold mE at h
  split at h
  · rename_i o at_ ap y cp
    simp only [Bool.and_eq_true] at h
    obtain ⟨h1, h2, h3, h4, h5, h6⟩ := h
    obtain rfl := eqS_ok h1
    have hl := of_decide_eq_true h2
    unfold eE at ev
    obtain ⟨r1, ea, ev⟩ := bindE ev
    obtain ⟨r2, eb, ev⟩ := bindE ev
    split at ev
    · rename_i ds hd
      split at ev
      · rename_i hf
        rw [Bool.and_eq_true] at hf
        obtain ⟨j, ej, ev⟩ := mapE ev
        cases ev
        refine pew (pe_bm PySem.F.plainAttrs_list PySem.F.slot_list_index PySem.F.type_list_index mt_index we_pe (pa_cons we_pe pa_nil (starN h4)) (callN_ h3) (by rw [starN h4]; rfl) (by rw [hl]; simp) (starN h4) rfl) ?_
        refine ia o h5 en s (r := r1.1) (st' := r1.2) ea fun v1 g1 x1 gi1 s1 q1 => ?_
        have d1 := q1.rd gi1
        rw [hd] at d1
        cases d1 with
        | lst hl1 nm rs =>
          refine ⟨.inl ⟨rfl, _, .inl (.inl hl1)⟩, ?_⟩
          refine ix y h6 (en.step x1 gi1) s1 (r := r2.1) (st' := r2.2) eb fun v2 g2 x2 gi2 s2 q2 => ?_
          obtain ⟨e2, f2⟩ := (q2.rd gi2).flat hf.1
          have rs2 := Reps.le (x2.le gi1) _ _ rs
          obtain ⟨z, k1, k2, k3⟩ := findIdx_ok hf.1 e2 rs2 hf.2 ej
          exact ⟨_, _, v2, j, z, rfl, rfl, .inl (.inl (x2.keep _ _ hl1 nm)), f2, (rs2.flat hf.2).1, k1, k2, k3, (f.step (x1.trans x2)).here gi2 s2 (rep_int _)⟩
      · cases ev
    · cases ev
  · cases h
theorem strs_of {K : PySem.W.Frag} {g : Gh} : ∀ {ds : List D} {vs : List V}, Reps K g ds vs → ds.all D.isStr = true → ∃ ys : List Str, vs = ys.map V.str ∧ ds.all D.flat = true
  | [], vs, r, _ => by rw [Reps] at r; subst r; exact ⟨[], rfl, rfl⟩
  | d :: ds, vs, r, f => by
    rw [Reps] at r
    obtain ⟨v, w, rfl, r1, r2⟩ := r
    simp only [List.all_cons,Bool.and_eq_true] at f
    obtain ⟨ys, e, fl⟩ := strs_of r2 f.2
    cases d <;> first | (simp [D.isStr] at f; done) | skip
    rw [Rep] at r1
    subst r1 e
    exact ⟨_ :: ys, rfl, by simp [D.flat, fl]⟩
theorem sE_gindex {i : Nat} {x : ME} {e : Expr} (xo : XOk c C n X) (h : mE c (.gindex i x) e = true) (ix : ∀ e, mE c x e = true → GE C (c.G.map (·.2)) X x e) : GE C (c.G.map (·.2)) X (.gindex i x) e := by
  intro g0 g ρ σ st r st' Q en s ev f
  unfold mE at h
  split at h
  · rename_i o po at_ ap y cp
    simp only [Bool.and_eq_true] at h
    obtain ⟨h1, h2, h4, h5, h6, h7, h8⟩ := h
    obtain rfl := eqS_ok h1
    have hl := of_decide_eq_true h2
    obtain ⟨n1, n2, n3⟩ := nm_ok h6
    split at h7
    · rename_i q hq
      obtain ⟨x', d'⟩ := q
      obtain rfl := eqS_ok h7
      obtain ⟨v, u, m1, m2, m3, m4⟩ := xo.gls i _ _ hq
      unfold eE at ev
      obtain ⟨r2, eb, ev⟩ := bindE ev
      rw [List.getElem?_map, hq] at ev
      dsimp only [Option.map_some] at ev
      split at ev
      · rename_i ds hds
        cases hds
        split at ev
        · rename_i hf
          rw [Bool.and_eq_true] at hf
          obtain ⟨j, ej, ev⟩ := mapE ev
          cases ev
          obtain ⟨a, ob, rfl, k1, k2, k3⟩ := m4 ds rfl
          refine pew (pe_bm PySem.F.plainAttrs_tuple PySem.F.slot_tuple_index PySem.F.type_tuple_index mt_tup_index (pe_glob (xo.gl h5) m1 m2 n1) (pa_cons we_pe pa_nil (starN h4)) rfl (by rw [starN h4]; rfl) (by rw [hl]; simp) (starN h4) rfl) ?_
          refine ⟨.inr (.inl ⟨rfl, ob, k1, k2, k3⟩), ?_⟩
          refine ix y h8 en s (r := r2.1) (st' := r2.2) eb fun v2 g2 x2 gi2 s2 q2 => ?_
          have d2 := q2.rd gi2
          have m3' := m3 g2
          rw [Rep] at m3'
          obtain ⟨a', vs, e0, hs, rs⟩ := m3'
          cases e0
          obtain ⟨ys, e1, fl⟩ := strs_of rs hf.2
          subst e1
          obtain ⟨sx, hr⟩ : ∃ sx, r2.1.read = .str sx := by
            have hf1 := hf.1
            cases hr : r2.1.read <;> rw [hr] at hf1 <;> first | exact ⟨_, rfl⟩ | (simp [D.isStr] at hf1)
          rw [hr] at d2 ej
          cases d2
          obtain ⟨z, b1, b2, b3⟩ := findIdx_ok (x := .str sx) rfl rfl rs fl ej
          rw [List.getElem?_map] at b1
          obtain ⟨zs, b4, b5⟩ := mapE b1
          subst b5
          have e3 : zs = ⟨sx.toArray⟩ := by simpa [eqV, flV] using b2
          refine ⟨a, ys, zs, j, rfl, by rw [e3], hs, b4, fun m hm hz => ?_, (f.step x2).here gi2 s2 (rep_int _)⟩
          have := b3 m (.str zs) hm (by rw [List.getElem?_map, hz]; rfl)
          rw [e3] at this
          simp [eqV, flV] at this
        · cases ev
      · cases ev
    · cases h7
  · cases h
end
end Sf
/-! SfSnd4: what is walked, comprehensions; all expressions. -/
namespace Sf
open PySem PySem.Spec PyProof.Rows L2

section
variable {C : CallT} {n : Nat} {c : MC} {X : Cx}

theorem sI_seq {a : ME} {t e : Expr} (h : mI c (.seq a) t e = true) (ia : ∀ e, mE c a e = true → GE C (c.G.map (·.2)) X a e) : GI_ C (c.G.map (·.2)) X (.seq a) t e := by
  intro g0 g ρ σ st bor r st' R en s ev f
  unfold mI at h
  unfold eI at ev
  obtain ⟨r1, ea, ev⟩ := bindE ev
  obtain ⟨xs, ew, ev⟩ := mapE ev
  cases ev
  have key : WE X e σ g.H fun v H1 => ∃ a, v = .ref a ∧ ((∃ vs, SqK (kindR r1.1) X.K H1 a vs) ∧ R (if kindR r1.1 = true then Itl X.K a else Itt X.K a) H1) := by
    refine ia e h en s (r := r1.1) (st' := r1.2) ea fun v1 g1 x1 gi1 s1 q1 => ?_
    obtain ⟨g2, eH, x2, l2, gi2, s2, p, vs, rfl, hs, hst, rs⟩ := stands_of x1 gi1 s1 q1 ew
    rw [← eH]
    refine ⟨p, rfl, ⟨vs, hs⟩, f _ g2 x2 gi2 s2 ?_⟩
    cases hk : kindR r1.1 with
    | true => rw [hk] at hst; exact iter_seqL hst rs
    | false => rw [hk] at hst; exact iter_seqT hst rs
  cases hk : kindR r1.1 with
  | true => rw [hk] at key; exact piw (pi_list we_pe) key
  | false => rw [hk] at key; exact piw (pi_tup we_pe) key
theorem sI_rng1 {a : ME} {t e : Expr} (xo : XOk c C n X) (h : mI c (.rng1 a) t e = true) (ia : ∀ e, mE c a e = true → GE C (c.G.map (·.2)) X a e) : GI_ C (c.G.map (·.2)) X (.rng1 a) t e := by
  intro g0 g ρ σ st bor r st' R en s ev f
  unfold mI at h
  split at h
  · rename_i x p y pos
    simp only [Bool.and_eq_true] at h
    obtain rfl := eqS_ok h.2.1
    unfold eI at ev
    obtain ⟨r1, ea, ev⟩ := bindE ev
    split at ev
    · rename_i i hi
      split at ev
      · rename_i hb
        cases ev
        refine piw (pi_range1 (xo.gl h.1) (xo.blt _ rangeN) (pa_cons we_pe pa_nil (starN h.2.2.1)) (by rw [starN h.2.2.1]; rfl)) ?_
        refine ia y h.2.2.2 en s (r := r1.1) (st' := r1.2) ea fun v1 g1 x1 gi1 s1 q1 => ?_
        rw [hi] at q1
        have q1 : Rep _ _ _ _ := q1
        rw [Rep] at q1
        subst q1
        exact ⟨i, rfl, hb.1, hb.2, f _ g1 x1 gi1 s1 iter_rng⟩
      · cases ev
    · cases ev
  · cases h
theorem sI_rng2 {a b : ME} {t e : Expr} (xo : XOk c C n X) (h : mI c (.rng2 a b) t e = true) (ia : ∀ e, mE c a e = true → GE C (c.G.map (·.2)) X a e) (ib : ∀ e, mE c b e = true → GE C (c.G.map (·.2)) X b e) : GI_ C (c.G.map (·.2)) X (.rng2 a b) t e := by
  intro g0 g ρ σ st bor r st' R en s ev f
  unfold mI at h
  split at h
  · rename_i x p y z pos
    simp only [Bool.and_eq_true] at h
    obtain rfl := eqS_ok h.2.1
    unfold eI at ev
    obtain ⟨r1, ea, ev⟩ := bindE ev
    obtain ⟨r2, eb, ev⟩ := bindE ev
    split at ev
    · rename_i i j hi hj
      split at ev
      · rename_i hb
        cases ev
        refine piw (pi_range2 (xo.gl h.1) (xo.blt _ rangeN) (pa_cons we_pe (pa_cons we_pe pa_nil (starN h.2.2.2.1)) (starN h.2.2.1)) (by rw [starN h.2.2.1, starN h.2.2.2.1]; rfl) (by rw [starN h.2.2.2.1]; rfl)) ?_
        refine ia y h.2.2.2.2.1 en s (r := r1.1) (st' := r1.2) ea fun v1 g1 x1 gi1 s1 q1 => ?_
        refine ib z h.2.2.2.2.2 (en.step x1 gi1) s1 (r := r2.1) (st' := r2.2) eb fun v2 g2 x2 gi2 s2 q2 => ?_
        rw [hi] at q1; rw [hj] at q2
        have q1 : Rep _ _ _ _ := q1
        have q2 : Rep _ _ _ _ := q2
        rw [Rep] at q1 q2
        subst q1 q2
        exact ⟨i, j, rfl, ⟨hb.1.1, hb.1.2, hb.2.1, hb.2.2⟩, f _ g2 (x1.trans x2) gi2 s2 iter_rng⟩
      · cases ev
    · cases ev
  · cases h
theorem sI_enum {a : ME} {t e : Expr} (xo : XOk c C n X) (h : mI c (.enum a) t e = true) (ia : ∀ e, mE c a e = true → GE C (c.G.map (·.2)) X a e) : GI_ C (c.G.map (·.2)) X (.enum a) t e := by
  intro g0 g ρ σ st bor r st' R en s ev f
  unfold mI at h
  split at h
  · rename_i es k tpos x p y pos
    simp only [Bool.and_eq_true] at h
    obtain rfl := eqS_ok h.2.1
    unfold eI at ev
    obtain ⟨r1, ea, ev⟩ := bindE ev
    obtain ⟨xs, ew, ev⟩ := mapE ev
    cases ev
    refine piw (pi_enumA (xo.gl h.1) (xo.blt "enumerate" (by decide)) (pa_cons we_pe pa_nil (starN h.2.2.1)) (by rw [starN h.2.2.1]; rfl)) ?_
    refine ia y h.2.2.2 en s (r := r1.1) (st' := r1.2) ea fun v1 g1 x1 gi1 s1 q1 => ?_
    obtain ⟨g2, eH, x2, l2, gi2, s2, p, vs, rfl, hs, hst, rs⟩ := stands_of x1 gi1 s1 q1 ew
    rw [← eH]
    have it := f _ g2 x2 gi2 s2 (iter_enum hst rs)
    refine ⟨p, vs, rfl, ?_⟩
    cases hk : kindR r1.1 with
    | true => rw [hk] at hs it; exact .inl ⟨hs, it⟩
    | false => rw [hk] at hs it; exact .inr ⟨hs, it⟩
  · cases h
theorem rl_ext {bor : Bool} {g1 g2 : Gh} (gi : GI g1) (x : Ext g1 g2) : RlOf bor g1 g2 := by
  cases bor with
  | true => exact x
  | false => exact x.le gi
theorem sI_zip {a b : ME} {t e : Expr} (xo : XOk c C n X) (h : mI c (.zip a b) t e = true) (ia : ∀ e, mE c a e = true → GE C (c.G.map (·.2)) X a e) (ib : ∀ e, mE c b e = true → GE C (c.G.map (·.2)) X b e) : GI_ C (c.G.map (·.2)) X (.zip a b) t e := by
  intro g0 g ρ σ st bor r st' R en s ev f
  unfold mI at h
  split at h
  · rename_i es k tpos x p y z pos
    simp only [Bool.and_eq_true] at h
    obtain rfl := eqS_ok h.2.1
    unfold eI at ev
    obtain ⟨r1, ea, ev⟩ := bindE ev
    obtain ⟨r2, eb, ev⟩ := bindE ev
    obtain ⟨xs, ew, ev⟩ := bindE ev
    obtain ⟨ys, ew2, ev⟩ := mapE ev
    cases ev
    refine piw (pi_zipK (xo.gl h.1) (xo.blt "zip" (by decide)) (pa_cons we_pe (pa_cons we_pe pa_nil (starN h.2.2.2.1)) (starN h.2.2.1)) (starN h.2.2.1) (by rw [starN h.2.2.2.1]; rfl)) ?_
    refine ia y h.2.2.2.2.1 en s (r := r1.1) (st' := r1.2) ea fun v1 g1 x1 gi1 s1 q1 => ?_
    obtain ⟨g2, eH, x2, l2, gi2, s2, pa, vs, rfl, hs, hst, rs⟩ := stands_of x1 gi1 s1 q1 ew
    rw [← eH]
    refine ib z h.2.2.2.2.2 (en.step x2 gi2) s2 (r := r2.1) (st' := r2.2) eb fun v2 g3 x3 gi3 s3 q3 => ?_
    obtain ⟨g4, eH4, x4, l4, gi4, s4, pb, ws, rfl, hs4, hst4, rs4⟩ := stands_of x3 gi3 s3 q3 ew2
    rw [← eH4]
    have st1 : Stands (RlOf bor) (kindR r1.1) X.K g4 pa vs xs := hst.le gi2 x4
    refine ⟨pa, pb, vs, ws, kindR r1.1, kindR r2.1, rfl, hst.sq g4 (rl_ext gi2 x4), hs4, f _ g4 (x2.trans x4) gi4 s4 (iter_zip st1 hst4 (Reps.le (x4.le gi2) _ _ rs) rs4)⟩
  · cases h
theorem sI_rev {a : ME} {t e : Expr} (xo : XOk c C n X) (h : mI c (.rev a) t e = true) (ia : ∀ e, mE c a e = true → GE C (c.G.map (·.2)) X a e) : GI_ C (c.G.map (·.2)) X (.rev a) t e := by
  intro g0 g ρ σ st bor r st' R en s ev f
  unfold mI at h
  split at h
  · rename_i x p y pos
    simp only [Bool.and_eq_true] at h
    obtain rfl := eqS_ok h.2.1
    unfold eI at ev
    obtain ⟨r1, ea, ev⟩ := bindE ev
    have e2 : ∃ xs, walked bor r1.1 = some xs ∧ kindR r1.1 = true ∧ (xs.reverse, r1.2) = (r, st') := by
      obtain ⟨r1, st1⟩ := r1
      cases r1 with
      | bor ds =>
        obtain ⟨xs, ew, ev⟩ := mapE ev
        cases ev
        exact ⟨xs, ew, rfl, rfl⟩
      | new ds =>
        obtain ⟨xs, ew, ev⟩ := mapE ev
        cases ev
        exact ⟨xs, ew, rfl, rfl⟩
      | dat d => cases d <;> first | (cases ev; done) | (cases ev; exact ⟨_, rfl, rfl, rfl⟩)
    obtain ⟨xs, ew, hk, ev⟩ := e2
    cases ev
    refine piw (RT.pi_revA (xo.gl h.1) (xo.blt "reversed" (by decide)) we_pe (starN h.2.2.1)) ?_
    refine ia y h.2.2.2 en s (r := r1.1) (st' := r1.2) ea fun v1 g1 x1 gi1 s1 q1 => ?_
    obtain ⟨g2, eH, x2, l2, gi2, s2, p, vs, rfl, hs, hst, rs⟩ := stands_of x1 gi1 s1 q1 ew
    rw [← eH]
    rw [hk] at hs hst
    exact ⟨p, vs, rfl, .inl ⟨hs, f _ g2 x2 gi2 s2 (iter_rev hst rs)⟩⟩
  · cases h

/-! ### comprehensions -/
theorem XOk.blk (xo : XOk c C n X) (scope : Scope) (s : Shared) (H : Hp) (A : Addr) (cl : List (Str × Addr)) (fp : List Addr) : XOk (c.blk scope) C n (X.blk s H scope (compEnvC scope cl A X.env) fp) where
  N := xo.N
  nd := xo.nd
  sc := by
    show relS scope X.env.scope = relS scope c.sc
    rw [xo.sc]
  fn := fun x h => h
  calm := xo.calm
  room := xo.room
  fns := xo.fns
  gls := xo.gls
  blt := xo.blt
/-- what is wanted of the element, the tests: in each block -/
def teOf (X : Cx) (scope : Scope) (e : Expr) : TE := fun σ H Q => ∀ s H0 A cl fp, WE (X.blk s H0 scope (compEnvC scope cl A X.env) fp) e σ H Q
def ttOf (X : Cx) (scope : Scope) : List Expr → TT
  | [e] => fun σ H Q => ∀ s H0 A cl fp, WT (X.blk s H0 scope (compEnvC scope cl A X.env) fp) e σ H Q
  | _ => tYes
theorem te_pe {scope : Scope} {e : Expr} (s : Shared) (H : Hp) (A : Addr) (cl : List (Str × Addr)) (fp : List Addr) : PE (X.blk s H scope (compEnvC scope cl A X.env) fp) e (teOf X scope e) := ⟨fun pins s' σ H' Q I h => h s H A cl fp pins s' I⟩
theorem lc_ok {own : List (Str × Nat)} {tg : MT} {it : MI} {d : MO} {elt : ME} {t iter e : Expr} {ifs : List Expr} {scope : Scope} {pos : Pos} (xo : XOk c C n X) (hb : blkC c.N c.sc scope own = true) (hset : noSet iter = true) (ht : mTg (c.blk scope) (some (own.map (·.2))) tg t = true)
    (hd : (d = .none ∧ ifs = []) ∨ ∃ a x, d = .some a ∧ ifs = [x])
    (iI : GI_ C (c.G.map (·.2)) X it t iter)
    (iD : ∀ s H A cl fp, ∀ a x, d = .some a → ifs = [x] → GT C (c.G.map (·.2)) (X.blk s H scope (compEnvC scope cl A X.env) fp) a x)
    (iE : ∀ s H A cl fp, GE C (c.G.map (·.2)) (X.blk s H scope (compEnvC scope cl A X.env) fp) elt e)
    {g0 g : Gh} {ρ : Env} {σ : L2.St} {st st' : Cells} {r : VR} {Q : VK} (en : EnvOk X.K g0 g ρ σ) (s : StOk X.K g st) (ev : eE C (c.G.map (·.2)) (.lc own tg it d elt) ρ st = some (r, st')) (f : Fin X.K g g st' r Q) :
    tLc (WI X t iter) (tgOf X.K tg) (ttOf X scope ifs) (teOf X scope e) (own.map (·.2)) σ g.H Q := by
  unfold eE at ev
  obtain ⟨⟨items, st1⟩, ei, ev⟩ := bindE ev
  obtain ⟨⟨out, st2⟩, el, ev⟩ := bindE ev
  dsimp only at ev el
  split at ev
  · rename_i hz
    cases ev
    unfold tLc
    refine iI en s ei fun J g1 x1 gi1 s1 iok => ?_
    intro Dd hD
    obtain ⟨Gd, Y, wk, hG, hY⟩ := iok.ok
    -- the list of what is made so far
    refine lc_it wk (Pv := fun i H => i ≤ items.length ∧ ∃ (g' : Gh) (acc : List D) (vs : List V) (rest : List D) (st3 : Cells), g'.H = H ∧ Ext g1 g' ∧ GI g' ∧ StOk X.K g' st3 ∧ H Dd = some (.lst vs) ∧ Dd ∉ g'.m ∧ ¬ g'.Z Dd ∧ Reps X.K g' acc vs ∧ acc.length ≤ i ∧ acc ++ rest = out ∧
      lcL (own.map (·.2)) tg (fun ρ' st' => eC C (c.G.map (·.2)) d ρ' st') (fun ρ' st' => (eE C (c.G.map (·.2)) elt ρ' st').bind fun q => q.1.data.map fun d => (d, q.2)) ρ (items.drop i) st3 = some (rest, st')) ?_ ?_ ?_ ?_
    · -- the start
      refine ⟨Nat.zero_le _, { g1 with H := upd g1.H Dd (.lst []) }, [], [], out, st1, rfl, .laid hD, gi1.laid hD, s1.laid gi1 hD, upd_same, fun hm => gi1.ne hD hm rfl, fun z => gi1.zed Dd z hD, .nil, Nat.le_refl _, rfl, ?_⟩
      rw [List.drop_zero]
      exact el
    · -- it stands
      rintro i H hi ⟨_, g', acc, vs, rest, st3, rfl, x', _⟩
      exact hG g' (rl_ext' gi1 x')
    · -- a turn
      rintro i x H H' hi ⟨_, g', acc, vs, rest, st3, rfl, x', gi', s', hDl, hDm, hDz, rs, hacc, hout, hl⟩ hy
      obtain ⟨dx, g2, e1, rfl, x2, gi2, s2, rx⟩ := hY i g' x H' st3 (rl_ext' gi1 x') gi' s' hi hy
      have hdrop : items.drop i = dx :: items.drop (i + 1) := by
        rw [List.drop_eq_getElem_cons hi]
        congr 1
        rw [List.getElem?_eq_getElem hi] at e1
        exact Option.some.inj e1
      rw [hdrop] at hl
      unfold lcL at hl
      obtain ⟨ρ1, hb1, hl⟩ := bindE hl
      obtain ⟨⟨tb, st4⟩, hc4, hl⟩ := bindE hl
      dsimp only at hl
      have x12 := x'.trans x2
      have en2 : EnvOk X.K g0 g2 (ρ.wipe (own.map (·.2))) (L2.wipe σ (own.map (·.2))) := (((en.step x1 gi1).step x12 gi2).wipe _)
      have own_in : ∀ i ∈ slotsT tg, i ∈ own.map (·.2) := (mTg_own tg).1 t ht
      refine tgT tg t ht rx hb1 en2 fun σ1 en1 tk => ⟨?_, ?_⟩
      · rw [tk.same _ own_in, wipe_wipe _ _ fun _ h => h]
      · -- the test
        have test : ∀ {R : Bool → Hp → Prop}, (∀ g3, Ext g2 g3 → GI g3 → StOk X.K g3 st4 → R tb g3.H) → ttOf X scope ifs σ1 g2.H R := fun {R} q => by
          rcases hd with ⟨rfl, rfl⟩ | ⟨a, x0, rfl, rfl⟩
          · unfold eC at hc4
            cases hc4
            exact q g2 (.refl g2) gi2 s2
          · unfold eC at hc4
            intro s0 H0 A cl fp
            exact iD s0 H0 A cl fp a x0 rfl rfl en1 s2 hc4 fun g3 x3 gi3 s3 => q g3 x3 gi3 s3
        refine test fun g3 x3 gi3 s3 => ?_
        have x13 := x12.trans x3
        have hD3 : g3.H Dd = some (.lst vs) := (x2.trans x3).keep _ _ hDl hDm
        have hDm3 : Dd ∉ g3.m := (x2.trans x3).notm (by rw [hDl]; simp) hDm
        have hDz3 : ¬ g3.Z Dd := fun z => ((x2.trans x3).Z' Dd z).elim hDz fun q => by rw [hDl] at q; cases q
        cases tb with
        | false =>
          rw [if_neg Bool.false_ne_true] at hl
          refine iteF ⟨hi, g3, acc, vs, rest, st4, rfl, x13, gi3, s3, hD3, hDm3, hDz3, Reps.le ((x2.trans x3).le gi') _ _ rs, by omega, hout, hl⟩
        | true =>
          rw [if_pos rfl] at hl
          obtain ⟨⟨y, st5⟩, hy5, hl⟩ := bindE hl
          obtain ⟨⟨rest2, st6⟩, hr6, hl⟩ := mapE hl
          cases hl
          obtain ⟨⟨ry, st7⟩, hy7, hy5⟩ := bindE hy5
          obtain ⟨yd, hyd, hy5⟩ := mapE hy5
          cases hy5
          refine iteT fun s0 H0 A cl fp => ?_
          refine iE s0 H0 A cl fp (en1.step x3 gi3) s3 hy7 fun vy g4 x4 gi4 s4 q4 => ?_
          obtain ⟨g5, eH5, x5, gi5, s5, q5, l5⟩ := RepR.data x4 gi4 s4 q4 hyd
          have hD5 : g5.H Dd = some (.lst vs) := x5.keep _ _ hD3 hDm3
          have hDm5 : Dd ∉ g5.m := x5.notm (by rw [hD3]; simp) hDm3
          have hDz5 : ¬ g5.Z Dd := fun z => (x5.Z' Dd z).elim hDz3 fun q => by rw [hD3] at q; cases q
          have rs5 := Reps.le (x5.le gi3) _ _ (Reps.le ((x2.trans x3).le gi') _ _ rs)
          rw [← eH5]
          refine ⟨vs, hD5, ?_, hi, { g5 with H := upd g5.H Dd (.lst (vs ++ [vy])) }, acc ++ [y], vs ++ [vy], rest2, st7, rfl, ?_, ?_, ?_, upd_same, hDm5, hDz5, ?_, ?_, ?_, hr6⟩
          · rw [← rs.length, ← line_eq]
            omega
          · refine (x13.trans x5).own hD
          · exact gi5.own hDm5
          · exact s5.own gi5 hDm5 hD5 hDz5
          · exact Reps.le (RepLe.own hD5 hDz5) _ _ (rs5.append (.cons q5 .nil))
          · simp; omega
          · rw [← hout]; simp
    · -- the end
      rintro H ⟨_, g', acc, vs, rest, st3, rfl, x', gi', s', hDl, hDm, hDz, rs, hacc, hout, hl⟩
      rw [List.drop_length] at hl
      unfold lcL at hl
      cases hl
      rw [List.append_nil] at hout
      subst hout
      refine f (.ref Dd) g' (x1.trans x') gi' s' ⟨Dd, vs, rfl, hDl, hDm, hDz, ?_, rs⟩
      exact x1.fresh hD
  · cases ev
where
  rl_ext' {g1 g2 : Gh} (gi : GI g1) (x : Ext g1 g2) : RlOf true g1 g2 := x
end
end Sf
/-! SfSet: sorted(set(t)), list(range(n)), tuple(range(n)), str(n). -/
namespace Sf
open PySem PySem.Spec PyProof.Rows L2

def rSetTI (K : PySem.W.Frag) (w : World) : List V → Hp → VK → Prop := fun vs H Q => ∃ (a : Addr) (ns : List Int), vs = [V.ref a] ∧ SqT K H a (ns.map V.int) ∧ ns.length ≤ 1000 ∧ ∀ (p : Addr) (n : Nat), H p = none → n ≤ ns.length → Q (.ref p) (upd H p (SetO w p (fun j => decide (j ∈ ns)) n))
theorem cr_setTI {X : Cx} (hc : X.calm = true) : CallR X (.type "set") (rSetTI X.K X.w) := by
  intro pins s σ H vs us Q I r h
  obtain ⟨a, ns, rfl, hq, hl, q⟩ := h
  obtain ⟨its, rv, pt, hz⟩ := I.tuple hq
  rw [Vals.ref1 r]
  have hi : IntsAre its.toArray.toList ns := ints_of_vals rv
  refine call_set_tupI ns (I.ok.hd hc) (show s.heap.IsTuple a its.toArray from pt) hi (by unfold scanBound; omega) fun h' tk c R1 hcn k => ?_
  exact ⟨.ref s.heap.objs.size, upd H s.heap.objs.size (SetO X.w s.heap.objs.size (fun j => decide (j ∈ ns)) c), I.laid (t' := tk) k (Nat.le_refl _) (setO_new R1), rfl, q _ _ (I.hok.fresh (Nat.le_refl _)) hcn⟩
/-! ### ascending, each once -/
theorem insertSet_mem {i k : Int} : ∀ {l : List Int}, k ∈ insertSet i l ↔ k = i ∨ k ∈ l
  | [] => by simp [insertSet]
  | j :: r => by
    unfold insertSet
    split
    · simp
    · split
      · rename_i h; subst h; simp
      · rw [List.mem_cons, insertSet_mem, List.mem_cons]
        constructor
        · rintro (h | h | h)
          · exact .inr (.inl h)
          · exact .inl h
          · exact .inr (.inr h)
        · rintro (h | h | h)
          · exact .inr (.inl h)
          · exact .inl h
          · exact .inr (.inr h)
theorem insertSet_asc {i : Int} : ∀ {l : List Int}, l.Pairwise (· < ·) → (insertSet i l).Pairwise (· < ·)
  | [], _ => by simp [insertSet]
  | j :: r, h => by
    have h1 := (List.pairwise_cons.mp h).1
    have h2 := (List.pairwise_cons.mp h).2
    unfold insertSet
    split
    · rename_i hij
      exact List.pairwise_cons.mpr ⟨fun x hx => by
        rcases List.mem_cons.mp hx with e | hx
        · rw [e]; exact hij
        · have := h1 x hx; omega, h⟩
    · split
      · exact h
      · exact List.pairwise_cons.mpr ⟨fun x hx => by
          rcases insertSet_mem.mp hx with e | hx
          · rw [e]; omega
          · exact h1 x hx, insertSet_asc h2⟩
theorem sortSet_go : ∀ (is acc : List Int), acc.Pairwise (· < ·) → (is.foldl (fun acc i => insertSet i acc) acc).Pairwise (· < ·) ∧ ∀ k, k ∈ is.foldl (fun acc i => insertSet i acc) acc ↔ k ∈ is ∨ k ∈ acc
  | [], acc, h => ⟨h, fun k => by simp⟩
  | i :: is, acc, h => by
    obtain ⟨h1, h2⟩ := sortSet_go is (insertSet i acc) (insertSet_asc h)
    refine ⟨h1, fun k => ?_⟩
    rw [List.foldl_cons, h2, insertSet_mem, List.mem_cons]
    constructor
    · rintro (h | h | h)
      · exact .inl (.inr h)
      · exact .inl (.inl h)
      · exact .inr h
    · rintro ((h | h) | h)
      · exact .inr (.inl h)
      · exact .inl h
      · exact .inr (.inr h)
theorem sortSet_asc (is : List Int) : (sortSet is).Pairwise (· < ·) := (sortSet_go is [] .nil).1
theorem sortSet_mem (is : List Int) (k : Int) : k ∈ sortSet is ↔ k ∈ is := by
  have := (sortSet_go is [] .nil).2 k
  simpa [sortSet] using this
theorem asc_eq : ∀ {a b : List Int}, a.Pairwise (· < ·) → b.Pairwise (· < ·) → (∀ k, k ∈ a ↔ k ∈ b) → a = b
  | [], [], _, _, _ => rfl
  | [], y :: b, _, _, h => absurd ((h y).mpr List.mem_cons_self) List.not_mem_nil
  | x :: a, [], _, _, h => absurd ((h x).mp List.mem_cons_self) List.not_mem_nil
  | x :: a, y :: b, ha, hb, h => by
    have a1 := (List.pairwise_cons.mp ha).1
    have b1 := (List.pairwise_cons.mp hb).1
    have e : x = y := by
      rcases List.mem_cons.mp ((h x).mp List.mem_cons_self) with e | hx
      · exact e
      · rcases List.mem_cons.mp ((h y).mpr List.mem_cons_self) with e | hy
        · exact e.symm
        · have := b1 x hx
          have := a1 y hy
          omega
    subst e
    congr 1
    refine asc_eq (List.pairwise_cons.mp ha).2 (List.pairwise_cons.mp hb).2 fun k => ⟨fun hk => ?_, fun hk => ?_⟩
    · rcases List.mem_cons.mp ((h k).mp (List.mem_cons_of_mem _ hk)) with e | q
      · have := a1 k hk; omega
      · exact q
    · rcases List.mem_cons.mp ((h k).mpr (List.mem_cons_of_mem _ hk)) with e | q
      · have := b1 k hk; omega
      · exact q
theorem intsOf_eq : ∀ {ds : List D} {is : List Int}, intsOf ds = some is → ds = is.map .int
  | [], is, h => by cases h; rfl
  | d :: ds, is, h => by
    cases d <;> first | (cases h; done) | skip
    rename_i i
    unfold intsOf at h
    obtain ⟨r, h1, h2⟩ := mapE h
    subst h2
    rw [intsOf_eq h1]; rfl
theorem reps_ints {K : PySem.W.Frag} {g : Gh} : ∀ {is : List Int} {vs : List V}, Reps K g (is.map D.int) vs → vs = is.map V.int
  | [], vs, h => by rw [List.map_nil, Reps] at h; exact h
  | i :: is, vs, h => by
    rw [List.map_cons, Reps] at h
    obtain ⟨v, w, rfl, h1, h2⟩ := h
    rw [Rep] at h1
    rw [h1, reps_ints h2]; rfl
theorem ints_reps {K : PySem.W.Frag} {g : Gh} : ∀ is : List Int, Reps K g (is.map D.int) (is.map V.int)
  | [] => .nil
  | i :: is => .cons (by rw [Rep]) (ints_reps is)
theorem rng_ints (n : Nat) : rngD 0 n = ((List.range n).map fun (k : Nat) => (k : Int)).map D.int := by
  unfold rngD
  rw [List.map_map]
  refine List.map_congr_left fun k _ => ?_
  simp
section
variable {C : CallT} {n : Nat} {c : MC} {X : Cx}
theorem sE_sset {a : ME} {e : Expr} (xo : XOk c C n X) (h : mE c (.sset a) e = true) (ia : ∀ e, mE c a e = true → GE C (c.G.map (·.2)) X a e) : GE C (c.G.map (·.2)) X (.sset a) e := by
  intro g0 g ρ σ st r st' Q en s ev f
  unfold mE at h
  split at h
  · rename_i x p y p2 e pos2 pos
    simp only [Bool.and_eq_true] at h
    obtain ⟨h1, h2, h3, h4, h5, h6⟩ := h
    obtain rfl := eqS_ok h2
    obtain rfl := eqS_ok h4
    unfold eE at ev
    obtain ⟨⟨r1, st1⟩, ea, ev⟩ := bindE ev
    dsimp only at ev
    split at ev
    · rename_i ds
      obtain ⟨is, hi, ev⟩ := bindE ev
      split at ev
      · rename_i h64
        cases ev
        refine pew (pe_callB (cr_sortedSet xo.calm) (xo.gl h1) (xo.blt "sorted" (by decide)) (by decide +kernel) (pa_cons (pe_callTy (cr_setTI xo.calm) (xo.gl h3) (xo.blt "set" (by decide)) (by decide +kernel) (pa_cons we_pe pa_nil (starN h5)) (by decide) (by decide) (starN h5) rfl) pa_nil rfl) (by decide) (by decide) rfl rfl) ?_
        refine ia e h6 en s ea fun v1 g1 x1 gi1 s1 q1 => ?_
        have q1 : Rep _ _ _ _ := q1
        rw [Rep] at q1
        obtain ⟨A, vs, rfl, hq, rs⟩ := q1
        have eds := intsOf_eq hi
        subst eds
        have evs := reps_ints rs
        subst evs
        refine ⟨A, is, rfl, hq, by omega, fun pS c0 hS hc0 => ?_⟩
        refine ⟨pS, _, c0, rfl, upd_same, by omega, fun ns' pL hasc hmem hlen hL => ?_⟩
        have e1 : ns' = sortSet is := asc_eq hasc (sortSet_asc is) fun k => by rw [hmem k, sortSet_mem]; simp
        subst e1
        have y1 : Ext g1 { g1 with H := upd g1.H pS (SetO X.w pS (fun j => decide (j ∈ is)) c0) } := .laid hS
        have gy1 : GI { g1 with H := upd g1.H pS (SetO X.w pS (fun j => decide (j ∈ is)) c0) } := gi1.laid hS
        have sy1 := s1.laid gi1 hS (o := SetO X.w pS (fun j => decide (j ∈ is)) c0)
        have y2 := Ext.laid (g := { g1 with H := upd g1.H pS (SetO X.w pS (fun j => decide (j ∈ is)) c0) }) (o := .lst ((sortSet is).map V.int)) hL
        exact f _ _ ((x1.trans y1).trans y2) (gy1.laid hL) (sy1.laid gy1 hL) ⟨pL, _, rfl, upd_same, fun hm => gy1.ne hL hm rfl, fun z => gy1.zed pL z hL, (x1.trans y1).fresh hL, ints_reps _⟩
      · cases ev
    · cases ev
  · cases h
theorem sE_rgL {a : ME} {e : Expr} (xo : XOk c C n X) (h : mE c (.rgL a) e = true) (ia : ∀ e, mE c a e = true → GE C (c.G.map (·.2)) X a e) : GE C (c.G.map (·.2)) X (.rgL a) e := by
  intro g0 g ρ σ st r st' Q en s ev f
  unfold mE at h
  split at h
  · rename_i x p y p2 e pos2 pos
    simp only [Bool.and_eq_true] at h
    obtain ⟨h1, h2, h3, h4, h5, h6⟩ := h
    obtain rfl := eqS_ok h2
    obtain rfl := eqS_ok h4
    unfold eE at ev
    obtain ⟨⟨r1, st1⟩, ea, ev⟩ := bindE ev
    dsimp only at ev
    split at ev
    · rename_i i
      split at ev
      · rename_i hb
        cases ev
        refine pew (pe_listRg xo.calm (xo.gl h1) (xo.blt "list" (by decide)) (prg_1 (xo.gl h3) (xo.blt "range" (by decide)) we_pe (starN h5)) rfl) ?_
        refine ia e h6 en s ea fun v1 g1 x1 gi1 s1 q1 => ?_
        have q1 : Rep _ _ _ _ := q1
        rw [Rep] at q1
        subst q1
        refine ⟨i, rfl, RgOk.of_le (by omega) (by omega) (by omega) (by omega), fun q hq => ?_⟩
        have er : rgV 0 i = ((List.range i.toNat).map fun (k : Nat) => (k : Int)).map V.int := by
          unfold rgV
          simp
        rw [er, rng_ints] at *
        exact f _ _ (x1.trans (.laid hq)) (gi1.laid hq) (s1.laid gi1 hq) ⟨q, _, rfl, upd_same, fun hm => gi1.ne hq hm rfl, fun z => gi1.zed q z hq, x1.fresh hq, ints_reps _⟩
      · cases ev
    · cases ev
  · cases h
theorem sE_rgT {a : ME} {e : Expr} (xo : XOk c C n X) (h : mE c (.rgT a) e = true) (ia : ∀ e, mE c a e = true → GE C (c.G.map (·.2)) X a e) : GE C (c.G.map (·.2)) X (.rgT a) e := by
  intro g0 g ρ σ st r st' Q en s ev f
  unfold mE at h
  split at h
  · rename_i x p y p2 e pos2 pos
    simp only [Bool.and_eq_true] at h
    obtain ⟨h1, h2, h3, h4, h5, h6⟩ := h
    obtain rfl := eqS_ok h2
    obtain rfl := eqS_ok h4
    unfold eE at ev
    obtain ⟨⟨r1, st1⟩, ea, ev⟩ := bindE ev
    dsimp only at ev
    split at ev
    · rename_i i
      split at ev
      · rename_i hb
        cases ev
        refine pew (pe_tupRg xo.calm (xo.gl h1) (xo.blt "tuple" (by decide)) (prg_1 (xo.gl h3) (xo.blt "range" (by decide)) we_pe (starN h5)) rfl) ?_
        refine ia e h6 en s ea fun v1 g1 x1 gi1 s1 q1 => ?_
        have q1 : Rep _ _ _ _ := q1
        rw [Rep] at q1
        subst q1
        refine ⟨i, rfl, RgOk.of_le (by omega) (by omega) (by omega) (by omega), fun q hq => ?_⟩
        have er : rgV 0 i = ((List.range i.toNat).map fun (k : Nat) => (k : Int)).map V.int := by
          unfold rgV
          simp
        rw [er, rng_ints] at *
        exact f _ _ (x1.trans (.laid hq)) (gi1.laid hq) (s1.laid gi1 hq) (by
          show Rep _ _ _ _
          rw [Rep]
          exact ⟨q, _, rfl, .inl (.inl upd_same), ints_reps _⟩)
      · cases ev
    · cases ev
  · cases h
theorem sE_strI {a : ME} {e : Expr} (xo : XOk c C n X) (h : mE c (.strI a) e = true) (ia : ∀ e, mE c a e = true → GE C (c.G.map (·.2)) X a e) : GE C (c.G.map (·.2)) X (.strI a) e := by
  intro g0 g ρ σ st r st' Q en s ev f
  unfold mE at h
  split at h
  · rename_i x p e pos
    simp only [Bool.and_eq_true] at h
    obtain ⟨h1, h2, h3, h4⟩ := h
    obtain rfl := eqS_ok h2
    unfold eE at ev
    obtain ⟨⟨r1, st1⟩, ea, ev⟩ := bindE ev
    dsimp only at ev
    split at ev
    · rename_i i
      split at ev
      · rename_i hb
        cases ev
        refine pew (pe_callTy call_str_int (xo.gl h1) (xo.blt "str" (by decide)) (by decide +kernel) (pa_cons we_pe pa_nil (starN h3)) (by decide) (by decide) (starN h3) rfl) ?_
        refine ia e h4 en s ea fun v1 g1 x1 gi1 s1 q1 => ?_
        have q1 : Rep _ _ _ _ := q1
        rw [Rep] at q1
        subst q1
        refine ⟨i, rfl, hb, f _ g1 x1 gi1 s1 ?_⟩
        show Rep _ _ _ _
        rw [Rep]
      · cases ev
    · cases ev
  · cases h
end
end Sf
/-! SfSnd5: all expressions. -/
namespace Sf
open PySem PySem.Spec PyProof.Rows L2

section
variable {C : CallT} {n : Nat} {c : MC} {X : Cx}
theorem sE_lc {own : List (Str × Nat)} {tg : MT} {it : MI} {d : MO} {elt : ME} {e : Expr} (xo : XOk c C n X) (h : mE c (.lc own tg it d elt) e = true)
    (iI : ∀ t e, mI c it t e = true → GI_ C (c.G.map (·.2)) X it t e)
    (iD : ∀ {c : MC} {X : Cx}, XOk c C n X → ∀ es, mC c d es = true → ∀ a x, d = .some a → es = [x] → GT C (c.G.map (·.2)) X a x)
    (iE : ∀ {c : MC} {X : Cx}, XOk c C n X → ∀ e, mE c elt e = true → GE C (c.G.map (·.2)) X elt e) : GE C (c.G.map (·.2)) X (.lc own tg it d elt) e := by
  intro g0 g ρ σ st r st' Q en s ev f
  unfold mE at h
  split at h
  · rename_i ee t iter ifs scope pos
    simp only [Bool.and_eq_true] at h
    obtain ⟨h1, h2, h3, h4, h5, h6⟩ := h
    have ifs_ok : (d = .none ∧ ifs = []) ∨ ∃ a x, d = .some a ∧ ifs = [x] := by
      cases d with
      | none =>
        unfold mC at h5
        exact .inl ⟨rfl, List.isEmpty_iff.mp h5⟩
      | some a =>
        unfold mC at h5
        split at h5
        · exact .inr ⟨a, _, rfl, rfl⟩
        · cases h5
    have pts : ∀ (s : Shared) (H : Hp) (A : Addr) (cl : List (Str × Addr)) (fp : List Addr), PTs (X.blk s H scope (compEnvC scope cl A X.env) fp) ifs (ttOf X scope ifs) := fun s H A cl fp => by
      rcases ifs_ok with ⟨_, e2⟩ | ⟨a, x, _, e2⟩
      · subst e2; exact pts_nil
      · subst e2
        exact pts_one ⟨fun pins s' σ H' Q I h => h s H A cl fp pins s' I⟩
    refine pew (pe_lc (g := tgOf X.K tg) xo.calm (by rw [xo.N]; exact xo.nd) wi_pi (blkOk_by (by rw [xo.N, xo.sc]; exact h1)) (fun s H A cl fp => sG (xo.blk scope s H A cl fp) tg t h3) pts (fun s H A cl fp => te_pe s H A cl fp) (foldN h2)) ?_
    exact lc_ok (pos := pos) xo h1 h2 h3 ifs_ok (iI t iter h4) (fun s H A cl fp a x e1 e2 => iD (xo.blk scope s H A cl fp) ifs h5 a x e1 e2) (fun s H A cl fp => iE (xo.blk scope s H A cl fp) ee h6) en s ev f
  · cases h
end

/-! ### two clauses -/
theorem tyes_if {σ : L2.St} {H : Hp} {A B : Hp → Prop} (h : A H) : tYes σ H fun b H1 => if b = true then A H1 else B H1 := by
  show if true = true then A H else B H
  rw [if_pos rfl]; exact h
theorem walk_W {J : It} {n : Nat} {G : Hp → Prop} {Y : Nat → Hp → V → Hp → Prop} (w : Walk J n G Y) {Hs : Hp} {Step : V → Hp → (Hp → Prop) → Prop} {Qd : Hp → Prop} (Pv : Nat → Hp → Prop) (h0 : Pv 0 Hs) (hG : ∀ i H, i ≤ n → Pv i H → G H)
    (hs : ∀ i x H H', i < n → Pv i H → Y i H x H' → Step x H' (Pv (i + 1))) (hd : ∀ H, Pv n H → Qd H) :
    ∃ W : Nat → Nat → Hp → Prop, (∃ m, W 0 m Hs) ∧ ∀ i m H, W i m H →
      (J.stop i H ∧ Qd H) ∨ (J.go i H ∧ ∃ Nx : Hp → Prop, (∀ H', Nx H' → ∃ m', m' < m ∧ W (i + 1) m' H') ∧ ∀ x H', J.yld i H x H' → Step x H' Nx) := by
  refine ⟨fun i m H => m = n - i ∧ i ≤ n ∧ Pv i H, ⟨n, by simp, Nat.zero_le _, h0⟩, ?_⟩
  rintro i m H ⟨rfl, hi, p⟩
  have q := hG i H hi p
  by_cases hlt : i < n
  · exact .inr ⟨w.goes i H hlt q, Pv (i + 1), fun H' p' => ⟨n - (i + 1), by omega, rfl, hlt, p'⟩, fun x H' y => hs i x H H' hlt p (w.yields i H x H' hlt q y)⟩
  · have e : i = n := by omega
    subst e
    exact .inl ⟨w.stops H q, hd H p⟩
def iiOf (X : Cx) (scope : Scope) (t e : Expr) : TI := fun σ H R => ∀ s H0 A cl fp, WI (X.blk s H0 scope (compEnvC scope cl A X.env) fp) t e σ H R
theorem ii_pi {X : Cx} {scope : Scope} {t e : Expr} (s : Shared) (H : Hp) (A : Addr) (cl : List (Str × Addr)) (fp : List Addr) : PI (X.blk s H scope (compEnvC scope cl A X.env) fp) t e (iiOf X scope t e) := ⟨fun pins s' σ H' R I h => h s H A cl fp pins s' I⟩
section
variable {C : CallT} {n : Nat} {c : MC} {X : Cx}
theorem drop_one {items : List D} {i : Nat} {dx : D} (hi : i < items.length) (e1 : items[i]? = some dx) : items.drop i = dx :: items.drop (i + 1) := by
  rw [List.drop_eq_getElem_cons hi]
  congr 1
  rw [List.getElem?_eq_getElem hi] at e1
  exact Option.some.inj e1
theorem lc2_ok {own : List (Str × Nat)} {vs1 : List Nat} {tg tg1 : MT} {it it1 : MI} {elt : ME} {t iter t1 iter1 e : Expr} {scope : Scope} (xo : XOk c C n X) (ht : mTg (c.blk scope) (some (own.map (·.2))) tg t = true) (ht1 : mTg (c.blk scope) (some vs1) tg1 t1 = true)
    (iI : GI_ C (c.G.map (·.2)) X it t iter) (iJ : ∀ s H A cl fp, GI_ C (c.G.map (·.2)) (X.blk s H scope (compEnvC scope cl A X.env) fp) it1 t1 iter1) (iE : ∀ s H A cl fp, GE C (c.G.map (·.2)) (X.blk s H scope (compEnvC scope cl A X.env) fp) elt e)
    {g0 g : Gh} {ρ : Env} {σ : L2.St} {st st' : Cells} {r : VR} {Q : VK} (en : EnvOk X.K g0 g ρ σ) (s : StOk X.K g st) (ev : eE C (c.G.map (·.2)) (.lc2 own vs1 tg it tg1 it1 elt) ρ st = some (r, st')) (f : Fin X.K g g st' r Q) :
    tLc2 (WI X t iter) (tgOf X.K tg) tYes (iiOf X scope t1 iter1) (tgOf X.K tg1) tYes (teOf X scope e) (own.map (·.2)) vs1 σ g.H Q := by
  unfold eE at ev
  obtain ⟨⟨items, st1⟩, ei, ev⟩ := bindE ev
  obtain ⟨⟨out, st2⟩, el, ev⟩ := bindE ev
  dsimp only at ev el
  split at ev
  · rename_i hz
    cases ev
    unfold tLc2
    refine iI en s ei fun J g1 x1 gi1 s1 iok => ?_
    intro Dd hD
    obtain ⟨Gd, Y, wk, hG, hY⟩ := iok.ok
    have nown : ∀ (j : Nat) dj, ρ[j]? = some (.own dj) → σ[j]? ≠ some (some (.ref Dd)) := fun j dj e q => by
      obtain ⟨a, vs, e1, e2, _⟩ := en.own j dj e
      rw [e1] at q
      cases q
      exact x1.there _ (by rw [e2]; simp) hD
    refine walk_W wk (Pv := fun i H => i ≤ items.length ∧ ∃ (g' : Gh) (acc : List D) (vs : List V) (rest : List D) (st3 : Cells), g'.H = H ∧ Ext g1 g' ∧ GI g' ∧ StOk X.K g' st3 ∧ H Dd = some (.lst vs) ∧ Dd ∉ g'.m ∧ ¬ g'.Z Dd ∧ Reps X.K g' acc vs ∧ acc ++ rest = out ∧
      lc2L (own.map (·.2)) tg (fun ρ1 st1 => (eI C (c.G.map (·.2)) false it1 ρ1 st1).bind fun r1 => lcL vs1 tg1 (fun _ st' => some (true, st')) (fun ρ' st' => (eE C (c.G.map (·.2)) elt ρ' st').bind fun q => q.1.data.map fun d => (d, q.2)) ρ1 r1.1 r1.2) ρ (items.drop i) st3 = some (rest, st')) ?_ ?_ ?_ ?_
    · refine ⟨Nat.zero_le _, { g1 with H := upd g1.H Dd (.lst []) }, [], [], out, st1, rfl, .laid hD, gi1.laid hD, s1.laid gi1 hD, upd_same, fun hm => gi1.ne hD hm rfl, fun z => gi1.zed Dd z hD, .nil, rfl, ?_⟩
      rw [List.drop_zero]
      exact el
    · rintro i H hi ⟨_, g', acc, vs, rest, st3, rfl, x', _⟩
      exact hG g' x'
    · rintro i x H H' hi ⟨_, g', acc, vs, rest, st3, rfl, x', gi', s', hDl, hDm, hDz, rs, hout, hl⟩ hy
      obtain ⟨dx, g2, e1, rfl, x2, gi2, s2, rx⟩ := hY i g' x H' st3 x' gi' s' hi hy
      rw [drop_one hi e1] at hl
      unfold lc2L at hl
      obtain ⟨ρ1, hb1, hl⟩ := bindE hl
      obtain ⟨⟨ys, stI⟩, hin, hl⟩ := bindE hl
      obtain ⟨⟨rest2, st6⟩, hr6, hl⟩ := mapE hl
      cases hl
      obtain ⟨⟨items1, st4⟩, ei1, el1⟩ := bindE hin
      dsimp only at el1 hr6
      have x12 := x'.trans x2
      have en2 : EnvOk X.K g0 g2 (ρ.wipe (own.map (·.2))) (L2.wipe σ (own.map (·.2))) := (((en.step x1 gi1).step x12 gi2).wipe _)
      have own_in : ∀ i ∈ slotsT tg, i ∈ own.map (·.2) := (mTg_own tg).1 t ht
      have own_in1 : ∀ i ∈ slotsT tg1, i ∈ vs1 := (mTg_own tg1).1 t1 ht1
      refine tgT tg t ht rx hb1 en2 fun σ1 en1 tk => ⟨?_, ?_⟩
      · rw [tk.same _ own_in, wipe_wipe _ _ fun _ h => h]
      · have nown1 : ∀ (j : Nat) dj, (ρ1.wipe vs1)[j]? = some (.own dj) → (L2.wipe σ1 vs1)[j]? ≠ some (some (.ref Dd)) := fun j dj e q => by
          obtain ⟨a1, a2⟩ := wipe_own vs1 (σ := σ1) e
          obtain ⟨a3, a4⟩ := tk.own j dj a1
          obtain ⟨a5, a6⟩ := wipe_own _ (σ := σ) a3
          rw [a2, a4, a6] at q
          exact nown j dj a5 q
        apply tyes_if
        intro s0 H0 A cl fp
        refine iJ s0 H0 A cl fp en1 s2 ei1 fun J1 g4 x4 gi4 s4 iok1 => ?_
        obtain ⟨Gd1, Y1, wk1, hG1, hY1⟩ := iok1.ok
        have hD4 : g4.H Dd = some (.lst vs) := (x2.trans x4).keep _ _ hDl hDm
        have hDm4 : Dd ∉ g4.m := (x2.trans x4).notm (by rw [hDl]; simp) hDm
        have hDz4 : ¬ g4.Z Dd := fun z => ((x2.trans x4).Z' Dd z).elim hDz fun q => by rw [hDl] at q; cases q
        have en4 : EnvOk X.K g0 g4 (ρ1.wipe vs1) (L2.wipe σ1 vs1) := (en1.step x4 gi4).wipe _
        have x14 := x12.trans x4
        refine walk_W wk1 (Pv := fun j H => j ≤ items1.length ∧ ∃ (g' : Gh) (acc1 : List D) (vs : List V) (rest1 : List D) (st3 : Cells), g'.H = H ∧ RepLe g4 g' ∧ Ext g1 g' ∧ EnvOk X.K g0 g' (ρ1.wipe vs1) (L2.wipe σ1 vs1) ∧ StOk X.K g' st3 ∧ H Dd = some (.lst vs) ∧ Dd ∉ g'.m ∧ ¬ g'.Z Dd ∧ Reps X.K g' acc1 vs ∧ acc1 ++ (rest1 ++ rest2) = out ∧
          lcL vs1 tg1 (fun _ st' => some (true, st')) (fun ρ' st' => (eE C (c.G.map (·.2)) elt ρ' st').bind fun q => q.1.data.map fun d => (d, q.2)) ρ1 (items1.drop j) st3 = some (rest1, stI)) ?_ ?_ ?_ ?_
        · refine ⟨Nat.zero_le _, g4, acc, vs, ys, st4, rfl, .refl g4, x14, en4, s4, hD4, hDm4, hDz4, Reps.le ((x2.trans x4).le gi') _ _ rs, hout, ?_⟩
          rw [List.drop_zero]
          exact el1
        · rintro j H hj ⟨_, g', acc1, vs, rest1, st3, rfl, l4, _⟩
          exact hG1 g' l4
        · rintro j y H H' hj ⟨_, g5, acc1, vs5, rest1, st5, rfl, l5, x15, en5, s5, hD5, hDm5, hDz5, rs5, hout5, hl5⟩ hy5
          obtain ⟨dy, g6, e6, rfl, x6, gi6, s6, ry⟩ := hY1 j g5 y H' st5 l5 en5.gi s5 hj hy5
          rw [drop_one hj e6] at hl5
          unfold lcL at hl5
          obtain ⟨ρ3, hb3, hl5⟩ := bindE hl5
          rw [Option.bind_some, if_pos rfl] at hl5
          obtain ⟨⟨yd, st8⟩, hy8, hl5⟩ := bindE hl5
          obtain ⟨⟨rest3, st9⟩, hr9, hl5⟩ := mapE hl5
          cases hl5
          obtain ⟨⟨rv, st10⟩, hy10, hy8⟩ := bindE hy8
          obtain ⟨yd', hyd, hy8⟩ := mapE hy8
          cases hy8
          have en6 : EnvOk X.K g0 g6 (ρ1.wipe vs1) (L2.wipe σ1 vs1) := en5.step x6 gi6
          refine tgT tg1 t1 ht1 ry hb3 en6 fun σ3 en3 tk3 => ⟨?_, ?_⟩
          · rw [tk3.same _ own_in1, wipe_wipe _ _ fun _ h => h]
          · apply tyes_if
            intro s0 H0 A cl fp
            refine iE s0 H0 A cl fp en3 s6 hy10 fun vy g7 x7 gi7 s7 q7 => ?_
            obtain ⟨g8, eH8, x8, gi8, s8, q8, l8⟩ := RepR.data x7 gi7 s7 q7 hyd
            have x58 := x6.trans x8
            have hD8 : g8.H Dd = some (.lst vs5) := x58.keep _ _ hD5 hDm5
            have hDm8 : Dd ∉ g8.m := x58.notm (by rw [hD5]; simp) hDm5
            have hDz8 : ¬ g8.Z Dd := fun z => (x58.Z' Dd z).elim hDz5 fun q => by rw [hD5] at q; cases q
            have rs8 := Reps.le (x58.le en5.gi) _ _ rs5
            have hg0 : g0.H Dd = none := en.ext.fresh (x1.fresh hD)
            rw [← eH8]
            refine ⟨vs5, hD8, ?_, hj, { g8 with H := upd g8.H Dd (.lst (vs5 ++ [vy])) }, acc1 ++ [yd], vs5 ++ [vy], rest3, st10, rfl, ?_, ?_, ?_, ?_, upd_same, hDm8, hDz8, ?_, ?_, hr9⟩
            · rw [← rs5.length, ← line_eq]
              have : (acc1 ++ (yd :: rest3 ++ rest2)).length ≤ line := by rw [hout5]; exact hz
              simp at this
              omega
            · exact (l5.trans (x58.le en5.gi)).trans (.own hD8 hDz8)
            · exact (x15.trans x58).own hD
            · exact (en5.step x58 gi8).other hD8 hDm8 hDz8 hg0 nown1
            · exact s8.own gi8 hDm8 hD8 hDz8
            · exact Reps.le (RepLe.own hD8 hDz8) _ _ (rs8.append (.cons q8 .nil))
            · rw [← hout5]; simp
        · rintro H ⟨_, g5, acc1, vs5, rest1, st5, rfl, l5, x15, en5, s5, hD5, hDm5, hDz5, rs5, hout5, hl5⟩
          rw [List.drop_length] at hl5
          unfold lcL at hl5
          cases hl5
          exact ⟨hi, g5, acc1, vs5, rest2, stI, rfl, x15, en5.gi, s5, hD5, hDm5, hDz5, rs5, hout5, hr6⟩
    · rintro H ⟨_, g', acc, vs, rest, st3, rfl, x', gi', s', hDl, hDm, hDz, rs, hout, hl⟩
      rw [List.drop_length] at hl
      unfold lc2L at hl
      cases hl
      rw [List.append_nil] at hout
      subst hout
      refine f (.ref Dd) g' (x1.trans x') gi' s' ⟨Dd, vs, rfl, hDl, hDm, hDz, ?_, rs⟩
      exact x1.fresh hD
  · cases ev
theorem sE_lc2 {own : List (Str × Nat)} {vs1 : List Nat} {tg tg1 : MT} {it it1 : MI} {elt : ME} {e : Expr} (xo : XOk c C n X) (h : mE c (.lc2 own vs1 tg it tg1 it1 elt) e = true)
    (iI : ∀ t e, mI c it t e = true → GI_ C (c.G.map (·.2)) X it t e)
    (iJ : ∀ {c : MC} {X : Cx}, XOk c C n X → ∀ t e, mI c it1 t e = true → GI_ C (c.G.map (·.2)) X it1 t e)
    (iE : ∀ {c : MC} {X : Cx}, XOk c C n X → ∀ e, mE c elt e = true → GE C (c.G.map (·.2)) X elt e) : GE C (c.G.map (·.2)) X (.lc2 own vs1 tg it tg1 it1 elt) e := by
  intro g0 g ρ σ st r st' Q en s ev f
  unfold mE at h
  split at h
  · rename_i ee t iter t1 iter1 scope pos
    simp only [Bool.and_eq_true,decide_eq_true_eq] at h
    obtain ⟨h1, h2, h3, h4, h5, h6, h7, h8, h9⟩ := h
    refine pew (pe_lc2 (g := tgOf X.K tg) (g1 := tgOf X.K tg1) xo.calm (by rw [xo.N]; exact xo.nd) wi_pi (blkOk_by (by rw [xo.N, xo.sc]; exact h1)) h4 (fun s H A cl fp => sG (xo.blk scope s H A cl fp) tg t h5) (fun s H A cl fp => pts_nil) (fun s H A cl fp => ii_pi s H A cl fp) (fun s H A cl fp => sG (xo.blk scope s H A cl fp) tg1 t1 h6) (fun s H A cl fp => pts_nil) (fun s H A cl fp => te_pe s H A cl fp) (foldN h2) (fun env => foldN h3)) ?_
    exact lc2_ok xo h5 h6 (iI t iter h7) (fun s H A cl fp => iJ (xo.blk scope s H A cl fp) t1 iter1 h8) (fun s H A cl fp => iE (xo.blk scope s H A cl fp) ee h9) en s ev f
  · cases h
end

section
variable {C : CallT} {n : Nat}
mutual
theorem sE (m : ME) : ∀ {c : MC} {X : Cx}, XOk c C n X → ∀ e, mE c m e = true → GE C (c.G.map (·.2)) X m e := match m with
  | .v i => fun xo e h => sE_v xo h
  | .int i => fun xo e h => sE_int h
  | .bl b => fun xo e h => sE_bl h
  | .non => fun xo e h => sE_non h
  | .str z => fun xo e h => sE_str h
  | .gl i => fun xo e h => sE_gl xo h
  | .bin o a b => fun xo e h => sE_bin xo h (sE a xo) (sE b xo)
  | .neg a => fun xo e h => sE_neg h (sE a xo)
  | .cmp o a b => fun xo e h => sE_cmp xo h (sE a xo) (sE b xo)
  | .isN k a => fun xo e h => sE_isN h (sE a xo)
  | .ch o o' a b d => fun xo e h => sE_ch xo h (sE a xo) (sE b xo) (sE d xo)
  | .bop k es => fun xo e h => sE_bop h (sB es xo)
  | .not a => fun xo e h => sE_not h (sE a xo)
  | .ite d a b => fun xo e h => sE_ite h (sT d xo) (sE a xo) (sE b xo)
  | .tup es => fun xo e h => sE_tup h (sA es xo)
  | .lst es => fun xo e h => sE_lst h (sA es xo)
  | .cell es => fun xo e h => sE_cell h (sA es xo)
  | .ix a i => fun xo e h => sE_ix h (sE a xo) (sE i xo)
  | .sl a lo hi => fun xo e h => sE_sl h (sE a xo) (sO lo xo) (sO hi xo)
  | .call f es => fun xo e h => sE_call xo h (sA es xo)
  | .bi b es => fun xo e h => sE_bi xo h (sV es xo) (sH es xo)
  | .index a x => fun xo e h => sE_index h (sE a xo) (sE x xo)
  | .gindex g x => fun xo e h => sE_gindex xo h (sE x xo)
  | .lc own tg it d elt => fun xo e h => sE_lc xo h (sI it xo) (sD d) (sE elt)
  | .lc2 own vs1 tg it tg1 it1 elt => fun xo e h => sE_lc2 xo h (sI it xo) (sI it1) (sE elt)
  | .sset a => fun xo e h => sE_sset xo h (sE a xo)
  | .rgL a => fun xo e h => sE_rgL xo h (sE a xo)
  | .rgT a => fun xo e h => sE_rgT xo h (sE a xo)
  | .strI a => fun xo e h => sE_strI xo h (sE a xo)
  | .tr a => fun xo e h => by unfold mE at h; cases h
theorem sT (m : ME) : ∀ {c : MC} {X : Cx}, XOk c C n X → ∀ e, mTt c m e = true → GT C (c.G.map (·.2)) X m e := match m with
  | .not a => fun xo e h => sT_not h (sT a xo)
  | .bop k es => fun xo e h => sT_bop h (sTs es xo)
  | .tr a => fun xo e h => sT_tr h (sE a xo)
  | .cmp o a b => fun xo e h => sT_cmp xo h (sE a xo) (sE b xo)
  | .isN k a => fun xo e h => sT_isN h (sE a xo)
  | .ch o o' a b d => fun xo e h => sT_ch xo h (sE a xo) (sE b xo) (sE d xo)
  | .v i => fun xo e h => by unfold mTt at h; cases h
  | .int i => fun xo e h => by unfold mTt at h; cases h
  | .bl b => fun xo e h => by unfold mTt at h; cases h
  | .non => fun xo e h => by unfold mTt at h; cases h
  | .str z => fun xo e h => by unfold mTt at h; cases h
  | .gl i => fun xo e h => by unfold mTt at h; cases h
  | .bin o a b => fun xo e h => by unfold mTt at h; cases h
  | .neg a => fun xo e h => by unfold mTt at h; cases h
  | .ite d a b => fun xo e h => by unfold mTt at h; cases h
  | .tup es => fun xo e h => by unfold mTt at h; cases h
  | .lst es => fun xo e h => by unfold mTt at h; cases h
  | .cell es => fun xo e h => by unfold mTt at h; cases h
  | .ix a i => fun xo e h => by unfold mTt at h; cases h
  | .sl a lo hi => fun xo e h => by unfold mTt at h; cases h
  | .call f es => fun xo e h => by unfold mTt at h; cases h
  | .bi b es => fun xo e h => by unfold mTt at h; cases h
  | .index a x => fun xo e h => by unfold mTt at h; cases h
  | .gindex g x => fun xo e h => by unfold mTt at h; cases h
  | .lc own tg it d elt => fun xo e h => by unfold mTt at h; cases h
  | .strI a => fun xo e h => by unfold mTt at h; cases h
  | .rgT a => fun xo e h => by unfold mTt at h; cases h
  | .rgL a => fun xo e h => by unfold mTt at h; cases h
  | .sset a => fun xo e h => by unfold mTt at h; cases h
  | .lc2 own vs1 tg it tg1 it1 elt => fun xo e h => by unfold mTt at h; cases h
theorem sA (m : MEs) : ∀ {c : MC} {X : Cx}, XOk c C n X → ∀ es, mEs c m es = true → GA C (c.G.map (·.2)) X m es := match m with
  | .nil => fun xo es h => sA_nil h
  | .cons a t => fun xo es h => sA_cons h (sE a xo) (sA t xo)
theorem sV (m : MEs) : ∀ {c : MC} {X : Cx}, XOk c C n X → ∀ es, mVs c m es = true → GV C (c.G.map (·.2)) X m es := match m with
  | .nil => fun xo es h => sV_nil h
  | .cons a t => fun xo es h => sV_cons h (sE a xo) (sV t xo)
theorem sH (m : MEs) : ∀ {c : MC} {X : Cx}, XOk c C n X → ∀ a t e, m = .cons a t → mE c a e = true → GE C (c.G.map (·.2)) X a e := match m with
  | .nil => fun xo a t e q => nomatch q
  | .cons a t => fun xo a' t' e q h => by
    injection q with q1 q2
    subst q1
    exact sE a xo e h
theorem sB (m : MEs) : ∀ {k : Bool} {c : MC} {X : Cx}, XOk c C n X → ∀ es, mBs c k m es = true → GB C (c.G.map (·.2)) X k m es := match m with
  | .nil => fun xo es h => by unfold mBs at h; cases h
  | .cons a t => fun xo es h => sB_cons h (sE a xo) (sB t xo)
theorem sTs (m : MEs) : ∀ {k : Bool} {c : MC} {X : Cx}, XOk c C n X → ∀ es, mTs c k m es = true → GTs C (c.G.map (·.2)) X k m es := match m with
  | .nil => fun xo es h => by unfold mTs at h; cases h
  | .cons a t => fun xo es h => sTs_cons h (sT a xo) (sTs t xo)
theorem sO (m : MO) : ∀ {c : MC} {X : Cx}, XOk c C n X → ∀ e, mO c m e = true → GO C (c.G.map (·.2)) X m e (toOf X e) := match m with
  | .none => fun xo e h => sO_none h
  | .some a => fun xo e h => sO_some h (sE a xo)
theorem sD (m : MO) : ∀ {c : MC} {X : Cx}, XOk c C n X → ∀ es, mC c m es = true → ∀ a x, m = .some a → es = [x] → GT C (c.G.map (·.2)) X a x := match m with
  | .none => fun xo es h a x q => nomatch q
  | .some a => fun xo es h a' x q1 q2 => by
    injection q1 with q1
    subst q1 q2
    unfold mC at h
    exact sT a xo x h
theorem sI (m : MI) : ∀ {c : MC} {X : Cx}, XOk c C n X → ∀ t e, mI c m t e = true → GI_ C (c.G.map (·.2)) X m t e := match m with
  | .seq a => fun xo t e h => sI_seq h (sE a xo)
  | .rng1 a => fun xo t e h => sI_rng1 xo h (sE a xo)
  | .rng2 a b => fun xo t e h => sI_rng2 xo h (sE a xo) (sE b xo)
  | .enum a => fun xo t e h => sI_enum xo h (sE a xo)
  | .zip a b => fun xo t e h => sI_zip xo h (sE a xo) (sE b xo)
  | .rev a => fun xo t e h => sI_rev xo h (sE a xo)
end
end
end Sf
/-! SfStm: statements: does a piece of the real syntax match; the small ones are sound. -/
namespace Sf
open PySem PySem.Spec PyProof.Rows L2

/-! ### matching -/
/-- is the list a comprehension makes let go before the store? -/
def swB (c : MC) (x : Str) (px : Pos) : Expr → Bool
  | .ListComp _ _ scope pos => plB c x && (px.line == pos.line && !(scope.names.any fun (n, k) => n == x && (k == .local || k == .cell)))
  | _ => false
def swOk : Expr → Bool
  | .SetComp .. => false
  | .DictComp .. => false
  | _ => true
def noTup : Expr → Bool
  | .Tuple [a, b] _ _ => foldedForSure 8 a && foldedForSure 8 b
  | .Tuple _ _ _ => false
  | _ => true
def mS1 (c : MC) : MS → Stmt → Bool
  | .set i e, s => match s with
    | .Assign [.Name x px] v _ => slB c i x && (locB c x && (mE c e v && swOk v))
    | _ => false
  | .own i e, s => match s with
    | .Assign [.Name x px] v _ => slB c i x && (locB c x && (mE c e v && swOk v))
    | _ => false
  | .unp t e, s => match s with
    | .Assign [.Tuple ts k p] v _ => noTup v && (mTg c none t (.Tuple ts k p) && mE c e v)
    | _ => false
  | .par i j a b, s => match s with
    | .Assign [.Tuple [.Name x px, .Name y py] _ _] (.Tuple [u, v] _ _) _ => slB c i x && (slB c j y && (plB c x && (plB c y && (decide (x ≠ y) && (decide (px.line = py.line) && (noStar u && (noStar v &&
      (!(foldedForSure 8 u && foldedForSure 8 v) && (!(constantsAlone 8 u && constantsAlone 8 v) && (mE c a u && mE c b v))))))))))
    | _ => false
  | .aug i sub e, s => match s with
    | .AugAssign (.Name x _) op v _ => slB c i x && (locB c x && (decide (op = if sub then Operator.Sub else Operator.Add) && mE c e v))
    | _ => false
  | .setIx i ix e, s => match s with
    | .Assign [.Subscript (.Name x p) y _] v _ => noSlice y && (mE c (.v i) (.Name x p) && (mE c ix y && mE c e v))
    | _ => false
  | .setCell a ix e, s => match s with
    | .Assign [.Subscript x y _] v _ => noSlice y && (mE c a x && (mE c ix y && mE c e v))
    | _ => false
  | .app i e, s => match s with
    | .Expr (.Call (.Attribute (.Name x p) at_ ap) [y] [] cp) _ => eqS at_ "append" && (decide (ap.endLine = cp.line) && (noStar y && (mE c (.v i) (.Name x p) && mE c e y)))
    | _ => false
  | .ext i e, s => match s with
    | .Expr (.Call (.Attribute (.Name x p) at_ ap) [y] [] cp) _ => eqS at_ "extend" && (decide (ap.endLine = cp.line) && (noStar y && (mE c (.v i) (.Name x p) && mE c e y)))
    | _ => false
  | .ret e, s => match s with
    | .Return (some v) _ => mE c e v
    | _ => false
  | .retN, s => match s with
    | .Return none _ => true
    | _ => false
  | .brk, s => match s with
    | .Break _ => true
    | _ => false
  | .cnt, s => match s with
    | .Continue _ => true
    | _ => false
  | .pass, s => match s with
    | .Pass _ => true
    | .Expr (.Constant (.str _) _ _) _ => true
    | _ => false
  | .never, _ => true
  | .expr e, s => match s with
    | .Expr (.Call f as ks p) _ => mE c e (.Call f as ks p)
    | _ => false
  | .rais k, s => match s with
    | .Raise (some (.Call x [.Constant (.str _) _ _] [] _)) none _ => mCl c k x
    | _ => false
  | _, _ => false
def notRais : MS → Bool
  | .rais _ => false
  | _ => true
mutual
def mS (c : MC) : MS → Stmt → Bool
  | .iff d a b, s => match s with
    | .If t x y _ => mTt c d t && (mSs c a x && mSs c b y)
    | _ => false
  | .forr t it body, s => match s with
    | .For tg iter b [] _ => noSet iter && (mTg c none t tg && (mI c it tg iter && mSs c body b))
    | _ => false
  | .whl d body, s => match s with
    | .While t b [] _ => mTt c d t && mSs c body b
    | _ => false
  | .tryR b cl i h, s => match s with
    | .Try [t] [.ExceptHandler (some x) (some n) [.Return (some e) _] _] [] [] _ => notRais b && mS1 c b t && (mCl c cl x && (slB c i n && (plB c n && mH c i h e)))
    | _ => false
  | s, t => mS1 c s t
def mSs (c : MC) : MSs → List Stmt → Bool
  | .nil, l => l.isEmpty
  | .cons s r, l => match s with
    | .frz _ => mSs c r l
    | s => match l with
      | t :: l => mS c s t && mSs c r l
      | [] => false
end

/-! ### what is wanted behind a statement -/
def WS (X : Cx) (s : Stmt) : TS := fun D σ H => ∀ pins sh, Inv X pins σ H sh → wpAny (model X.prog X.w) X.A (exec s X.env) (SP X pins D) X.xe sh
def WSs (X : Cx) (s : List Stmt) : TS := fun D σ H => ∀ pins sh, Inv X pins σ H sh → wpAny (model X.prog X.w) X.A (execs s X.env) (SP X pins D) X.xe sh
section
variable {X : Cx} {s : Stmt} {ss : List Stmt} {t : TS} {D : Ends} {σ : L2.St} {H : Hp}
theorem ws_ps : PS X s (WS X s) := ⟨fun pins sh σ H D I h => h pins sh I⟩
theorem wss_pss : PSs X ss (WSs X ss) := ⟨fun pins sh σ H D I h => h pins sh I⟩
theorem psw (h : PS X s t) (q : t D σ H) : WS X s D σ H := fun pins sh I => h.run pins sh σ H D I q
theorem pssw (h : PSs X ss t) (q : t D σ H) : WSs X ss D σ H := fun pins sh I => h.run pins sh σ H D I q
end

def OutOk (K : PySem.W.Frag) (g0 g : Gh) (D : Ends) : Out → Prop
  | .nx ρ st => ∀ σ g', RepLe g g' → EnvOk K g0 g' ρ σ → StOk K g' st → D.nx σ g'.H
  | .ret d st => ∀ v g', Ext g0 g' → GI g' → StOk K g' st → Rep K g' d v → D.rt v g'.H
  | .brk ρ st => ∀ σ g', RepLe g g' → EnvOk K g0 g' ρ σ → StOk K g' st → D.bk σ g'.H
  | .cnt ρ st => ∀ σ g', RepLe g g' → EnvOk K g0 g' ρ σ → StOk K g' st → D.ct σ g'.H
theorem OutOk.le {K : PySem.W.Frag} {g0 g g2 : Gh} {D : Ends} (l : RepLe g g2) : ∀ {o : Out}, OutOk K g0 g D o → OutOk K g0 g2 D o
  | .nx ρ st, h => fun σ g' l' en s => h σ g' (l.trans l') en s
  | .ret d st, h => h
  | .brk ρ st, h => fun σ g' l' en s => h σ g' (l.trans l') en s
  | .cnt ρ st, h => fun σ g' l' en s => h σ g' (l.trans l') en s

abbrev GS (C : CallT) (G : List D) (X : Cx) (m : MS) (s : Stmt) : Prop := ∀ {g0 g : Gh} {ρ : Env} {σ : L2.St} {st : Cells} {out : Out} {D : Ends},
  EnvOk X.K g0 g ρ σ → StOk X.K g st → eS C G m ρ st = some out → OutOk X.K g0 g D out → WS X s D σ g.H
abbrev GSs (C : CallT) (G : List D) (X : Cx) (m : MSs) (s : List Stmt) : Prop := ∀ {g0 g : Gh} {ρ : Env} {σ : L2.St} {st : Cells} {out : Out} {D : Ends},
  EnvOk X.K g0 g ρ σ → StOk X.K g st → eSs C G m ρ st = some out → OutOk X.K g0 g D out → WSs X s D σ g.H

/-! ### the syntax' side conditions -/
theorem sw_eq {c : MC} {x : Str} {px : Pos} {e : Expr} {env : PySem.Env} (hk : env.scope.kind = .function) (hs : env.scope = c.sc) (h : swOk e = true) (l : Nat) : swapsWith e (some (.Name x px)) l env = pure (swB c x px e) := by
  cases e <;> first | rfl | (simp [swOk] at h; done) | skip
  rename_i ee gs scope pos
  have hb : env.blockKind = .function := by unfold Env.blockKind; rw [hk]; rfl
  have ky : (env.kindOf x == some .local) = plB c x := by
    unfold Env.kindOf plB
    rw [hs]
    cases c.sc.names.lookup x with
    | none => rfl
    | some k => cases k <;> rfl
  unfold swapsWith
  simp only [hb,ky,Expr.pos,swB]
  show pure _ = pure _
  congr 1
  cases plB c x <;> cases (px.line == pos.line) <;> simp
theorem sw_sub {e o i : Expr} {p : Pos} (l : Nat) (env : PySem.Env) : swapsWithSole [.Subscript o i p] e l env = pure false := by
  cases e <;> rfl
theorem sw_tup {e : Expr} {es : List Expr} {k} {p : Pos} (l : Nat) (env : PySem.Env) : swapsWithSole [.Tuple es k p] e l env = pure false := by
  cases e <;> rfl
theorem ss_sub {e o i : Expr} {p : Pos} (env : PySem.Env) : swappedStores [.Subscript o i p] e env = pure none := by
  cases e <;> rfl
theorem ss_tup {e : Expr} {es : List Expr} {k} {p : Pos} (h : noTup e = true) (env : PySem.Env) : swappedStores [.Tuple es k p] e env = pure none := by
  cases e <;> first | rfl | skip
  rename_i vs k2 p2
  match vs, h with
  | [a, b], h =>
    simp only [noTup,Bool.and_eq_true] at h
    unfold swappedStores
    simp only [List.all_cons,List.all_nil,h.1,h.2,Bool.and_self,if_true]
    repeat' split
    all_goals rfl
theorem noStar_m (u : Expr) : noStar u = true → (match u with | .Starred .. => true | _ => false) = false := by
  intro h
  cases u <;> first | rfl | cases h
theorem ss_par {x y : Str} {px py pt p2 : Pos} {k k2} {u v : Expr} {env : PySem.Env} (hk : env.blockKind = .function) (hx : env.kindOf x = some .local) (hy : env.kindOf y = some .local) (ne : x ≠ y) (hl : px.line = py.line) (nu : noStar u = true) (nv : noStar v = true)
    (hf : (foldedForSure 8 u && foldedForSure 8 v) = false) (hc : (constantsAlone 8 u && constantsAlone 8 v) = false) : swappedStores [.Tuple [.Name x px, .Name y py] k pt] (.Tuple [u, v] k2 p2) env = pure (some [x, y]) := by
  have s1 := noStar_m u nu
  have s2 := noStar_m v nv
  have e1 : (x == y) = false := by simpa using ne
  have e2 : (y == x) = false := by simpa using Ne.symm ne
  unfold swappedStores
  simp [hk, hx, hy, hl, Expr.pos, s1, s2, ne, Ne.symm ne, List.eraseDups, List.eraseDupsBy, List.eraseDupsBy.loop, hf, hc, e1, e2]
  intro h
  rcases h with h | h
  · exact absurd (s1.symm.trans h) (by decide)
  · exact absurd (s2.symm.trans h) (by decide)
end Sf
/-! SfStm2: the small statements. -/
namespace Sf
open PySem PySem.Spec PyProof.Rows L2

section
variable {K : PySem.W.Frag} {g0 g : Gh} {ρ : Env} {σ : L2.St}
/-- a list of the frame is frozen -/
theorem EnvOk.frz (h : EnvOk K g0 g ρ σ) {i : Nat} {ds : List D} (e : ρ[i]? = some (.own ds)) {a : Addr} (ha : σ[i]? = some (some (.ref a))) (h1 : g.H a ≠ none) (h2 : a ∉ g.m) (h3 : g0.H a = none) {d : D} (r : Rep K (g.fr a) d (.ref a)) : EnvOk K g0 (g.fr a) (ρ.set i (.dat d)) σ where
  len := by simpa using h.len
  ext := h.ext.fr h3
  gi := h.gi.fr h1 h2
  dat := fun j d' e' => by
    rcases set_get e' with ⟨e1, e2, hl⟩ | ⟨ne, e'⟩
    · subst e1
      cases e2
      exact ⟨_, ha, r⟩
    · obtain ⟨v', q1, q2⟩ := h.dat j d' e'
      exact ⟨v', q1, Rep.le .fr _ _ q2⟩
  own := fun j ds' e' => by
    rcases set_get e' with ⟨e1, e2, hl⟩ | ⟨ne, e'⟩
    · cases e2
    · obtain ⟨b, vs, q1, q2, q3, q4, q5, q6⟩ := h.own j ds' e'
      refine ⟨b, vs, q1, q2, q3, fun z => z.elim q4 fun eb => ?_, q5, Reps.le .fr _ _ q6⟩
      subst eb
      exact ne (h.sep i j _ _ b e e' ha q1)
  sep := fun j k dj dk b e1 e2 f1 f2 => by
    rcases set_get e1 with ⟨_, q, _⟩ | ⟨n1, e1⟩
    · cases q
    · rcases set_get e2 with ⟨_, q, _⟩ | ⟨n2, e2⟩
      · cases q
      · exact h.sep j k dj dk b e1 e2 f1 f2
/-- a list of the frame changes -/
theorem EnvOk.chg (h : EnvOk K g0 g ρ σ) {i : Nat} {ds es : List D} (e : ρ[i]? = some (.own ds)) {a : Addr} {vs ws : List V} (ha : σ[i]? = some (some (.ref a))) (h1 : g.H a = some (.lst vs)) (h2 : a ∉ g.m) (h3 : ¬ g.Z a) (h4 : g0.H a = none) (r : Reps K g es ws) :
    EnvOk K g0 { g with H := upd g.H a (.lst ws) } (ρ.set i (.own es)) σ where
  len := by simpa using h.len
  ext := h.ext.own h4
  gi := h.gi.own h2
  dat := fun j d' e' => by
    rcases set_get e' with ⟨e1, e2, hl⟩ | ⟨ne, e'⟩
    · cases e2
    · obtain ⟨v', q1, q2⟩ := h.dat j d' e'
      exact ⟨v', q1, Rep.le (.own h1 h3) _ _ q2⟩
  own := fun j ds' e' => by
    rcases set_get e' with ⟨e1, e2, hl⟩ | ⟨ne, e'⟩
    · subst e1
      cases e2
      exact ⟨a, ws, ha, upd_same, h2, h3, h4, Reps.le (.own h1 h3) _ _ r⟩
    · obtain ⟨b, vs', q1, q2, q3, q4, q5, q6⟩ := h.own j ds' e'
      have nb : b ≠ a := fun eb => by subst eb; exact ne (h.sep i j _ _ b e e' ha q1)
      exact ⟨b, vs', q1, by show upd g.H a _ b = _; rw [upd_ne nb]; exact q2, q3, q4, q5, Reps.le (.own h1 h3) _ _ q6⟩
  sep := fun j k dj dk b e1 e2 f1 f2 => by
    have key : ∀ {j : Nat} {dj : List D}, (ρ.set i (.own es))[j]? = some (.own dj) → ∃ dj', ρ[j]? = some (.own dj') := fun {j dj} q => by
      rcases set_get q with ⟨e1, _, _⟩ | ⟨_, q⟩
      · subst e1; exact ⟨_, e⟩
      · exact ⟨_, q⟩
    obtain ⟨_, e1'⟩ := key e1
    obtain ⟨_, e2'⟩ := key e2
    exact h.sep j k _ _ b e1' e2' f1 f2
theorem slotO_get {ρ : Env} {i : Nat} {ds : List D} (h : slotO ρ i = some ds) : ρ[i]? = some (.own ds) := by
  unfold slotO at h
  split at h
  · rename_i e; cases h; exact e
  · cases h
theorem slotD_get {ρ : Env} {i : Nat} {d : D} (h : slotD ρ i = some d) : ρ[i]? = some (.dat d) := by
  unfold slotD at h
  split at h
  · rename_i e; cases h; exact e
  · cases h
end

section
variable {C : CallT} {n : Nat} {c : MC} {X : Cx}
/-- an assignment to a name, its value by the evaluator -/
theorem asg_core {e : ME} {x : Str} {px p : Pos} {v : Expr} {i : Nat} (xo : XOk c C n X) (h1 : slB c i x = true) (h2 : locB c x = true) (h3 : mE c e v = true) (h4 : swOk v = true) (hk : c.sc.kind = .function)
    {g0 g : Gh} {ρ : Env} {σ : L2.St} {st st' : Cells} {r : VR} {D : Ends} (en : EnvOk X.K g0 g ρ σ) (s : StOk X.K g st) (ev : eE C (c.G.map (·.2)) e ρ st = some (r, st')) (f : Fin X.K g g st' r fun w H => D.nx (σ.set i (some w)) H) :
    WS X (.Assign [.Name x px] v p) D σ g.H := by
  obtain ⟨q1, q2⟩ := xo.loc h2
  have hkX : X.env.scope.kind = .function := by rw [xo.sc]; exact hk
  cases hs : swB c x px v with
  | false =>
    refine psw (ps_set (by rw [xo.N]; exact xo.nd) (xo.slot h1) q1 we_pe (by rw [sw_eq hkX xo.sc h4, hs]) q2) ?_
    exact sE e xo v h3 en s ev f
  | true =>
    cases v <;> first | (simp [swB] at hs; done) | skip
    rename_i ee gs scope pos
    simp only [swB] at hs
    have hb := hs
    simp only [Bool.and_eq_true,Bool.not_eq_true'] at hb
    cases e <;> first | (unfold mE at h3; cases h3; done) | skip
    · rename_i own tg it d elt
      unfold mE at h3
      split at h3
      · rename_i e0 t iter ifs scope' pos' heq
        cases heq
        simp only [Bool.and_eq_true] at h3
        obtain ⟨k1, k2, k3, k4, k5, k6⟩ := h3
        have hp : c.sc.names.lookup x = some .local := by
          have := hb.1
          unfold plB at this
          split at this
          · assumption
          · cases this
        have hpl : X.env.scope.names.lookup x = some .local := by rw [xo.sc]; exact hp
        have ifs_ok : (d = .none ∧ ifs = []) ∨ ∃ a x, d = .some a ∧ ifs = [x] := by
          cases d with
          | none =>
            unfold mC at k5
            exact .inl ⟨rfl, List.isEmpty_iff.mp k5⟩
          | some a =>
            unfold mC at k5
            split at k5
            · exact .inr ⟨a, _, rfl, rfl⟩
            · cases k5
        have pts : ∀ (s : Shared) (H : Hp) (A : Addr) (cl : List (Str × Addr)) (fp : List Addr), PTs (X.blk s H scope (compEnvC scope cl A X.env) fp) ifs (ttOf X scope ifs) := fun s H A cl fp => by
          rcases ifs_ok with ⟨_, e2⟩ | ⟨a, x, _, e2⟩
          · subst e2; exact pts_nil
          · subst e2
            exact pts_one ⟨fun pins s' σ H' Q I h => h s H A cl fp pins s' I⟩
        refine psw (ps_setLc (g := tgOf X.K tg) xo.calm (by rw [xo.N]; exact xo.nd) (xo.slot h1) hpl (sw_true (by rw [xo.sc]; exact hk) hpl hb.2.1 hb.2.2) wi_pi (blkOk_by (by rw [xo.N, xo.sc]; exact k1)) (fun s H A cl fp => sG (xo.blk scope s H A cl fp) tg t k3) pts (fun s H A cl fp => te_pe s H A cl fp) (foldN k2)) ?_
        exact lc_ok (pos := pos) xo k1 k2 k3 ifs_ok (sI it xo t iter k4) (fun s H A cl fp a x e1 e2 => sD d (xo.blk scope s H A cl fp) ifs k5 a x e1 e2) (fun s H A cl fp => sE elt (xo.blk scope s H A cl fp) ee k6) en s ev f
      · cases h3
    · rename_i own vs1 tg it tg1 it1 elt
      unfold mE at h3
      split at h3
      · rename_i e0 t iter t1 iter1 scope' pos' heq
        cases heq
        simp only [Bool.and_eq_true,decide_eq_true_eq] at h3
        obtain ⟨k1, k2, k3, k4, k5, k6, k7, k8, k9⟩ := h3
        have hp : c.sc.names.lookup x = some .local := by
          have := hb.1
          unfold plB at this
          split at this
          · assumption
          · cases this
        have hpl : X.env.scope.names.lookup x = some .local := by rw [xo.sc]; exact hp
        refine psw (ps_setLc2 (g := tgOf X.K tg) (g1 := tgOf X.K tg1) xo.calm (by rw [xo.N]; exact xo.nd) (xo.slot h1) hpl (sw_true (by rw [xo.sc]; exact hk) hpl hb.2.1 hb.2.2) wi_pi (blkOk_by (by rw [xo.N, xo.sc]; exact k1)) k4 (fun s H A cl fp => sG (xo.blk scope s H A cl fp) tg t k5) (fun s H A cl fp => pts_nil) (fun s H A cl fp => ii_pi s H A cl fp) (fun s H A cl fp => sG (xo.blk scope s H A cl fp) tg1 t1 k6) (fun s H A cl fp => pts_nil) (fun s H A cl fp => te_pe s H A cl fp) (foldN k2) (fun env => foldN k3)) ?_
        exact lc2_ok xo k5 k6 (sI it xo t iter k7) (fun s H A cl fp => sI it1 (xo.blk scope s H A cl fp) t1 iter1 k8) (fun s H A cl fp => sE elt (xo.blk scope s H A cl fp) ee k9) en s ev f
      · cases h3
theorem sS_set {i : Nat} {e : ME} {s : Stmt} (xo : XOk c C n X) (hk : c.sc.kind = .function) (h : mS1 c (.set i e) s = true) : GS C (c.G.map (·.2)) X (.set i e) s := by
  intro g0 g ρ σ st out Dn en so ev f
  unfold mS1 at h
  dsimp only at h
  split at h
  · rename_i x px v p
    simp only [Bool.and_eq_true] at h
    unfold eS at ev
    obtain ⟨r1, ea, ev⟩ := bindE ev
    obtain ⟨d, ed, ev⟩ := bindE ev
    split at ev
    · cases ev
      refine asg_core xo h.1 h.2.1 h.2.2.1 h.2.2.2 hk en so (r := r1.1) (st' := r1.2) ea fun w g1 x1 gi1 s1 q1 => ?_
      obtain ⟨g2, eH, x2, gi2, s2, q2, l2⟩ := RepR.data x1 gi1 s1 q1 ed
      rw [← eH]
      exact f _ g2 (x2.le en.gi) ((en.step x2 gi2).setDat q2 i) s2
    · cases ev
  · cases h
theorem sS_own {i : Nat} {e : ME} {s : Stmt} (xo : XOk c C n X) (hk : c.sc.kind = .function) (h : mS1 c (.own i e) s = true) : GS C (c.G.map (·.2)) X (.own i e) s := by
  intro g0 g ρ σ st out Dn en so ev f
  unfold mS1 at h
  dsimp only at h
  split at h
  · rename_i x px v p
    simp only [Bool.and_eq_true] at h
    unfold eS at ev
    obtain ⟨⟨r1, st1⟩, ea, ev⟩ := bindE ev
    dsimp only at ev
    split at ev
    · rename_i ds
      split at ev
      · cases ev
        refine asg_core xo h.1 h.2.1 h.2.2.1 h.2.2.2 hk en so ea fun w g1 x1 gi1 s1 q1 => ?_
        obtain ⟨a, vs, rfl, b1, b2, b3, b4, b5⟩ := q1
        refine f _ g1 (x1.le en.gi) ((en.step x1 gi1).setOwn b1 b2 b3 (en.ext.fresh b4) b5 (fun j dj e1 e2 => ?_) i) s1
        obtain ⟨a', vs', c1, c2, _⟩ := en.own j dj e1
        rw [c1] at e2
        cases e2
        rw [b4] at c2
        cases c2
      · cases ev
    · cases ev
  · cases h
theorem sS_unp {t : MT} {e : ME} {s : Stmt} (xo : XOk c C n X) (h : mS1 c (.unp t e) s = true) : GS C (c.G.map (·.2)) X (.unp t e) s := by
  intro g0 g ρ σ st out Dn en so ev f
  unfold mS1 at h
  dsimp only at h
  split at h
  · rename_i ts k p v p2
    simp only [Bool.and_eq_true] at h
    unfold eS at ev
    obtain ⟨r1, ea, ev⟩ := bindE ev
    obtain ⟨d, ed, ev⟩ := bindE ev
    obtain ⟨ρ1, eb, ev⟩ := mapE ev
    cases ev
    refine psw (ps_asg we_pe (sG xo t _ h.2.1) (by exact sw_tup _ _) (by exact ss_tup h.1 _) rfl) ?_
    refine sE e xo v h.2.2 en so (r := r1.1) (st' := r1.2) ea fun w g1 x1 gi1 s1 q1 => ?_
    obtain ⟨g2, eH, x2, gi2, s2, q2, l2⟩ := RepR.data x1 gi1 s1 q1 ed
    rw [← eH]
    exact tgT t _ h.2.1 q2 eb (en.step x2 gi2) fun σ1 en1 tk => f σ1 g2 (x2.le en.gi) en1 s2
  · cases h
theorem sS_par {i j : Nat} {a b : ME} {s : Stmt} (xo : XOk c C n X) (hk : c.sc.kind = .function) (h : mS1 c (.par i j a b) s = true) : GS C (c.G.map (·.2)) X (.par i j a b) s := by
  intro g0 g ρ σ st out Dn en so ev f
  unfold mS1 at h
  dsimp only at h
  split at h
  · rename_i x px y py k p u v k2 p2 p3
    simp only [Bool.and_eq_true,Bool.not_eq_true',decide_eq_true_eq] at h
    obtain ⟨h1, h2, h3, h4, h5, h6, h7, h8, h9, h10, h11, h12⟩ := h
    have pl : ∀ {x : Str}, plB c x = true → X.env.scope.names.lookup x = some .local := fun {x} q => by
      rw [xo.sc]
      unfold plB at q
      split at q
      · assumption
      · cases q
    have hb : X.env.blockKind = .function := by unfold Env.blockKind; rw [xo.sc, hk]; rfl
    have hij : i ≠ j := fun e => by
      subst e
      have a1 := xo.slot h1
      have a2 := xo.slot h2
      rw [a1] at a2
      exact h5 (Option.some.inj a2)
    unfold eS at ev
    obtain ⟨r1, ea, ev⟩ := bindE ev
    obtain ⟨d, ed, ev⟩ := bindE ev
    obtain ⟨r2, eb, ev⟩ := bindE ev
    obtain ⟨d', ed', ev⟩ := bindE ev
    split at ev
    · cases ev
      refine psw (ps_par xo.calm (by rw [xo.N]; exact xo.nd) (xo.slot h1) (xo.slot h2) hij (pl h3) (pl h4) (pa_cons we_pe (pa_cons we_pe pa_nil (starN h8)) (starN h7)) (ss_par hb (pl h3) (pl h4) h5 h6 h7 h8 h9 h10) (by exact sw_tup _ _)) ?_
      refine sE a xo u h11 en so (r := r1.1) (st' := r1.2) ea fun w g1 x1 gi1 s1 q1 => ?_
      obtain ⟨g2, eH, x2, gi2, s2, q2, l2⟩ := RepR.data x1 gi1 s1 q1 ed
      rw [← eH]
      refine sE b xo v h12 (en.step x2 gi2) s2 (r := r2.1) (st' := r2.2) eb fun w2 g3 x3 gi3 s3 q3 => ?_
      obtain ⟨g4, eH4, x4, gi4, s4, q4, l4⟩ := RepR.data x3 gi3 s3 q3 ed'
      rw [← eH4]
      exact ⟨w, w2, rfl, f _ g4 ((x2.trans x4).le en.gi) (((en.step x2 gi2).step x4 gi4 |>.setDat (Rep.le (x4.le gi2) _ _ q2) i).setDat q4 j) s4⟩
    · cases ev
  · cases h
theorem sS_aug {i : Nat} {sub : Bool} {e : ME} {s : Stmt} (xo : XOk c C n X) (h : mS1 c (.aug i sub e) s = true) : GS C (c.G.map (·.2)) X (.aug i sub e) s := by
  intro g0 g ρ σ st out Dn en so ev f
  unfold mS1 at h
  dsimp only at h
  split at h
  · rename_i x px op v p
    simp only [Bool.and_eq_true,decide_eq_true_eq] at h
    obtain ⟨h1, h2, h3, h4⟩ := h
    obtain ⟨q1, q2⟩ := xo.loc h2
    unfold eS at ev
    obtain ⟨⟨r1, st1⟩, ea, ev⟩ := bindE ev
    dsimp only at ev
    split at ev
    · rename_i p q hs
      cases ev
      have hs := slotD_get hs
      obtain ⟨w0, e0, r0⟩ := en.dat _ _ hs
      rw [Rep] at r0
      subst r0
      cases sub with
      | false =>
        subst h3
        refine psw (ps_aug (by rw [xo.N]; exact xo.nd) (xo.slot h1) q1 we_pe ip_add q2) ?_
        refine ⟨_, e0, ?_⟩
        refine sE e xo v h4 en so ea fun w g1 x1 gi1 s1 q1 => ?_
        have q1 : Rep _ _ _ _ := q1
        rw [Rep] at q1
        subst q1
        exact ⟨_, _, rfl, rfl, f _ g1 (x1.le en.gi) ((en.step x1 gi1).setDat (by rw [Rep]; rfl) i) s1⟩
      | true =>
        subst h3
        refine psw (ps_aug (by rw [xo.N]; exact xo.nd) (xo.slot h1) q1 we_pe ip_sub q2) ?_
        refine ⟨_, e0, ?_⟩
        refine sE e xo v h4 en so ea fun w g1 x1 gi1 s1 q1 => ?_
        have q1 : Rep _ _ _ _ := q1
        rw [Rep] at q1
        subst q1
        exact ⟨_, _, rfl, rfl, f _ g1 (x1.le en.gi) ((en.step x1 gi1).setDat (by rw [Rep]; rfl) i) s1⟩
    · cases ev
  · cases h
end
end Sf
/-! SfStm3: the small statements, part 2. -/
namespace Sf
open PySem PySem.Spec PyProof.Rows L2

section
variable {C : CallT} {n : Nat} {c : MC} {X : Cx}
/-- a list of the frame by its name -/
theorem own_we {i : Nat} {e : Expr} (xo : XOk c C n X) (h : mE c (.v i) e = true) {v : V} {σ : L2.St} {H : Hp} {Q : VK} (e1 : σ[i]? = some (some v)) (q : Q v H) : WE X e σ H Q := by
  unfold mE at h
  split at h
  · rename_i x pos
    simp only [Bool.and_eq_true] at h
    obtain ⟨n1, n2, n3⟩ := nm_ok h.2.2
    exact pew (pe_var (xo.slot h.1) (xo.vis h.2.1) n1 n2) ⟨v, e1, q⟩
  · cases h
theorem assignSub {o i : Expr} {p : Pos} {env : PySem.Env} (h : noSlice i = true) (v : Value) : assign (.Subscript o i p) env v = (do
      let ov ← holding [v] (eval o env)
      let iv ← holding [v, ov] (eval i env)
      standAt p
      holding [v, ov, iv] (setItem ov iv v)
      release [v, ov, iv] []) := by
  cases i <;> first | rfl | cases h
theorem sS_setIx {i : Nat} {ix e : ME} {s : Stmt} (xo : XOk c C n X) (h : mS1 c (.setIx i ix e) s = true) : GS C (c.G.map (·.2)) X (.setIx i ix e) s := by
  intro g0 g ρ σ st out Dn en so ev f
  unfold mS1 at h
  dsimp only at h
  split at h
  · rename_i x p y p2 v p3
    simp only [Bool.and_eq_true] at h
    obtain ⟨h1, h2, h3, h4⟩ := h
    unfold eS at ev
    obtain ⟨r1, ea, ev⟩ := bindE ev
    obtain ⟨d, ed, ev⟩ := bindE ev
    obtain ⟨⟨r2, st2⟩, eb, ev⟩ := bindE ev
    dsimp only at ev
    split at ev
    · rename_i k
      obtain ⟨ds, es, ev⟩ := bindE ev
      obtain ⟨j, ej, ev⟩ := mapE ev
      cases ev
      have es := slotO_get es
      refine psw (ps_asg we_pe (pg_sub we_pe we_pe set_list (assignSub h1)) (by exact sw_sub _ _) (by exact ss_sub _) rfl) ?_
      refine sE e xo v h4 en so (r := r1.1) (st' := r1.2) ea fun w g1 x1 gi1 s1 q1 => ?_
      obtain ⟨g2, eH, x2, gi2, s2, q2, l2⟩ := RepR.data x1 gi1 s1 q1 ed
      rw [← eH]
      have en2 := en.step x2 gi2
      obtain ⟨a, vs, e1, e2, e3, e4, e5, e6⟩ := en2.own i ds es
      refine own_we xo h2 e1 ?_
      refine sE ix xo y h3 en2 s2 eb fun w2 g3 x3 gi3 s3 q3 => ?_
      have q3 : Rep _ _ _ _ := q3
      rw [Rep] at q3
      subst q3
      have en3 := en2.step x3 gi3
      obtain ⟨a', vs', b1, b2, b3, b4, b5, b6⟩ := en3.own i ds es
      rw [e1] at b1
      cases b1
      refine ⟨a, vs', k, j, rfl, rfl, b2, by rw [← ixOf_eq, ← b6.length]; exact ej, ?_⟩
      exact f σ { g3 with H := upd g3.H a (.lst (vs'.set j w)) } (((x2.trans x3).le en.gi).trans (.own b2 b4)) (en3.chg es e1 b2 b3 b4 b5 (b6.set j (Rep.le (x3.le gi2) _ _ q2))) (s3.own gi3 b3 b2 b4)
    · cases ev
  · cases h
theorem StOk.put {K : PySem.W.Frag} {g : Gh} {st : Cells} {k : Nat} {a : Addr} {ds : List D} {ws : List V} (s : StOk K g st) (gi : GI g) (hk : g.m[k]? = some a) (r : Reps K g ds ws) :
    StOk K { g with H := upd g.H a (.lst ws) } (st.set k ds) ∧ RepLe g { g with H := upd g.H a (.lst ws) } ∧ GI { g with H := upd g.H a (.lst ws) } := by
  have ha : a ∈ g.m := List.mem_of_getElem? hk
  obtain ⟨⟨vs, e⟩, z⟩ := gi.cell a ha
  have l : RepLe g { g with H := upd g.H a (.lst ws) } := .own e z
  refine ⟨⟨by simpa using s.len, fun j b ds' e1 e2 => ?_⟩, l, ⟨gi.nd, fun b hb => ?_, fun b hz => ?_⟩⟩
  · rcases set_get e2 with ⟨q1, q2, _⟩ | ⟨ne, e2⟩
    · subst q1 q2
      rw [hk] at e1
      cases e1
      exact ⟨ws, upd_same, Reps.le l _ _ r⟩
    · obtain ⟨vs', q1, q2⟩ := s.at_ j b ds' e1 e2
      have nb : b ≠ a := fun eb => by
        subst eb
        exact ne ((List.getElem?_inj (List.getElem?_eq_some_iff.mp hk).1 gi.nd).mp (hk.trans e1.symm))
      exact ⟨vs', by show upd g.H a _ b = _; rw [upd_ne nb]; exact q1, Reps.le l _ _ q2⟩
  · obtain ⟨⟨us, q⟩, z'⟩ := gi.cell b hb
    refine ⟨?_, z'⟩
    show ∃ vs, upd g.H a _ b = _
    by_cases eb : b = a
    · subst eb; exact ⟨ws, upd_same⟩
    · rw [upd_ne eb]; exact ⟨us, q⟩
  · show upd g.H a _ b ≠ none
    by_cases eb : b = a
    · subst eb; rw [upd_same]; simp
    · rw [upd_ne eb]; exact gi.zed b hz
theorem EnvOk.put {K : PySem.W.Frag} {g0 g : Gh} {ρ : Env} {σ : L2.St} {a : Addr} {vs ws : List V} (h : EnvOk K g0 g ρ σ) (ha : a ∈ g.m) (e : g.H a = some (.lst vs)) (z : ¬ g.Z a) (gi : GI { g with H := upd g.H a (.lst ws) }) : EnvOk K g0 { g with H := upd g.H a (.lst ws) } ρ σ where
  len := h.len
  ext := ⟨h.ext.m, fun b o q hm => by
    show upd g.H a _ b = _
    have nb : b ≠ a := fun eb => by
      subst eb
      exact (h.ext.notm (by rw [q]; simp) hm) ha
    rw [upd_ne nb]; exact h.ext.keep b o q hm, fun b q => by
    show upd g.H a _ b ≠ none
    by_cases eb : b = a
    · subst eb; rw [upd_same]; simp
    · rw [upd_ne eb]; exact h.ext.there b q, h.ext.Z, h.ext.Z'⟩
  gi := gi
  dat := fun j d' e' => by
    obtain ⟨v', q1, q2⟩ := h.dat j d' e'
    exact ⟨v', q1, Rep.le (.own e z) _ _ q2⟩
  own := fun j ds' e' => by
    obtain ⟨b, vs', q1, q2, q3, q4, q5, q6⟩ := h.own j ds' e'
    have nb : b ≠ a := fun eb => by subst eb; exact q3 ha
    exact ⟨b, vs', q1, by show upd g.H a _ b = _; rw [upd_ne nb]; exact q2, q3, q4, q5, Reps.le (.own e z) _ _ q6⟩
  sep := h.sep
theorem sS_setCell {a ix e : ME} {s : Stmt} (xo : XOk c C n X) (h : mS1 c (.setCell a ix e) s = true) : GS C (c.G.map (·.2)) X (.setCell a ix e) s := by
  intro g0 g ρ σ st out Dn en so ev f
  unfold mS1 at h
  dsimp only at h
  split at h
  · rename_i x y p2 v p3
    simp only [Bool.and_eq_true] at h
    obtain ⟨h1, h2, h3, h4⟩ := h
    unfold eS at ev
    obtain ⟨r1, ea, ev⟩ := bindE ev
    obtain ⟨d, ed, ev⟩ := bindE ev
    obtain ⟨⟨r3, st3⟩, ec, ev⟩ := bindE ev
    obtain ⟨⟨r2, st2⟩, eb, ev⟩ := bindE ev
    dsimp only at ev eb
    split at ev
    · rename_i p k q0
      obtain ⟨ds, es, ev⟩ := bindE ev
      obtain ⟨j, ej, ev⟩ := mapE ev
      cases ev
      refine psw (ps_asg we_pe (pg_sub we_pe we_pe set_list (assignSub h1)) (by exact sw_sub _ _) (by exact ss_sub _) rfl) ?_
      refine sE e xo v h4 en so (r := r1.1) (st' := r1.2) ea fun w g1 x1 gi1 s1 q1 => ?_
      obtain ⟨g2, eH, x2, gi2, s2, q2, l2⟩ := RepR.data x1 gi1 s1 q1 ed
      rw [← eH]
      have en2 := en.step x2 gi2
      refine sE a xo x h2 en2 s2 ec fun w3 g3 x3 gi3 s3 q3 => ?_
      have q3 : Rep _ _ _ _ := q3
      rw [Rep] at q3
      obtain ⟨b, rfl, hb⟩ := q3
      have en3 := en2.step x3 gi3
      refine sE ix xo y h3 en3 s3 eb fun w4 g4 x4 gi4 s4 q4 => ?_
      have q4 : Rep _ _ _ _ := q4
      rw [Rep] at q4
      subst q4
      have hb4 : g4.m[p]? = some b := (x4.le gi3).m.elim fun e he => by
        rw [he, List.getElem?_append_left (List.getElem?_eq_some_iff.mp hb).1]; exact hb
      obtain ⟨vs, k1, k2⟩ := s4.at_ p b ds hb4 es
      have hm : b ∈ g4.m := List.mem_of_getElem? hb4
      have hz := (gi4.cell b hm).2
      obtain ⟨t1, t2, t3⟩ := s4.put gi4 hb4 (k2.set j (Rep.le ((x3.trans x4).le gi2) _ _ q2))
      refine ⟨b, vs, k, j, rfl, rfl, k1, by rw [← ixOf_eq, ← k2.length]; exact ej, ?_⟩
      exact f σ _ (((x2.trans (x3.trans x4)).le en.gi).trans t2) ((en3.step x4 gi4).put hm k1 hz t3) t1
    · cases ev
  · cases h
theorem sS_app {i : Nat} {e : ME} {s : Stmt} (xo : XOk c C n X) (h : mS1 c (.app i e) s = true) : GS C (c.G.map (·.2)) X (.app i e) s := by
  intro g0 g ρ σ st out Dn en so ev f
  unfold mS1 at h
  dsimp only at h
  split at h
  · rename_i x p at_ ap y cp p3
    simp only [Bool.and_eq_true,decide_eq_true_eq] at h
    obtain ⟨h1, h2, h3, h4, h5⟩ := h
    obtain rfl := eqS_ok h1
    unfold eS at ev
    obtain ⟨r1, ea, ev⟩ := bindE ev
    obtain ⟨d, ed, ev⟩ := bindE ev
    obtain ⟨ds, es, ev⟩ := bindE ev
    split at ev
    · rename_i hz
      cases ev
      have es := slotO_get es
      refine psw (ps_expr (pe_bm PySem.F.plainAttrs_list PySem.F.slot_list_append PySem.F.type_list_append mt_append we_pe (pa_cons we_pe pa_nil (starN h3)) rfl (by rw [starN h3]; rfl) (by rw [h2]; simp) (starN h3) rfl) rfl) ?_
      obtain ⟨a, vs, e1, e2, e3, e4, e5, e6⟩ := en.own i ds es
      refine own_we xo h4 e1 ⟨.inl ⟨rfl, _, .inl (.inl e2)⟩, ?_⟩
      refine sE e xo y h5 en so (r := r1.1) (st' := r1.2) ea fun w g1 x1 gi1 s1 q1 => ?_
      obtain ⟨g2, eH, x2, gi2, s2, q2, l2⟩ := RepR.data x1 gi1 s1 q1 ed
      rw [← eH]
      have en2 := en.step x2 gi2
      obtain ⟨a', vs', b1, b2, b3, b4, b5, b6⟩ := en2.own i ds es
      rw [e1] at b1
      cases b1
      refine ⟨a, vs', w, rfl, rfl, b2, by rw [← b6.length, ← line_eq]; exact hz, ?_⟩
      exact f σ { g2 with H := upd g2.H a (.lst (vs' ++ [w])) } ((x2.le en.gi).trans (.own b2 b4)) (en2.chg es e1 b2 b3 b4 b5 (b6.append (.cons q2 .nil))) (s2.own gi2 b3 b2 b4)
    · cases ev
  · cases h
theorem sS_ext {i : Nat} {e : ME} {s : Stmt} (xo : XOk c C n X) (h : mS1 c (.ext i e) s = true) : GS C (c.G.map (·.2)) X (.ext i e) s := by
  intro g0 g ρ σ st out Dn en so ev f
  unfold mS1 at h
  dsimp only at h
  split at h
  · rename_i x p at_ ap y cp p3
    simp only [Bool.and_eq_true,decide_eq_true_eq] at h
    obtain ⟨h1, h2, h3, h4, h5⟩ := h
    obtain rfl := eqS_ok h1
    unfold eS at ev
    obtain ⟨⟨r1, st1⟩, ea, ev⟩ := bindE ev
    obtain ⟨ds, es, ev⟩ := bindE ev
    dsimp only at ev
    obtain ⟨zs, hr, ev⟩ : ∃ zs, (r1.read = .lst zs ∨ r1.read = .tup zs) ∧ (if ds.length + zs.length ≤ line then some (Out.nx (ρ.set i (.own (ds ++ zs))) st1) else none) = some out := by
      split at ev
      · rename_i zs hr
        exact ⟨zs, .inl hr, ev⟩
      · rename_i zs hr
        exact ⟨zs, .inr hr, ev⟩
      · cases ev
    split at ev
    · rename_i hz
      cases ev
      have es := slotO_get es
      refine psw (ps_expr (pe_bm PySem.F.plainAttrs_list PySem.F.slot_list_extend PySem.F.type_list_extend mt_extB we_pe (pa_cons we_pe pa_nil (starN h3)) rfl (by rw [starN h3]; rfl) (by rw [h2]; simp) (starN h3) rfl) rfl) ?_
      obtain ⟨a, vs, e1, e2, e3, e4, e5, e6⟩ := en.own i ds es
      refine own_we xo h4 e1 ⟨.inl ⟨rfl, _, .inl (.inl e2)⟩, ?_⟩
      refine sE e xo y h5 en so ea fun w g2 x2 gi2 s2 q2 => ?_
      have d2 := q2.rd gi2
      have en2 := en.step x2 gi2
      obtain ⟨a', vs', b1, b2, b3, b4, b5, b6⟩ := en2.own i ds es
      rw [e1] at b1
      cases b1
      rcases hr with hr | hr
      · rw [hr] at d2
        cases d2 with
        | lst hl nm rs =>
          refine ⟨a, _, vs', _, rfl, rfl, b2, .inl hl, by rw [← b6.length, ← rs.length, ← line_eq]; exact hz, ?_⟩
          exact f σ { g2 with H := upd g2.H a (.lst (vs' ++ _)) } ((x2.le en.gi).trans (.own b2 b4)) (en2.chg es e1 b2 b3 b4 b5 (b6.append rs)) (s2.own gi2 b3 b2 b4)
      · rw [hr] at d2
        cases d2 with
        | tup hl rs =>
          refine ⟨a, _, vs', _, rfl, rfl, b2, .inr hl, by rw [← b6.length, ← rs.length, ← line_eq]; exact hz, ?_⟩
          exact f σ { g2 with H := upd g2.H a (.lst (vs' ++ _)) } ((x2.le en.gi).trans (.own b2 b4)) (en2.chg es e1 b2 b3 b4 b5 (b6.append rs)) (s2.own gi2 b3 b2 b4)
    · cases ev
  · cases h
theorem sS_ret {e : ME} {s : Stmt} (xo : XOk c C n X) (h : mS1 c (.ret e) s = true) : GS C (c.G.map (·.2)) X (.ret e) s := by
  intro g0 g ρ σ st out Dn en so ev f
  unfold mS1 at h
  dsimp only at h
  split at h
  · rename_i v p
    refine psw (ps_ret we_pe) ?_
    have rest : (∀ i ds, e = .v i → ρ[i]? ≠ some (.own ds)) → (eE C (c.G.map (·.2)) e ρ st).bind (fun x => x.1.data.map fun d => Out.ret d x.2) = some out → tRet (WE X v) Dn σ g.H := fun _ ev => by
      obtain ⟨r1, ea, ev⟩ := bindE ev
      obtain ⟨d, ed, ev⟩ := mapE ev
      cases ev
      refine sE e xo v h en so (r := r1.1) (st' := r1.2) ea fun w g1 x1 gi1 s1 q1 => ?_
      obtain ⟨g2, eH, x2, gi2, s2, q2, l2⟩ := RepR.data x1 gi1 s1 q1 ed
      rw [← eH]
      exact f w g2 (en.ext.trans x2) gi2 s2 q2
    unfold eS at ev
    cases e with
    | v i =>
      dsimp only at ev
      split at ev
      · rename_i d hd
        cases ev
        obtain ⟨w, e1, e2⟩ := en.dat i d hd
        exact own_we xo h e1 (f w g en.ext en.gi so e2)
      · rename_i ds hd
        cases ev
        obtain ⟨a, vs, e1, e2, e3, e4, e5, e6⟩ := en.own i ds hd
        refine own_we xo h e1 (f _ (g.fr a) (en.ext.fr e5) (en.gi.fr (by rw [e2]; simp) e3) so.fr ?_)
        rw [Rep]
        exact ⟨a, vs, rfl, e2, .inr rfl, Reps.le .fr _ _ e6⟩
      · cases ev
    | _ => exact rest (fun _ _ q => nomatch q) ev
  · cases h
theorem sS_retN {s : Stmt} (h : mS1 c .retN s = true) : GS C (c.G.map (·.2)) X .retN s := by
  intro g0 g ρ σ st out Dn en so ev f
  unfold mS1 at h
  dsimp only at h
  split at h
  · unfold eS at ev
    cases ev
    exact psw ps_retN (f .non g en.ext en.gi so (by rw [Rep]))
  · cases h
theorem sS_brk {s : Stmt} (h : mS1 c .brk s = true) : GS C (c.G.map (·.2)) X .brk s := by
  intro g0 g ρ σ st out Dn en so ev f
  unfold mS1 at h
  dsimp only at h
  split at h
  · unfold eS at ev
    cases ev
    exact psw ps_break (f σ g (.refl g) en so)
  · cases h
theorem sS_cnt {s : Stmt} (h : mS1 c .cnt s = true) : GS C (c.G.map (·.2)) X .cnt s := by
  intro g0 g ρ σ st out Dn en so ev f
  unfold mS1 at h
  dsimp only at h
  split at h
  · unfold eS at ev
    cases ev
    exact psw ps_continue (f σ g (.refl g) en so)
  · cases h
theorem sS_pass {s : Stmt} (h : mS1 c .pass s = true) : GS C (c.G.map (·.2)) X .pass s := by
  intro g0 g ρ σ st out Dn en so ev f
  unfold mS1 at h
  dsimp only at h
  unfold eS at ev
  cases ev
  split at h
  · exact psw ps_pass (f σ g (.refl g) en so)
  · exact psw ps_doc (f σ g (.refl g) en so)
  · cases h
theorem sS_never {s : Stmt} : GS C (c.G.map (·.2)) X .never s := by
  intro g0 g ρ σ st out Dn en so ev f
  unfold eS at ev
  cases ev
theorem sS_expr {e : ME} {s : Stmt} (xo : XOk c C n X) (h : mS1 c (.expr e) s = true) : GS C (c.G.map (·.2)) X (.expr e) s := by
  intro g0 g ρ σ st out Dn en so ev f
  unfold mS1 at h
  dsimp only at h
  split at h
  · rename_i v1 v2 v3 v4 p
    unfold eS at ev
    obtain ⟨r1, ea, ev⟩ := mapE ev
    cases ev
    refine psw (ps_expr we_pe) ?_
    refine sE e xo _ h en so (r := r1.1) (st' := r1.2) ea fun w g1 x1 gi1 s1 q1 => ?_
    exact f σ g1 (x1.le en.gi) (en.step x1 gi1) s1
  · cases h
theorem sS_rais {k : Nat} {s : Stmt} : GS C (c.G.map (·.2)) X (.rais k) s := by
  intro g0 g ρ σ st out Dn en so ev f
  unfold eS at ev
  cases ev
/-- a small statement -/
theorem sS1 {m : MS} {s : Stmt} (xo : XOk c C n X) (hk : c.sc.kind = .function) (h : mS1 c m s = true) : GS C (c.G.map (·.2)) X m s := by
  cases m with
  | set => exact sS_set xo hk h
  | own => exact sS_own xo hk h
  | unp => exact sS_unp xo h
  | par => exact sS_par xo hk h
  | aug => exact sS_aug xo h
  | setIx => exact sS_setIx xo h
  | setCell => exact sS_setCell xo h
  | app => exact sS_app xo h
  | ext => exact sS_ext xo h
  | frz => unfold mS1 at h; cases h
  | ret => exact sS_ret xo h
  | retN => exact sS_retN h
  | iff => unfold mS1 at h; cases h
  | forr => unfold mS1 at h; cases h
  | whl => unfold mS1 at h; cases h
  | brk => exact sS_brk h
  | cnt => exact sS_cnt h
  | pass => exact sS_pass h
  | never => exact sS_never
  | expr => exact sS_expr xo h
  | rais => exact sS_rais
  | tryR => unfold mS1 at h; cases h
end
end Sf
/-! SfHot: what an except suite hands back. -/
namespace Sf
open PySem PySem.Spec PyProof.Rows L2

/-- what stands of the exceptions' classes -/
structure ExF (K : PySem.W.Frag) (mg : Str → Option Value) (E : List Nat) : Prop where
  gl : ∀ k ∈ E, mg (exName k) = some (.ref (He.ga K (exName k)))
  ex : ∀ k ∈ E, (He.Fa.exc (exName k)).ok K = true
  cl : ∀ k ∈ E, ExcC K (He.ga K (exName k))
  ve : ∀ k ∈ E, PySem.W.kitOne K (.ref (He.ga K (exName k))) (.type "ValueError") = some true
  ki : ∀ k ∈ E, ∀ l ∈ E, PySem.W.kitOne K (.ref (He.ga K (exName k))) (.ref (He.ga K (exName l))) = some (isSub k l)
  em : ∀ k ∈ E, ∀ l ∈ E, PySem.W.exmOne K (.ref (He.ga K (exName k))) (.ref (He.ga K (exName l))) = some (isSub k l)

/-- isinstance(e, c), e a pinned exception -/
theorem call_isP {X : Cx} {a D : Addr} {oe : Obj} (C : ExcC X.K D) (hp : (a, oe) ∈ X.pn) (hz : Zc (.ref D) none oe) (hf : ∃ vs, oe.data = .fields vs) : CallR X (.builtin "isinstance") (rIsE X.K D a) := by
  intro pins s σ H xs us Q I r h
  obtain ⟨c, cv, b, rfl, hcv, e, q⟩ := h
  cases r with
  | cons rx rr =>
    cases rr with
    | cons rt rr =>
      cases rr
      cases rx
      have ec := hcv _ rt
      subst ec
      obtain ⟨hget, _⟩ := I.pin (a, oe) (List.mem_append.mpr (.inl hp))
      obtain ⟨vs, hv⟩ := hf
      have J : PySem.W.InstAt s.heap a oe D none := by
        obtain ⟨oc, od, oda, osl⟩ := oe
        obtain ⟨h1, h2⟩ := hz
        dsimp only at h1 h2 hv
        subst h1 h2 hv
        exact ⟨hget, rfl, rfl, trivial⟩
      exact PySem.W.kia_one (PySem.W.handS_kitx_exc C.hg C.hk C.hs C.hd C.ha C.hn C.ht C.hm) I.kIn J e (fun z => nomatch z) fun tk => ⟨.bl b, H, I.kept (t' := tk) fun _ _ z => z, rfl, q⟩

/-! ### a def called while an exception is handled -/
theorem hot_call {CX : CXT} {P : Program} {w : World} {K : PySem.W.Frag} {mg : Str → Option Value} {base : Heap} {k : Nat} {f : Addr} {name qual : Str} {params : Arguments} {body : List Stmt} {scope : Scope} {dV kV doc pm cdv ct oc : Value} {an od : Option Addr}
    {osl : Array (Option Value)} {N ps : List Str} (lk : K.lookup f = some ⟨oc, od, .func (PySem.W.fnOf name qual params body scope dV kV doc pm an cdv ct), osl⟩) (hcd : PySem.W.codeIn K cdv qual = true) (S : FnScope N ps scope)
    {A : Around} {outer : List PySem.Env} {s : Shared} {H : Hp} {args : Args} {us : List Value} {vs : List V} {Q : VK} {E : XK} {p : Addr × Obj} (hr : L2H.RoomH (k + 1) A) (hpin : L2H.PinOk outer H s p) (e0 : Env0 P w K mg base A outer s H)
    (hb : BindsTo s (PySem.W.fnOf name qual params body scope dV kV doc pm an cdv ct) args (ps.zip us)) (r : Vals vs us) (hl : vs.length = ps.length)
    (hbody : L2H.RoomH k (A.deeper (envOfC qual scope s.heap.objs.size f cdv)) → ∃ t, PSs (L2H.cxH CX P w K mg base N qual scope f cdv A outer s H E p) body t ∧ t { nx := fun _ H' => Q .non H', rt := Q } (L2.start N vs) H) :
    codeAny (model P w) A (.call (.ref f) args) (CR CX outer P w H s Q E) s := by
  have KX : K.In s.heap := e0.mod.kin.keeps fun b o e => (e0.bs b o e).1
  have lim : s.heap.NoLimit := e0.mod.nolimit.keeps fun b o e => (e0.bs b o e).1
  have hkind : ∀ y ∈ ps.zip us, scope.names.lookup y.1 = some .local ∨ (scope.names.lookup y.1 = some .cell ∧ ((cellsFrom (s.heap.objs.size + 1) scope.names []).lookup y.1).isSome = true) := fun ⟨n, v⟩ hy => by
    rcases S.par n (List.of_mem_zip hy).1 with q | q
    · exact .inl q
    · exact .inr ⟨q, PySem.W.cellsFrom_some _ _ _ (.inl q)⟩
  refine codeAny_call_function hr.depth (KX _ _ lk) rfl S.co S.gen rfl (PySem.W.codeRec_of KX hcd) (hb _ _ _ _ ?_)
  refine wpAny_newFunctionEnv_cells S.kind hkind fun env he s1 x => ?_
  subst he
  refine ⟨lim.keeps x.toInCall.keep, codeAny_func ?_⟩
  obtain ⟨t, ht, hq⟩ := hbody (hr.deeper _)
  have I : Inv (L2H.cxH CX P w K mg base N qual scope f cdv A outer s H E p) [] (L2.start N vs) H s1 := L2H.inv_startH S hpin e0 hl r x
  refine wpAny_mono (ht.run [] s1 (L2.start N vs) H _ I hq) (fun fl s' hs => ?_) fun e s' hs => hs
  have fin : ∀ {σ' : L2.St} {H' : Hp} {v : V} {u : Value}, Inv (L2H.cxH CX P w K mg base N qual scope f cdv A outer s H E p) [] σ' H' s' → RelV v u → Q v H' → CE outer P w H s Q u s' :=
    fun {σ' H' v u} J rv q => ⟨v, H', J.os, J.bare, J.base, J.hok, rv, q⟩
  cases fl with
  | ret u =>
    obtain ⟨v, σ', H', J, rv, q⟩ := hs
    exact fin J rv q
  | next =>
    obtain ⟨σ', H', J, q⟩ := hs
    exact fin (v := V.non) (u := Value.none) J rfl q
  | brk =>
    obtain ⟨_, _, _, q⟩ := hs
    exact False.elim q
  | cont =>
    obtain ⟨_, _, _, q⟩ := hs
    exact False.elim q

/-! ### the law's look at an error -/
def isI (c : MC) (i : Nat) (k : Nat) (e : Expr) : Bool := mH0 c i (.isI k) e
def isVE (c : MC) (i : Nat) : Expr → Bool
  | .Call (.Name x _) [y, .Name z _] [] _ => glB c.sc x && (eqS x "isinstance" && (noStar y && (mX c i y && (glB c.sc z && eqS z "ValueError"))))
  | _ => false
def dueB (c : MC) (i : Nat) (s : Str) : Expr → Bool
  | .Compare x [.Eq] [.Constant (.str z) _ _] _ => mX c i x && decide (z = s)
  | _ => false
def falB : Expr → Bool
  | .Constant (.bool false) _ _ => true
  | _ => false
/-- the def's body, its names error, due, kinds -/
def errB (c : MC) : List Stmt → Bool
  | [.If (.BoolOp .Or [.UnaryOp .Not a _, .UnaryOp .Not b _] _) [.Return (some r) _] [] _, .Assign [.Name kn kp] (.List [k1, k2, k3, k4] _) _,
      .Return (some (.BoolOp .And [.Compare x [.Eq] [.List [d1, d2, d3, d4] _] _, .UnaryOp .Not n _] _)) _] =>
    isI c 0 0 a && (isVE c 0 b && (plainT a && (plainT b && (falB r && (slB c 2 kn && (plB c kn && (isI c 0 1 k1 && (isI c 0 2 k2 && (isI c 0 3 k3 && (isI c 0 4 k4 && (mX c 2 x && (dueB c 1 "written" d1 && (dueB c 1 "let" d2 && (falB d3 && (falB d4 && (isI c 0 5 n && (noStar k1 && (noStar k2 && (noStar k3 && (noStar k4 && (noStar d1 && (noStar d2 && (noStar d3 && noStar d4)))))))))))))))))))))))
  | _ => false
theorem boot_isi : bootBuiltins ("isinstance" : Str) = some (.builtin "isinstance") := by decide +kernel
theorem boot_ve : bootBuiltins ("ValueError" : Str) = some (.type "ValueError") := by decide +kernel

/-- a context in which an exception of the class k, at a, is pinned -/
structure HX (c : MC) (X : Cx) (a : Addr) (k : Nat) : Prop where
  N : X.N = c.N
  nd : c.N.Nodup
  sc : X.env.scope = c.sc
  kE : k ∈ c.E
  pin : ∃ oe : Obj, (a, oe) ∈ X.pn ∧ Zc (.ref (exA X.K k)) none oe ∧ ∃ vs, oe.data = .fields vs
  exf : ExF X.K X.mg c.E
  isi : X.mg ("isinstance" : Str) = none
  units : X.A.units + 64 < cLine

section
variable {c : MC} {X : Cx} {a : Addr} {k i : Nat} {σ : L2.St} {H : Hp}
theorem HX.gl (h : HX c X a k) {x : Str} (e : glB c.sc x = true) : Gl X x := by
  show X.env.scope.names.lookup x = some .globalImplicit
  rw [h.sc]
  unfold glB at e
  split at e
  · assumption
  · cases e
theorem HX.vis (h : HX c X a k) {x : Str} (e : visB c.sc x = true) : Vis X.env.scope x := by
  unfold Vis
  rw [h.sc]
  unfold visB at e
  split at e
  · rename_i q; exact .inl q
  · rename_i q; exact .inr (.inl q)
  · rename_i q; exact .inr (.inr q)
  · cases e
theorem HX.slot (h : HX c X a k) {i : Nat} {x : Str} (e : slB c i x = true) : X.N[i]? = some x := by
  rw [h.N]
  exact of_decide_eq_true e
theorem hot_name (h : HX c X a k) {e : Expr} (m : mX c i e = true) {v : V} {Q : VK} (e1 : σ[i]? = some (some v)) (q : Q v H) : WE X e σ H Q := by
  unfold mX at m
  split at m
  · rename_i x pos
    simp only [Bool.and_eq_true] at m
    obtain ⟨n1, n2, n3⟩ := nm_ok m.2.2
    exact pew (pe_var (h.slot m.1) (h.vis m.2.1) n1 n2) ⟨v, e1, q⟩
  · cases m
theorem hot_cl (h : HX c X a k) {l : Nat} {e : Expr} (m : mCl c l e = true) : l ∈ c.E ∧ ∀ {Q : VK}, Q (.ref (exA X.K l)) H → WE X e σ H Q := by
  unfold mCl at m
  split at m
  · rename_i x pos
    simp only [Bool.and_eq_true,decide_eq_true_eq] at m
    obtain ⟨n1, n2, n3⟩ := nm_ok m.2.1
    obtain rfl := eqS_ok m.2.2.1
    exact ⟨m.2.2.2, fun {Q} q => pew (pe_glob (h.gl m.1) (h.exf.gl l m.2.2.2) (v := .ref (exA X.K l)) rfl n1) q⟩
  · cases m
theorem hot_isI (h : HX c X a k) {l : Nat} {e : Expr} (m : mH0 c i (.isI l) e = true) (e1 : σ[i]? = some (some (.ref a))) {Q : VK} (q : Q (.bl (isSub k l)) H) : WE X e σ H Q := by
  unfold mH0 at m
  dsimp only at m
  split at m
  · rename_i x p y z pos
    simp only [Bool.and_eq_true] at m
    obtain ⟨m1, m2, m3, m4, m5, m6⟩ := m
    obtain rfl := eqS_ok m2
    obtain ⟨oe, h1, h2, h3⟩ := h.pin
    obtain ⟨l1, l2⟩ := hot_cl (σ := σ) (H := H) h m6
    refine pew (pe_callB (call_isP (h.exf.cl k h.kE) h1 h2 h3) (h.gl m1) h.isi boot_isi (pa_cons we_pe (pa_cons we_pe pa_nil (starN m5)) (starN m3)) (by decide) (by decide) (starN m3) ?_) ?_
    · rw [starN m5]; rfl
    · refine hot_name h m4 e1 ?_
      exact l2 ⟨_, .ref (exA X.K l), _, rfl, fun u r => r, h.exf.ki k h.kE l l1, q⟩
  · cases m
theorem hot_isVE (h : HX c X a k) (hv : X.mg ("ValueError" : Str) = none) {e : Expr} (m : isVE c i e = true) (e1 : σ[i]? = some (some (.ref a))) {Q : VK} (q : Q (.bl true) H) : WE X e σ H Q := by
  unfold isVE at m
  split at m
  · rename_i x p y z pz pos
    simp only [Bool.and_eq_true] at m
    obtain ⟨m1, m2, m3, m4, m5, m6⟩ := m
    obtain rfl := eqS_ok m2
    obtain rfl := eqS_ok m6
    obtain ⟨oe, h1, h2, h3⟩ := h.pin
    refine pew (pe_callB (call_isP (h.exf.cl k h.kE) h1 h2 h3) (h.gl m1) h.isi boot_isi (pa_cons we_pe (pa_cons (pe_bltn (h.gl m5) hv boot_ve (v := .ty "ValueError") rfl (by decide) (by decide)) pa_nil) (starN m3)) (by decide) (by decide) (starN m3) (by rfl)) ?_
    refine hot_name h m4 e1 ?_
    exact ⟨.ty "ValueError", .type "ValueError", true, rfl, fun u r => r, h.exf.ve k h.kE, q⟩
  · cases m
end

section
variable {c : MC} {X : Cx} {a : Addr} {k i : Nat} {σ : L2.St}
/-- not e, as a test -/
theorem hot_ntT {e : Expr} {p : Pos} {b : Bool} {g : Gh} (hp : plainT e = true) {Q : Bool → Hp → Prop} (h : ∀ {Q : VK}, Q (.bl b) g.H → WE X e σ g.H Q) (q : Q (!b) g.H) : WT X (.UnaryOp .Not e p) σ g.H Q :=
  ptw (pt_not wt_pt) (ptw (pt_truth we_pe fun w => truthN hp w) (h ⟨b, sTru (g := g) (d := .bl b) rfl (.bl b), q⟩))
theorem hot_due (h : HX c X a k) {e : Expr} {s : List Nat} {z : Str} (m : dueB c i z e = true) {g : Gh} {st : Cells} (gi : GI g) (so : StOk X.K g st) (hs : s.all (fun c => decide (c < 1114112)) = true) (hz : (D.str z.cps.toList).shp 60 = true) (e1 : σ[i]? = some (some (.str ⟨s.toArray⟩))) {Q : VK} (q : Q (.bl (s == z.cps.toList)) g.H) : WE X e σ g.H Q := by
  unfold dueB at m
  split at m
  · rename_i x z' j pz p
    simp only [Bool.and_eq_true,decide_eq_true_eq] at m
    obtain ⟨m1, rfl⟩ := m
    refine pew (pe_cmpR wo_op we_pe pe_str (by rfl)) (hot_name h m1 e1 ?_)
    have ez : z' = ⟨z'.cps.toList.toArray⟩ := by simp
    have key := sCmp (X := X) (o := .eq) (x := .dat (.str s)) (y := .dat (.str z'.cps.toList)) (vx := .str ⟨s.toArray⟩) (vy := .str ⟨z'.cps.toList.toArray⟩) (b := s == z'.cps.toList) (Q := Q) h.units (by
      show dCmp .eq _ _ = _
      unfold dCmp
      show (if (D.shp 60 (.str s) && D.shp 60 (.str z'.cps.toList)) = true then some (D.eqb (.str s) (.str z'.cps.toList)) else none) = _
      rw [hz, show D.shp 60 (.str s) = true from by unfold D.shp; exact hs]
      rw [if_pos (by rfl)]
      unfold D.eqb
      rfl) gi so (.str s) (.str _) q
    rw [← ez] at key
    exact key
  · cases m
theorem hot_fal {e : Expr} {H : Hp} (m : falB e = true) {Q : VK} (q : Q (.bl false) H) : WE X e σ H Q := by
  unfold falB at m
  split at m
  · exact pew pe_bl q
  · cases m
theorem reps_bls {K : PySem.W.Frag} {g : Gh} : ∀ bs : List Bool, Reps K g (bs.map D.bl) (bs.map V.bl)
  | [] => .nil
  | _ :: bs => .cons (by rw [Rep]) (reps_bls bs)
theorem shps_bls (n : Nat) : ∀ bs : List Bool, D.shps n (bs.map D.bl) = true
  | [] => by unfold D.shps; rfl
  | b :: bs => by
    show D.shps n (D.bl b :: bs.map D.bl) = true
    unfold D.shps
    rw [shps_bls n bs]
    cases n <;> unfold D.shp <;> rfl
theorem eqbs_bls : ∀ xs ys : List Bool, D.eqbs (xs.map D.bl) (ys.map D.bl) = (xs == ys)
  | [], [] => by unfold D.eqbs; rfl
  | [], y :: ys => by show D.eqbs [] (D.bl y :: ys.map D.bl) = _; unfold D.eqbs; rfl
  | x :: xs, [] => by show D.eqbs (D.bl x :: xs.map D.bl) [] = _; unfold D.eqbs; rfl
  | x :: xs, y :: ys => by
    show D.eqbs (D.bl x :: xs.map D.bl) (D.bl y :: ys.map D.bl) = _
    unfold D.eqbs
    rw [eqbs_bls xs ys]
    unfold D.eqb
    rfl
theorem dcmp_bls (xs ys : List Bool) : dCmp .eq (.bor (xs.map D.bl)) (.bor (ys.map D.bl)) = some (xs == ys) := by
  have z : ∀ bs : List Bool, D.shp 60 (.lst (bs.map D.bl)) = true := fun bs => by
    unfold D.shp
    exact shps_bls 59 bs
  unfold dCmp
  simp only [VR.read,z,Bool.and_self,if_true]
  unfold D.eqb
  rw [eqbs_bls]
theorem hot_err (h : HX c X a k) (hk : X.env.scope.kind = .function) (hv : X.mg ("ValueError" : Str) = none) {body : List Stmt} (m : errB c body = true) {g : Gh} {st : Cells} (gi : GI g) (so : StOk X.K g st) {s : List Nat} (hs : s.all (fun c => decide (c < 1114112)) = true) {x : Option V} {Dn : Ends}
    (q : ∀ g', Ext g g' → GI g' → StOk X.K g' st → Dn.rt (.bl (errOk k s)) g'.H) : WSs X body Dn [some (.ref a), some (.str ⟨s.toArray⟩), x] g.H := by
  unfold errB at m
  split at m
  · rename_i ea pa eb pb po er pr pif kn kp k1 k2 k3 k4 pl pas ex d1 d2 d3 d4 pd pc en pn pand prt
    simp only [Bool.and_eq_true] at m
    obtain ⟨m1, m2, m3, m4, m5, m6, m7, m8, m9, m10, m11, m12, m13, m14, m15, m16, m17, n1, n2, n3, n4, n5, n6, n7, n8⟩ := m
    refine pssw (pss_cons (ps_if wt_pt wss_pss wss_pss) (pss_cons (ps_set (i := 2) (by rw [h.N]; exact h.nd) (h.slot m6) ?hloc (pe_lst (pa_cons we_pe (pa_cons we_pe (pa_cons we_pe (pa_cons we_pe pa_nil (starN n4)) (starN n3)) (starN n2)) (starN n1))) (by rfl) ?hloc2) (pss_one (ps_ret we_pe)))) ?_
    case hloc =>
      unfold L2.Loc
      rw [h.sc]
      unfold plB at m7
      split at m7
      · rename_i e; exact .inl e
      · cases m7
    case hloc2 =>
      rw [h.sc]
      unfold plB at m7
      split at m7
      · rename_i e; exact .inr e
      · cases m7
    -- the test: false
    refine ptw ww_pw.pt (pww (pw_or wt_pt (pw_or1 wt_pt)) ?_)
    refine hot_ntT m3 (fun q => hot_isI h m1 rfl q) ?_
    have e0 : isSub k 0 = true := by simp [isSub]
    rw [e0]
    refine iteF ?_
    refine hot_ntT m4 (fun q => hot_isVE h hv m2 rfl q) ?_
    refine iteF (pssw pss_nil ?_)
    -- kinds
    refine hot_isI h m8 rfl (hot_isI h m9 rfl (hot_isI h m10 rfl (hot_isI h m11 rfl ?_)))
    refine ⟨by show 4 ≤ sizeLine; rw [sizeLine_eq]; decide, fun p hp => ?_⟩
    have xa : Ext g { g with H := upd g.H p (.lst [V.bl (isSub k 1), V.bl (isSub k 2), V.bl (isSub k 3), V.bl (isSub k 4)]) } := .laid hp
    have ga := gi.laid (o := .lst [V.bl (isSub k 1), V.bl (isSub k 2), V.bl (isSub k 3), V.bl (isSub k 4)]) hp
    have sa := so.laid (o := .lst [V.bl (isSub k 1), V.bl (isSub k 2), V.bl (isSub k 3), V.bl (isSub k 4)]) gi hp
    have nm : p ∉ g.m := fun z => by
      obtain ⟨⟨vs, e⟩, _⟩ := gi.cell p z
      rw [hp] at e; cases e
    -- the end
    refine pew (pe_and (pe_cmpR wo_op we_pe (pe_lst (pa_cons we_pe (pa_cons we_pe (pa_cons we_pe (pa_cons we_pe pa_nil (starN n8)) (starN n7)) (starN n6)) (starN n5))) (by rfl)) (pe_one (pe_notT we_pe))) ?_
    refine hot_name h m12 rfl ?_
    refine hot_due h m13 ga sa hs (by decide +kernel) rfl (hot_due h m14 ga sa hs (by decide +kernel) rfl (hot_fal m15 (hot_fal m16 ?_)))
    refine ⟨by show 4 ≤ sizeLine; rw [sizeLine_eq]; decide, fun p2 hp2 => ?_⟩
    have w0 : (s == ("written" : Str).cps.toList) = (s == [119, 114, 105, 116, 116, 101, 110]) := by
      have e : ("written" : Str).cps.toList = [119, 114, 105, 116, 116, 101, 110] := by decide +kernel
      rw [e]
    have l0 : (s == ("let" : Str).cps.toList) = (s == [108, 101, 116]) := by
      have e : ("let" : Str).cps.toList = [108, 101, 116] := by decide +kernel
      rw [e]
    rw [w0, l0]
    have xb : Ext g { g with H := upd (upd g.H p (.lst [V.bl (isSub k 1), V.bl (isSub k 2), V.bl (isSub k 3), V.bl (isSub k 4)])) p2 (.lst [V.bl (s == [119, 114, 105, 116, 116, 101, 110]), V.bl (s == [108, 101, 116]), V.bl false, V.bl false]) } := xa.trans (.laid hp2)
    have gb := ga.laid (o := .lst [V.bl (s == [119, 114, 105, 116, 116, 101, 110]), V.bl (s == [108, 101, 116]), V.bl false, V.bl false]) hp2
    have sb := sa.laid (o := .lst [V.bl (s == [119, 114, 105, 116, 116, 101, 110]), V.bl (s == [108, 101, 116]), V.bl false, V.bl false]) ga hp2
    have ne : p ≠ p2 := fun e => by
      subst e
      have : upd g.H p _ p = none := hp2
      rw [upd_same] at this
      cases this
    have nm2 : p2 ∉ g.m := fun z => by
      obtain ⟨⟨vs, e⟩, _⟩ := ga.cell p2 z
      rw [hp2] at e; cases e
    have r1 : Reps X.K _ ([isSub k 1, isSub k 2, isSub k 3, isSub k 4].map D.bl) ([isSub k 1, isSub k 2, isSub k 3, isSub k 4].map V.bl) := reps_bls (K := X.K) (g := { g with H := upd (upd g.H p (.lst [V.bl (isSub k 1), V.bl (isSub k 2), V.bl (isSub k 3), V.bl (isSub k 4)])) p2 (.lst [V.bl (s == [119, 114, 105, 116, 116, 101, 110]), V.bl (s == [108, 101, 116]), V.bl false, V.bl false]) }) _
    have r2 : Reps X.K _ ([s == [119, 114, 105, 116, 116, 101, 110], s == [108, 101, 116], false, false].map D.bl) ([s == [119, 114, 105, 116, 116, 101, 110], s == [108, 101, 116], false, false].map V.bl) := reps_bls (K := X.K) (g := { g with H := upd (upd g.H p (.lst [V.bl (isSub k 1), V.bl (isSub k 2), V.bl (isSub k 3), V.bl (isSub k 4)])) p2 (.lst [V.bl (s == [119, 114, 105, 116, 116, 101, 110]), V.bl (s == [108, 101, 116]), V.bl false, V.bl false]) }) _
    refine sCmp (X := X) (o := .eq) (x := .bor ([isSub k 1, isSub k 2, isSub k 3, isSub k 4].map D.bl)) (y := .bor ([s == [119, 114, 105, 116, 116, 101, 110], s == [108, 101, 116], false, false].map D.bl)) (b := [isSub k 1, isSub k 2, isSub k 3, isSub k 4] == [s == [119, 114, 105, 116, 116, 101, 110], s == [108, 101, 116], false, false]) h.units ?_ gb sb
      (.lst (by show upd (upd g.H p _) p2 _ p = _; rw [upd_ne ne, upd_same]; rfl) nm r1) (.lst (by show upd (upd g.H p _) p2 _ p2 = _; rw [upd_same]; rfl) nm2 r2) ?_
    · exact dcmp_bls _ _
    · have eo : errOk k s = (([isSub k 1, isSub k 2, isSub k 3, isSub k 4] == [s == [119, 114, 105, 116, 116, 101, 110], s == [108, 101, 116], false, false]) && !(isSub k 5)) := by
        have i1 : ∀ l : Nat, isSub k (l + 1) = (k == l + 1) := fun l => by unfold isSub; simp
        rw [i1 0, i1 1, i1 2, i1 3, i1 4]
        unfold errOk
        show _ = ((((k == 1) == (s == [119, 114, 105, 116, 116, 101, 110])) && (((k == 2) == (s == [108, 101, 116])) && (((k == 3) == false) && (((k == 4) == false) && true)))) && !(k == 5))
        simp [bne]
      refine ⟨_, rfl, ?_⟩
      rw [eo] at q
      cases hq : ([isSub k 1, isSub k 2, isSub k 3, isSub k 4] == [s == [119, 114, 105, 116, 116, 101, 110], s == [108, 101, 116], false, false]) with
      | false =>
        rw [hq] at q
        exact iteF (q _ xb gb sb)
      | true =>
        rw [hq] at q
        refine iteT (hot_isI h m17 rfl ?_)
        exact ⟨_, sTru (g := { g with H := upd (upd g.H p (.lst [V.bl (isSub k 1), V.bl (isSub k 2), V.bl (isSub k 3), V.bl (isSub k 4)])) p2 (.lst [V.bl (s == [119, 114, 105, 116, 116, 101, 110]), V.bl (s == [108, 101, 116]), V.bl false, V.bl false]) }) (d := .bl (isSub k 5)) rfl (.bl _), q _ xb gb sb⟩
  · cases m
end
end Sf
/-! SfExc: what small statements raise, a try. -/
namespace Sf
open PySem PySem.Spec PyProof.Rows L2

/-- a def's promise about what it raises -/
def spX (K : PySem.W.Frag) (L : List Nat) (C : CallT) (f : Nat) : Sp := fun vs H _ E => ∃ (g : Gh) (ds : List D) (st : Cells) (k : Int) (st' : Cells), g.H = H ∧ Reps K g ds vs ∧ GI g ∧ StOk K g st ∧ C (XB + f) ds st = some (.int k, st') ∧
  ∀ g', Ext g g' → GI g' → StOk K g' st' → k.toNat ∈ L → E (.ref (exA K k.toNat)) none g'.H
/-- the law's look at errors, as it stands -/
def errMC (sc : Scope) (L : List Nat) : MC := ⟨["error", "due", "kinds"], sc, fun _ => true, [], [], none, L⟩
structure ErrAt (K : PySem.W.Frag) (mg : Str → Option Value) (L : List Nat) (x : Str) : Prop where
  ex : ∃ (f : Addr) (fd : FuncData) (params : Arguments) (body : List Stmt) (scope : Scope), mg x = some (.ref f) ∧ FunD K x x params body scope [] [] f fd ∧ Binds K fd ["error", "due"] [] ∧ FnScope ["error", "due", "kinds"] ["error", "due"] scope ∧ errB (errMC scope L) body = true

/-- what stands around, of exceptions -/
structure XX (c : MC) (C : CallT) (n : Nat) (X : Cx) : Prop where
  zero : n = 0 → ∀ f ds st, C f ds st = none
  stk : X.stack = X.env :: X.outer
  fr : X.env.frame = some X.env.locals
  exf : ExF X.K X.mg c.E
  isi : X.mg ("isinstance" : Str) = none
  ve : X.mg ("ValueError" : Str) = none
  fnx : ∀ (i : Nat) x k, c.F[i]? = some (x, k) → ∃ f fd ps, X.mg x = some (.ref f) ∧ PySem.W.keepIn X.K (.ref f) = true ∧ Binds X.K fd ps [] ∧ FnOk X.prog X.w X.K X.mg X.base (L2.CX X.prog X.w) n f fd ps (spX X.K c.E C i)
  err : ∀ (i : Nat) x k, c.err = some i → c.F[i]? = some (x, k) → ErrAt X.K X.mg c.E x

section
variable {C : CallT} {n : Nat} {c : MC} {X : Cx}
theorem XX.tr (xx : XX c C n X) (pn : List (Addr × Obj)) (xe : Value → Shared → Prop) : XX c C n (X.tr pn xe) := ⟨xx.zero, xx.stk, xx.fr, xx.exf, xx.isi, xx.ve, xx.fnx, xx.err⟩
theorem XOk.tr (xo : XOk c C n X) (pn : List (Addr × Obj)) (xe : Value → Shared → Prop) : XOk c C n (X.tr pn xe) := ⟨xo.N, xo.nd, xo.sc, xo.fn, xo.calm, xo.room, xo.fns, xo.gls, xo.blt⟩

theorem xE_pos {m : ME} {ρ : Env} {st : Cells} {r : Nat × Cells} {G : List D} (h : xE C G m ρ st = some r) : ∃ f ds st', C f ds st' ≠ none := by
  fun_induction xE C G m ρ st with
  | case1 ρ st f es =>
    obtain ⟨r1, ea, h⟩ := bindE h
    obtain ⟨q, eq, h⟩ := bindE h
    exact ⟨_, _, _, by rw [eq]; simp⟩
  | case2 ρ st a ih => exact ih h
  | case3 => cases h

/-- what an expression raises -/
abbrev GXE (C : CallT) (G : List D) (L : List Nat) (X : Cx) (m : ME) (e : Expr) : Prop := ∀ {g0 g : Gh} {ρ : Env} {σ : L2.St} {st : Cells} {k : Nat} {st' : Cells} {Q : VK} {W : WX}, Takes X W →
  EnvOk X.K g0 g ρ σ → StOk X.K g st → xE C G m ρ st = some (k, st') → (∀ g', Ext g g' → GI g' → StOk X.K g' st' → k ∈ L → W (.ref (exA X.K k)) none σ g'.H) → WE X e σ g.H Q
theorem sX_call {i : Nat} {es : MEs} {e : Expr} (xo : XOk c C n X) (xx : XX c C n X) (h : mE c (.call i es) e = true) : GXE C (c.G.map (·.2)) c.E X (.call i es) e := by
  intro g0 g ρ σ st k st' Q W tk en s ev f
  unfold mE at h
  split at h
  · rename_i x p y ys pos
    simp only [Bool.and_eq_true] at h
    obtain ⟨hg, hn, hf, hm⟩ := h
    split at hf
    · rename_i q hq
      obtain ⟨x', k'⟩ := q
      obtain rfl := eqS_ok hf
      obtain ⟨n1, n2, n3⟩ := nm_ok hn
      obtain ⟨fa, fd, ps, m1, kp, bd, F⟩ := xx.fnx i _ _ hq
      unfold xE at ev
      obtain ⟨r1, ea, ev⟩ := bindE ev
      obtain ⟨⟨d, st2⟩, ec, ev⟩ := bindE ev
      dsimp only at ev
      split at ev
      · rename_i kk
        cases ev
        have st0 : noStar y = true := by
          cases es with
          | nil => simp [mEs] at hm
          | cons _ _ =>
            unfold mEs at hm
            simp only [Bool.and_eq_true] at hm
            exact hm.1
        refine pew (pe_callS (E := L2.WE W) F xo.room (xo.gl hg) m1 kp bd (fun σ => passAt tk σ) wa_pa n1 (starN st0) ?_) ?_
        · have := noStars hm pos X.env
          rw [starN st0] at this
          simpa [backTo] using this
        · refine sA es xo _ hm en s (r := r1.1) (st' := r1.2) ea fun vs g1 x1 gi1 s1 q1 => ?_
          exact ⟨g1, r1.1, r1.2, _, _, rfl, q1, gi1, s1, ec, fun g' x' gi' s' hk => f g' (x1.trans x') gi' s' hk⟩
      · cases ev
    · cases hf
  · cases h
theorem sX (m : ME) {e : Expr} (xo : XOk c C n X) (xx : XX c C n X) (h : mE c m e = true) : GXE C (c.G.map (·.2)) c.E X m e := by
  intro g0 g ρ σ st k st' Q W tk en s ev f
  generalize hG : c.G.map (·.2) = G at ev
  revert h ev f
  fun_induction xE C G m ρ st generalizing e Q with
  | case1 ρ st i es =>
    intro h f ev
    refine sX_call xo xx h tk en s ?_ f
    rw [hG]
    unfold xE
    exact ev
  | case2 ρ st a ih =>
    intro h f ev
    unfold mE at h
    split at h
    · rename_i xs pos
      unfold mEs at h
      split at h
      · rename_i e1 es1
        simp only [Bool.and_eq_true] at h
        obtain ⟨h1, h2, h3⟩ := h
        unfold mEs at h3
        obtain rfl := List.isEmpty_iff.mp h3
        exact pew (pe_lst (pa_cons we_pe pa_nil (starN h1))) (ih en s h2 f ev)
      · cases h
    · cases h
  | case3 => intro _ _ ev; cases ev

/-- what a small statement raises -/
abbrev GX1 (C : CallT) (G : List D) (L : List Nat) (X : Cx) (m : MS) (s : Stmt) : Prop := ∀ {g0 g : Gh} {ρ : Env} {σ : L2.St} {st : Cells} {k : Nat} {st' : Cells} {Dn : Ends} {W : WX}, Takes X W →
  EnvOk X.K g0 g ρ σ → StOk X.K g st → xS1 C G m ρ st = some (k, st') → (∀ g', Ext g g' → GI g' → StOk X.K g' st' → k ∈ L → W (.ref (exA X.K k)) none σ g'.H) → WS X s Dn σ g.H
theorem raises_of {X : Cx} {L : List Nat} (F : ExF X.K X.mg L) {k : Nat} (hk : k ∈ L) : Raises X (.ref (exA X.K k)) := by
  obtain ⟨_, _, q3, q4⟩ := He.exc_ok (F.ex k hk)
  exact raises_own q3 q4
theorem sX_rais {k : Nat} {s : Stmt} (xo : XOk c C n X) (xx : XX c C n X) (h : mS1 c (.rais k) s = true) : GX1 C (c.G.map (·.2)) c.E X (.rais k) s := by
  intro g0 g ρ σ st k' st' Dn W tk en so ev f
  unfold mS1 at h
  dsimp only at h
  split at h
  · rename_i x z j p2 pos p3
    unfold mCl at h
    split at h
    · rename_i y py
      simp only [Bool.and_eq_true,decide_eq_true_eq] at h
      obtain ⟨n1, n2, n3⟩ := nm_ok h.2.1
      obtain rfl := eqS_ok h.2.2.1
      have hk := h.2.2.2
      obtain ⟨q1, q2, q3, q4⟩ := He.exc_ok (xx.exf.ex k hk)
      unfold xS1 at ev
      cases ev
      exact psw (ps_raise xo.calm tk (pmk_own PySem.F.excBase_ValueError q1 (xx.exf.gl k hk) q2 (raises_of xx.exf hk) (xo.gl h.1) n1)) (f g (.refl g) en.gi so hk)
    · cases h
  · cases h
theorem sX1 {m : MS} {s : Stmt} (xo : XOk c C n X) (xx : XX c C n X) (h : mS1 c m s = true) : GX1 C (c.G.map (·.2)) c.E X m s := by
  intro g0 g ρ σ st k' st' Dn W tk en so ev f
  cases m with
  | set i e =>
    unfold mS1 at h
    dsimp only at h
    split at h
    · rename_i x px v p
      simp only [Bool.and_eq_true] at h
      obtain ⟨h1, h2, h3, h4⟩ := h
      obtain ⟨q1, q2⟩ := xo.loc h2
      unfold xS1 at ev
      have sw : swapsWith v (some (.Name x px)) p.line X.env = pure false := by
        cases e <;> first | (unfold xE at ev; cases ev; done) | skip
        · unfold mE at h3
          cases v <;> first | rfl | cases h3
        · unfold mE at h3
          cases v <;> first | rfl | cases h3
      exact psw (ps_set (by rw [xo.N]; exact xo.nd) (xo.slot h1) q1 we_pe sw q2) (sX e xo xx h3 tk en so ev f)
    · cases h
  | unp t e =>
    unfold mS1 at h
    dsimp only at h
    split at h
    · rename_i ts kx p v p2
      simp only [Bool.and_eq_true] at h
      unfold xS1 at ev
      exact psw (ps_asg we_pe (sG xo t _ h.2.1) (by exact sw_tup _ _) (by exact ss_tup h.1 _) rfl) (sX e xo xx h.2.2 tk en so ev f)
    · cases h
  | ret e =>
    unfold mS1 at h
    dsimp only at h
    split at h
    · rename_i v p
      unfold xS1 at ev
      exact psw (ps_ret we_pe) (sX e xo xx h tk en so ev f)
    · cases h
  | expr e =>
    unfold mS1 at h
    dsimp only at h
    split at h
    · rename_i v1 v2 v3 v4 p
      unfold xS1 at ev
      exact psw (ps_expr we_pe) (sX e xo xx h tk en so ev f)
    · cases h
  | rais k => exact sX_rais xo xx h tk en so ev f
  | _ => unfold xS1 at ev; cases ev
end
end Sf
/-! SfTry: a try with one clause. -/
namespace Sf
open PySem PySem.Spec PyProof.Rows L2

section
variable {c : MC} {X : Cx} {a : Addr} {k i : Nat}
/-- the law's look at an error is called -/
theorem hot_isE (hx : HX c X a k) (hr : L2H.RoomH 1 X.A) (ve : X.mg ("ValueError" : Str) = none) (er : ∀ (i : Nat) x k, c.err = some i → c.F[i]? = some (x, k) → ErrAt X.K X.mg c.E x) {f : Nat} {s : List Nat} {e : Expr} {σ : L2.St} (m : mH0 c i (.isE f s) e = true)
    (e1 : σ[i]? = some (some (.ref a))) {g : Gh} {st : Cells} (gi : GI g) (so : StOk X.K g st) {Q : VK} (q : ∀ g', Ext g g' → GI g' → StOk X.K g' st → Q (.bl (errOk k s)) g'.H) : WE X e σ g.H Q := by
  unfold mH0 at m
  dsimp only at m
  split at m
  · rename_i x p y z j pz pos
    simp only [Bool.and_eq_true,decide_eq_true_eq] at m
    obtain ⟨m1, m2, m3, m4, m5, m6, m7, m8⟩ := m
    obtain ⟨n1, n2, n3⟩ := nm_ok m2
    split at m8
    · rename_i p hp
      obtain ⟨x', k'⟩ := p
      obtain rfl := eqS_ok m8
      obtain ⟨fa, fd, params, body, scope, hm, F, bd, S, hbody⟩ := (er f _ _ m7 hp).ex
      subst m5
      intro pins s0 I
      refine wpAny_Call_Name_kw (ld_glob I (hx.gl m1) hm ?_ n1)
      have ha : PA X [y, .Constant (.str z) j pz] (tCons (WE X y) (tCons (tC (.str z)) tNil)) := pa_cons we_pe (pa_cons pe_str pa_nil) (starN m3)
      refine PySem.W.callWith_K (h₀ := X.base) I.ok.mod.kin F.kp (thn (ha.run pos pins s0 σ g.H (fun vs H1 => vs = [.ref a, .str z] ∧ H1 = g.H) I (hot_name hx m4 e1 ⟨rfl, rfl⟩)) fun us s1 hh => ?_) (starN m3) (by rfl)
      obtain ⟨vs, H1, I1, r, ev, eH⟩ := hh
      subst ev
      subst eH
      refine ⟨I1.kIn, ?_⟩
      obtain ⟨oc, od, dV, kV, doc, pm, an, cdv, ct, osl, rfl, lk, hcd, _, _⟩ := F.ex
      have b := bd s1 us I1.kIn (by rw [List.append_nil, ← r.length]; rfl)
      rw [List.append_nil] at b
      obtain ⟨oe, hp1, hz, hf⟩ := hx.pin
      have P1 := I1.pin (a, oe) (List.mem_append_left _ hp1)
      have hpin : L2H.PinOk X.stack g.H s1 (a, oe) := ⟨P1.1, P1.2.1, fun hm => (List.mem_cons.mp (I1.stkSub a hm)).elim P1.2.2.1 P1.2.2.2.1, P1.2.2.2.2⟩
      show wpAny _ _ (call (.ref fa) us) _ _ _
      refine wpAny_call (codeAny_mono (hot_call (CX := CX0) (E := fun _ _ _ => False) (Q := Q) lk hcd S hr hpin I1.env0 b r rfl fun hr' => ⟨WSs _ body, wss_pss, ?_⟩) fun r2 s' hq => ?_)
      · have hx' : HX (errMC scope c.E) (L2H.cxH CX0 X.prog X.w X.K X.mg X.base ["error", "due", "kinds"] x' scope fa cdv X.A X.stack s1 g.H (fun _ _ _ => False) (a, oe)) a k :=
          ⟨rfl, (show (["error", "due", "kinds"] : List Str).Nodup from by decide +kernel), rfl, hx.kE, ⟨oe, List.mem_singleton.mpr rfl, hz, hf⟩, hx.exf, hx.isi, by have := hr'.un; show (X.A.deeper _).units + 64 < _; omega⟩
        have key := hot_err (s := z.cps.toList) (x := none) (Dn := { nx := fun _ H' => Q .non H', rt := Q }) hx' S.kind ve hbody gi so m6 q
        have ez : (⟨z.cps.toList.toArray⟩ : Str) = z := by simp
        rw [ez] at key
        exact key
      · cases r2 with
        | error e => exact hq.elim
        | ok fl =>
          cases fl with
          | ret u => exact I1.after hq
          | next => exact False.elim hq
          | brk => exact False.elim hq
          | cont => exact False.elim hq
    · cases m8
  · cases m

/-- the other slots of the frame -/
def SL (K : PySem.W.Frag) (g : Gh) (i : Nat) (ρ : Env) (σ : L2.St) : Prop := ∀ (j : Nat) d, j ≠ i → ρ[j]? = some (.dat d) → ∃ v, σ[j]? = some (some v) ∧ Rep K g d v
theorem SL.step {K : PySem.W.Frag} {g g' : Gh} {i : Nat} {ρ : Env} {σ : L2.St} (h : SL K g i ρ σ) (gi : GI g) (x : Ext g g') : SL K g' i ρ σ := fun j d hj e => by
  obtain ⟨v, e1, e2⟩ := h j d hj e
  exact ⟨v, e1, Rep.le (x.le gi) d v e2⟩

structure HotS (c : MC) (X : Cx) (a : Addr) (k i : Nat) (σ : L2.St) : Prop where
  hx : HX c X a k
  hr : L2H.RoomH 1 X.A
  ve : X.mg ("ValueError" : Str) = none
  er : ∀ (i : Nat) x k, c.err = some i → c.F[i]? = some (x, k) → ErrAt X.K X.mg c.E x
  at_ : σ[i]? = some (some (.ref a))

theorem hot_bool {ρ : Env} {σ : L2.St} (S : HotS c X a k i σ) {f : Nat} {s : List Nat} {e : Expr} {g : Gh} {st : Cells} (gi : GI g) (so : StOk X.K g st) {Q : VK} {b : Bool} {h : HE} (hh : (h = .isE f s ∧ b = errOk k s) ∨ ∃ l, h = .isI l ∧ b = isSub k l) (m : mH0 c i h e = true)
    (q : ∀ g', Ext g g' → GI g' → StOk X.K g' st → Q (.bl b) g'.H) : WE X e σ g.H Q := by
  rcases hh with ⟨rfl, rfl⟩ | ⟨l, rfl, rfl⟩
  · exact hot_isE S.hx S.hr S.ve S.er m S.at_ gi so q
  · exact hot_isI S.hx m S.at_ (q g (.refl g) gi so)
mutual
theorem hot_E {ρ : Env} {σ : L2.St} (S : HotS c X a k i σ) : ∀ (h : HE) {e : Expr} {r : VR} {g : Gh} {st : Cells} {Q : VK}, mH c i h e = true → hE k ρ h = some r → GI g → StOk X.K g st → SL X.K g i ρ σ →
    (∀ v g', Ext g g' → GI g' → StOk X.K g' st → RepR X.K g g' r v → Q v g'.H) → WE X e σ g.H Q
  | .non, e, r, g, st, Q, m, ev, gi, so, sl, q => by
    unfold mH at m
    split at m
    · unfold hE at ev
      cases ev
      exact pew pe_non (q _ g (.refl g) gi so (by show Rep _ _ _ _; rw [Rep]))
    · cases m
  | .bl b, e, r, g, st, Q, m, ev, gi, so, sl, q => by
    unfold mH at m
    split at m
    · unfold hE at ev
      cases ev
      obtain rfl := of_decide_eq_true m
      exact pew pe_bl (q _ g (.refl g) gi so (by show Rep _ _ _ _; rw [Rep]))
    · cases m
  | .emp, e, r, g, st, Q, m, ev, gi, so, sl, q => by
    unfold mH at m
    split at m
    · unfold hE at ev
      cases ev
      refine pew (pe_lst pa_nil) ⟨by show 0 ≤ sizeLine; exact Nat.zero_le _, fun p hp => ?_⟩
      have nm : p ∉ g.m := fun z => by
        obtain ⟨⟨vs, e⟩, _⟩ := gi.cell p z
        rw [hp] at e; cases e
      refine q _ { g with H := upd g.H p (.lst []) } (.laid hp) (gi.laid hp) (so.laid gi hp) ⟨p, [], rfl, upd_same, nm, fun z => ?_, hp, .nil⟩
      exact gi.zed p z hp
    · cases m
  | .isN j, e, r, g, st, Q, m, ev, gi, so, sl, q => by
    unfold mH at m
    split at m
    · rename_i x jj pz pos
      simp only [Bool.and_eq_true,decide_eq_true_eq] at m
      unfold hE at ev
      have key : ∀ (d : D) (b : Bool), ρ[j]? = some (.dat d) → (b = true ↔ d = .non) → r = .dat (.bl b) → WE X (.Compare x [.Is] [.Constant .none jj pz] pos) σ g.H Q := fun d b hd hb hr => by
        obtain ⟨v, e1, e2⟩ := sl j d m.1 hd
        refine pew (pe_cmp (pc_isN we_pe)) (hot_name S.hx m.2 e1 ?_)
        have hv : decide (v = .non) = b := by
          cases d <;> rw [Rep] at e2 <;> first
            | (subst e2; cases b <;> simp at hb ⊢; done)
            | (obtain ⟨_, _, rfl, _⟩ := e2; cases b <;> simp at hb ⊢; done)
            | (obtain ⟨_, rfl, _⟩ := e2; cases b <;> simp at hb ⊢; done)
        rw [hv]
        subst hr
        exact q _ g (.refl g) gi so (rep_bl _)
      split at ev
      · rename_i hd; cases ev; exact key .non true hd (by simp) rfl
      · rename_i d hn hd
        cases ev
        exact key d false hd (by simp; intro e; exact hn e) rfl
      · cases ev
    · cases m
  | .isE f s, e, r, g, st, Q, m, ev, gi, so, sl, q => by
    unfold mH at m
    unfold hE at ev
    cases ev
    exact hot_bool (ρ := ρ) S gi so (.inl ⟨rfl, rfl⟩) m fun g' x gi' s' => q _ g' x gi' s' (rep_bl _)
  | .isI l, e, r, g, st, Q, m, ev, gi, so, sl, q => by
    unfold mH at m
    unfold hE at ev
    cases ev
    exact hot_bool (ρ := ρ) (f := 0) (s := []) S gi so (.inr ⟨l, rfl, rfl⟩) m fun g' x gi' s' => q _ g' x gi' s' (rep_bl _)
  | .nt h, e, r, g, st, Q, m, ev, gi, so, sl, q => by
    unfold mH at m
    split at m
    · unfold hE at ev
      obtain ⟨r1, e1, ev⟩ := bindE ev
      split at ev
      · rename_i b
        cases ev
        refine pew (pe_notT we_pe) (hot_E S h m e1 gi so sl fun v g' x gi' s' rv => ?_)
        exact ⟨b, sTru (d := .bl b) rfl (rv.rd gi'), q _ g' x gi' s' (rep_bl _)⟩
      · cases ev
    · cases m
  | .con h1 h2, e, r, g, st, Q, m, ev, gi, so, sl, q => by
    unfold mH at m
    split at m
    · simp only [Bool.and_eq_true] at m
      unfold hE at ev
      obtain ⟨r1, e1, ev⟩ := bindE ev
      refine pew (pe_and we_pe (pe_one we_pe)) ?_
      have key : ∀ b, r1 = .dat (.bl b) → ∀ {R : V → Hp → Prop}, (∀ g', Ext g g' → GI g' → StOk X.K g' st → R (.bl b) g'.H) → WE X _ σ g.H R := fun b hb R qq =>
        hot_E S h1 m.1 e1 gi so sl fun v g' x gi' s' rv => by
          subst hb
          have rv : Rep _ _ _ _ := rv
          rw [Rep] at rv
          subst rv
          exact qq g' x gi' s'
      split at ev
      · refine key true rfl fun g' x gi' s' => ⟨true, rfl, iteT ?_⟩
        exact hot_E S h2 m.2 ev gi' s' (sl.step gi x) fun v g2 x2 gi2 s2 rv => q v g2 (x.trans x2) gi2 s2 (rv.base x)
      · cases ev
        refine key false rfl fun g' x gi' s' => ⟨false, rfl, iteF ?_⟩
        exact q _ g' x gi' s' (rep_bl _)
      · cases ev
    · cases m
  | .ite h1 h2 h3, e, r, g, st, Q, m, ev, gi, so, sl, q => by
    unfold mH at m
    split at m
    · simp only [Bool.and_eq_true] at m
      unfold hE at ev
      obtain ⟨r1, e1, ev⟩ := bindE ev
      refine pew (pe_ifExp wt_pt we_pe we_pe) ?_
      split at ev
      · refine hot_T S h1 m.1 e1 gi so sl fun g' x gi' s' => iteT ?_
        exact hot_E S h2 m.2.1 ev gi' s' (sl.step gi x) fun v g2 x2 gi2 s2 rv => q v g2 (x.trans x2) gi2 s2 (rv.base x)
      · refine hot_T S h1 m.1 e1 gi so sl fun g' x gi' s' => iteF ?_
        exact hot_E S h3 m.2.2 ev gi' s' (sl.step gi x) fun v g2 x2 gi2 s2 rv => q v g2 (x.trans x2) gi2 s2 (rv.base x)
      · cases ev
    · cases m
theorem hot_T {ρ : Env} {σ : L2.St} (S : HotS c X a k i σ) : ∀ (h : HE) {e : Expr} {b : Bool} {g : Gh} {st : Cells} {Q : Bool → Hp → Prop}, mHt c i h e = true → hE k ρ h = some (.dat (.bl b)) → GI g → StOk X.K g st → SL X.K g i ρ σ →
    (∀ g', Ext g g' → GI g' → StOk X.K g' st → Q b g'.H) → WT X e σ g.H Q
  | .nt h, e, b, g, st, Q, m, ev, gi, so, sl, q => by
    unfold mHt at m
    split at m
    · unfold hE at ev
      obtain ⟨r1, e1, ev⟩ := bindE ev
      split at ev
      · cases ev
        exact ptw (pt_not wt_pt) (hot_T S h m e1 gi so sl fun g' x gi' s' => q g' x gi' s')
      · cases ev
    · cases m
  | .con h1 h2, e, b, g, st, Q, m, ev, gi, so, sl, q => by
    unfold mHt at m
    split at m
    · simp only [Bool.and_eq_true] at m
      unfold hE at ev
      obtain ⟨r1, e1, ev⟩ := bindE ev
      refine ptw ww_pw.pt (pww (pw_and wt_pt (pw_and1 wt_pt)) ?_)
      split at ev
      · refine hot_T S h1 m.1 e1 gi so sl fun g' x gi' s' => iteT ?_
        exact hot_T S h2 m.2 ev gi' s' (sl.step gi x) fun g2 x2 gi2 s2 => q g2 (x.trans x2) gi2 s2
      · cases ev
        exact hot_T S h1 m.1 e1 gi so sl fun g' x gi' s' => iteF (q g' x gi' s')
      · cases ev
    · cases m
  | .isE f s, e, b, g, st, Q, m, ev, gi, so, sl, q => by
    unfold mHt at m
    simp only [Bool.and_eq_true] at m
    unfold hE at ev
    cases ev
    refine ptw (pt_truth we_pe fun w => truthN m.1 w) (hot_bool (ρ := ρ) S gi so (.inl ⟨rfl, rfl⟩) m.2 fun g' x gi' s' => ?_)
    exact ⟨_, sTru (g := g') (d := .bl (errOk k s)) rfl (.bl _), q g' x gi' s'⟩
  | .isI l, e, b, g, st, Q, m, ev, gi, so, sl, q => by
    unfold mHt at m
    simp only [Bool.and_eq_true] at m
    unfold hE at ev
    cases ev
    refine ptw (pt_truth we_pe fun w => truthN m.1 w) (hot_bool (ρ := ρ) (f := 0) (s := []) S gi so (.inr ⟨l, rfl, rfl⟩) m.2 fun g' x gi' s' => ?_)
    exact ⟨_, sTru (g := g') (d := .bl (isSub k l)) rfl (.bl _), q g' x gi' s'⟩
  | .non, e, b, g, st, Q, m, ev, gi, so, sl, q => by unfold mHt at m; cases m
  | .bl b, e, _, g, st, Q, m, ev, gi, so, sl, q => by unfold mHt at m; cases m
  | .emp, e, b, g, st, Q, m, ev, gi, so, sl, q => by unfold mHt at m; cases m
  | .isN j, e, b, g, st, Q, m, ev, gi, so, sl, q => by unfold mHt at m; cases m
  | .ite _ _ _, e, b, g, st, Q, m, ev, gi, so, sl, q => by unfold mHt at m; cases m
end

/-- a try with one clause, whose suite hands back a value -/
theorem sS_try {C : CallT} {n : Nat} {b : MS} {cl : Nat} {hh : HE} {s : Stmt} (xo : XOk c C n X) (xx : XX c C n X) (hk : c.sc.kind = .function) (h : mS c (.tryR b cl i hh) s = true) : GS C (c.G.map (·.2)) X (.tryR b cl i hh) s := by
  intro g0 g ρ σ st out Dn en so ev f
  unfold mS at h
  split at h
  · rename_i t x nm e rp hp tp
    simp only [Bool.and_eq_true] at h
    obtain ⟨⟨h0, h1⟩, h2, h3, h4, h5⟩ := h
    unfold mCl at h2
    split at h2
    · rename_i y py
      simp only [Bool.and_eq_true,decide_eq_true_eq] at h2
      obtain ⟨n1, n2, n3⟩ := nm_ok h2.2.1
      obtain rfl := eqS_ok h2.2.2.1
      have hcl := h2.2.2.2
      have hln : X.env.kindOf nm = some .local := by
        show X.env.scope.names.lookup nm = _
        rw [xo.sc]
        unfold plB at h4
        split at h4
        · assumption
        · cases h4
      refine psw (ps_try_as (X := X) (i := i) (c := .ref (exA X.K cl)) (tb := fun W Dn σ H => ∀ pn xe, Takes (X.tr pn xe) W → WSs (X.tr pn xe) [t] Dn σ H) (ts := fun a cls d Dn σ H => ∀ oe pn, Zc cls d oe → (∃ vs, oe.data = .fields vs) → WSs (X.suite a ((a, oe) :: pn)) [.Return (some e) rp] Dn σ H) (Wout := fun _ _ _ _ => False)
        xx.stk xx.fr (by rw [xo.N]; exact xo.nd) (xo.slot h3) hln ⟨xo.gl h2.1, n1, .inl (xx.exf.gl cl hcl)⟩ takes0 (fun W pn xe tk _ => ⟨fun pins s σ H D I h => h pn xe tk pins s I⟩) (fun a oe cls d pn hz hf => ⟨fun pins s σ H D I h => h oe pn hz hf pins s I⟩)) ?_
      intro pn xe tk
      unfold eS at ev
      split at ev
      · rename_i k st' e1
        have hpos : 1 ≤ n := by
          rcases Nat.eq_zero_or_pos n with hz | hz
          · exfalso
            have no : ∀ {m : ME} {r : Nat × Cells}, xE C (c.G.map (·.2)) m ρ st = some r → False := fun hm => by
              obtain ⟨f, ds, st2, hc⟩ := xE_pos hm
              exact hc (xx.zero hz f ds st2)
            cases b <;> first
              | (unfold xS1 at e1; exact no e1)
              | (unfold xS1 at e1; cases e1; done)
              | (cases h0)
          · exact hz
        split at ev
        · rename_i hsub
          obtain ⟨d, ed, ev⟩ := mapE ev
          cases ev
          obtain ⟨r, er, ed⟩ := bindE ed
          refine pssw (pss_one ws_ps) (sX1 (xo.tr pn xe) (xx.tr pn xe) h1 tk en so e1 fun g' x' gi' s' hkE => ?_)
          refine ⟨true, by rw [← hsub.1]; exact xx.exf.em k hkE cl hcl, fun _ a ha oe pn' hz hf => ?_, fun q => nomatch q⟩
          have en' : EnvOk X.K g0 g' ρ σ := en.step x' gi'
          have hi : i < σ.length := by
            rw [← en.len]
            exact hsub.2
          have S : HotS c (X.suite a ((a, oe) :: pn')) a k i (σ.set i (some (.ref a))) := {
            hx := ⟨xo.N, xo.nd, xo.sc, hkE, ⟨oe, List.mem_cons_self, hz, hf⟩, xx.exf, xx.isi, (by show X.A.units + 64 < cLine; exact xo.units)⟩
            hr := ⟨by have := xo.room.dp; show X.A.depth + 3 * 1 + 5 < _; omega, by have := xo.room.un; show X.A.units + 16 * 1 + 200 < _; omega⟩
            ve := xx.ve
            er := xx.err
            at_ := by rw [List.getElem?_set_self hi] }
          refine pssw (pss_one (ps_ret we_pe)) (hot_E S hh h5 er gi' s' (fun j d' hj hd => ?_) fun v g2 x2 gi2 s2 rv => ?_)
          · obtain ⟨v, q1, q2⟩ := en'.dat j d' hd
            exact ⟨v, by rw [List.getElem?_set_ne (Ne.symm hj)]; exact q1, q2⟩
          · obtain ⟨g3, eH, x3, gi3, s3, q3, l3⟩ := RepR.data x2 gi2 s2 rv ed
            rw [← eH]
            exact f v g3 (en'.ext.trans x3) gi3 s3 q3
        · cases ev
      · exact pssw (pss_one ws_ps) (sS1 (xo.tr pn xe) hk h1 en so ev f)
    · cases h2
  · cases h
end
end Sf
/-! SfStm4: all statements. -/
namespace Sf
open PySem PySem.Spec PyProof.Rows L2

theorem whl_some {c : Env → Cells → Option (Bool × Cells)} {body : Env → Cells → Option Out} {ρ : Env} {st : Cells} {out : Out} (h : whl c body ρ st = some out) : ∃ k, whlL c body k ρ st = some out := by
  unfold whl at h
  split at h
  · rename_i hx
    cases h
    exact ⟨_, Classical.choose_spec (Classical.choose_spec hx)⟩
  · cases h

section
variable {C : CallT} {n : Nat} {c : MC} {X : Cx}
theorem sS_iff {d : ME} {a b : MSs} {s : Stmt} (xo : XOk c C n X) (h : mS c (.iff d a b) s = true) (ia : ∀ x, mSs c a x = true → GSs C (c.G.map (·.2)) X a x) (ib : ∀ x, mSs c b x = true → GSs C (c.G.map (·.2)) X b x) : GS C (c.G.map (·.2)) X (.iff d a b) s := by
  intro g0 g ρ σ st out Dn en so ev f
  unfold mS at h
  split at h
  · rename_i t x y p
    simp only [Bool.and_eq_true] at h
    unfold eS at ev
    obtain ⟨⟨r1, st1⟩, ea, ev⟩ := bindE ev
    dsimp only at ev
    refine psw (ps_if wt_pt wss_pss wss_pss) ?_
    refine sT d xo t h.1 en so ea fun g1 x1 gi1 s1 => ?_
    cases r1 with
    | true =>
      rw [if_pos rfl] at ev ⊢
      exact ia x h.2.1 (en.step x1 gi1) s1 ev (f.le (x1.le en.gi))
    | false =>
      rw [if_neg (by decide)] at ev ⊢
      exact ib y h.2.2 (en.step x1 gi1) s1 ev (f.le (x1.le en.gi))
  · cases h
theorem sS_forr {t : MT} {it : MI} {body : MSs} {s : Stmt} (xo : XOk c C n X) (hp : PassesOwn (model X.prog X.w) X.A X.env X.xe) (h : mS c (.forr t it body) s = true) (ib : ∀ x, mSs c body x = true → GSs C (c.G.map (·.2)) X body x) : GS C (c.G.map (·.2)) X (.forr t it body) s := by
  intro g0 g ρ σ st out Dn en so ev f
  unfold mS at h
  split at h
  · rename_i tg iter b p
    simp only [Bool.and_eq_true] at h
    obtain ⟨h1, h2, h3, h4⟩ := h
    unfold eS at ev
    obtain ⟨⟨items, st1⟩, ei, ev⟩ := bindE ev
    dsimp only at ev
    refine psw (ps_for hp xo.calm wi_pi (sG xo t tg h2) wss_pss (foldN h1)) ?_
    refine sI it xo tg iter h3 en so ei fun J g1 x1 gi1 s1 iok => ?_
    obtain ⟨Gd, Y, wk, hG, hY⟩ := iok.ok
    have l1 : RepLe g g1 := x1.le en.gi
    refine for_it wk (fun i σ' H => i ≤ items.length ∧ ∃ (g' : Gh) (ρ' : Env) (st3 : Cells), g'.H = H ∧ RepLe g1 g' ∧ EnvOk X.K g0 g' ρ' σ' ∧ StOk X.K g' st3 ∧ forL t (fun ρ' st' => eSs C (c.G.map (·.2)) body ρ' st') (items.drop i) ρ' st3 = some out) ?_ ?_ ?_ ?_
    · refine ⟨Nat.zero_le _, g1, ρ, st1, rfl, .refl g1, en.step x1 gi1, s1, ?_⟩
      rw [List.drop_zero]
      exact ev
    · rintro i σ' H hi ⟨_, g', ρ', st3, rfl, l, _⟩
      exact hG g' l
    · rintro i x σ' H H' hi ⟨_, g', ρ', st3, rfl, l, en', s', hl⟩ hy
      obtain ⟨dx, g2, e1, rfl, x2, gi2, s2, rx⟩ := hY i g' x H' st3 l en'.gi s' hi hy
      have hdrop : items.drop i = dx :: items.drop (i + 1) := by
        rw [List.drop_eq_getElem_cons hi]
        congr 1
        rw [List.getElem?_eq_getElem hi] at e1
        exact Option.some.inj e1
      rw [hdrop] at hl
      unfold forL at hl
      obtain ⟨ρ1, hb1, hl⟩ := bindE hl
      obtain ⟨o, ho, hl⟩ := bindE hl
      refine tgT t tg h2 rx hb1 (en'.step x2 gi2) fun σ1 en1 tk => ?_
      have l2 : RepLe g1 g2 := l.trans (x2.le en'.gi)
      refine ib b h4 en1 s2 ho ?_
      cases o with
      | nx ρ2 st2 => exact fun σ2 g3 l3 en3 s3 => ⟨hi, g3, ρ2, st2, rfl, l2.trans l3, en3, s3, hl⟩
      | cnt ρ2 st2 => exact fun σ2 g3 l3 en3 s3 => ⟨hi, g3, ρ2, st2, rfl, l2.trans l3, en3, s3, hl⟩
      | brk ρ2 st2 =>
        cases hl
        exact fun σ2 g3 l3 en3 s3 => f σ2 g3 (l1.trans (l2.trans l3)) en3 s3
      | ret d st2 =>
        cases hl
        exact f
    · rintro σ' H ⟨_, g', ρ', st3, rfl, l, en', s', hl⟩
      rw [List.drop_length] at hl
      unfold forL at hl
      cases hl
      exact f σ' g' (l1.trans l) en' s'
  · cases h
theorem sS_whl {d : ME} {body : MSs} {s : Stmt} (xo : XOk c C n X) (hp : PassesOwn (model X.prog X.w) X.A X.env X.xe) (h : mS c (.whl d body) s = true) (ib : ∀ x, mSs c body x = true → GSs C (c.G.map (·.2)) X body x) : GS C (c.G.map (·.2)) X (.whl d body) s := by
  intro g0 g ρ σ st out Dn en so ev f
  unfold mS at h
  split at h
  · rename_i t b p
    simp only [Bool.and_eq_true] at h
    unfold eS at ev
    obtain ⟨k, hk⟩ := whl_some ev
    refine psw (ps_while hp wt_pt wss_pss) ?_
    refine ⟨fun m σ' H => ∃ (g' : Gh) (ρ' : Env) (st3 : Cells), g'.H = H ∧ RepLe g g' ∧ EnvOk X.K g0 g' ρ' σ' ∧ StOk X.K g' st3 ∧ whlL (fun ρ' st' => eT C (c.G.map (·.2)) d ρ' st') (fun ρ' st' => eSs C (c.G.map (·.2)) body ρ' st') m ρ' st3 = some out, ⟨k, g, ρ, st, rfl, .refl g, en, so, hk⟩, ?_⟩
    rintro m σ' H ⟨g', ρ', st3, rfl, l, en', s', hl⟩
    cases m with
    | zero => unfold whlL at hl; cases hl
    | succ m =>
      unfold whlL at hl
      obtain ⟨⟨r1, st4⟩, ec, hl⟩ := bindE hl
      dsimp only at hl
      refine sT d xo t h.1 en' s' ec fun g2 x2 gi2 s2 => ?_
      have l2 : RepLe g g2 := l.trans (x2.le en'.gi)
      cases r1 with
      | true =>
        rw [if_pos rfl] at hl ⊢
        obtain ⟨o, ho, hl⟩ := bindE hl
        refine ⟨fun σ' H => ∃ (g' : Gh) (ρ' : Env) (st3 : Cells), g'.H = H ∧ RepLe g g' ∧ EnvOk X.K g0 g' ρ' σ' ∧ StOk X.K g' st3 ∧ whlL (fun ρ' st' => eT C (c.G.map (·.2)) d ρ' st') (fun ρ' st' => eSs C (c.G.map (·.2)) body ρ' st') m ρ' st3 = some out, fun σ' H' w => ⟨m, Nat.lt_succ_self m, w⟩, ?_⟩
        refine ib b h.2 (en'.step x2 gi2) s2 ho ?_
        cases o with
        | nx ρ2 st2 => exact fun σ2 g3 l3 en3 s3 => ⟨g3, ρ2, st2, rfl, l2.trans l3, en3, s3, hl⟩
        | cnt ρ2 st2 => exact fun σ2 g3 l3 en3 s3 => ⟨g3, ρ2, st2, rfl, l2.trans l3, en3, s3, hl⟩
        | brk ρ2 st2 =>
          cases hl
          exact fun σ2 g3 l3 en3 s3 => f σ2 g3 (l2.trans l3) en3 s3
        | ret d st2 =>
          cases hl
          exact f
      | false =>
        rw [if_neg (by decide)] at hl ⊢
        cases hl
        exact f σ' g2 l2 (en'.step x2 gi2) s2
  · cases h
theorem sSs_nil {s : List Stmt} (h : mSs c .nil s = true) : GSs C (c.G.map (·.2)) X .nil s := by
  intro g0 g ρ σ st out Dn en so ev f
  unfold mSs at h
  obtain rfl := List.isEmpty_iff.mp h
  unfold eSs at ev
  cases ev
  exact pssw pss_nil (f σ g (.refl g) en so)
theorem sSs_frz {i : Nat} {r : MSs} {s : List Stmt} (h : mSs c (.cons (.frz i) r) s = true) (ir : ∀ s, mSs c r s = true → GSs C (c.G.map (·.2)) X r s) : GSs C (c.G.map (·.2)) X (.cons (.frz i) r) s := by
  intro g0 g ρ σ st out Dn en so ev f
  unfold mSs at h
  dsimp only at h
  unfold eSs at ev
  obtain ⟨o, e1, ev⟩ := bindE ev
  unfold eS at e1
  split at e1
  · rename_i ds es
    cases e1
    have es := slotO_get es
    obtain ⟨a, vs, e1, e2, e3, e4, e5, e6⟩ := en.own i ds es
    have en2 := en.frz es e1 (by rw [e2]; simp) e3 e5 (d := .lst ds) (by rw [Rep]; exact ⟨a, vs, rfl, e2, .inr rfl, Reps.le .fr _ _ e6⟩)
    show WSs X s Dn σ (g.fr a).H
    exact ir s h en2 so.fr ev (f.le .fr)
  · cases e1
    exact ir s h en so ev f
theorem sSs_cons {m : MS} {r : MSs} {s : List Stmt} (h : (match s with | t :: l => mS c m t && mSs c r l | [] => false) = true) (im : ∀ s, mS c m s = true → GS C (c.G.map (·.2)) X m s) (ir : ∀ s, mSs c r s = true → GSs C (c.G.map (·.2)) X r s) : GSs C (c.G.map (·.2)) X (.cons m r) s := by
  intro g0 g ρ σ st out Dn en so ev f
  cases s with
  | nil => cases h
  | cons t l =>
    simp only [Bool.and_eq_true] at h
    unfold eSs at ev
    obtain ⟨o, e1, ev⟩ := bindE ev
    refine pssw (pss_cons ws_ps wss_pss) ?_
    refine im t h.1 en so e1 ?_
    cases o with
    | nx ρ1 st1 => exact fun σ1 g1 l1 en1 s1 => ir l h.2 en1 s1 ev (f.le l1)
    | ret d st1 => cases ev; exact f
    | brk ρ1 st1 => cases ev; exact f
    | cnt ρ1 st1 => cases ev; exact f
theorem sSs_any {m : MS} {r : MSs} {s : List Stmt} (h : mSs c (.cons m r) s = true) (im : ∀ s, mS c m s = true → GS C (c.G.map (·.2)) X m s) (ir : ∀ s, mSs c r s = true → GSs C (c.G.map (·.2)) X r s) : GSs C (c.G.map (·.2)) X (.cons m r) s := by
  cases m with
  | frz i => exact sSs_frz h ir
  | _ =>
    refine sSs_cons ?_ im ir
    unfold mSs at h
    cases s with
    | nil => exact h
    | cons t l => exact h
mutual
theorem sS (xo : XOk c C n X) (xx : XX c C n X) (hk : c.sc.kind = .function) (hp : PassesOwn (model X.prog X.w) X.A X.env X.xe) (m : MS) : ∀ s, mS c m s = true → GS C (c.G.map (·.2)) X m s := match m with
  | .iff d a b => fun s h => sS_iff xo h (sSs xo xx hk hp a) (sSs xo xx hk hp b)
  | .forr t it body => fun s h => sS_forr xo hp h (sSs xo xx hk hp body)
  | .whl d body => fun s h => sS_whl xo hp h (sSs xo xx hk hp body)
  | .set i e => fun s h => sS1 xo hk (by unfold mS at h; exact h)
  | .own i e => fun s h => sS1 xo hk (by unfold mS at h; exact h)
  | .unp t e => fun s h => sS1 xo hk (by unfold mS at h; exact h)
  | .par i j a b => fun s h => sS1 xo hk (by unfold mS at h; exact h)
  | .aug i sub e => fun s h => sS1 xo hk (by unfold mS at h; exact h)
  | .setIx i ix e => fun s h => sS1 xo hk (by unfold mS at h; exact h)
  | .setCell a ix e => fun s h => sS1 xo hk (by unfold mS at h; exact h)
  | .app i e => fun s h => sS1 xo hk (by unfold mS at h; exact h)
  | .ext i e => fun s h => sS1 xo hk (by unfold mS at h; exact h)
  | .frz i => fun s h => sS1 xo hk (by unfold mS at h; exact h)
  | .ret e => fun s h => sS1 xo hk (by unfold mS at h; exact h)
  | .retN => fun s h => sS1 xo hk (by unfold mS at h; exact h)
  | .brk => fun s h => sS1 xo hk (by unfold mS at h; exact h)
  | .cnt => fun s h => sS1 xo hk (by unfold mS at h; exact h)
  | .pass => fun s h => sS1 xo hk (by unfold mS at h; exact h)
  | .never => fun s h => sS1 xo hk (by unfold mS at h; exact h)
  | .expr e => fun s h => sS1 xo hk (by unfold mS at h; exact h)
  | .rais k => fun s h => sS1 xo hk (by unfold mS at h; exact h)
  | .tryR b cl i hh => fun s h => sS_try xo xx hk h
theorem sSs (xo : XOk c C n X) (xx : XX c C n X) (hk : c.sc.kind = .function) (hp : PassesOwn (model X.prog X.w) X.A X.env X.xe) (m : MSs) : ∀ s, mSs c m s = true → GSs C (c.G.map (·.2)) X m s := match m with
  | .nil => fun s h => sSs_nil h
  | .cons m r => fun s h => sSs_any h (sS xo xx hk hp m) (sSs xo xx hk hp r)
end

/-! ### what blocks raise -/
abbrev GX (C : CallT) (G : List D) (L : List Nat) (X : Cx) (m : MS) (s : Stmt) : Prop := ∀ {g0 g : Gh} {ρ : Env} {σ : L2.St} {st : Cells} {k : Nat} {st' : Cells} {Dn : Ends} {W : WX}, Takes X W →
  EnvOk X.K g0 g ρ σ → StOk X.K g st → xS C G m ρ st = some (k, st') → (∀ σ' g', Ext g0 g' → GI g' → StOk X.K g' st' → k ∈ L → W (.ref (exA X.K k)) none σ' g'.H) → WS X s Dn σ g.H
abbrev GXs (C : CallT) (G : List D) (L : List Nat) (X : Cx) (m : MSs) (s : List Stmt) : Prop := ∀ {g0 g : Gh} {ρ : Env} {σ : L2.St} {st : Cells} {k : Nat} {st' : Cells} {Dn : Ends} {W : WX}, Takes X W →
  EnvOk X.K g0 g ρ σ → StOk X.K g st → xSs C G m ρ st = some (k, st') → (∀ σ' g', Ext g0 g' → GI g' → StOk X.K g' st' → k ∈ L → W (.ref (exA X.K k)) none σ' g'.H) → WSs X s Dn σ g.H
section
variable {C : CallT} {n : Nat} {c : MC} {X : Cx}
theorem xS_small {m : MS} {s : Stmt} (xo : XOk c C n X) (xx : XX c C n X) (h : mS1 c m s = true) (e : ∀ ρ st, xS C (c.G.map (·.2)) m ρ st = xS1 C (c.G.map (·.2)) m ρ st) : GX C (c.G.map (·.2)) c.E X m s := by
  intro g0 g ρ σ st k st' Dn W tk en so ev f
  rw [e] at ev
  exact sX1 xo xx h tk en so ev fun g' x' gi' s' hk => f σ g' (en.ext.trans x') gi' s' hk
theorem xS_iff {d : ME} {a b : MSs} {s : Stmt} (xo : XOk c C n X) (h : mS c (.iff d a b) s = true) (ia : ∀ x, mSs c a x = true → GXs C (c.G.map (·.2)) c.E X a x) (ib : ∀ x, mSs c b x = true → GXs C (c.G.map (·.2)) c.E X b x) : GX C (c.G.map (·.2)) c.E X (.iff d a b) s := by
  intro g0 g ρ σ st k st' Dn W tk en so ev f
  unfold mS at h
  split at h
  · rename_i t x y p
    simp only [Bool.and_eq_true] at h
    unfold xS at ev
    obtain ⟨⟨r1, st1⟩, ea, ev⟩ := bindE ev
    dsimp only at ev
    refine psw (ps_if wt_pt wss_pss wss_pss) ?_
    refine sT d xo t h.1 en so ea fun g1 x1 gi1 s1 => ?_
    cases r1 with
    | true =>
      rw [if_pos rfl] at ev ⊢
      exact ia x h.2.1 tk (en.step x1 gi1) s1 ev f
    | false =>
      rw [if_neg (by decide)] at ev ⊢
      exact ib y h.2.2 tk (en.step x1 gi1) s1 ev f
  · cases h
theorem xS_forr {t : MT} {it : MI} {body : MSs} {s : Stmt} (xo : XOk c C n X) (hp : PassesOwn (model X.prog X.w) X.A X.env X.xe) (h : mS c (.forr t it body) s = true) (ib : ∀ x, mSs c body x = true → GSs C (c.G.map (·.2)) X body x) (ix : ∀ x, mSs c body x = true → GXs C (c.G.map (·.2)) c.E X body x) : GX C (c.G.map (·.2)) c.E X (.forr t it body) s := by
  intro g0 g ρ σ st k st' Dn W tk en so ev f
  unfold mS at h
  split at h
  · rename_i tg iter b p
    simp only [Bool.and_eq_true] at h
    obtain ⟨h1, h2, h3, h4⟩ := h
    unfold xS at ev
    obtain ⟨⟨items, st1⟩, ei, ev⟩ := bindE ev
    dsimp only at ev
    refine psw (ps_for hp xo.calm wi_pi (sG xo t tg h2) wss_pss (foldN h1)) ?_
    refine sI it xo tg iter h3 en so ei fun J g1 x1 gi1 s1 iok => ?_
    obtain ⟨Gd, Y, wk, hG, hY⟩ := iok.ok
    have l1 : RepLe g g1 := x1.le en.gi
    refine for_it wk (fun i σ' H => i ≤ items.length ∧ ∃ (g' : Gh) (ρ' : Env) (st3 : Cells), g'.H = H ∧ RepLe g1 g' ∧ EnvOk X.K g0 g' ρ' σ' ∧ StOk X.K g' st3 ∧ forX t (fun ρ' st' => eSs C (c.G.map (·.2)) body ρ' st') (fun ρ' st' => xSs C (c.G.map (·.2)) body ρ' st') (items.drop i) ρ' st3 = some (k, st')) ?_ ?_ ?_ ?_
    · refine ⟨Nat.zero_le _, g1, ρ, st1, rfl, .refl g1, en.step x1 gi1, s1, ?_⟩
      rw [List.drop_zero]
      exact ev
    · rintro i σ' H hi ⟨_, g', ρ', st3, rfl, l, _⟩
      exact hG g' l
    · rintro i x σ' H H' hi ⟨_, g', ρ', st3, rfl, l, en', s', hl⟩ hy
      obtain ⟨dx, g2, e1, rfl, x2, gi2, s2, rx⟩ := hY i g' x H' st3 l en'.gi s' hi hy
      have hdrop : items.drop i = dx :: items.drop (i + 1) := by
        rw [List.drop_eq_getElem_cons hi]
        congr 1
        rw [List.getElem?_eq_getElem hi] at e1
        exact Option.some.inj e1
      rw [hdrop] at hl
      unfold forX at hl
      obtain ⟨ρ1, hb1, hl⟩ := bindE hl
      refine tgT t tg h2 rx hb1 (en'.step x2 gi2) fun σ1 en1 tk1 => ?_
      have l2 : RepLe g1 g2 := l.trans (x2.le en'.gi)
      split at hl
      · rename_i ρ2 st2 ho
        exact ib b h4 en1 s2 ho fun σ2 g3 l3 en3 s3 => ⟨hi, g3, ρ2, st2, rfl, l2.trans l3, en3, s3, hl⟩
      · rename_i ρ2 st2 ho
        exact ib b h4 en1 s2 ho fun σ2 g3 l3 en3 s3 => ⟨hi, g3, ρ2, st2, rfl, l2.trans l3, en3, s3, hl⟩
      · cases hl
      · exact ix b h4 tk en1 s2 hl f
    · rintro σ' H ⟨_, g', ρ', st3, rfl, l, en', s', hl⟩
      rw [List.drop_length] at hl
      unfold forX at hl
      cases hl
  · cases h
theorem xSs_frz {i : Nat} {r : MSs} {s : List Stmt} (h : mSs c (.cons (.frz i) r) s = true) (ir : ∀ s, mSs c r s = true → GXs C (c.G.map (·.2)) c.E X r s) : GXs C (c.G.map (·.2)) c.E X (.cons (.frz i) r) s := by
  intro g0 g ρ σ st k st' Dn W tk en so ev f
  unfold mSs at h
  dsimp only at h
  unfold xSs at ev
  unfold eS at ev
  cases es : slotO ρ i with
  | some ds =>
    rw [es] at ev
    dsimp only at ev
    have es := slotO_get es
    obtain ⟨a, vs, e1, e2, e3, e4, e5, e6⟩ := en.own i ds es
    have en2 := en.frz es e1 (by rw [e2]; simp) e3 e5 (d := .lst ds) (by rw [Rep]; exact ⟨a, vs, rfl, e2, .inr rfl, Reps.le .fr _ _ e6⟩)
    show WSs X s Dn σ (g.fr a).H
    exact ir s h tk en2 so.fr ev f
  | none =>
    rw [es] at ev
    dsimp only at ev
    exact ir s h tk en so ev f
theorem xSs_cons {m : MS} {r : MSs} {s : List Stmt} (h : (match s with | t :: l => mS c m t && mSs c r l | [] => false) = true) (im : ∀ s, mS c m s = true → GS C (c.G.map (·.2)) X m s) (ix : ∀ s, mS c m s = true → GX C (c.G.map (·.2)) c.E X m s) (ir : ∀ s, mSs c r s = true → GXs C (c.G.map (·.2)) c.E X r s) : GXs C (c.G.map (·.2)) c.E X (.cons m r) s := by
  intro g0 g ρ σ st k st' Dn W tk en so ev f
  cases s with
  | nil => cases h
  | cons t l =>
    simp only [Bool.and_eq_true] at h
    unfold xSs at ev
    refine pssw (pss_cons ws_ps wss_pss) ?_
    split at ev
    · rename_i ρ1 st1 e1
      exact im t h.1 en so e1 fun σ1 g1 l1 en1 s1 => ir l h.2 tk en1 s1 ev f
    · cases ev
    · exact ix t h.1 tk en so ev f
theorem xSs_any {m : MS} {r : MSs} {s : List Stmt} (h : mSs c (.cons m r) s = true) (im : ∀ s, mS c m s = true → GS C (c.G.map (·.2)) X m s) (ix : ∀ s, mS c m s = true → GX C (c.G.map (·.2)) c.E X m s) (ir : ∀ s, mSs c r s = true → GXs C (c.G.map (·.2)) c.E X r s) : GXs C (c.G.map (·.2)) c.E X (.cons m r) s := by
  cases m with
  | frz i => exact xSs_frz h ir
  | _ =>
    refine xSs_cons ?_ im ix ir
    unfold mSs at h
    cases s with
    | nil => exact h
    | cons t l => exact h
mutual
theorem xS_ok (xo : XOk c C n X) (xx : XX c C n X) (hk : c.sc.kind = .function) (hp : PassesOwn (model X.prog X.w) X.A X.env X.xe) (m : MS) : ∀ s, mS c m s = true → GX C (c.G.map (·.2)) c.E X m s := match m with
  | .iff d a b => fun s h => xS_iff xo h (xSs_ok xo xx hk hp a) (xSs_ok xo xx hk hp b)
  | .forr t it body => fun s h => xS_forr xo hp h (sSs xo xx hk hp body) (xSs_ok xo xx hk hp body)
  | .set i e => fun s h => xS_small xo xx (by unfold mS at h; exact h) fun ρ st => by unfold xS xS1; rfl
  | .unp t e => fun s h => xS_small xo xx (by unfold mS at h; exact h) fun ρ st => by unfold xS xS1; rfl
  | .ret e => fun s h => xS_small xo xx (by unfold mS at h; exact h) fun ρ st => by unfold xS xS1; rfl
  | .expr e => fun s h => xS_small xo xx (by unfold mS at h; exact h) fun ρ st => by unfold xS xS1; rfl
  | .rais k => fun s h => xS_small xo xx (by unfold mS at h; exact h) fun ρ st => by unfold xS xS1; rfl
  | .own i e => fun s h => by intro g0 g ρ σ st k st' Dn W tk en so ev f; unfold xS at ev; cases ev
  | .par i j a b => fun s h => by intro g0 g ρ σ st k st' Dn W tk en so ev f; unfold xS at ev; cases ev
  | .aug i s' e => fun s h => by intro g0 g ρ σ st k st' Dn W tk en so ev f; unfold xS at ev; cases ev
  | .setIx i ix e => fun s h => by intro g0 g ρ σ st k st' Dn W tk en so ev f; unfold xS at ev; cases ev
  | .setCell a ix e => fun s h => by intro g0 g ρ σ st k st' Dn W tk en so ev f; unfold xS at ev; cases ev
  | .app i e => fun s h => by intro g0 g ρ σ st k st' Dn W tk en so ev f; unfold xS at ev; cases ev
  | .ext i e => fun s h => by intro g0 g ρ σ st k st' Dn W tk en so ev f; unfold xS at ev; cases ev
  | .frz i => fun s h => by intro g0 g ρ σ st k st' Dn W tk en so ev f; unfold xS at ev; cases ev
  | .retN => fun s h => by intro g0 g ρ σ st k st' Dn W tk en so ev f; unfold xS at ev; cases ev
  | .brk => fun s h => by intro g0 g ρ σ st k st' Dn W tk en so ev f; unfold xS at ev; cases ev
  | .cnt => fun s h => by intro g0 g ρ σ st k st' Dn W tk en so ev f; unfold xS at ev; cases ev
  | .pass => fun s h => by intro g0 g ρ σ st k st' Dn W tk en so ev f; unfold xS at ev; cases ev
  | .never => fun s h => by intro g0 g ρ σ st k st' Dn W tk en so ev f; unfold xS at ev; cases ev
  | .whl d body => fun s h => by intro g0 g ρ σ st k st' Dn W tk en so ev f; unfold xS at ev; cases ev
  | .tryR b cl i hh => fun s h => by intro g0 g ρ σ st k st' Dn W tk en so ev f; unfold xS at ev; cases ev
theorem xSs_ok (xo : XOk c C n X) (xx : XX c C n X) (hk : c.sc.kind = .function) (hp : PassesOwn (model X.prog X.w) X.A X.env X.xe) (m : MSs) : ∀ s, mSs c m s = true → GXs C (c.G.map (·.2)) c.E X m s := match m with
  | .nil => fun s h => by intro g0 g ρ σ st k st' Dn W tk en so ev f; unfold xSs at ev; cases ev
  | .cons m r => fun s h => xSs_any h (sS xo xx hk hp m) (xS_ok xo xx hk hp m) (xSs_ok xo xx hk hp r)
end
end
end
end Sf
/-! SfFun: the defs, at every level; the head's facts. -/
namespace Sf
open PySem PySem.Spec PyProof.Rows L2

/-! ### a def's own facts -/
def locP (sc : Scope) (x : Str) : Bool := match sc.names.lookup x with
  | some .local => true
  | some .cell => true
  | _ => false
def scB (N ps : List Str) (sc : Scope) : Bool := decide (sc.kind = .function) && (!sc.isCoroutine && (!sc.isGenerator && (decide N.Nodup && (decide (N.take ps.length = ps) && (ps.all (locP sc) && sc.names.all fun y => !(decide (y.2 = .free)))))))
theorem scB_ok {N ps : List Str} {sc : Scope} (h : scB N ps sc = true) : FnScope N ps sc := by
  unfold scB at h
  simp only [Bool.and_eq_true,decide_eq_true_eq,Bool.not_eq_true',List.all_eq_true,decide_eq_false_iff_not] at h
  obtain ⟨h1, h2, h3, h4, h5, h6, h7⟩ := h
  refine ⟨h1, h2, h3, h4, h5, fun x hx => ?_, fun y hy => h7 y hy⟩
  have := h6 x hx
  unfold locP at this
  split at this
  · rename_i e; exact .inl e
  · rename_i e; exact .inr e
  · cases this
def mcOf (T : Prog) (d : Def) (sc : Scope) : MC := ⟨d.N, sc, fun _ => true, T.fns.map fun d => (d.name, d.k), T.gls, T.err, T.exc⟩
/-- the law's look at errors is written as it should be -/
def errChk (T : Prog) (sts : List Stmt) : Bool := match T.err with
  | none => true
  | some i => match T.fns[i]?, sts[i]? with
    | some d, some st => decide (d.N = (["error", "due", "kinds"] : List Str)) && (decide (d.k = 2) && errB (errMC (defScope st) T.exc) (defBody st))
    | _, _ => false
def defB (T : Prog) (d : Def) (st : Stmt) : Bool := scB d.N (d.N.take d.k) (defScope st) && (decide (d.k ≤ d.N.length) && mSs (mcOf T d (defScope st)) d.body (defBody st))
/-- a def's parameters are taken one by one -/
def BindsP (ps : List Str) (params : Arguments) : Prop :=
  ∀ (name qual : Str) (body : List Stmt) (scope : Scope) (kV doc pm : Value) (an : Option Addr) (cdv ct : Value) (us : List Value), us.length = ps.length → bindArgs (PySem.W.fnOf name qual params body scope .none kV doc pm an cdv ct) ⟨us, []⟩ = pure (ps.zip us)

/-! ### what stands around the defs -/
structure Around_ (K : PySem.W.Frag) (mg : Str → Option Value) (T : Prog) (sts : List Stmt) : Prop where
  fn : ∀ (i : Nat) d, T.fns[i]? = some d → ∃ st f fd, sts[i]? = some st ∧ mg d.name = some (.ref f) ∧ FunD K d.name d.name (defArgs st) (defBody st) (defScope st) [] [] f fd
  def_ : ∀ (i : Nat) d st, T.fns[i]? = some d → sts[i]? = some st → defB T d st = true ∧ BindsP (d.N.take d.k) (defArgs st)
  gl : ∀ (i : Nat) x d, T.gls[i]? = some (x, d) → ∃ v u, mg x = some u ∧ RelV v u ∧ (∀ g, Rep K g d v) ∧ ∀ ds, d = .tup ds → ∃ a o, v = .ref a ∧ K.lookup a = some o ∧ o.cls = .type "tuple" ∧ o.dict = none
  blt : ∀ x ∈ bltNames, mg (Str.ofString x) = none
  few : T.fns.length ≤ XB
  exf : ExF K mg T.exc
  err : errChk T sts = true

theorem start_get {n : Nat} {ds : List D} {i : Nat} {s : Slot} (h : (start n ds)[i]? = some s) : (s = .un) ∨ ∃ d, ds[i]? = some d ∧ s = .dat d := by
  unfold start at h
  by_cases hi : i < ds.length
  · rw [List.getElem?_append_left (by simpa using hi), List.getElem?_map] at h
    obtain ⟨d, e1, e2⟩ := mapE h
    exact .inr ⟨d, e1, e2.symm⟩
  · rw [List.getElem?_append_right (by simpa using hi), List.getElem?_replicate] at h
    split at h
    · exact .inl (Option.some.inj h).symm
    · cases h
theorem env_start {K : PySem.W.Frag} {g : Gh} {N : List Str} {ds : List D} {vs : List V} (gi : GI g) (r : Reps K g ds vs) : EnvOk K g g (start N.length ds) (L2.start N vs) where
  len := by
    unfold start L2.start
    simp [r.length]
  ext := .refl g
  gi := gi
  dat := fun i d e => by
    rcases start_get e with e | ⟨d', e1, e2⟩
    · cases e
    · cases e2
      obtain ⟨v, e3, r3⟩ := r.get e1
      refine ⟨v, ?_, r3⟩
      unfold L2.start
      have hi : i < vs.length := (List.getElem?_eq_some_iff.mp e3).1
      rw [List.getElem?_append_left (by simpa using hi), List.getElem?_map, e3]
      rfl
  own := fun i ds' e => by
    rcases start_get e with e | ⟨d', e1, e2⟩
    · cases e
    · cases e2
  sep := fun i j di dj a e1 _ _ _ => by
    rcases start_get e1 with e | ⟨d', e1, e2⟩
    · cases e
    · cases e2

section
variable {P : Program} {w : World} {K : PySem.W.Frag} {mg : Str → Option Value} {base : Heap} {T : Prog} {sts : List Stmt}
theorem sp_len {n i : Nat} {d : Def} (hd : T.fns[i]? = some d) (hk : d.k ≤ d.N.length) : ∀ vs H Q E, spF K (callN T n) i vs H Q E → vs.length = (d.N.take d.k).length := by
  rintro vs H Q E ⟨g, ds, st, r, rfl, rs, gi, so, hc, _⟩
  cases n with
  | zero => cases hc
  | succ n =>
    unfold callN at hc
    rw [hd] at hc
    have hc : runDef (callN T n) (T.gls.map (·.2)) d ds st = some r := hc
    unfold runDef at hc
    split at hc
    · rename_i e
      rw [← rs.length, e]
      simp [hk]
    · cases hc
theorem callX_eq {n i : Nat} {d : Def} (few : T.fns.length ≤ XB) (hd : T.fns[i]? = some d) (ds : List D) (st : Cells) : callN T (n + 1) (XB + i) ds st = runDefX (callN T n) (T.gls.map (·.2)) d ds st := by
  have h : T.fns[XB + i]? = none := List.getElem?_eq_none (by omega)
  show (match T.fns[XB + i]? with
    | some d => runDef (callN T n) (T.gls.map fun x : Str × D => x.2) d ds st
    | none => if XB ≤ XB + i then (T.fns[XB + i - XB]?).bind fun d => runDefX (callN T n) (T.gls.map fun x : Str × D => x.2) d ds st else none) = _
  rw [h]
  dsimp only
  rw [if_pos (Nat.le_add_right _ _), Nat.add_sub_cancel_left, hd]
  rfl
theorem sp_lenX {n i : Nat} {d : Def} (few : T.fns.length ≤ XB) (hd : T.fns[i]? = some d) (hk : d.k ≤ d.N.length) : ∀ vs H Q E, spX K T.exc (callN T n) i vs H Q E → vs.length = (d.N.take d.k).length := by
  rintro vs H Q E ⟨g, ds, st, k, st', rfl, rs, gi, so, hc, _⟩
  cases n with
  | zero => cases hc
  | succ n =>
    rw [callX_eq few hd] at hc
    unfold runDefX at hc
    split at hc
    · rename_i e
      rw [← rs.length, e]
      simp [hk]
    · cases hc
theorem Around_.errAt (W : Around_ K mg T sts) {i : Nat} {x : Str} {k : Nat} (e : T.err = some i) (hx : (T.fns.map fun d => (d.name, d.k))[i]? = some (x, k)) : ErrAt K mg T.exc x := by
  have h := W.err
  unfold errChk at h
  rw [e] at h
  dsimp only at h
  rw [List.getElem?_map] at hx
  obtain ⟨d, e1, e2⟩ := mapE hx
  cases e2
  rw [e1] at h
  cases e3 : sts[i]? with
  | none => rw [e3] at h; cases h
  | some st =>
    rw [e3] at h
    simp only [Bool.and_eq_true,decide_eq_true_eq] at h
    obtain ⟨h1, h2, h3⟩ := h
    obtain ⟨st', f, fd, hs, hm, F⟩ := W.fn i d e1
    rw [e3] at hs
    cases hs
    obtain ⟨hb, hbi⟩ := W.def_ i d st e1 e3
    unfold defB at hb
    simp only [Bool.and_eq_true,decide_eq_true_eq] at hb
    have S := scB_ok hb.1
    have et : d.N.take d.k = (["error", "due"] : List Str) := by rw [h1, h2]; rfl
    have B := F.bindsN (ps := d.N.take d.k) fun kV doc pm an cdv ct us hl => hbi _ _ _ _ _ _ _ _ _ _ _ hl
    rw [et] at S B
    rw [h1] at S
    exact ⟨f, fd, _, _, _, hm, F, B, S, h3⟩
theorem fn_both (W : Around_ K mg T sts) : ∀ (n i : Nat) d st f fd, T.fns[i]? = some d → sts[i]? = some st → FunD K d.name d.name (defArgs st) (defBody st) (defScope st) [] [] f fd →
    FnOk P w K mg base CX0 n f fd (d.N.take d.k) (spF K (callN T n) i) ∧ FnOk P w K mg base (L2.CX P w) n f fd (d.N.take d.k) (spX K T.exc (callN T n) i)
  | 0, i, d, st, f, fd, hd, hs, F => by
    obtain ⟨hb, hbi⟩ := W.def_ i d st hd hs
    unfold defB at hb
    simp only [Bool.and_eq_true,decide_eq_true_eq] at hb
    refine ⟨⟨sp_len hd hb.2.1, fun A outer s H args us vs Q E hr he hbs hv hsp => ?_⟩, ⟨sp_lenX W.few hd hb.2.1, fun A outer s H args us vs Q E hr he hbs hv hsp => ?_⟩⟩
    · obtain ⟨g, ds, st, r, _, _, _, _, hc, _⟩ := hsp
      cases hc
    · obtain ⟨g, ds, st, k, st', _, _, _, _, hc, _⟩ := hsp
      cases hc
  | n + 1, i, d, st, f, fd, hd, hs, F => by
    obtain ⟨hb, hbi⟩ := W.def_ i d st hd hs
    unfold defB at hb
    simp only [Bool.and_eq_true,decide_eq_true_eq] at hb
    obtain ⟨b1, b2, b3⟩ := hb
    have S := scB_ok b1
    have xo : ∀ (X : Cx), X.N = d.N → X.env.scope = defScope st → X.fn = (fun _ => true) → X.calm = true → Room n X.A → X.prog = P → X.w = w → X.K = K → X.mg = mg → X.base = base → XOk (mcOf T d (defScope st)) (callN T n) n X := fun X e1 e2 e3 e4 hr e5 e6 e7 e8 e9 => by
      exact {
        N := e1
        nd := S.nd
        sc := e2
        fn := fun x _ => by rw [e3]
        calm := e4
        room := hr
        fns := fun j x k hj => by
          have hj : (T.fns.map fun d => (d.name, d.k))[j]? = some (x, k) := hj
          rw [List.getElem?_map] at hj
          obtain ⟨d', e1, e2⟩ := mapE hj
          cases e2
          obtain ⟨st', f', fd', hs', hm', F'⟩ := W.fn j d' e1
          have hbi' := (W.def_ j d' st' e1 hs').2
          rw [e5, e6, e7, e8, e9]
          exact ⟨f', fd', _, hm', F'.kp, F'.bindsN fun kV doc pm an cdv ct us hl => hbi' _ _ _ _ _ _ _ _ _ _ _ hl, (fn_both W n j d' st' f' fd' e1 hs' F').1⟩
        gls := by rw [e7, e8]; exact fun j x d' hj => W.gl j x d' hj
        blt := by rw [e8]; exact W.blt }
    have xx : ∀ (X : Cx), X.stack = X.env :: X.outer → X.env.frame = some X.env.locals → X.prog = P → X.w = w → X.K = K → X.mg = mg → X.base = base → XX (mcOf T d (defScope st)) (callN T n) n X := fun X e1 e2 e5 e6 e7 e8 e9 => by
      exact {
        zero := fun h f ds st => by subst h; rfl
        stk := e1
        fr := e2
        exf := by rw [e7, e8]; exact W.exf
        isi := by rw [e8]; exact W.blt "isinstance" (by decide)
        ve := by rw [e8]; exact W.blt "ValueError" (by decide)
        fnx := fun j x k hj => by
          have hj : (T.fns.map fun d => (d.name, d.k))[j]? = some (x, k) := hj
          rw [List.getElem?_map] at hj
          obtain ⟨d', e1, e2⟩ := mapE hj
          cases e2
          obtain ⟨st', f', fd', hs', hm', F'⟩ := W.fn j d' e1
          have hbi' := (W.def_ j d' st' e1 hs').2
          rw [e5, e6, e7, e8, e9]
          exact ⟨f', fd', _, hm', F'.kp, F'.bindsN fun kV doc pm an cdv ct us hl => hbi' _ _ _ _ _ _ _ _ _ _ _ hl, (fn_both W n j d' st' f' fd' e1 hs' F').2⟩
        err := by rw [e7, e8]; exact fun j x k he hj => W.errAt he hj }
    refine ⟨F.ok S (sp_len hd b2) fun cdv A outer s H vs Q E hr hsp => ?_, F.ok S (sp_lenX W.few hd b2) fun cdv A outer s H vs Q E hr hsp => ?_⟩
    · refine ⟨WSs (cxOf CX0 P w K mg base d.N d.name (defScope st) f cdv A outer s H E).nox (defBody st), PSs.nox wss_pss, ?_⟩
      obtain ⟨g, ds, st0, r, rfl, rs, gi, so, hc, fin⟩ := hsp
      unfold callN at hc
      rw [hd] at hc
      have hc : runDef (callN T n) (T.gls.map (·.2)) d ds st0 = some r := hc
      unfold runDef at hc
      split at hc
      · obtain ⟨o, ho, hc⟩ := bindE hc
        refine sSs (xo _ rfl rfl rfl rfl hr rfl rfl rfl rfl rfl) (xx _ rfl rfl rfl rfl rfl rfl rfl) S.kind PassesOwn.never d.body (defBody st) b3 (g0 := g) (out := o) (env_start gi rs) so ho ?_
        cases o with
        | nx ρ st' =>
          cases hc
          exact fun σ g' l en s' => fin .non g' en.ext en.gi s' (by rw [Rep])
        | ret x st' =>
          cases hc
          exact fun v g' x' gi' s' r' => fin v g' x' gi' s' r'
        | brk => cases hc
        | cnt => cases hc
      · cases hc
    · refine ⟨WSs (cxOf (L2.CX P w) P w K mg base d.N d.name (defScope st) f cdv A outer s H E) (defBody st), wss_pss, ?_⟩
      obtain ⟨g, ds, st0, k, st', rfl, rs, gi, so, hc, fin⟩ := hsp
      rw [callX_eq W.few hd] at hc
      unfold runDefX at hc
      split at hc
      · obtain ⟨⟨k', st2⟩, ho, hc⟩ := mapE hc
        cases hc
        exact xSs_ok (xo _ rfl rfl rfl rfl hr rfl rfl rfl rfl rfl) (xx _ rfl rfl rfl rfl rfl rfl rfl) S.kind (passes_of rfl) d.body (defBody st) b3 (g0 := g) (W := fun cls d _ H => E cls d H) (takes_of rfl rfl rfl rfl) (env_start gi rs) so ho fun σ' g' x' gi' s' hk => fin g' x' gi' s' hk
      · cases hc
theorem fn_all (W : Around_ K mg T sts) (n i : Nat) (d : Def) (st : Stmt) (f : Addr) (fd : FuncData) (hd : T.fns[i]? = some d) (hs : sts[i]? = some st) (F : FunD K d.name d.name (defArgs st) (defBody st) (defScope st) [] [] f fd) : FnOk P w K mg base CX0 n f fd (d.N.take d.k) (spF K (callN T n) i) := (fn_both W n i d st f fd hd hs F).1
end

/-! ### constants -/
mutual
theorem cst_ok {K : PySem.W.Frag} : ∀ (d : D) (u : Value), cstB K d u = true → ∃ v, RelV v u ∧ (∀ g, Rep K g d v) ∧ ∀ ds, d = .tup ds → ∃ a o, v = .ref a ∧ K.lookup a = some o ∧ o.cls = .type "tuple" ∧ o.dict = none
  | .non, u, h => by
    unfold cstB at h
    cases u <;> first | cases h | skip
    exact ⟨.non, rfl, fun g => (by rw [Rep]), fun ds e => nomatch e⟩
  | .bl b, u, h => by
    unfold cstB at h
    cases u <;> first | (cases h; done) | skip
    have h := of_decide_eq_true h
    subst h
    exact ⟨.bl b, rfl, fun g => (by rw [Rep]), fun ds e => nomatch e⟩
  | .int i, u, h => by
    unfold cstB at h
    cases u <;> first | (cases h; done) | skip
    have h := of_decide_eq_true h
    subst h
    exact ⟨.int _, ⟨_, rfl⟩, fun g => (by rw [Rep]), fun ds e => nomatch e⟩
  | .str s, u, h => by
    unfold cstB at h
    cases u <;> first | (cases h; done) | skip
    have h := of_decide_eq_true h
    subst h
    exact ⟨.str _, ⟨_, rfl⟩, fun g => (by rw [Rep]), fun ds e => nomatch e⟩
  | .tup ds, u, h => by
    unfold cstB at h
    cases u <;> first | (cases h; done) | skip
    rename_i a
    dsimp only at h
    split at h
    · rename_i c its n sl q
      simp only [Bool.and_eq_true,decide_eq_true_eq] at h
      obtain ⟨h1, h2, h3⟩ := h
      subst h1
      obtain ⟨vs, r1, r2⟩ := cst_oks ds its.toList h3
      refine ⟨.ref a, rfl, fun g => ?_, fun ds' e => ⟨a, _, rfl, q, rfl, rfl⟩⟩
      rw [Rep]
      exact ⟨a, vs, rfl, .inr ⟨_, its, n, q, rfl, rfl, h2, r1⟩, r2 g⟩
    · cases h
  | .lst ds, u, h => by unfold cstB at h; cases h
  | .rol ds, u, h => by unfold cstB at h; cases h
  | .ptr k, u, h => by unfold cstB at h; cases h
theorem cst_oks {K : PySem.W.Frag} : ∀ (ds : List D) (us : List Value), cstBs K ds us = true → ∃ vs, Vals vs us ∧ ∀ g, Reps K g ds vs
  | [], us, h => by
    unfold cstBs at h
    rw [List.isEmpty_iff.mp h]
    exact ⟨[], .nil, fun g => .nil⟩
  | d :: ds, us, h => by
    unfold cstBs at h
    cases us with
    | nil => cases h
    | cons u us =>
      simp only [Bool.and_eq_true] at h
      obtain ⟨v, r1, r2, _⟩ := cst_ok d u h.1
      obtain ⟨vs, r3, r4⟩ := cst_oks ds us h.2
      exact ⟨v :: vs, .cons r1 r3, fun g => .cons (r2 g) (r4 g)⟩
end
/-! ### the Hook -/
theorem exB_ok {K : PySem.W.Frag} {h : Heap} {mg : Str → Option Value} {L : List Nat} (X : K.In h) (G : h.Ns mainGlobals mg) (e : exB K L = true) : ExF K mg L := by
  unfold exB at e
  rw [List.all_eq_true] at e
  have one : ∀ k ∈ L, exB1 K k = true ∧ ∀ l ∈ L, exB2 K k l = true := fun k hk => by
    have := e k hk
    rw [Bool.and_eq_true, List.all_eq_true] at this
    exact this
  have q1 : ∀ k ∈ L, _ := fun k hk => by
    have := (one k hk).1
    unfold exB1 at this
    simp only [Bool.and_eq_true,decide_eq_true_eq] at this
    exact this
  have q2 : ∀ k ∈ L, ∀ l ∈ L, _ := fun k hk l hl => by
    have := (one k hk).2 l hl
    unfold exB2 at this
    simp only [Bool.and_eq_true,decide_eq_true_eq] at this
    exact this
  exact {
    gl := fun k hk => He.glo_ok X G (q1 k hk).1
    ex := fun k hk => (q1 k hk).2.1
    cl := fun k hk => by
      obtain ⟨_, _, h1, h2, h3, h4, h5, h6, h7, h8, _⟩ := q1 k hk
      exact ⟨He.eqO_ok h1, He.eqO_ok h2, h3, h4, He.eqO_ok h5, He.eqO_ok h6, h7, h8⟩
    ve := fun k hk => by
      obtain ⟨_, _, _, _, _, _, _, _, _, _, h⟩ := q1 k hk
      exact h
    ki := fun k hk l hl => (q2 k hk l hl).1
    em := fun k hk l hl => (q2 k hk l hl).2 }
theorem around_of {K : PySem.W.Frag} {h : Heap} {mg : Str → Option Value} {T : Prog} {sts : List Stmt} (X : K.In h) (G : h.Ns mainGlobals mg) (hl : T.fns.length = sts.length) (few : T.fns.length ≤ XB) (er : errChk T sts = true) (c : SaysC (faOf T) (fnOf_ T sts) T.gls T.exc K)
    (hd : ∀ (i : Nat) d st, T.fns[i]? = some d → sts[i]? = some st → defB T d st = true ∧ BindsP (d.N.take d.k) (defArgs st)) : Around_ K mg T sts where
  fn := fun i d e => by
    have c1 : He.SaysD (faOf T) (fnOf_ T sts) K := congrArg (fun z : AlG => z.1) c
    have hi : i < sts.length := by rw [← hl]; exact (List.getElem?_eq_some_iff.mp e).1
    have e2 : sts[i]? = some sts[i] := List.getElem?_eq_getElem hi
    have e3 : (fnOf_ T sts)[i]? = some (dOf d sts[i]) := by
      unfold fnOf_
      rw [List.getElem?_zipWith, e, e2]
    obtain ⟨fd, F⟩ := c1.def_ i e3
    have e4 : (faOf T)[bltNames.length + i]? = some (.glo d.name) := by
      unfold faOf
      rw [List.getElem?_append_right (by simp)]
      simp [e]
    exact ⟨sts[i], _, fd, e2, He.glo_ok X G (c1.fact _ e4), F⟩
  def_ := hd
  few := few
  err := er
  exf := exB_ok X G (by
    have c2 : (T.gls.all (glBq K) && exB K T.exc) = true := congrArg (fun z : AlG => z.2) c
    exact (Bool.and_eq_true_iff.mp c2).2)
  gl := fun i x d e => by
    have c2 : T.gls.all (glBq K) = true := by
      have c2 : (T.gls.all (glBq K) && exB K T.exc) = true := congrArg (fun z : AlG => z.2) c
      exact (Bool.and_eq_true_iff.mp c2).1
    have q := List.all_eq_true.mp c2 (x, d) (List.mem_of_getElem? e)
    unfold glBq at q
    dsimp only at q
    split at q
    · rename_i u hu
      obtain ⟨v, r1, r2, r3⟩ := cst_ok d u q
      exact ⟨v, u, PySem.W.mg_of X G hu, r1, r2, r3⟩
    · cases q
  blt := fun x hx => by
    have c1 : He.SaysD (faOf T) (fnOf_ T sts) K := congrArg (fun z : AlG => z.1) c
    obtain ⟨i, hi⟩ := List.getElem?_of_mem hx
    have e4 : (faOf T)[i]? = some (.free (Str.ofString x)) := by
      unfold faOf
      rw [List.getElem?_append_left (by simpa using (List.getElem?_eq_some_iff.mp hi).1), List.getElem?_map, hi]
      rfl
    exact He.free_ok X G (c1.fact _ e4)

theorem reps_list {K : PySem.W.Frag} {g : Gh} : ∀ l : List Int, Reps K g (l.map D.int) (l.map V.int)
  | [] => .nil
  | _ :: l => .cons (by rw [Rep]) (reps_list l)
/-- the law's promise -/
theorem law_sp {K : PySem.W.Frag} {T : Prog} {n i : Nat} {H : Hp} {a : Addr} {ns : List Int} (hO : Only H) (hS : SqL K H a (ns.map V.int)) (hl : ∃ st, callN T n i [.rol (ns.map D.int)] [] = some (.bl true, st)) :
    spF K (callN T n) i [.ref a] H (fun v _ => v = .bl true) fun _ _ _ => False := by
  obtain ⟨st, e⟩ := hl
  have rs := fun g : Gh => reps_list (K := K) (g := g)
  have ro : RoL K H a (ns.map V.int) := by
    rcases hS with (h | ⟨o, h⟩) | h
    · rcases hO a with z | ⟨o, xs, z⟩
      · rw [z] at h; cases h
      · rw [z] at h; cases h
    · exact .inl ⟨o, h⟩
    · exact .inr h
  refine ⟨⟨[], fun _ => False, H⟩, [.rol (ns.map D.int)], [], _, rfl, .cons ?_ .nil, ⟨List.nodup_nil, fun a h => absurd h List.not_mem_nil, fun _ h => False.elim h⟩, ⟨rfl, fun k a ds h => (by simp at h)⟩, e, fun v g' _ _ _ r => ?_⟩
  · rw [Rep]
    exact ⟨a, _, rfl, ro, rs _ _⟩
  · rw [Rep] at r
    exact r
end Sf
/-! SfWp: what the evaluator answers, by wishes. -/
namespace Sf
open PySem

/-- it answers, and P holds of the answer -/
def Ev {α : Type} (x : Option α) (P : α → Prop) : Prop := ∃ a, x = some a ∧ P a
section
variable {α β : Type} {P : α → Prop}
theorem Ev.mono {x : Option α} {Q : α → Prop} (h : Ev x Q) (k : ∀ a, Q a → P a) : Ev x P := let ⟨a, e, q⟩ := h; ⟨a, e, k a q⟩
theorem Ev.of {x : Option α} {a : α} (e : x = some a) (h : P a) : Ev x P := ⟨a, e, h⟩
theorem ev_some {a : α} : Ev (some a) P ↔ P a := ⟨fun ⟨b, e, h⟩ => (Option.some.inj e) ▸ h, fun h => ⟨a, rfl, h⟩⟩
theorem ev_none : Ev (none : Option α) P ↔ False := ⟨fun ⟨b, e, h⟩ => (nomatch e), False.elim⟩
theorem ev_congr {x : Option α} {Q : α → Prop} (h : ∀ a, P a ↔ Q a) : Ev x P ↔ Ev x Q := ⟨fun q => q.mono fun a => (h a).mp, fun q => q.mono fun a => (h a).mpr⟩
theorem ev_bind {x : Option β} {f : β → Option α} : Ev (x.bind f) P ↔ Ev x fun b => Ev (f b) P := by
  cases x with
  | none => simp only [Option.bind_none,ev_none]
  | some b => simp only [Option.bind_some,ev_some]
theorem ev_map {x : Option β} {f : β → α} : Ev (x.map f) P ↔ Ev x fun b => P (f b) := by
  cases x with
  | none => simp only [Option.map_none,ev_none]
  | some b => simp only [Option.map_some,ev_some]
theorem ev_ite {c : Prop} [Decidable c] {x y : Option α} : Ev (if c then x else y) P ↔ if c then Ev x P else Ev y P := by split <;> rfl
theorem ev_iteN {c : Prop} [Decidable c] {x : Option α} : Ev (if c then x else none) P ↔ c ∧ Ev x P := by
  by_cases h : c
  · rw [if_pos h]; exact ⟨fun q => ⟨h, q⟩, fun q => q.2⟩
  · rw [if_neg h]; exact ⟨fun q => (ev_none.mp q).elim, fun q => absurd q.1 h⟩
end

/-! ### folded continuations -/
section
variable {C : CallT} {G : List D} {ρ : Env} {st : Cells}
def seqK (C : CallT) (G : List D) (r : MSs) (P : Out → Prop) : Out → Prop
  | .nx ρ1 st1 => Ev (eSs C G r ρ1 st1) P
  | o => P o
def iffK (C : CallT) (G : List D) (a b : MSs) (ρ : Env) (P : Out → Prop) (r : Bool × Cells) : Prop := if r.1 = true then Ev (eSs C G a ρ r.2) P else Ev (eSs C G b ρ r.2) P
def iteK (C : CallT) (G : List D) (a b : ME) (ρ : Env) (P : VR × Cells → Prop) (r : Bool × Cells) : Prop := if r.1 = true then Ev (eE C G a ρ r.2) P else Ev (eE C G b ρ r.2) P
def chK (C : CallT) (G : List D) (o : COp) (y : VR) (c : ME) (ρ : Env) (st : Cells) (P : Bool × Cells → Prop) (r : Bool) : Prop := if r = true then Ev (eE C G c ρ st) fun z => Ev (dCmp o y z.1) fun b => P (b, z.2) else P (false, st)
/-- and, or as tests: what is behind the first -/
def tsK (C : CallT) (G : List D) (k : Bool) (r : MEs) (ρ : Env) (P : Bool × Cells → Prop) (x : Bool × Cells) : Prop := if x.1 = k then Ev (eTs C G k r ρ x.2) P else P x
def bsK (C : CallT) (G : List D) (k : Bool) (r : MEs) (ρ : Env) (P : VR × Cells → Prop) (x : VR × Cells) : Prop := match x.1 with
  | .dat (.bl c) => if c = k then Ev (eBop C G k r ρ x.2) P else P (.dat (.bl c), x.2)
  | _ => False
def forK (tg : MT) (body : Env → Cells → Option Out) (xs : List D) (P : Out → Prop) : Out → Prop
  | .nx ρ2 st2 => Ev (forL tg body xs ρ2 st2) P
  | .cnt ρ2 st2 => Ev (forL tg body xs ρ2 st2) P
  | .brk ρ2 st2 => P (.nx ρ2 st2)
  | .ret d st2 => P (.ret d st2)

section
variable {P : Out → Prop} {ρ1 : Env} {st1 : Cells} {d : D} {r : MSs} {a b : MSs}
theorem seq_nx : seqK C G r P (.nx ρ1 st1) ↔ Ev (eSs C G r ρ1 st1) P := Iff.rfl
theorem seq_ret : seqK C G r P (.ret d st1) ↔ P (.ret d st1) := Iff.rfl
theorem seq_brk : seqK C G r P (.brk ρ1 st1) ↔ P (.brk ρ1 st1) := Iff.rfl
theorem seq_cnt : seqK C G r P (.cnt ρ1 st1) ↔ P (.cnt ρ1 st1) := Iff.rfl
theorem iff_t : iffK C G a b ρ P (true, st) ↔ Ev (eSs C G a ρ st) P := by unfold iffK; rw [if_pos rfl]
theorem iff_f : iffK C G a b ρ P (false, st) ↔ Ev (eSs C G b ρ st) P := by unfold iffK; rw [if_neg Bool.false_ne_true]
theorem iff_d {p : Prop} [Decidable p] : iffK C G a b ρ P (decide p, st) ↔ if p then Ev (eSs C G a ρ st) P else Ev (eSs C G b ρ st) P := by
  by_cases h : p
  · rw [decide_eq_true h, iff_t, if_pos h]
  · rw [decide_eq_false h, iff_f, if_neg h]
variable {tg : MT} {body : Env → Cells → Option Out} {xs : List D}
theorem for_nx : forK tg body xs P (.nx ρ1 st1) ↔ Ev (forL tg body xs ρ1 st1) P := Iff.rfl
theorem for_cnt : forK tg body xs P (.cnt ρ1 st1) ↔ Ev (forL tg body xs ρ1 st1) P := Iff.rfl
theorem for_brk : forK tg body xs P (.brk ρ1 st1) ↔ P (.nx ρ1 st1) := Iff.rfl
theorem for_ret : forK tg body xs P (.ret d st1) ↔ P (.ret d st1) := Iff.rfl
end
section
variable {P : VR × Cells → Prop} {a b : ME} {r : MEs} {k c : Bool}
theorem ite_t : iteK C G a b ρ P (true, st) ↔ Ev (eE C G a ρ st) P := by unfold iteK; rw [if_pos rfl]
theorem ite_f : iteK C G a b ρ P (false, st) ↔ Ev (eE C G b ρ st) P := by unfold iteK; rw [if_neg Bool.false_ne_true]
theorem ite_d {p : Prop} [Decidable p] : iteK C G a b ρ P (decide p, st) ↔ if p then Ev (eE C G a ρ st) P else Ev (eE C G b ρ st) P := by
  by_cases h : p
  · rw [decide_eq_true h, ite_t, if_pos h]
  · rw [decide_eq_false h, ite_f, if_neg h]
theorem bs_b : bsK C G k r ρ P (.dat (.bl c), st) ↔ if c = k then Ev (eBop C G k r ρ st) P else P (.dat (.bl c), st) := Iff.rfl
end
section
variable {P : Bool × Cells → Prop} {c : ME} {r : MEs} {k b : Bool} {y : VR} {o : COp}
theorem ch_t : chK C G o y c ρ st P true ↔ Ev (eE C G c ρ st) fun z => Ev (dCmp o y z.1) fun b => P (b, z.2) := by unfold chK; rw [if_pos rfl]
theorem ch_f : chK C G o y c ρ st P false ↔ P (false, st) := by unfold chK; rw [if_neg (by decide)]
theorem ch_d {p : Prop} [Decidable p] : chK C G o y c ρ st P (decide p) ↔ if p then (Ev (eE C G c ρ st) fun z => Ev (dCmp o y z.1) fun b => P (b, z.2)) else P (false, st) := by
  by_cases h : p
  · rw [decide_eq_true h, ch_t, if_pos h]
  · rw [decide_eq_false h, ch_f, if_neg h]
theorem ts_b : tsK C G k r ρ P (b, st) ↔ if b = k then Ev (eTs C G k r ρ st) P else P (b, st) := Iff.rfl
end
end

/-! ### expressions -/
section
variable {C : CallT} {G : List D} {ρ : Env} {st : Cells} {P : VR × Cells → Prop}
def slotK (P : VR × Cells → Prop) (st : Cells) : Option Slot → Prop
  | some (.dat d) => P (.dat d, st)
  | some (.own ds) => P (.bor ds, st)
  | _ => False
theorem slot_d {d : D} : slotK P st (some (.dat d)) ↔ P (.dat d, st) := Iff.rfl
theorem slot_o {ds : List D} : slotK P st (some (.own ds)) ↔ P (.bor ds, st) := Iff.rfl
theorem ee_v {i : Nat} : Ev (eE C G (.v i) ρ st) P ↔ slotK P st ρ[i]? := by
  rw [eE]
  split
  · rename_i h; rw [h, ev_some]; rfl
  · rename_i h; rw [h, ev_some]; rfl
  · rename_i h1 h2
    rw [ev_none]
    unfold slotK
    split
    · rename_i q; exact absurd q (h1 _)
    · rename_i q; exact absurd q (h2 _)
    · rfl
theorem ee_int {i : Int} : Ev (eE C G (.int i) ρ st) P ↔ P (.dat (.int i), st) := by rw [eE, ev_some]
theorem ee_bl {b : Bool} : Ev (eE C G (.bl b) ρ st) P ↔ P (.dat (.bl b), st) := by rw [eE, ev_some]
theorem ee_non : Ev (eE C G .non ρ st) P ↔ P (.dat .non, st) := by rw [eE, ev_some]
theorem ee_str {s : List Nat} : Ev (eE C G (.str s) ρ st) P ↔ P (.dat (.str s), st) := by rw [eE, ev_some]
theorem ee_gl {g : Nat} : Ev (eE C G (.gl g) ρ st) P ↔ Ev (G[g]?) fun d => P (.dat d, st) := by rw [eE, ev_map]
theorem ee_bin {o : BOp} {a b : ME} : Ev (eE C G (.bin o a b) ρ st) P ↔ Ev (eE C G a ρ st) fun x => Ev (eE C G b ρ x.2) fun y => Ev (dBin o x.1 y.1) fun r => P (r, y.2) := by
  rw [eE]; simp only [ev_bind,ev_map]
def negK (P : VR × Cells → Prop) (x : VR × Cells) : Prop := match x.1 with
  | .dat (.int i) => P (.dat (.int (-i)), x.2)
  | _ => False
theorem neg_i {i : Int} : negK P (.dat (.int i), st) ↔ P (.dat (.int (-i)), st) := Iff.rfl
theorem ee_neg {a : ME} : Ev (eE C G (.neg a) ρ st) P ↔ Ev (eE C G a ρ st) (negK P) := by
  rw [eE, ev_bind]
  refine ev_congr fun x => ?_
  obtain ⟨x1, x2⟩ := x
  cases x1 with
  | dat d => cases d <;> simp only [negK,ev_some,ev_none,ev_iteN]
  | _ => simp only [negK,ev_none]
theorem ee_cmp {o : COp} {a b : ME} : Ev (eE C G (.cmp o a b) ρ st) P ↔ Ev (eE C G a ρ st) fun x => Ev (eE C G b ρ x.2) fun y => Ev (dCmp o x.1 y.1) fun r => P (.dat (.bl r), y.2) := by
  rw [eE]; simp only [ev_bind,ev_map]
def D.isNone : D → Bool
  | .non => true
  | _ => false
def VR.isNone : VR → Bool
  | .dat d => d.isNone
  | _ => false
theorem ee_isN {n : Bool} {a : ME} : Ev (eE C G (.isN n a) ρ st) P ↔ Ev (eE C G a ρ st) fun x => P (.dat (.bl (x.1.isNone != n)), x.2) := by
  rw [eE, ev_bind]
  refine ev_congr fun x => ?_
  split
  · rename_i h; rw [h, ev_some]; cases n <;> rfl
  · rename_i h
    have : x.1.isNone = false := by
      cases hx : x.1 with
      | dat d => cases d <;> first | rfl | exact absurd hx h
      | _ => rfl
    rw [ev_some, this]
    cases n <;> rfl
theorem ee_ch {o o' : COp} {a b c : ME} : Ev (eE C G (.ch o o' a b c) ρ st) P ↔ Ev (eE C G a ρ st) fun x => Ev (eE C G b ρ x.2) fun y => Ev (dCmp o x.1 y.1) (chK C G o' y.1 c ρ y.2 fun r => P (.dat (.bl r.1), r.2)) := by
  rw [eE]; simp only [ev_bind]
  refine ev_congr fun x => ev_congr fun y => ev_congr fun r => ?_
  cases r <;> simp only [chK,ev_ite,ev_bind,ev_map,ev_some,if_true,if_false,Bool.false_eq_true]
theorem ee_bop {k : Bool} {es : MEs} : Ev (eE C G (.bop k es) ρ st) P ↔ Ev (eBop C G k es ρ st) P := by rw [eE]
theorem ee_not {a : ME} : Ev (eE C G (.not a) ρ st) P ↔ Ev (eE C G a ρ st) fun x => Ev x.1.read.truth fun b => P (.dat (.bl !b), x.2) := by
  rw [eE]; simp only [ev_bind,ev_map]
theorem ee_ite {c a b : ME} : Ev (eE C G (.ite c a b) ρ st) P ↔ Ev (eT C G c ρ st) (iteK C G a b ρ P) := by
  rw [eE, ev_bind]
  refine ev_congr fun r => ?_
  rw [ev_ite]; rfl
theorem ee_tup {es : MEs} : Ev (eE C G (.tup es) ρ st) P ↔ Ev (eEs C G es ρ st) fun r => r.1.length ≤ line ∧ P (.dat (.tup r.1), r.2) := by
  rw [eE, ev_bind]; simp only [ev_iteN,ev_some]
theorem ee_lst {es : MEs} : Ev (eE C G (.lst es) ρ st) P ↔ Ev (eEs C G es ρ st) fun r => r.1.length ≤ line ∧ P (.new r.1, r.2) := by
  rw [eE, ev_bind]; simp only [ev_iteN,ev_some]
theorem ee_cell {es : MEs} : Ev (eE C G (.cell es) ρ st) P ↔ Ev (eEs C G es ρ st) fun r => r.1.length ≤ line ∧ P (.dat (.ptr r.2.length), r.2 ++ [r.1]) := by
  rw [eE, ev_bind]; simp only [ev_iteN,ev_some]
/-- a subscript -/
def dIx (st : Cells) (x y : VR) : Option VR := match y with
  | .dat (.int k) => match x.read with
    | .ptr p => (st[p]?).bind fun ds => (getI ds k).map .dat
    | .str s => if s.length ≤ line then (getI s k).map fun c => .dat (.str [c]) else none
    | d => d.items.bind fun ds => (getI ds k).map .dat
  | _ => none
theorem ee_ix {a i : ME} : Ev (eE C G (.ix a i) ρ st) P ↔ Ev (eE C G a ρ st) fun x => Ev (eE C G i ρ x.2) fun y => Ev (dIx y.2 x.1 y.1) fun r => P (r, y.2) := by
  rw [eE]; simp only [ev_bind]
  refine ev_congr fun x => ev_congr fun y => ?_
  unfold dIx
  obtain ⟨y1, y2⟩ := y
  dsimp only
  cases y1 <;> first | (simp only [ev_none]; done) | skip
  rename_i d
  cases d <;> first | (simp only [ev_none]; done) | skip
  dsimp only
  generalize x.1.read = r
  cases r <;> simp only [ev_bind,ev_map,ev_iteN]
/-- a slice -/
def dSl (x : VR) (l h : Option Int) : Option VR := match x.read with
  | .tup ds => some (.dat (.tup (cut ds l h)))
  | .lst ds => some (.new (cut ds l h))
  | .str s => if s.length ≤ line then some (.dat (.str (cut s l h))) else none
  | _ => none
theorem ee_sl {a : ME} {lo hi : MO} : Ev (eE C G (.sl a lo hi) ρ st) P ↔ Ev (eE C G a ρ st) fun x => Ev (eO C G lo ρ x.2) fun l => Ev (eO C G hi ρ l.2) fun h => Ev (dSl x.1 l.1 h.1) fun r => P (r, h.2) := by
  rw [eE]; simp only [ev_bind]
  refine ev_congr fun x => ev_congr fun l => ev_congr fun h => ?_
  unfold dSl
  generalize x.1.read = r
  cases r <;> simp only [ev_some,ev_iteN,ev_none]
theorem ee_call {f : Nat} {es : MEs} : Ev (eE C G (.call f es) ρ st) P ↔ Ev (eEs C G es ρ st) fun r => Ev (C f r.1 r.2) fun q => P (.dat q.1, q.2) := by
  rw [eE]; simp only [ev_bind,ev_map]
theorem ee_bi {b : BI} {es : MEs} : Ev (eE C G (.bi b es) ρ st) P ↔ Ev (eVs C G es ρ st) fun r => Ev (dBi b r.1) fun q => P (q, r.2) := by
  rw [eE]; simp only [ev_bind,ev_map]
def idxK (y : VR) (P : Int → Prop) : D → Prop
  | .lst ds => (y.read.flat && ds.all D.flat) = true ∧ Ev (findIdx y.read ds) fun (k : Nat) => P (k : Int)
  | _ => False
theorem ee_index {a x : ME} : Ev (eE C G (.index a x) ρ st) P ↔ Ev (eE C G a ρ st) fun q => Ev (eE C G x ρ q.2) fun y => idxK y.1 (fun k => P (.dat (.int k), y.2)) q.1.read := by
  rw [eE]; simp only [ev_bind]
  refine ev_congr fun q => ev_congr fun y => ?_
  cases q.1.read <;> simp only [idxK,ev_iteN,ev_map,ev_none]
def gidxK (y : VR) (P : Int → Prop) : Option D → Prop
  | some (.tup ds) => (y.read.isStr && ds.all D.isStr) = true ∧ Ev (findIdx y.read ds) fun (k : Nat) => P (k : Int)
  | _ => False
theorem ee_gindex {g : Nat} {x : ME} : Ev (eE C G (.gindex g x) ρ st) P ↔ Ev (eE C G x ρ st) fun y => gidxK y.1 (fun k => P (.dat (.int k), y.2)) (G[g]?) := by
  rw [eE]; simp only [ev_bind]
  refine ev_congr fun y => ?_
  cases G[g]? with
  | none => simp only [gidxK,ev_none]
  | some d => cases d <;> simp only [gidxK,ev_iteN,ev_map,ev_none]
theorem ee_lc {own : List (Str × Nat)} {tg : MT} {it : MI} {c : MO} {elt : ME} : Ev (eE C G (.lc own tg it c elt) ρ st) P ↔ Ev (eI C G true it ρ st) fun r => Ev (lcL (own.map (·.2)) tg (fun ρ' st' => eC C G c ρ' st') (fun ρ' st' => (eE C G elt ρ' st').bind fun q => q.1.data.map fun d => (d, q.2)) ρ r.1 r.2) fun q =>
    r.1.length ≤ line ∧ P (.new q.1, q.2) := by
  rw [eE]; simp only [ev_bind,ev_iteN,ev_some]
theorem ee_lc2 {own : List (Str × Nat)} {vs1 : List Nat} {tg tg1 : MT} {it it1 : MI} {elt : ME} : Ev (eE C G (.lc2 own vs1 tg it tg1 it1 elt) ρ st) P ↔ Ev (eI C G true it ρ st) fun r => Ev (lc2L (own.map (·.2)) tg (fun ρ1 st1 => (eI C G false it1 ρ1 st1).bind fun r1 => lcL vs1 tg1 (fun _ st' => some (true, st')) (fun ρ' st' => (eE C G elt ρ' st').bind fun q => q.1.data.map fun d => (d, q.2)) ρ1 r1.1 r1.2) ρ r.1 r.2) fun q =>
    q.1.length ≤ line ∧ P (.new q.1, q.2) := by
  rw [eE]; simp only [ev_bind,ev_iteN,ev_some]
def ssetK (P : VR × Cells → Prop) (x : VR × Cells) : Prop := match x.1 with
  | .dat (.tup ds) => Ev (intsOf ds) fun is => is.length < 64 ∧ P (.new ((sortSet is).map .int), x.2)
  | _ => False
theorem sset_t {ds : List D} : ssetK P (.dat (.tup ds), st) ↔ Ev (intsOf ds) fun is => is.length < 64 ∧ P (.new ((sortSet is).map .int), st) := Iff.rfl
theorem ee_sset {a : ME} : Ev (eE C G (.sset a) ρ st) P ↔ Ev (eE C G a ρ st) (ssetK P) := by
  rw [eE, ev_bind]
  refine ev_congr fun x => ?_
  obtain ⟨x1, x2⟩ := x
  cases x1 with
  | dat d => cases d <;> simp only [ssetK,ev_bind,ev_some,ev_none,ev_iteN]
  | _ => simp only [ssetK,ev_none]
def rgLK (P : VR × Cells → Prop) (x : VR × Cells) : Prop := match x.1 with
  | .dat (.int i) => (0 ≤ i ∧ i ≤ 16777216) ∧ P (.new (rngD 0 i.toNat), x.2)
  | _ => False
theorem rgL_i {i : Int} : rgLK P (.dat (.int i), st) ↔ (0 ≤ i ∧ i ≤ 16777216) ∧ P (.new (rngD 0 i.toNat), st) := Iff.rfl
theorem ee_rgL {a : ME} : Ev (eE C G (.rgL a) ρ st) P ↔ Ev (eE C G a ρ st) (rgLK P) := by
  rw [eE, ev_bind]
  refine ev_congr fun x => ?_
  obtain ⟨x1, x2⟩ := x
  cases x1 with
  | dat d => cases d <;> simp only [rgLK,ev_some,ev_none,ev_iteN]
  | _ => simp only [rgLK,ev_none]
def rgTK (P : VR × Cells → Prop) (x : VR × Cells) : Prop := match x.1 with
  | .dat (.int i) => (0 ≤ i ∧ i ≤ 16777216) ∧ P (.dat (.tup (rngD 0 i.toNat)), x.2)
  | _ => False
theorem rgT_i {i : Int} : rgTK P (.dat (.int i), st) ↔ (0 ≤ i ∧ i ≤ 16777216) ∧ P (.dat (.tup (rngD 0 i.toNat)), st) := Iff.rfl
theorem ee_rgT {a : ME} : Ev (eE C G (.rgT a) ρ st) P ↔ Ev (eE C G a ρ st) (rgTK P) := by
  rw [eE, ev_bind]
  refine ev_congr fun x => ?_
  obtain ⟨x1, x2⟩ := x
  cases x1 with
  | dat d => cases d <;> simp only [rgTK,ev_some,ev_none,ev_iteN]
  | _ => simp only [rgTK,ev_none]
def strK (P : VR × Cells → Prop) (x : VR × Cells) : Prop := match x.1 with
  | .dat (.int i) => bits i < 1920 ∧ P (.dat (.str (Str.ofString (toString i)).cps.toList), x.2)
  | _ => False
theorem str_i {i : Int} : strK P (.dat (.int i), st) ↔ bits i < 1920 ∧ P (.dat (.str (Str.ofString (toString i)).cps.toList), st) := Iff.rfl
theorem ee_strI {a : ME} : Ev (eE C G (.strI a) ρ st) P ↔ Ev (eE C G a ρ st) (strK P) := by
  rw [eE, ev_bind]
  refine ev_congr fun x => ?_
  obtain ⟨x1, x2⟩ := x
  cases x1 with
  | dat d => cases d <;> simp only [strK,ev_some,ev_none,ev_iteN]
  | _ => simp only [strK,ev_none]
theorem es_nil {P : List D × Cells → Prop} : Ev (eEs C G .nil ρ st) P ↔ P ([], st) := by rw [eEs, ev_some]
theorem es_cons {P : List D × Cells → Prop} {a : ME} {r : MEs} : Ev (eEs C G (.cons a r) ρ st) P ↔ Ev (eE C G a ρ st) fun x => Ev x.1.data fun d => Ev (eEs C G r ρ x.2) fun ds => P (d :: ds.1, ds.2) := by
  rw [eEs]; simp only [ev_bind,ev_map]
theorem ev_nil {P : List VR × Cells → Prop} : Ev (eVs C G .nil ρ st) P ↔ P ([], st) := by rw [eVs, ev_some]
theorem ev_cons {P : List VR × Cells → Prop} {a : ME} {r : MEs} : Ev (eVs C G (.cons a r) ρ st) P ↔ Ev (eE C G a ρ st) fun x => Ev (eVs C G r ρ x.2) fun ds => P (x.1 :: ds.1, ds.2) := by
  rw [eVs]; simp only [ev_bind,ev_map]
theorem bo_one {k : Bool} {a : ME} : Ev (eBop C G k (.cons a .nil) ρ st) P ↔ Ev (eE C G a ρ st) P := by
  rw [eBop, ev_bind]
  simp only [ev_some]
theorem bo_cons {k : Bool} {a b : ME} {r : MEs} : Ev (eBop C G k (.cons a (.cons b r)) ρ st) P ↔ Ev (eE C G a ρ st) (bsK C G k (.cons b r) ρ P) := by
  rw [eBop, ev_bind]
  refine ev_congr fun x => ?_
  obtain ⟨x1, x2⟩ := x
  cases x1 with
  | dat d => cases d <;> simp only [bsK,ev_ite,ev_some,ev_none]
  | _ => simp only [bsK,ev_none]
end
section
variable {C : CallT} {G : List D} {ρ : Env} {st : Cells} {P : Bool × Cells → Prop}
theorem et_not {a : ME} : Ev (eT C G (.not a) ρ st) P ↔ Ev (eT C G a ρ st) fun r => P (!r.1, r.2) := by rw [eT, ev_map]
theorem et_bop {k : Bool} {es : MEs} : Ev (eT C G (.bop k es) ρ st) P ↔ Ev (eTs C G k es ρ st) P := by rw [eT]
theorem et_tr {a : ME} : Ev (eT C G (.tr a) ρ st) P ↔ Ev (eE C G a ρ st) fun x => Ev x.1.read.truth fun b => P (b, x.2) := by rw [eT]; simp only [ev_bind,ev_map]
theorem et_cmp {o : COp} {a b : ME} : Ev (eT C G (.cmp o a b) ρ st) P ↔ Ev (eE C G a ρ st) fun x => Ev (eE C G b ρ x.2) fun y => Ev (dCmp o x.1 y.1) fun r => P (r, y.2) := by
  rw [eT]; simp only [ev_bind,ev_map]
theorem et_isN {n : Bool} {a : ME} : Ev (eT C G (.isN n a) ρ st) P ↔ Ev (eE C G a ρ st) fun x => P (x.1.isNone != n, x.2) := by
  rw [eT, ev_bind]
  refine ev_congr fun x => ?_
  split
  · rename_i h; rw [h, ev_some]; cases n <;> rfl
  · rename_i h
    have : x.1.isNone = false := by
      cases hx : x.1 with
      | dat d => cases d <;> first | rfl | exact absurd hx h
      | _ => rfl
    rw [ev_some, this]
    cases n <;> rfl
theorem et_ch {o o' : COp} {a b c : ME} : Ev (eT C G (.ch o o' a b c) ρ st) P ↔ Ev (eE C G a ρ st) fun x => Ev (eE C G b ρ x.2) fun y => Ev (dCmp o x.1 y.1) (chK C G o' y.1 c ρ y.2 P) := by
  rw [eT]; simp only [ev_bind]
  refine ev_congr fun x => ev_congr fun y => ev_congr fun r => ?_
  cases r <;> simp only [chK,ev_ite,ev_bind,ev_map,ev_some,if_true,if_false,Bool.false_eq_true]
theorem ts_one {k : Bool} {a : ME} : Ev (eTs C G k (.cons a .nil) ρ st) P ↔ Ev (eT C G a ρ st) P := by
  rw [eTs, ev_bind]
  simp only [ev_some]
theorem ts_cons {k : Bool} {a b : ME} {r : MEs} : Ev (eTs C G k (.cons a (.cons b r)) ρ st) P ↔ Ev (eT C G a ρ st) (tsK C G k (.cons b r) ρ P) := by
  rw [eTs, ev_bind]
  refine ev_congr fun x => ?_
  unfold tsK
  dsimp only
  rw [ev_ite, ev_some]
theorem eo_none {P : Option Int × Cells → Prop} : Ev (eO C G .none ρ st) P ↔ P (none, st) := by rw [eO, ev_some]
def optK (P : Option Int × Cells → Prop) (x : VR × Cells) : Prop := match x.1 with
  | .dat (.int i) => P (some i, x.2)
  | _ => False
theorem opt_i {P : Option Int × Cells → Prop} {i : Int} : optK P (.dat (.int i), st) ↔ P (some i, st) := Iff.rfl
theorem eo_some {P : Option Int × Cells → Prop} {a : ME} : Ev (eO C G (.some a) ρ st) P ↔ Ev (eE C G a ρ st) (optK P) := by
  rw [eO, ev_bind]
  refine ev_congr fun x => ?_
  obtain ⟨x1, x2⟩ := x
  cases x1 with
  | dat d => cases d <;> simp only [optK,ev_some,ev_none,ev_iteN]
  | _ => simp only [optK,ev_none]
theorem ec_none : Ev (eC C G .none ρ st) P ↔ P (true, st) := by rw [eC, ev_some]
theorem ec_some {a : ME} : Ev (eC C G (.some a) ρ st) P ↔ Ev (eT C G a ρ st) P := by rw [eC]
end
section
variable {C : CallT} {G : List D} {ρ : Env} {st : Cells} {bor : Bool} {P : List D × Cells → Prop}
theorem ei_seq {a : ME} : Ev (eI C G bor (.seq a) ρ st) P ↔ Ev (eE C G a ρ st) fun x => Ev (walked bor x.1) fun ds => P (ds, x.2) := by rw [eI]; simp only [ev_bind,ev_map]
def rngK (P : List D × Cells → Prop) (x : VR × Cells) : Prop := match x.1 with
  | .dat (.int i) => (-(2 ^ 62) ≤ i ∧ i < 2 ^ 62) ∧ P (rngD 0 i.toNat, x.2)
  | _ => False
theorem rng_i {i : Int} : rngK P (.dat (.int i), st) ↔ (-(2 ^ 62) ≤ i ∧ i < 2 ^ 62) ∧ P (rngD 0 i.toNat, st) := Iff.rfl
theorem ei_rng1 {a : ME} : Ev (eI C G bor (.rng1 a) ρ st) P ↔ Ev (eE C G a ρ st) (rngK P) := by
  rw [eI, ev_bind]
  refine ev_congr fun x => ?_
  obtain ⟨x1, x2⟩ := x
  cases x1 with
  | dat d => cases d <;> simp only [rngK,ev_some,ev_none,ev_iteN]
  | _ => simp only [rngK,ev_none]
def rngK2 (P : List D × Cells → Prop) (x : VR) (y : VR × Cells) : Prop := match x, y.1 with
  | .dat (.int i), .dat (.int j) => ((-(2 ^ 62) ≤ i ∧ i < 2 ^ 62) ∧ (-(2 ^ 62) ≤ j ∧ j < 2 ^ 62)) ∧ P (rngD i (j - i).toNat, y.2)
  | _, _ => False
theorem rng2_i {i j : Int} : rngK2 P (.dat (.int i)) (.dat (.int j), st) ↔ ((-(2 ^ 62) ≤ i ∧ i < 2 ^ 62) ∧ (-(2 ^ 62) ≤ j ∧ j < 2 ^ 62)) ∧ P (rngD i (j - i).toNat, st) := Iff.rfl
theorem ei_rng2 {a b : ME} : Ev (eI C G bor (.rng2 a b) ρ st) P ↔ Ev (eE C G a ρ st) fun x => Ev (eE C G b ρ x.2) (rngK2 P x.1) := by
  rw [eI]; simp only [ev_bind]
  refine ev_congr fun x => ev_congr fun y => ?_
  obtain ⟨x1, x2⟩ := x
  obtain ⟨y1, y2⟩ := y
  cases x1 with
  | dat d =>
    cases d <;> first
      | (simp only [rngK2,ev_none]; done)
      | (cases y1 with
        | dat e => cases e <;> simp only [rngK2,ev_some,ev_none,ev_iteN]
        | _ => simp only [rngK2,ev_none])
  | _ => simp only [rngK2,ev_none]
theorem ei_enum {a : ME} : Ev (eI C G bor (.enum a) ρ st) P ↔ Ev (eE C G a ρ st) fun x => Ev (walked bor x.1) fun ds => P (enumD ds, x.2) := by rw [eI]; simp only [ev_bind,ev_map]
theorem ei_zip {a b : ME} : Ev (eI C G bor (.zip a b) ρ st) P ↔ Ev (eE C G a ρ st) fun x => Ev (eE C G b ρ x.2) fun y => Ev (walked bor x.1) fun xs => Ev (walked bor y.1) fun ys => P (zipD xs ys, y.2) := by rw [eI]; simp only [ev_bind,ev_map]
/-- what reversed walks -/
def revOf (bor : Bool) (r : VR) : Option (List D) := match r with
  | .dat (.lst ds) => some ds.reverse
  | .dat _ => none
  | r => (walked bor r).map List.reverse
theorem ei_rev {a : ME} : Ev (eI C G bor (.rev a) ρ st) P ↔ Ev (eE C G a ρ st) fun x => Ev (revOf bor x.1) fun ds => P (ds, x.2) := by
  rw [eI]; simp only [ev_bind]
  refine ev_congr fun x => ?_
  obtain ⟨x1, x2⟩ := x
  cases x1 with
  | dat d => cases d <;> simp only [revOf,ev_some,ev_none]
  | bor ds => simp only [revOf,ev_map]
  | new ds => simp only [revOf,ev_map]
end

/-! ### statements -/
section
variable {C : CallT} {G : List D} {ρ : Env} {st : Cells} {P : Out → Prop}
theorem ss_nil : Ev (eSs C G .nil ρ st) P ↔ P (.nx ρ st) := by rw [eSs, ev_some]
theorem ss_cons {s : MS} {r : MSs} : Ev (eSs C G (.cons s r) ρ st) P ↔ Ev (eS C G s ρ st) (seqK C G r P) := by
  rw [eSs, ev_bind]
  refine ev_congr fun o => ?_
  cases o <;> simp only [seqK,ev_some]
theorem st_set {i : Nat} {e : ME} : Ev (eS C G (.set i e) ρ st) P ↔ Ev (eE C G e ρ st) fun x => Ev x.1.data fun d => i < ρ.length ∧ P (.nx (ρ.set i (.dat d)) x.2) := by
  rw [eS]; simp only [ev_bind,ev_iteN,ev_some]
def ownK (i : Nat) (ρ : Env) (P : Out → Prop) (x : VR × Cells) : Prop := match x.1 with
  | .new ds => i < ρ.length ∧ P (.nx (ρ.set i (.own ds)) x.2)
  | _ => False
theorem own_n {i : Nat} {ds : List D} : ownK i ρ P (.new ds, st) ↔ i < ρ.length ∧ P (.nx (ρ.set i (.own ds)) st) := Iff.rfl
theorem st_own {i : Nat} {e : ME} : Ev (eS C G (.own i e) ρ st) P ↔ Ev (eE C G e ρ st) (ownK i ρ P) := by
  rw [eS, ev_bind]
  refine ev_congr fun x => ?_
  obtain ⟨x1, x2⟩ := x
  cases x1 <;> simp only [ownK,ev_iteN,ev_some,ev_none]
theorem st_unp {t : MT} {e : ME} : Ev (eS C G (.unp t e) ρ st) P ↔ Ev (eE C G e ρ st) fun x => Ev x.1.data fun d => Ev (bindT t d ρ) fun ρ1 => P (.nx ρ1 x.2) := by
  rw [eS]; simp only [ev_bind,ev_map]
theorem st_par {i j : Nat} {a b : ME} : Ev (eS C G (.par i j a b) ρ st) P ↔ Ev (eE C G a ρ st) fun x => Ev x.1.data fun d => Ev (eE C G b ρ x.2) fun y => Ev y.1.data fun d' => (i < ρ.length ∧ j < ρ.length) ∧ P (.nx ((ρ.set i (.dat d)).set j (.dat d')) y.2) := by
  rw [eS]; simp only [ev_bind,ev_iteN,ev_some]
def augK (i : Nat) (s : Bool) (ρ : Env) (P : Out → Prop) (x : VR × Cells) : Option D → Prop
  | some (.int a) => (match x.1 with
    | .dat (.int b) => P (.nx (ρ.set i (.dat (.int (if s then a - b else a + b)))) x.2)
    | _ => False)
  | _ => False
theorem aug_i {i : Nat} {s : Bool} {a b : Int} : augK i s ρ P (.dat (.int b), st) (some (.int a)) ↔ P (.nx (ρ.set i (.dat (.int (if s then a - b else a + b)))) st) := Iff.rfl
theorem st_aug {i : Nat} {s : Bool} {e : ME} : Ev (eS C G (.aug i s e) ρ st) P ↔ Ev (eE C G e ρ st) fun x => augK i s ρ P x (slotD ρ i) := by
  rw [eS, ev_bind]
  refine ev_congr fun x => ?_
  obtain ⟨x1, x2⟩ := x
  unfold augK
  dsimp only
  cases slotD ρ i with
  | none => simp only [ev_none]
  | some d =>
    cases d <;> first | (simp only [ev_none]; done) | skip
    cases x1 <;> first | (simp only [ev_none]; done) | skip
    rename_i d
    cases d <;> simp only [ev_none,ev_some]
def setIxK (i : Nat) (d : D) (ρ : Env) (P : Out → Prop) (y : VR × Cells) : Prop := match y.1 with
  | .dat (.int k) => Ev (slotO ρ i) fun ds => Ev (ixOf ds.length k) fun j => P (.nx (ρ.set i (.own (ds.set j d))) y.2)
  | _ => False
theorem setIx_i {i : Nat} {d : D} {k : Int} : setIxK i d ρ P (.dat (.int k), st) ↔ Ev (slotO ρ i) fun ds => Ev (ixOf ds.length k) fun j => P (.nx (ρ.set i (.own (ds.set j d))) st) := Iff.rfl
theorem st_setIx {i : Nat} {ix e : ME} : Ev (eS C G (.setIx i ix e) ρ st) P ↔ Ev (eE C G e ρ st) fun x => Ev x.1.data fun d => Ev (eE C G ix ρ x.2) (setIxK i d ρ P) := by
  rw [eS]; simp only [ev_bind]
  refine ev_congr fun x => ev_congr fun d => ev_congr fun y => ?_
  obtain ⟨y1, y2⟩ := y
  unfold setIxK
  dsimp only
  cases y1 <;> first | (simp only [ev_none]; done) | skip
  rename_i d
  cases d <;> simp only [ev_none,ev_bind,ev_map]
def setCellK (d : D) (ρ : Env) (P : Out → Prop) (z : VR) (y : VR × Cells) : Prop := match z, y.1 with
  | .dat (.ptr p), .dat (.int k) => Ev (y.2[p]?) fun ds => Ev (ixOf ds.length k) fun j => P (.nx ρ (y.2.set p (ds.set j d)))
  | _, _ => False
theorem setCell_i {p : Nat} {d : D} {k : Int} : setCellK d ρ P (.dat (.ptr p)) (.dat (.int k), st) ↔ Ev (st[p]?) fun ds => Ev (ixOf ds.length k) fun j => P (.nx ρ (st.set p (ds.set j d))) := Iff.rfl
theorem st_setCell {a ix e : ME} : Ev (eS C G (.setCell a ix e) ρ st) P ↔ Ev (eE C G e ρ st) fun x => Ev x.1.data fun d => Ev (eE C G a ρ x.2) fun z => Ev (eE C G ix ρ z.2) (setCellK d ρ P z.1) := by
  rw [eS]; simp only [ev_bind]
  refine ev_congr fun x => ev_congr fun d => ev_congr fun z => ev_congr fun y => ?_
  obtain ⟨y1, y2⟩ := y
  unfold setCellK
  obtain ⟨z1, z2⟩ := z
  dsimp only
  cases z1 <;> first | (simp only [ev_none]; done) | skip
  rename_i dz
  cases dz <;> first | (simp only [ev_none]; done) | skip
  cases y1 <;> first | (simp only [ev_none]; done) | skip
  rename_i dy
  cases dy <;> simp only [ev_none,ev_bind,ev_map]
theorem st_app {i : Nat} {e : ME} : Ev (eS C G (.app i e) ρ st) P ↔ Ev (eE C G e ρ st) fun x => Ev x.1.data fun d => Ev (slotO ρ i) fun ds => ds.length < line ∧ P (.nx (ρ.set i (.own (ds ++ [d]))) x.2) := by
  rw [eS]; simp only [ev_bind,ev_iteN,ev_some]
def extK (i : Nat) (ρ : Env) (st : Cells) (P : Out → Prop) (ds : List D) : D → Prop
  | .lst es => ds.length + es.length ≤ line ∧ P (.nx (ρ.set i (.own (ds ++ es))) st)
  | .tup es => ds.length + es.length ≤ line ∧ P (.nx (ρ.set i (.own (ds ++ es))) st)
  | _ => False
theorem ext_t {i : Nat} {ds es : List D} : extK i ρ st P ds (.tup es) ↔ ds.length + es.length ≤ line ∧ P (.nx (ρ.set i (.own (ds ++ es))) st) := Iff.rfl
theorem ext_l {i : Nat} {ds es : List D} : extK i ρ st P ds (.lst es) ↔ ds.length + es.length ≤ line ∧ P (.nx (ρ.set i (.own (ds ++ es))) st) := Iff.rfl
theorem st_ext {i : Nat} {e : ME} : Ev (eS C G (.ext i e) ρ st) P ↔ Ev (eE C G e ρ st) fun x => Ev (slotO ρ i) fun ds => extK i ρ x.2 P ds x.1.read := by
  rw [eS]; simp only [ev_bind]
  refine ev_congr fun x => ev_congr fun ds => ?_
  cases x.1.read <;> simp only [extK,ev_iteN,ev_some,ev_none]
def frzE (ρ : Env) (i : Nat) : Env := match ρ[i]? with
  | some (.own ds) => ρ.set i (.dat (.lst ds))
  | _ => ρ
theorem st_frz {i : Nat} : Ev (eS C G (.frz i) ρ st) P ↔ P (.nx (frzE ρ i) st) := by
  rw [eS]
  unfold slotO frzE
  cases ρ[i]? with
  | none => simp only [ev_some]
  | some s => cases s <;> simp only [ev_some]
def retK (P : Out → Prop) (st : Cells) : Option Slot → Prop
  | some (.dat d) => P (.ret d st)
  | some (.own ds) => P (.ret (.lst ds) st)
  | _ => False
theorem ret_d {d : D} : retK P st (some (.dat d)) ↔ P (.ret d st) := Iff.rfl
theorem ret_o {ds : List D} : retK P st (some (.own ds)) ↔ P (.ret (.lst ds) st) := Iff.rfl
theorem st_retV {i : Nat} : Ev (eS C G (.ret (.v i)) ρ st) P ↔ retK P st ρ[i]? := by
  rw [eS]
  cases ρ[i]? with
  | none => simp only [ev_none,retK]
  | some s => cases s <;> simp only [ev_some,ev_none,retK]
def notV : ME → Prop
  | .v _ => False
  | _ => True
theorem st_ret {e : ME} (h : notV e) : Ev (eS C G (.ret e) ρ st) P ↔ Ev (eE C G e ρ st) fun x => Ev x.1.data fun d => P (.ret d x.2) := by
  cases e <;> first | exact False.elim h | (rw [eS] <;> first | (simp only [ev_bind,ev_map]; done) | (intro i q; cases q))
theorem sr_int {i : Int} : Ev (eS C G (.ret (.int i)) ρ st) P ↔ Ev (eE C G (.int i) ρ st) fun x => Ev x.1.data fun d => P (.ret d x.2) := st_ret trivial
theorem sr_bl {b : Bool} : Ev (eS C G (.ret (.bl b)) ρ st) P ↔ Ev (eE C G (.bl b) ρ st) fun x => Ev x.1.data fun d => P (.ret d x.2) := st_ret trivial
theorem sr_non  : Ev (eS C G (.ret (.non)) ρ st) P ↔ Ev (eE C G (.non) ρ st) fun x => Ev x.1.data fun d => P (.ret d x.2) := st_ret trivial
theorem sr_str {z : List Nat} : Ev (eS C G (.ret (.str z)) ρ st) P ↔ Ev (eE C G (.str z) ρ st) fun x => Ev x.1.data fun d => P (.ret d x.2) := st_ret trivial
theorem sr_gl {i : Nat} : Ev (eS C G (.ret (.gl i)) ρ st) P ↔ Ev (eE C G (.gl i) ρ st) fun x => Ev x.1.data fun d => P (.ret d x.2) := st_ret trivial
theorem sr_bin {o : BOp} {a b : ME} : Ev (eS C G (.ret (.bin o a b)) ρ st) P ↔ Ev (eE C G (.bin o a b) ρ st) fun x => Ev x.1.data fun d => P (.ret d x.2) := st_ret trivial
theorem sr_neg {a : ME} : Ev (eS C G (.ret (.neg a)) ρ st) P ↔ Ev (eE C G (.neg a) ρ st) fun x => Ev x.1.data fun d => P (.ret d x.2) := st_ret trivial
theorem sr_cmp {o : COp} {a b : ME} : Ev (eS C G (.ret (.cmp o a b)) ρ st) P ↔ Ev (eE C G (.cmp o a b) ρ st) fun x => Ev x.1.data fun d => P (.ret d x.2) := st_ret trivial
theorem sr_isN {k : Bool} {a : ME} : Ev (eS C G (.ret (.isN k a)) ρ st) P ↔ Ev (eE C G (.isN k a) ρ st) fun x => Ev x.1.data fun d => P (.ret d x.2) := st_ret trivial
theorem sr_ch {o o' : COp} {a b c : ME} : Ev (eS C G (.ret (.ch o o' a b c)) ρ st) P ↔ Ev (eE C G (.ch o o' a b c) ρ st) fun x => Ev x.1.data fun d => P (.ret d x.2) := st_ret trivial
theorem sr_bop {k : Bool} {es : MEs} : Ev (eS C G (.ret (.bop k es)) ρ st) P ↔ Ev (eE C G (.bop k es) ρ st) fun x => Ev x.1.data fun d => P (.ret d x.2) := st_ret trivial
theorem sr_not {a : ME} : Ev (eS C G (.ret (.not a)) ρ st) P ↔ Ev (eE C G (.not a) ρ st) fun x => Ev x.1.data fun d => P (.ret d x.2) := st_ret trivial
theorem sr_ite {a b c : ME} : Ev (eS C G (.ret (.ite a b c)) ρ st) P ↔ Ev (eE C G (.ite a b c) ρ st) fun x => Ev x.1.data fun d => P (.ret d x.2) := st_ret trivial
theorem sr_tup {es : MEs} : Ev (eS C G (.ret (.tup es)) ρ st) P ↔ Ev (eE C G (.tup es) ρ st) fun x => Ev x.1.data fun d => P (.ret d x.2) := st_ret trivial
theorem sr_lst {es : MEs} : Ev (eS C G (.ret (.lst es)) ρ st) P ↔ Ev (eE C G (.lst es) ρ st) fun x => Ev x.1.data fun d => P (.ret d x.2) := st_ret trivial
theorem sr_cell {es : MEs} : Ev (eS C G (.ret (.cell es)) ρ st) P ↔ Ev (eE C G (.cell es) ρ st) fun x => Ev x.1.data fun d => P (.ret d x.2) := st_ret trivial
theorem sr_ix {a b : ME} : Ev (eS C G (.ret (.ix a b)) ρ st) P ↔ Ev (eE C G (.ix a b) ρ st) fun x => Ev x.1.data fun d => P (.ret d x.2) := st_ret trivial
theorem sr_sl {a : ME} {lo hi : MO} : Ev (eS C G (.ret (.sl a lo hi)) ρ st) P ↔ Ev (eE C G (.sl a lo hi) ρ st) fun x => Ev x.1.data fun d => P (.ret d x.2) := st_ret trivial
theorem sr_call {i : Nat} {es : MEs} : Ev (eS C G (.ret (.call i es)) ρ st) P ↔ Ev (eE C G (.call i es) ρ st) fun x => Ev x.1.data fun d => P (.ret d x.2) := st_ret trivial
theorem sr_bi {b : BI} {es : MEs} : Ev (eS C G (.ret (.bi b es)) ρ st) P ↔ Ev (eE C G (.bi b es) ρ st) fun x => Ev x.1.data fun d => P (.ret d x.2) := st_ret trivial
theorem sr_index {a b : ME} : Ev (eS C G (.ret (.index a b)) ρ st) P ↔ Ev (eE C G (.index a b) ρ st) fun x => Ev x.1.data fun d => P (.ret d x.2) := st_ret trivial
theorem sr_gindex {i : Nat} {a : ME} : Ev (eS C G (.ret (.gindex i a)) ρ st) P ↔ Ev (eE C G (.gindex i a) ρ st) fun x => Ev x.1.data fun d => P (.ret d x.2) := st_ret trivial
theorem sr_lc {own : List (Str × Nat)} {tg : MT} {it : MI} {c : MO} {a : ME} : Ev (eS C G (.ret (.lc own tg it c a)) ρ st) P ↔ Ev (eE C G (.lc own tg it c a) ρ st) fun x => Ev x.1.data fun d => P (.ret d x.2) := st_ret trivial
theorem sr_sset {a : ME} : Ev (eS C G (.ret (.sset a)) ρ st) P ↔ Ev (eE C G (.sset a) ρ st) fun x => Ev x.1.data fun d => P (.ret d x.2) := st_ret trivial
theorem sr_rgL {a : ME} : Ev (eS C G (.ret (.rgL a)) ρ st) P ↔ Ev (eE C G (.rgL a) ρ st) fun x => Ev x.1.data fun d => P (.ret d x.2) := st_ret trivial
theorem sr_rgT {a : ME} : Ev (eS C G (.ret (.rgT a)) ρ st) P ↔ Ev (eE C G (.rgT a) ρ st) fun x => Ev x.1.data fun d => P (.ret d x.2) := st_ret trivial
theorem sr_strI {a : ME} : Ev (eS C G (.ret (.strI a)) ρ st) P ↔ Ev (eE C G (.strI a) ρ st) fun x => Ev x.1.data fun d => P (.ret d x.2) := st_ret trivial
theorem sr_lc2 {own : List (Str × Nat)} {vs1 : List Nat} {tg tg1 : MT} {it it1 : MI} {a : ME} : Ev (eS C G (.ret (.lc2 own vs1 tg it tg1 it1 a)) ρ st) P ↔ Ev (eE C G (.lc2 own vs1 tg it tg1 it1 a) ρ st) fun x => Ev x.1.data fun d => P (.ret d x.2) := st_ret trivial
theorem st_retN : Ev (eS C G .retN ρ st) P ↔ P (.ret .non st) := by rw [eS, ev_some]
theorem st_iff {c : ME} {a b : MSs} : Ev (eS C G (.iff c a b) ρ st) P ↔ Ev (eT C G c ρ st) (iffK C G a b ρ P) := by
  rw [eS, ev_bind]
  refine ev_congr fun r => ?_
  rw [ev_ite]; rfl
theorem st_forr {t : MT} {it : MI} {body : MSs} : Ev (eS C G (.forr t it body) ρ st) P ↔ Ev (eI C G false it ρ st) fun r => Ev (forL t (fun ρ' st' => eSs C G body ρ' st') r.1 ρ r.2) P := by rw [eS, ev_bind]
theorem st_whl {c : ME} {body : MSs} : Ev (eS C G (.whl c body) ρ st) P ↔ Ev (whl (fun ρ' st' => eT C G c ρ' st') (fun ρ' st' => eSs C G body ρ' st') ρ st) P := by rw [eS]
theorem st_brk : Ev (eS C G .brk ρ st) P ↔ P (.brk ρ st) := by rw [eS, ev_some]
theorem st_cnt : Ev (eS C G .cnt ρ st) P ↔ P (.cnt ρ st) := by rw [eS, ev_some]
theorem st_pass : Ev (eS C G .pass ρ st) P ↔ P (.nx ρ st) := by rw [eS, ev_some]
variable {tg : MT} {body : Env → Cells → Option Out} {x : D} {xs : List D}
theorem fl_nil : Ev (forL tg body [] ρ st) P ↔ P (.nx ρ st) := by rw [forL, ev_some]
theorem fl_cons : Ev (forL tg body (x :: xs) ρ st) P ↔ Ev (bindT tg x ρ) fun ρ1 => Ev (body ρ1 st) (forK tg body xs P) := by
  rw [forL]; simp only [ev_bind]
  refine ev_congr fun ρ1 => ev_congr fun o => ?_
  cases o <;> simp only [forK,ev_some]
/-- behind a turn of such a loop -/
def flK (I : List D → Env → Cells → Prop) (P : Out → Prop) (xs : List D) : Out → Prop
  | .nx ρ2 st2 => I xs ρ2 st2
  | .cnt ρ2 st2 => I xs ρ2 st2
  | .brk ρ2 st2 => P (.nx ρ2 st2)
  | .ret d st2 => P (.ret d st2)
theorem flk_nx {I : List D → Env → Cells → Prop} : flK I P xs (.nx ρ st) ↔ I xs ρ st := Iff.rfl
theorem flk_cnt {I : List D → Env → Cells → Prop} : flK I P xs (.cnt ρ st) ↔ I xs ρ st := Iff.rfl
theorem flk_brk {I : List D → Env → Cells → Prop} : flK I P xs (.brk ρ st) ↔ P (.nx ρ st) := Iff.rfl
theorem flk_ret {I : List D → Env → Cells → Prop} {d : D} : flK I P xs (.ret d st) ↔ P (.ret d st) := Iff.rfl
/-- a for over a list, by an invariant of what is left -/
theorem fl_inv {I : List D → Env → Cells → Prop} (h0 : I xs ρ st) (he : ∀ ρ st, I [] ρ st → P (.nx ρ st))
    (hs : ∀ x xs ρ st, I (x :: xs) ρ st → Ev (bindT tg x ρ) fun ρ1 => Ev (body ρ1 st) (flK I P xs)) : Ev (forL tg body xs ρ st) P := by
  induction xs generalizing ρ st with
  | nil => rw [fl_nil]; exact he ρ st h0
  | cons x xs ih =>
    rw [fl_cons]
    refine (hs x xs ρ st h0).mono fun ρ1 h1 => h1.mono fun o ho => ?_
    cases o with
    | nx ρ2 st2 => exact ih ho
    | cnt ρ2 st2 => exact ih ho
    | brk ρ2 st2 => exact ho
    | ret d st2 => exact ho
variable {c : Env → Cells → Option (Bool × Cells)}
theorem whlL_mono {k k' : Nat} {out : Out} (h : whlL c body k ρ st = some out) (hk : k ≤ k') : whlL c body k' ρ st = some out := by
  induction k generalizing k' ρ st with
  | zero => unfold whlL at h; cases h
  | succ k ih =>
    obtain ⟨k', rfl⟩ : ∃ j, k' = j + 1 := ⟨k' - 1, by omega⟩
    unfold whlL at h ⊢
    cases hc : c ρ st with
    | none => rw [hc] at h; cases h
    | some b =>
      rw [hc] at h
      rw [Option.bind_some] at h ⊢
      split
      · rename_i hb
        rw [if_pos hb] at h
        cases ho : body ρ b.2 with
        | none => rw [ho] at h; cases h
        | some o =>
          rw [ho] at h
          rw [Option.bind_some] at h ⊢
          cases o with
          | nx ρ2 st2 => exact ih h (by omega)
          | cnt ρ2 st2 => exact ih h (by omega)
          | brk ρ2 st2 => exact h
          | ret d st2 => exact h
      · rename_i hb
        rw [if_neg hb] at h
        exact h
theorem whl_of {k : Nat} {out : Out} (h : whlL c body k ρ st = some out) : whl c body ρ st = some out := by
  unfold whl
  have hx : ∃ k o, whlL c body k ρ st = some o := ⟨k, out, h⟩
  rw [dif_pos hx]
  have q := Classical.choose_spec (Classical.choose_spec hx)
  have a := whlL_mono h (Nat.le_max_left k (Classical.choose hx))
  have b := whlL_mono q (Nat.le_max_right k (Classical.choose hx))
  rw [a] at b
  exact congrArg some (Option.some.inj b).symm
def wlK (I : Nat → Env → Cells → Prop) (P : Out → Prop) (m : Nat) : Out → Prop
  | .nx ρ2 st2 => ∃ m', m' < m ∧ I m' ρ2 st2
  | .cnt ρ2 st2 => ∃ m', m' < m ∧ I m' ρ2 st2
  | .brk ρ2 st2 => P (.nx ρ2 st2)
  | .ret d st2 => P (.ret d st2)
theorem wlk_nx {I : Nat → Env → Cells → Prop} {m : Nat} : wlK I P m (.nx ρ st) ↔ ∃ m', m' < m ∧ I m' ρ st := Iff.rfl
theorem wlk_cnt {I : Nat → Env → Cells → Prop} {m : Nat} : wlK I P m (.cnt ρ st) ↔ ∃ m', m' < m ∧ I m' ρ st := Iff.rfl
theorem wlk_brk {I : Nat → Env → Cells → Prop} {m : Nat} : wlK I P m (.brk ρ st) ↔ P (.nx ρ st) := Iff.rfl
theorem wlk_ret {I : Nat → Env → Cells → Prop} {m : Nat} {d : D} : wlK I P m (.ret d st) ↔ P (.ret d st) := Iff.rfl
/-- behind the test of such a loop -/
def wtK (I : Nat → Env → Cells → Prop) (body : Env → Cells → Option Out) (P : Out → Prop) (m : Nat) (ρ : Env) (b : Bool × Cells) : Prop := if b.1 = true then 0 < m ∧ Ev (body ρ b.2) (wlK I P m) else P (.nx ρ b.2)
theorem wt_t {I : Nat → Env → Cells → Prop} {m : Nat} : wtK I body P m ρ (true, st) ↔ 0 < m ∧ Ev (body ρ st) (wlK I P m) := by unfold wtK; rw [if_pos rfl]
theorem wt_f {I : Nat → Env → Cells → Prop} {m : Nat} : wtK I body P m ρ (false, st) ↔ P (.nx ρ st) := by unfold wtK; rw [if_neg Bool.false_ne_true]
theorem wt_d {I : Nat → Env → Cells → Prop} {m : Nat} {p : Prop} [Decidable p] : wtK I body P m ρ (decide p, st) ↔ if p then 0 < m ∧ Ev (body ρ st) (wlK I P m) else P (.nx ρ st) := by
  by_cases h : p
  · rw [decide_eq_true h, wt_t, if_pos h]
  · rw [decide_eq_false h, wt_f, if_neg h]
/-- a while, by an invariant and a measure -/
theorem wl_inv {I : Nat → Env → Cells → Prop} {m : Nat} (h0 : I m ρ st)
    (hs : ∀ m ρ st, I m ρ st → Ev (c ρ st) (wtK I body P m ρ)) : Ev (whl c body ρ st) P := by
  have key : ∀ (n m : Nat) (ρ : Env) (st : Cells), m < n → I m ρ st → ∃ out, whlL c body n ρ st = some out ∧ P out := by
    intro n
    induction n with
    | zero => intro m ρ st h; omega
    | succ n ih =>
      intro m ρ st hm h
      obtain ⟨b, hb, q⟩ := hs m ρ st h
      unfold wtK at q
      unfold whlL
      rw [hb, Option.bind_some]
      split
      · rename_i h1
        rw [if_pos h1] at q
        obtain ⟨o, ho, q⟩ := q.2
        rw [ho, Option.bind_some]
        cases o with
        | nx ρ2 st2 => obtain ⟨m', h2, h3⟩ := q; exact ih m' ρ2 st2 (by omega) h3
        | cnt ρ2 st2 => obtain ⟨m', h2, h3⟩ := q; exact ih m' ρ2 st2 (by omega) h3
        | brk ρ2 st2 => exact ⟨_, rfl, q⟩
        | ret d st2 => exact ⟨_, rfl, q⟩
      · rename_i h1
        rw [if_neg h1] at q
        exact ⟨_, rfl, q⟩
  obtain ⟨out, h1, h2⟩ := key (m + 1) m ρ st (Nat.lt_succ_self m) h0
  exact ⟨out, whl_of h1, h2⟩
end
/-! ### comprehensions -/
section
variable {own : List Nat} {tg : MT} {c : Env → Cells → Option (Bool × Cells)} {elt : Env → Cells → Option (D × Cells)} {ρ : Env} {st : Cells} {P : List D × Cells → Prop} {x : D} {xs : List D}
def lcK (own : List Nat) (tg : MT) (c : Env → Cells → Option (Bool × Cells)) (elt : Env → Cells → Option (D × Cells)) (ρ ρ1 : Env) (xs : List D) (P : List D × Cells → Prop) (b : Bool × Cells) : Prop :=
  if b.1 = true then Ev (elt ρ1 b.2) fun y => Ev (lcL own tg c elt ρ xs y.2) fun r => P (y.1 :: r.1, r.2) else Ev (lcL own tg c elt ρ xs b.2) P
theorem ll_nil : Ev (lcL own tg c elt ρ [] st) P ↔ P ([], st) := by rw [lcL, ev_some]
theorem ll_cons : Ev (lcL own tg c elt ρ (x :: xs) st) P ↔ Ev (bindT tg x (ρ.wipe own)) fun ρ1 => Ev (c ρ1 st) (lcK own tg c elt ρ ρ1 xs P) := by
  rw [lcL]; simp only [ev_bind,ev_ite,ev_map]
  rfl
/-- a comprehension, by an invariant: what is left, what is made -/
theorem ll_inv {I : List D → List D → Cells → Prop} (h0 : I xs [] st) (he : ∀ acc st, I [] acc st → P (acc, st))
    (hs : ∀ x xs acc st, I (x :: xs) acc st → Ev (bindT tg x (ρ.wipe own)) fun ρ1 => Ev (c ρ1 st) fun b => if b.1 = true then Ev (elt ρ1 b.2) fun y => I xs (acc ++ [y.1]) y.2 else I xs acc b.2) : Ev (lcL own tg c elt ρ xs st) P := by
  have key : ∀ (xs acc : List D) (st : Cells), I xs acc st → Ev (lcL own tg c elt ρ xs st) fun r => P (acc ++ r.1, r.2) := by
    intro xs
    induction xs with
    | nil => intro acc st h; rw [ll_nil, List.append_nil]; exact he acc st h
    | cons x xs ih =>
      intro acc st h
      rw [ll_cons]
      refine (hs x xs acc st h).mono fun ρ1 h1 => h1.mono fun b hb => ?_
      unfold lcK
      split
      · rename_i e
        rw [if_pos e] at hb
        exact hb.mono fun y hy => (ih _ _ hy).mono fun r hr => by rw [List.append_assoc] at hr; exact hr
      · rename_i e
        rw [if_neg e] at hb
        exact ih _ _ hb
  exact (key xs [] st h0).mono fun r hr => hr
end

/-! ### the same by the index -/
section
variable {own : List Nat} {tg : MT} {body : Env → Cells → Option Out} {c : Env → Cells → Option (Bool × Cells)} {elt : Env → Cells → Option (D × Cells)} {ρ : Env} {st : Cells} {xs : List D}
theorem drop_cons {xs ys : List D} {x : D} {i : Nat} (h : x :: ys = xs.drop i) : xs[i]? = some x ∧ ys = xs.drop (i + 1) := by
  have hi : i < xs.length := by
    by_cases q : i < xs.length
    · exact q
    · rw [List.drop_eq_nil_of_le (by omega)] at h; cases h
  rw [List.drop_eq_getElem_cons hi] at h
  injection h with h1 h2
  exact ⟨by rw [List.getElem?_eq_getElem hi, h1], h2⟩
theorem fl_idx {P : Out → Prop} {I : Nat → Env → Cells → Prop} (h0 : I 0 ρ st) (he : ∀ ρ st, I xs.length ρ st → P (.nx ρ st))
    (hs : ∀ i x ρ st, xs[i]? = some x → I i ρ st → Ev (bindT tg x ρ) fun ρ1 => Ev (body ρ1 st) (flK (fun _ => I (i + 1)) P [])) : Ev (forL tg body xs ρ st) P := by
  refine fl_inv (I := fun ys ρ st => ∃ i, ys = xs.drop i ∧ i ≤ xs.length ∧ I i ρ st) ⟨0, by simp, Nat.zero_le _, h0⟩ ?_ ?_
  · rintro ρ st ⟨i, e, hi, h⟩
    have : xs.length ≤ i := by
      have q := congrArg List.length e
      simp at q
      omega
    have : i = xs.length := by omega
    subst this
    exact he ρ st h
  · rintro x ys ρ st ⟨i, e, hi, h⟩
    obtain ⟨e1, e2⟩ := drop_cons e
    have hl : i < xs.length := (List.getElem?_eq_some_iff.mp e1).1
    refine (hs i x ρ st e1 h).mono fun ρ1 h1 => h1.mono fun o ho => ?_
    cases o with
    | nx ρ2 st2 => exact ⟨i + 1, e2, hl, ho⟩
    | cnt ρ2 st2 => exact ⟨i + 1, e2, hl, ho⟩
    | brk ρ2 st2 => exact ho
    | ret d st2 => exact ho
/-- behind the test of a comprehension -/
def llK (elt : Env → Cells → Option (D × Cells)) (I : List D → Cells → Prop) (J : List D → Cells → Prop) (acc : List D) (ρ1 : Env) (b : Bool × Cells) : Prop := if b.1 = true then Ev (elt ρ1 b.2) fun y => I (acc ++ [y.1]) y.2 else J acc b.2
theorem llk_t {I J : List D → Cells → Prop} {acc : List D} {ρ1 : Env} : llK elt I J acc ρ1 (true, st) ↔ Ev (elt ρ1 st) fun y => I (acc ++ [y.1]) y.2 := by unfold llK; rw [if_pos rfl]
theorem llk_f {I J : List D → Cells → Prop} {acc : List D} {ρ1 : Env} : llK elt I J acc ρ1 (false, st) ↔ J acc st := by unfold llK; rw [if_neg Bool.false_ne_true]
theorem llk_d {I J : List D → Cells → Prop} {acc : List D} {ρ1 : Env} {p : Prop} [Decidable p] : llK elt I J acc ρ1 (decide p, st) ↔ if p then (Ev (elt ρ1 st) fun y => I (acc ++ [y.1]) y.2) else J acc st := by
  by_cases h : p
  · rw [decide_eq_true h, llk_t, if_pos h]
  · rw [decide_eq_false h, llk_f, if_neg h]
/-- a comprehension: how many are walked, what is made -/
theorem ll_idx {P : List D × Cells → Prop} {I : Nat → List D → Cells → Prop} (h0 : I 0 [] st) (he : ∀ acc st, I xs.length acc st → P (acc, st))
    (hs : ∀ i x acc st, xs[i]? = some x → I i acc st → Ev (bindT tg x (ρ.wipe own)) fun ρ1 => Ev (c ρ1 st) (llK elt (I (i + 1)) (I (i + 1)) acc ρ1)) : Ev (lcL own tg c elt ρ xs st) P := by
  refine ll_inv (I := fun ys acc st => ∃ i, ys = xs.drop i ∧ i ≤ xs.length ∧ I i acc st) ⟨0, by simp, Nat.zero_le _, h0⟩ ?_ ?_
  · rintro acc st ⟨i, e, hi, h⟩
    have : xs.length ≤ i := by
      have q := congrArg List.length e
      simp at q
      omega
    have : i = xs.length := by omega
    subst this
    exact he acc st h
  · rintro x ys acc st ⟨i, e, hi, h⟩
    obtain ⟨e1, e2⟩ := drop_cons e
    have hl : i < xs.length := (List.getElem?_eq_some_iff.mp e1).1
    refine (hs i x acc st e1 h).mono fun ρ1 h1 => h1.mono fun b hb => ?_
    unfold llK at hb
    split
    · rename_i q
      rw [if_pos q] at hb
      exact hb.mono fun y hy => ⟨i + 1, e2, hl, hy⟩
    · rename_i q
      rw [if_neg q] at hb
      exact ⟨i + 1, e2, hl, hb⟩
end
section
variable {own : List Nat} {tg : MT} {inner : Env → Cells → Option (List D × Cells)} {ρ : Env} {st : Cells} {xs : List D} {x : D} {P : List D × Cells → Prop}
theorem l2_nil : Ev (lc2L own tg inner ρ [] st) P ↔ P ([], st) := by rw [lc2L, ev_some]
theorem l2_cons : Ev (lc2L own tg inner ρ (x :: xs) st) P ↔ Ev (bindT tg x (ρ.wipe own)) fun ρ1 => Ev (inner ρ1 st) fun ys => Ev (lc2L own tg inner ρ xs ys.2) fun r => P (ys.1 ++ r.1, r.2) := by
  rw [lc2L]; simp only [ev_bind,ev_map]
/-- two clauses: how many are walked, what is made -/
theorem l2_idx {I : Nat → List D → Cells → Prop} (h0 : I 0 [] st) (he : ∀ acc st, I xs.length acc st → P (acc, st))
    (hs : ∀ i x acc st, xs[i]? = some x → I i acc st → Ev (bindT tg x (ρ.wipe own)) fun ρ1 => Ev (inner ρ1 st) fun ys => I (i + 1) (acc ++ ys.1) ys.2) : Ev (lc2L own tg inner ρ xs st) P := by
  have key : ∀ (ys : List D) (i : Nat) (acc : List D) (st : Cells), ys = xs.drop i → i ≤ xs.length → I i acc st → Ev (lc2L own tg inner ρ ys st) fun r => P (acc ++ r.1, r.2) := by
    intro ys
    induction ys with
    | nil =>
      intro i acc st e hi h
      have : i = xs.length := by
        have q := congrArg List.length e
        simp at q
        omega
      subst this
      rw [l2_nil, List.append_nil]; exact he acc st h
    | cons y ys ih =>
      intro i acc st e hi h
      obtain ⟨e1, e2⟩ := drop_cons e
      have hl : i < xs.length := (List.getElem?_eq_some_iff.mp e1).1
      rw [l2_cons]
      exact (hs i y acc st e1 h).mono fun ρ1 h1 => h1.mono fun zs hz => (ih (i + 1) _ _ e2 hl hz).mono fun r hr => by rw [List.append_assoc] at hr; exact hr
  exact (key xs 0 [] st (by simp) (Nat.zero_le _) h0).mono fun r hr => hr
end
theorem rngD_get {lo : Int} {n i : Nat} : (rngD lo n)[i]? = if i < n then some (.int (lo + i)) else none := by
  unfold rngD
  rw [List.getElem?_map]
  by_cases h : i < n
  · rw [if_pos h, List.getElem?_range h]; rfl
  · rw [if_neg h, List.getElem?_eq_none (by simpa using h)]; rfl
theorem rngD_len {lo : Int} {n : Nat} : (rngD lo n).length = n := by simp [rngD]
theorem enumD_get {ds : List D} {i : Nat} : (enumD ds)[i]? = (ds[i]?).map fun d => .tup [.int i, d] := by
  unfold enumD
  rw [List.getElem?_zipWith, rngD_get]
  by_cases h : i < ds.length
  · rw [if_pos h, List.getElem?_eq_getElem h]; simp
  · rw [if_neg h, List.getElem?_eq_none (by omega)]; rfl
theorem enumD_len {ds : List D} : (enumD ds).length = ds.length := by simp [enumD, rngD]
theorem zipD_get {xs ys : List D} {i : Nat} : (zipD xs ys)[i]? = match xs[i]?, ys[i]? with
    | some x, some y => some (.tup [x, y])
    | _, _ => none := by
  unfold zipD
  rw [List.getElem?_zipWith]
  cases xs[i]? <;> cases ys[i]? <;> rfl
theorem zipD_len {xs ys : List D} : (zipD xs ys).length = min xs.length ys.length := by simp [zipD]

/-! ### calls -/
def defK (P : D × Cells → Prop) : Out → Prop
  | .nx _ st => P (.non, st)
  | .ret d st => P (d, st)
  | _ => False
section
variable {P : D × Cells → Prop} {ρ : Env} {st : Cells} {d : D}
theorem def_nx : defK P (.nx ρ st) ↔ P (.non, st) := Iff.rfl
theorem def_ret : defK P (.ret d st) ↔ P (d, st) := Iff.rfl
theorem cl {T : Prog} {n i : Nat} {f : Def} {ds : List D} (hf : T.fns[i]? = some f) (hl : ds.length = f.k) (h : Ev (eSs (callN T n) (T.gls.map (·.2)) f.body (start f.N.length ds) st) (defK P)) : Ev (callN T (n + 1) i ds st) P := by
  unfold callN
  rw [hf]
  dsimp only
  unfold runDef
  rw [if_pos hl, ev_bind]
  refine h.mono fun o ho => ?_
  cases o <;> first | exact ev_some.mpr ho | exact ho.elim
/-- more levels do no harm -/
theorem callN_of {T : Prog} {n m i : Nat} {ds : List D} (h : Ev (callN T n i ds st) P) (e : callN T m i ds st = callN T n i ds st) : Ev (callN T m i ds st) P := by rw [e]; exact h
end
/-! ### operations -/
section
variable {d : D} {ds : List D}
theorem dat_d : VR.data (.dat d) = some d := rfl
theorem dat_n : VR.data (.new ds) = some (.lst ds) := rfl
theorem rd_d : VR.read (.dat d) = d := rfl
theorem rd_b : VR.read (.bor ds) = .lst ds := rfl
theorem rd_n : VR.read (.new ds) = .lst ds := rfl
theorem isn_d : VR.isNone (.dat d) = d.isNone := rfl
theorem isn_b : VR.isNone (.bor ds) = false := rfl
theorem isn_n : VR.isNone (.new ds) = false := rfl
theorem no_non : D.isNone .non = true := rfl
theorem no_bl {b : Bool} : D.isNone (.bl b) = false := rfl
theorem no_int {i : Int} : D.isNone (.int i) = false := rfl
theorem no_str {z : List Nat} : D.isNone (.str z) = false := rfl
theorem no_tup : D.isNone (.tup ds) = false := rfl
theorem no_lst : D.isNone (.lst ds) = false := rfl
theorem tr_non : D.truth .non = some false := rfl
theorem tr_bl {b : Bool} : D.truth (.bl b) = some b := rfl
theorem tr_int {i : Int} : D.truth (.int i) = some (i != 0) := rfl
theorem tr_tup : D.truth (.tup ds) = some (!ds.isEmpty) := rfl
theorem tr_lst : D.truth (.lst ds) = some (!ds.isEmpty) := rfl
theorem it_tup : D.items (.tup ds) = some ds := rfl
theorem it_lst : D.items (.lst ds) = some ds := rfl
theorem it_rol : D.items (.rol ds) = some ds := rfl
theorem wk_d {b : Bool} : walked b (.dat d) = d.items := rfl
theorem wk_n {b : Bool} : walked b (.new ds) = some ds := rfl
theorem wk_b : walked true (.bor ds) = some ds := rfl
end
section
variable {P : VR → Prop} {i j k : Int} {st : Cells} {ds es : List D} {a b : List Nat}
theorem b_add : Ev (dBin .add (.dat (.int i)) (.dat (.int j))) P ↔ P (.dat (.int (i + j))) := by simp only [dBin,VR.read,ev_some]
theorem b_sub : Ev (dBin .sub (.dat (.int i)) (.dat (.int j))) P ↔ P (.dat (.int (i - j))) := by simp only [dBin,VR.read,ev_some]
theorem b_mul : Ev (dBin .mul (.dat (.int i)) (.dat (.int j))) P ↔ bits i + bits j < 1000000 ∧ P (.dat (.int (i * j))) := by simp only [dBin,VR.read,ev_iteN,ev_some]
theorem b_fdiv : Ev (dBin .fdiv (.dat (.int i)) (.dat (.int j))) P ↔ (j ≠ 0 ∧ bits j < 9000) ∧ P (.dat (.int (i.fdiv j))) := by simp only [dBin,VR.read,ev_iteN,ev_some]
theorem b_mod : Ev (dBin .mod (.dat (.int i)) (.dat (.int j))) P ↔ j ≠ 0 ∧ P (.dat (.int (i.fmod j))) := by simp only [dBin,VR.read,ev_iteN,ev_some]
theorem b_pow : Ev (dBin .pow (.dat (.int i)) (.dat (.int j))) P ↔ (0 ≤ j ∧ j ≤ 1000 ∧ i.natAbs < 2 ^ 64) ∧ P (.dat (.int (i ^ j.toNat))) := by simp only [dBin,VR.read,ev_iteN,ev_some]
theorem b_adds : Ev (dBin .add (.dat (.str a)) (.dat (.str b))) P ↔ a.length + b.length ≤ line ∧ P (.dat (.str (a ++ b))) := by simp only [dBin,VR.read,ev_iteN,ev_some]
theorem b_addt : Ev (dBin .add (.dat (.tup ds)) (.dat (.tup es))) P ↔ ds.length + es.length ≤ line ∧ P (.dat (.tup (ds ++ es))) := by simp only [dBin,VR.read,ev_iteN,ev_some]
theorem b_addl {x y : VR} (hx : x.read = .lst ds) (hy : y.read = .lst es) : Ev (dBin .add x y) P ↔ ds.length + es.length ≤ line ∧ P (.new (ds ++ es)) := by simp only [dBin,hx,hy,ev_iteN,ev_some]
theorem b_addl1 : Ev (dBin .add (.dat (.lst ds)) (.dat (.lst es))) P ↔ ds.length + es.length ≤ line ∧ P (.new (ds ++ es)) := b_addl rfl rfl
theorem b_addl2 : Ev (dBin .add (.dat (.lst ds)) (.new es)) P ↔ ds.length + es.length ≤ line ∧ P (.new (ds ++ es)) := b_addl rfl rfl
theorem b_addl3 : Ev (dBin .add (.new ds) (.dat (.lst es))) P ↔ ds.length + es.length ≤ line ∧ P (.new (ds ++ es)) := b_addl rfl rfl
theorem b_addl4 : Ev (dBin .add (.new ds) (.new es)) P ↔ ds.length + es.length ≤ line ∧ P (.new (ds ++ es)) := b_addl rfl rfl
theorem b_addl5 : Ev (dBin .add (.bor ds) (.new es)) P ↔ ds.length + es.length ≤ line ∧ P (.new (ds ++ es)) := b_addl rfl rfl
theorem b_addl6 : Ev (dBin .add (.bor ds) (.dat (.lst es))) P ↔ ds.length + es.length ≤ line ∧ P (.new (ds ++ es)) := b_addl rfl rfl
theorem b_addl7 : Ev (dBin .add (.new ds) (.bor es)) P ↔ ds.length + es.length ≤ line ∧ P (.new (ds ++ es)) := b_addl rfl rfl
theorem b_mult : Ev (dBin .mul (.dat (.tup ds)) (.dat (.int k))) P ↔ (-(2 ^ 62) ≤ k ∧ k < 2 ^ 62 ∧ ds.length * k.toNat ≤ line) ∧ P (.dat (.tup (List.replicate k.toNat ds).flatten)) := by simp only [dBin,VR.read,ev_iteN,ev_some]
theorem b_mull : Ev (dBin .mul (.new ds) (.dat (.int k))) P ↔ (-(2 ^ 62) ≤ k ∧ k < 2 ^ 62 ∧ ds.length * k.toNat ≤ line) ∧ P (.new (List.replicate k.toNat ds).flatten) := by simp only [dBin,VR.read,ev_iteN,ev_some]
theorem x_tup : Ev (dIx st (.dat (.tup ds)) (.dat (.int k))) P ↔ Ev (getI ds k) fun d => P (.dat d) := by simp only [dIx,VR.read,D.items,Option.bind_some,ev_map]
theorem x_lst : Ev (dIx st (.dat (.lst ds)) (.dat (.int k))) P ↔ Ev (getI ds k) fun d => P (.dat d) := by simp only [dIx,VR.read,D.items,Option.bind_some,ev_map]
theorem x_rol : Ev (dIx st (.dat (.rol ds)) (.dat (.int k))) P ↔ Ev (getI ds k) fun d => P (.dat d) := by simp only [dIx,VR.read,D.items,Option.bind_some,ev_map]
theorem x_bor : Ev (dIx st (.bor ds) (.dat (.int k))) P ↔ Ev (getI ds k) fun d => P (.dat d) := by simp only [dIx,VR.read,D.items,Option.bind_some,ev_map]
theorem x_new : Ev (dIx st (.new ds) (.dat (.int k))) P ↔ Ev (getI ds k) fun d => P (.dat d) := by simp only [dIx,VR.read,D.items,Option.bind_some,ev_map]
theorem x_ptr {p : Nat} : Ev (dIx st (.dat (.ptr p)) (.dat (.int k))) P ↔ Ev (st[p]?) fun ds => Ev (getI ds k) fun d => P (.dat d) := by simp only [dIx,VR.read,ev_bind,ev_map]
theorem x_str : Ev (dIx st (.dat (.str a)) (.dat (.int k))) P ↔ a.length ≤ line ∧ Ev (getI a k) fun c => P (.dat (.str [c])) := by simp only [dIx,VR.read,ev_iteN,ev_map]
variable {lo hi : Option Int}
theorem sl_tup : Ev (dSl (.dat (.tup ds)) lo hi) P ↔ P (.dat (.tup (cut ds lo hi))) := by simp only [dSl,VR.read,ev_some]
theorem sl_lst : Ev (dSl (.dat (.lst ds)) lo hi) P ↔ P (.new (cut ds lo hi)) := by simp only [dSl,VR.read,ev_some]
theorem sl_bor : Ev (dSl (.bor ds) lo hi) P ↔ P (.new (cut ds lo hi)) := by simp only [dSl,VR.read,ev_some]
theorem sl_new : Ev (dSl (.new ds) lo hi) P ↔ P (.new (cut ds lo hi)) := by simp only [dSl,VR.read,ev_some]
theorem sl_str : Ev (dSl (.dat (.str a)) lo hi) P ↔ a.length ≤ line ∧ P (.dat (.str (cut a lo hi))) := by simp only [dSl,VR.read,ev_some,ev_iteN]
theorem k_lent : Ev (dBi .len [.dat (.tup ds)]) P ↔ P (.dat (.int ds.length)) := by simp only [dBi,VR.read,D.items,Option.map_some,ev_some]
theorem k_lenl : Ev (dBi .len [.dat (.lst ds)]) P ↔ P (.dat (.int ds.length)) := by simp only [dBi,VR.read,D.items,Option.map_some,ev_some]
theorem k_lenr : Ev (dBi .len [.dat (.rol ds)]) P ↔ P (.dat (.int ds.length)) := by simp only [dBi,VR.read,D.items,Option.map_some,ev_some]
theorem k_lenb : Ev (dBi .len [.bor ds]) P ↔ P (.dat (.int ds.length)) := by simp only [dBi,VR.read,D.items,Option.map_some,ev_some]
theorem k_lenn : Ev (dBi .len [.new ds]) P ↔ P (.dat (.int ds.length)) := by simp only [dBi,VR.read,D.items,Option.map_some,ev_some]
theorem k_lens : Ev (dBi .len [.dat (.str a)]) P ↔ a.length ≤ line ∧ P (.dat (.int a.length)) := by simp only [dBi,VR.read,ev_iteN,ev_some]
theorem k_abs : Ev (dBi .abs [.dat (.int i)]) P ↔ P (.dat (.int (if i < 0 then -i else i))) := by simp only [dBi,VR.read,ev_some]
theorem k_int : Ev (dBi .int [.dat (.int i)]) P ↔ P (.dat (.int i)) := by simp only [dBi,VR.read,ev_some]
theorem k_intb {b : Bool} : Ev (dBi .int [.dat (.bl b)]) P ↔ P (.dat (.int (if b then 1 else 0))) := by simp only [dBi,VR.read,ev_some]
theorem k_max2 : Ev (dBi .max2 [.dat (.int i), .dat (.int j)]) P ↔ P (.dat (.int (if j > i then j else i))) := by simp only [dBi,VR.read,ev_some]
theorem k_min2 : Ev (dBi .min2 [.dat (.int i), .dat (.int j)]) P ↔ P (.dat (.int (if j < i then j else i))) := by simp only [dBi,VR.read,ev_some]
theorem k_sumd : Ev (dBi .sum [.dat (.lst ds)]) P ↔ Ev (intsOf ds) fun is => P (.dat (.int is.sum)) := by simp only [dBi,VR.read,ev_map]
theorem k_sumb : Ev (dBi .sum [.bor ds]) P ↔ Ev (intsOf ds) fun is => P (.dat (.int is.sum)) := by simp only [dBi,VR.read,ev_map]
theorem k_sumn : Ev (dBi .sum [.new ds]) P ↔ Ev (intsOf ds) fun is => P (.dat (.int is.sum)) := by simp only [dBi,VR.read,ev_map]
theorem k_tupd : Ev (dBi .tuple [.dat (.tup ds)]) P ↔ P (.dat (.tup ds)) := by simp only [dBi,VR.read,ev_some]
theorem k_tupl : Ev (dBi .tuple [.dat (.lst ds)]) P ↔ P (.dat (.tup ds)) := by simp only [dBi,VR.read,ev_some]
theorem k_tupb : Ev (dBi .tuple [.bor ds]) P ↔ P (.dat (.tup ds)) := by simp only [dBi,VR.read,ev_some]
theorem k_tupn : Ev (dBi .tuple [.new ds]) P ↔ P (.dat (.tup ds)) := by simp only [dBi,VR.read,ev_some]
theorem k_lstt : Ev (dBi .list [.dat (.tup ds)]) P ↔ P (.new ds) := by simp only [dBi,VR.read,D.items,ev_some,ev_map]
theorem k_lstl : Ev (dBi .list [.dat (.lst ds)]) P ↔ P (.new ds) := by simp only [dBi,VR.read,D.items,ev_some,ev_map]
theorem k_isT {x : VR} : Ev (dBi .isTup [x]) P ↔ P (.dat (.bl x.read.isTup)) := by simp only [dBi,ev_some]
theorem k_isL {x : VR} : Ev (dBi .isList [x]) P ↔ P (.dat (.bl x.read.isList)) := by simp only [dBi,ev_some]
theorem k_isI {x : VR} : Ev (dBi .isInt [x]) P ↔ P (.dat (.bl x.read.isInt)) := by simp only [dBi,ev_some]
theorem k_isB {x : VR} : Ev (dBi .isBool [x]) P ↔ P (.dat (.bl x.read.isBool)) := by simp only [dBi,ev_some]
theorem k_isS {x : VR} : Ev (dBi .isStr [x]) P ↔ P (.dat (.bl x.read.isStr)) := by simp only [dBi,ev_some]
end
section
variable {P : Bool → Prop} {i j : Int} {x y : VR}
theorem c_eq : Ev (dCmp .eq x y) P ↔ (x.read.shp 60 && y.read.shp 60) = true ∧ P (D.eqb x.read y.read) := by simp only [dCmp,ev_iteN,ev_some]
theorem c_ne : Ev (dCmp .ne x y) P ↔ (x.read.shp 60 && y.read.shp 60) = true ∧ P (!D.eqb x.read y.read) := by simp only [dCmp,ev_iteN,ev_some]
theorem c_eqi : Ev (dCmp .eq (.dat (.int i)) (.dat (.int j))) P ↔ P (decide (i = j)) := by
  rw [c_eq]
  simp only [VR.read,D.shp,D.eqb,Bool.and_self,true_and]
  exact Iff.of_eq (congrArg P (by cases h : decide (i = j) <;> simp_all))
theorem c_nei : Ev (dCmp .ne (.dat (.int i)) (.dat (.int j))) P ↔ P (decide (i ≠ j)) := by
  rw [c_ne]
  simp only [VR.read,D.shp,D.eqb,Bool.and_self,true_and]
  exact Iff.of_eq (congrArg P (by by_cases h : i = j <;> simp [h]))
theorem c_lt : Ev (dCmp .lt (.dat (.int i)) (.dat (.int j))) P ↔ P (decide (i < j)) := by simp only [dCmp,VR.read,ev_some]
theorem c_le : Ev (dCmp .le (.dat (.int i)) (.dat (.int j))) P ↔ P (decide (i ≤ j)) := by simp only [dCmp,VR.read,ev_some]
theorem c_gt : Ev (dCmp .gt (.dat (.int i)) (.dat (.int j))) P ↔ P (decide (j < i)) := by simp only [dCmp,VR.read,ev_some]
theorem c_ge : Ev (dCmp .ge (.dat (.int i)) (.dat (.int j))) P ↔ P (decide (j ≤ i)) := by simp only [dCmp,VR.read,ev_some]
/-- membership -/
def inK (x : VR) (P : Bool → Prop) : Option (List D) → Prop
  | some ds => ((x.read.flat && ds.all D.flat) || (x.read.shp 50 && D.shps 50 ds)) = true ∧ P (ds.any fun d => D.eqb d x.read)
  | none => False
theorem in_s {ds : List D} : inK x P (some ds) ↔ ((x.read.flat && ds.all D.flat) || (x.read.shp 50 && D.shps 50 ds)) = true ∧ P (ds.any fun d => D.eqb d x.read) := Iff.rfl
theorem c_in : Ev (dCmp .inn x y) P ↔ inK x P y.read.items := by
  simp only [dCmp]
  cases y.read.items with
  | none => simp only [ev_none,inK]
  | some ds => simp only [ev_iteN,ev_some,inK]
theorem c_notin : Ev (dCmp .notin x y) P ↔ inK x (fun b => P (!b)) y.read.items := by
  simp only [dCmp]
  cases y.read.items with
  | none => simp only [ev_none,inK]
  | some ds => simp only [ev_iteN,ev_some,inK]
theorem c_eqs {a b : List Nat} : Ev (dCmp .eq (.dat (.str a)) (.dat (.str b))) P ↔ ((a.all fun c => decide (c < 1114112)) && b.all fun c => decide (c < 1114112)) = true ∧ P (decide (a = b)) := by
  rw [c_eq]
  simp only [VR.read,D.shp,D.eqb]
  exact and_congr_right fun _ => Iff.of_eq (congrArg P (by by_cases h : a = b <;> simp [h]))
theorem c_nes {a b : List Nat} : Ev (dCmp .ne (.dat (.str a)) (.dat (.str b))) P ↔ ((a.all fun c => decide (c < 1114112)) && b.all fun c => decide (c < 1114112)) = true ∧ P (decide (a ≠ b)) := by
  rw [c_ne]
  simp only [VR.read,D.shp,D.eqb]
  exact and_congr_right fun _ => Iff.of_eq (congrArg P (by by_cases h : a = b <;> simp [h]))
theorem c_eqb {a b : Bool} : Ev (dCmp .eq (.dat (.bl a)) (.dat (.bl b))) P ↔ P (a == b) := by
  rw [c_eq]
  simp only [VR.read,D.shp,D.eqb,Bool.and_self,true_and]
theorem eqb_str {a b : List Nat} : D.eqb (.str a) (.str b) = decide (a = b) := by
  simp only [D.eqb]
  by_cases h : a = b <;> simp [h]
theorem eqb_int : D.eqb (.int i) (.int j) = decide (i = j) := by
  simp only [D.eqb]
  by_cases h : i = j <;> simp [h]
theorem fl_non : D.flat .non = true := rfl
theorem fl_bl {b : Bool} : D.flat (.bl b) = true := rfl
theorem fl_int : D.flat (.int i) = true := rfl
theorem fl_str {z : List Nat} : D.flat (.str z) = true := rfl
end
/-! ### places -/
section
variable {α : Type} {xs : List α}
theorem getI_nat {k : Nat} : getI xs (k : Int) = xs[k]? := by
  unfold getI ixOf
  rw [if_pos (Int.natCast_nonneg k)]
  by_cases h : k < xs.length
  · rw [if_pos (by exact_mod_cast h), Option.bind_some, Int.toNat_natCast]
  · rw [if_neg (by exact_mod_cast h), Option.bind_none, List.getElem?_eq_none (by omega)]
theorem getI_lit {k : Nat} : getI xs (no_index (OfNat.ofNat k : Int)) = xs[(OfNat.ofNat k : Nat)]? := getI_nat (k := k)
theorem getI_last : getI xs (-1) = xs[xs.length - 1]? := by
  unfold getI ixOf
  rw [if_neg (by decide)]
  by_cases h : xs = []
  · subst h; rfl
  · have : 0 < xs.length := List.length_pos_iff.mpr h
    rw [if_pos (by omega), Option.bind_some]
    congr 1
    omega
theorem getI_lapp {x : α} : getI (xs ++ [x]) (-1) = some x := by
  rw [getI_last]
  simp
theorem getI_neg {k : Nat} (h : 0 < k) (h2 : k ≤ xs.length) : getI xs (-(k : Int)) = xs[xs.length - k]? := by
  unfold getI ixOf
  rw [if_neg (by omega), if_pos (by omega), Option.bind_some]
  congr 1
  omega
theorem getI_neg2 (h2 : 2 ≤ xs.length) : getI xs (-2) = xs[xs.length - 2]? := getI_neg (k := 2) (by decide) h2
theorem slIx_none {n d : Nat} : slIx n d none = d := rfl
theorem slIx_nat {n d k : Nat} : slIx n d (some (k : Int)) = min k n := by
  unfold slIx
  show (if ((k : Nat) : Int) < 0 then _ else _) = _
  rw [if_neg (by omega), Int.toNat_natCast]
theorem slIx_neg {n d k : Nat} (h : 0 < k) : slIx n d (some (-(k : Int))) = n - k := by
  unfold slIx
  show (if (-((k : Nat) : Int)) < 0 then _ else _) = _
  rw [if_pos (by omega)]
  omega
theorem cut_all : cut xs none none = xs := by
  unfold cut
  rw [slIx_none, slIx_none]
  simp
theorem cut_to {k : Nat} : cut xs none (some (k : Int)) = xs.take k := by
  unfold cut
  rw [slIx_none, slIx_nat]
  simp only [List.drop_zero,Nat.sub_zero]
  rw [List.take_eq_take_iff]
  omega
theorem cut_to_lit {k : Nat} : cut xs none (some (no_index (OfNat.ofNat k : Int))) = xs.take (OfNat.ofNat k) := cut_to (k := k)
theorem cut_from {k : Nat} : cut xs (some (k : Int)) none = xs.drop k := by
  unfold cut
  rw [slIx_none, slIx_nat]
  by_cases h : k ≤ xs.length
  · rw [Nat.min_eq_left h, List.take_of_length_le (by simp)]
  · rw [Nat.min_eq_right (by omega), List.drop_eq_nil_of_le (Nat.le_refl _), List.drop_eq_nil_of_le (by omega)]
    simp
theorem cut_from_lit {k : Nat} : cut xs (some (no_index (OfNat.ofNat k : Int))) none = xs.drop (OfNat.ofNat k) := cut_from (k := k)
theorem cut_neg {k : Nat} (hk : 0 < k) : cut xs none (some (-(k : Int))) = xs.take (xs.length - k) := by
  unfold cut
  rw [slIx_none, slIx_neg hk]
  simp
theorem cut_neg1 : cut xs none (some (-1)) = xs.take (xs.length - 1) := cut_neg (k := 1) (by decide)
theorem cut_neg2 : cut xs none (some (-2)) = xs.take (xs.length - 2) := cut_neg (k := 2) (by decide)
theorem ixOf_nat {n k : Nat} (h : k < n) : ixOf n (k : Int) = some k := by
  unfold ixOf
  rw [if_pos (Int.natCast_nonneg k), if_pos (by exact_mod_cast h), Int.toNat_natCast]
end
theorem nc_lit {n : Nat} : ((no_index (OfNat.ofNat n) : Nat) : Int) = (OfNat.ofNat n : Int) := rfl
theorem gidx_t {y : VR} {P : Int → Prop} {ds : List D} : gidxK y P (some (.tup ds)) ↔ (y.read.isStr && ds.all D.isStr) = true ∧ Ev (findIdx y.read ds) fun (k : Nat) => P (k : Int) := Iff.rfl
theorem idx_l {y : VR} {P : Int → Prop} {ds : List D} : idxK y P (.lst ds) ↔ (y.read.flat && ds.all D.flat) = true ∧ Ev (findIdx y.read ds) fun (k : Nat) => P (k : Int) := Iff.rfl
theorem iss_s {z : List Nat} : D.isStr (.str z) = true := rfl
theorem fi_cons {x d : D} {r : List D} : findIdx x (d :: r) = if D.eqb d x then some 0 else (findIdx x r).map (· + 1) := rfl
theorem bn_tf : (true != false) = true := rfl
theorem bn_ft : (false != true) = true := rfl
theorem bn_tt : (true != true) = false := rfl
theorem bn_ff : (false != false) = false := rfl
theorem ix_10 : ixOf 1 0 = some 0 := rfl
theorem bits_lt {i : Int} {k : Nat} (h : i.natAbs < 2 ^ (k + 1)) : bits i ≤ k := by
  unfold bits
  by_cases h0 : i.natAbs = 0
  · rw [h0]; simp
  · have := (Nat.log2_lt h0).mpr h
    omega
end Sf
/-! SfWx: what the evaluator raises, by wishes. -/
namespace Sf
open PySem

/-- it raises, and P holds of the class's number and the cells -/
def Xv (x : Option (Nat × Cells)) (P : Nat → Cells → Prop) : Prop := ∃ k st, x = some (k, st) ∧ P k st
theorem Xv.mono {x : Option (Nat × Cells)} {P Q : Nat → Cells → Prop} (h : Xv x P) (q : ∀ k st, P k st → Q k st) : Xv x Q := let ⟨k, st, e, p⟩ := h; ⟨k, st, e, q k st p⟩
/-- the def f raises -/
def Xq (C : CallT) (f : Nat) (ds : List D) (st : Cells) (P : Nat → Cells → Prop) : Prop := C f ds st = none ∧ ∃ k st', C (XB + f) ds st = some (.int k, st') ∧ P k.toNat st'
theorem Xq.mono {C : CallT} {f : Nat} {ds : List D} {st : Cells} {P Q : Nat → Cells → Prop} (h : Xq C f ds st P) (q : ∀ k st, P k st → Q k st) : Xq C f ds st Q := let ⟨e, k, st', e', p⟩ := h; ⟨e, k, st', e', q _ _ p⟩

section
variable {C : CallT} {G : List D}
theorem forX_none {t : MT} {body : Env → Cells → Option Out} {bodyX : Env → Cells → Option (Nat × Cells)} : ∀ {xs : List D} {ρ : Env} {st : Cells} {r : Nat × Cells}, forX t body bodyX xs ρ st = some r → forL t body xs ρ st = none
  | [], ρ, st, r, h => by unfold forX at h; cases h
  | x :: xs, ρ, st, r, h => by
    unfold forX at h
    unfold forL
    cases e : bindT t x ρ with
    | none => rfl
    | some ρ1 =>
      rw [e, Option.bind_some] at h
      rw [Option.bind_some]
      cases eb : body ρ1 st with
      | none => rfl
      | some o =>
        rw [eb] at h
        rw [Option.bind_some]
        cases o with
        | nx ρ2 st2 => exact forX_none h
        | cnt ρ2 st2 => exact forX_none h
        | ret d st2 => cases h
        | brk ρ2 st2 => cases h
theorem xSs_none : ∀ (b : MSs) {ρ : Env} {st : Cells} {r : Nat × Cells}, xSs C G b ρ st = some r → eSs C G b ρ st = none
  | .nil, ρ, st, r, h => by unfold xSs at h; cases h
  | .cons s b, ρ, st, r, h => by
    unfold xSs at h
    unfold eSs
    cases e : eS C G s ρ st with
    | none => rfl
    | some o =>
      rw [e] at h
      rw [Option.bind_some]
      cases o with
      | nx ρ2 st2 => exact xSs_none b h
      | cnt ρ2 st2 => cases h
      | ret d st2 => cases h
      | brk ρ2 st2 => cases h
end

/-- no def both answers and raises -/
def Exl (C : CallT) : Prop := ∀ f ds st r, C (XB + f) ds st = some r → C f ds st = none
theorem callN_x {T : Prog} {n i : Nat} {d : Def} (few : T.fns.length ≤ XB) (hd : T.fns[i]? = some d) (ds : List D) (st : Cells) : callN T (n + 1) (XB + i) ds st = runDefX (callN T n) (T.gls.map (·.2)) d ds st := by
  have h : T.fns[XB + i]? = none := List.getElem?_eq_none (by omega)
  show (match T.fns[XB + i]? with
    | some d => runDef (callN T n) (T.gls.map fun x : Str × D => x.2) d ds st
    | none => if XB ≤ XB + i then (T.fns[XB + i - XB]?).bind fun d => runDefX (callN T n) (T.gls.map fun x : Str × D => x.2) d ds st else none) = _
  rw [h]
  dsimp only
  rw [if_pos (Nat.le_add_right _ _), Nat.add_sub_cancel_left, hd]
  rfl
theorem callN_f {T : Prog} {n i : Nat} {d : Def} (hd : T.fns[i]? = some d) (ds : List D) (st : Cells) : callN T (n + 1) i ds st = runDef (callN T n) (T.gls.map (·.2)) d ds st := by
  show (match T.fns[i]? with
    | some d => runDef (callN T n) (T.gls.map fun x : Str × D => x.2) d ds st
    | none => if XB ≤ i then (T.fns[i - XB]?).bind fun d => runDefX (callN T n) (T.gls.map fun x : Str × D => x.2) d ds st else none) = _
  rw [hd]
theorem exl {T : Prog} (few : T.fns.length ≤ XB) : ∀ n, Exl (callN T n)
  | 0 => fun f ds st r h => rfl
  | n + 1 => fun f ds st r h => by
    cases hd : T.fns[f]? with
    | none =>
      have h0 : T.fns[XB + f]? = none := List.getElem?_eq_none (by omega)
      have : callN T (n + 1) (XB + f) ds st = none := by
        show (match T.fns[XB + f]? with
          | some d => runDef (callN T n) (T.gls.map fun x : Str × D => x.2) d ds st
          | none => if XB ≤ XB + f then (T.fns[XB + f - XB]?).bind fun d => runDefX (callN T n) (T.gls.map fun x : Str × D => x.2) d ds st else none) = _
        rw [h0]
        dsimp only
        rw [if_pos (Nat.le_add_right _ _), Nat.add_sub_cancel_left, hd]
        rfl
      rw [this] at h
      cases h
    | some d =>
      rw [callN_x few hd] at h
      rw [callN_f hd]
      unfold runDefX at h
      unfold runDef
      split at h
      · rename_i e
        rw [if_pos e]
        cases ex : xSs (callN T n) (T.gls.map (·.2)) d.body (start d.N.length ds) st with
        | none => rw [ex] at h; cases h
        | some q => rw [xSs_none _ ex]; rfl
      · cases h

section
variable {C : CallT} {G : List D} {ρ : Env} {st : Cells} {P : Nat → Cells → Prop}
/-- a statement raises -/
def XvS (C : CallT) (G : List D) (s : MS) (ρ : Env) (st : Cells) (P : Nat → Cells → Prop) : Prop := eS C G s ρ st = none ∧ Xv (xS C G s ρ st) P
def seqX (C : CallT) (G : List D) (r : MSs) (P : Nat → Cells → Prop) : Out → Prop
  | .nx ρ1 st1 => Xv (xSs C G r ρ1 st1) P
  | _ => False
theorem seqx_nx {r : MSs} {ρ1 : Env} {st1 : Cells} : seqX C G r P (.nx ρ1 st1) ↔ Xv (xSs C G r ρ1 st1) P := Iff.rfl
/-- the first statement goes through -/
theorem xv_nx {s : MS} {r : MSs} (h : Ev (eS C G s ρ st) (seqX C G r P)) : Xv (xSs C G (.cons s r) ρ st) P := by
  obtain ⟨o, e, q⟩ := h
  cases o with
  | nx ρ1 st1 =>
    obtain ⟨k, st', e', p⟩ := q
    refine ⟨k, st', ?_, p⟩
    unfold xSs
    rw [e]
    exact e'
  | _ => exact q.elim
/-- the first statement raises -/
theorem xv_stop {s : MS} {r : MSs} (h : XvS C G s ρ st P) : Xv (xSs C G (.cons s r) ρ st) P := by
  obtain ⟨e, k, st', e', p⟩ := h
  refine ⟨k, st', ?_, p⟩
  unfold xSs
  rw [e]
  exact e'
theorem xs_rais {k : Nat} (h : P k st) : XvS C G (.rais k) ρ st P := ⟨by unfold eS; rfl, k, st, by unfold xS; rfl, h⟩
theorem xe_call {f : Nat} {es : MEs} (h : Ev (eEs C G es ρ st) fun r => Xq C f r.1 r.2 P) : eE C G (.call f es) ρ st = none ∧ Xv (xE C G (.call f es) ρ st) P := by
  obtain ⟨r, e, q, k, st', e', p⟩ := h
  refine ⟨?_, k.toNat, st', ?_, p⟩
  · unfold eE; rw [e, Option.bind_some, q]; rfl
  · unfold xE; rw [e, Option.bind_some, e']; rfl
theorem xe_lst {a : ME} (h : eE C G a ρ st = none ∧ Xv (xE C G a ρ st) P) : eE C G (.lst (.cons a .nil)) ρ st = none ∧ Xv (xE C G (.lst (.cons a .nil)) ρ st) P := by
  obtain ⟨q, k, st', e', p⟩ := h
  refine ⟨?_, k, st', ?_, p⟩
  · unfold eE eEs; rw [q]; rfl
  · unfold xE; exact e'
theorem xs_set {i : Nat} {a : ME} (h : eE C G a ρ st = none ∧ Xv (xE C G a ρ st) P) : XvS C G (.set i a) ρ st P := ⟨by unfold eS; rw [h.1]; rfl, by unfold xS; exact h.2⟩
theorem xs_unp {t : MT} {a : ME} (h : eE C G a ρ st = none ∧ Xv (xE C G a ρ st) P) : XvS C G (.unp t a) ρ st P := ⟨by unfold eS; rw [h.1]; rfl, by unfold xS; exact h.2⟩
theorem xs_expr {a : ME} (h : eE C G a ρ st = none ∧ Xv (xE C G a ρ st) P) : XvS C G (.expr a) ρ st P := ⟨by unfold eS; rw [h.1]; rfl, by unfold xS; exact h.2⟩
theorem xs_ret {a : ME} (hv : ∀ i, a ≠ .v i) (h : eE C G a ρ st = none ∧ Xv (xE C G a ρ st) P) : XvS C G (.ret a) ρ st P := ⟨by
  unfold eS
  cases a <;> first | exact absurd rfl (hv _) | (dsimp only; rw [h.1]; rfl), by unfold xS; exact h.2⟩
theorem xs_setC {i f : Nat} {es : MEs} (h : Ev (eEs C G es ρ st) fun r => Xq C f r.1 r.2 P) : XvS C G (.set i (.call f es)) ρ st P := xs_set (xe_call h)
theorem xs_unpC {t : MT} {f : Nat} {es : MEs} (h : Ev (eEs C G es ρ st) fun r => Xq C f r.1 r.2 P) : XvS C G (.unp t (.call f es)) ρ st P := xs_unp (xe_call h)
theorem xs_retC {f : Nat} {es : MEs} (h : Ev (eEs C G es ρ st) fun r => Xq C f r.1 r.2 P) : XvS C G (.ret (.call f es)) ρ st P := xs_ret (fun _ e => nomatch e) (xe_call h)
theorem xv_none {b : MSs} (h : Xv (xSs C G b ρ st) P) : eSs C G b ρ st = none := by
  obtain ⟨k, st', e, _⟩ := h
  exact xSs_none b e
def iffX (C : CallT) (G : List D) (a b : MSs) (ρ : Env) (P : Nat → Cells → Prop) (r : Bool × Cells) : Prop := if r.1 = true then Xv (xSs C G a ρ r.2) P else Xv (xSs C G b ρ r.2) P
theorem iffx_t {a b : MSs} : iffX C G a b ρ P (true, st) ↔ Xv (xSs C G a ρ st) P := by unfold iffX; rw [if_pos rfl]
theorem iffx_f {a b : MSs} : iffX C G a b ρ P (false, st) ↔ Xv (xSs C G b ρ st) P := by unfold iffX; rw [if_neg Bool.false_ne_true]
theorem iffx_d {a b : MSs} {p : Prop} [Decidable p] : iffX C G a b ρ P (decide p, st) ↔ if p then Xv (xSs C G a ρ st) P else Xv (xSs C G b ρ st) P := by
  by_cases h : p
  · rw [decide_eq_true h, iffx_t, if_pos h]
  · rw [decide_eq_false h, iffx_f, if_neg h]
theorem xs_iff {c : ME} {a b : MSs} (h : Ev (eT C G c ρ st) (iffX C G a b ρ P)) : XvS C G (.iff c a b) ρ st P := by
  obtain ⟨⟨t, st1⟩, e, h⟩ := h
  unfold iffX at h
  cases t with
  | true =>
    rw [if_pos rfl] at h
    refine ⟨?_, ?_⟩
    · unfold eS; rw [e, Option.bind_some, if_pos rfl]; exact xv_none h
    · unfold xS; rw [e, Option.bind_some, if_pos rfl]; exact h
  | false =>
    rw [if_neg Bool.false_ne_true] at h
    refine ⟨?_, ?_⟩
    · unfold eS; rw [e, Option.bind_some, if_neg Bool.false_ne_true]; exact xv_none h
    · unfold xS; rw [e, Option.bind_some, if_neg Bool.false_ne_true]; exact h
/-- a walk raises: behind the items l it goes on, at x it raises -/
theorem xs_for {t : MT} {it : MI} {body : MSs} (h : Ev (eI C G false it ρ st) fun r => Xv (forX t (fun ρ' st' => eSs C G body ρ' st') (fun ρ' st' => xSs C G body ρ' st') r.1 ρ r.2) P) : XvS C G (.forr t it body) ρ st P := by
  obtain ⟨r, e, k, st', h, p⟩ := h
  refine ⟨?_, k, st', ?_, p⟩
  · unfold eS; rw [e, Option.bind_some]; exact forX_none h
  · unfold xS; rw [e, Option.bind_some]; exact h
def forXK (tg : MT) (body : Env → Cells → Option Out) (bodyX : Env → Cells → Option (Nat × Cells)) (xs : List D) (P : Nat → Cells → Prop) : Out → Prop
  | .nx ρ2 st2 => Xv (forX tg body bodyX xs ρ2 st2) P
  | .cnt ρ2 st2 => Xv (forX tg body bodyX xs ρ2 st2) P
  | _ => False
theorem forx_nx {t : MT} {body : MSs} {x : D} {xs : List D} (h : Ev (bindT t x ρ) fun ρ1 => Ev (eSs C G body ρ1 st) (forXK t (fun ρ' st' => eSs C G body ρ' st') (fun ρ' st' => xSs C G body ρ' st') xs P)) : Xv (forX t (fun ρ' st' => eSs C G body ρ' st') (fun ρ' st' => xSs C G body ρ' st') (x :: xs) ρ st) P := by
  obtain ⟨ρ1, e1, o, e2, h⟩ := h
  unfold forX
  rw [e1, Option.bind_some, e2]
  cases o with
  | nx ρ2 st2 => exact h
  | cnt ρ2 st2 => exact h
  | _ => exact h.elim
theorem forx_stop {t : MT} {body : MSs} {x : D} {xs : List D} (h : Ev (bindT t x ρ) fun ρ1 => Xv (xSs C G body ρ1 st) P) : Xv (forX t (fun ρ' st' => eSs C G body ρ' st') (fun ρ' st' => xSs C G body ρ' st') (x :: xs) ρ st) P := by
  obtain ⟨ρ1, e1, h⟩ := h
  unfold forX
  rw [e1, Option.bind_some, xv_none h]
  exact h
/-- a walk: Inv i stands ahead of the item i; at the item j it raises -/
theorem forx_inv {t : MT} {body : MSs} {xs : List D} (Inv : Nat → Env → Cells → Prop) (j : Nat) (hj : j < xs.length) (h0 : Inv 0 ρ st)
    (hs : ∀ (i : Nat) (x : D) ρ st, i < j → xs[i]? = some x → Inv i ρ st → Ev (bindT t x ρ) fun ρ1 => Ev (eSs C G body ρ1 st) fun o => (∃ ρ2 st2, o = .nx ρ2 st2 ∧ Inv (i + 1) ρ2 st2) ∨ ∃ ρ2 st2, o = .cnt ρ2 st2 ∧ Inv (i + 1) ρ2 st2)
    (hx : ∀ x ρ st, xs[j]? = some x → Inv j ρ st → Ev (bindT t x ρ) fun ρ1 => Xv (xSs C G body ρ1 st) P) : Xv (forX t (fun ρ' st' => eSs C G body ρ' st') (fun ρ' st' => xSs C G body ρ' st') xs ρ st) P := by
  suffices H : ∀ (m i : Nat) ρ st, i + m = j → Inv i ρ st → Xv (forX t (fun ρ' st' => eSs C G body ρ' st') (fun ρ' st' => xSs C G body ρ' st') (xs.drop i) ρ st) P by
    have := H j 0 ρ st (by omega) h0
    rwa [List.drop_zero] at this
  intro m
  induction m with
  | zero =>
    intro i ρ st e hi
    have e : i = j := by omega
    subst e
    rw [List.drop_eq_getElem_cons hj]
    exact forx_stop (hx _ ρ st (List.getElem?_eq_getElem hj) hi)
  | succ m ih =>
    intro i ρ st e hi
    have hl : i < xs.length := by omega
    rw [List.drop_eq_getElem_cons hl]
    refine forx_nx ((hs i _ ρ st (by omega) (List.getElem?_eq_getElem hl) hi).mono fun ρ1 h => h.mono fun o ho => ?_)
    rcases ho with ⟨ρ2, st2, rfl, q⟩ | ⟨ρ2, st2, rfl, q⟩
    · exact ih (i + 1) ρ2 st2 (by omega) q
    · exact ih (i + 1) ρ2 st2 (by omega) q
end
/-- a walk that raises somewhere -/
theorem forx_run {C : CallT} {G : List D} {ρ : Env} {st : Cells} {P : Nat → Cells → Prop} {t : MT} {body : MSs} {xs : List D} (Inv : Nat → Env → Cells → Prop) (h0 : Inv 0 ρ st)
    (hs : ∀ (i : Nat) (x : D) ρ st, xs[i]? = some x → Inv i ρ st → Ev (bindT t x ρ) fun ρ1 => (Ev (eSs C G body ρ1 st) fun o => (∃ ρ2 st2, o = .nx ρ2 st2 ∧ Inv (i + 1) ρ2 st2) ∨ ∃ ρ2 st2, o = .cnt ρ2 st2 ∧ Inv (i + 1) ρ2 st2) ∨ Xv (xSs C G body ρ1 st) P)
    (he : ∀ ρ st, ¬ Inv xs.length ρ st) : Xv (forX t (fun ρ' st' => eSs C G body ρ' st') (fun ρ' st' => xSs C G body ρ' st') xs ρ st) P := by
  suffices H : ∀ (m i : Nat) ρ st, i + m = xs.length → Inv i ρ st → Xv (forX t (fun ρ' st' => eSs C G body ρ' st') (fun ρ' st' => xSs C G body ρ' st') (xs.drop i) ρ st) P by
    have := H xs.length 0 ρ st (by omega) h0
    rwa [List.drop_zero] at this
  intro m
  induction m with
  | zero =>
    intro i ρ st e hi
    have e : i = xs.length := by omega
    subst e
    exact absurd hi (he ρ st)
  | succ m ih =>
    intro i ρ st e hi
    have hl : i < xs.length := by omega
    rw [List.drop_eq_getElem_cons hl]
    obtain ⟨ρ1, e1, h⟩ := hs i _ ρ st (List.getElem?_eq_getElem hl) hi
    rcases h with h | h
    · refine forx_nx ⟨ρ1, e1, h.mono fun o ho => ?_⟩
      rcases ho with ⟨ρ2, st2, rfl, q⟩ | ⟨ρ2, st2, rfl, q⟩
      · exact ih (i + 1) ρ2 st2 (by omega) q
      · exact ih (i + 1) ρ2 st2 (by omega) q
    · exact forx_stop ⟨ρ1, e1, h⟩
/-- a def raises -/
theorem clX {T : Prog} {n i : Nat} {f : Def} {ds : List D} {st : Cells} {P : Nat → Cells → Prop} (few : T.fns.length ≤ XB) (hf : T.fns[i]? = some f) (hl : ds.length = f.k) (h : Xv (xSs (callN T n) (T.gls.map (·.2)) f.body (start f.N.length ds) st) P) : Xq (callN T (n + 1)) i ds st P := by
  obtain ⟨k, st', e, p⟩ := h
  refine ⟨?_, k, st', ?_, p⟩
  · rw [callN_f hf]; unfold runDef; rw [if_pos hl, xSs_none _ e]; rfl
  · rw [callN_x few hf]; unfold runDefX; rw [if_pos hl, e]; rfl

/-! ### try -/
section
variable {C : CallT} {G : List D} {ρ : Env} {st : Cells}
theorem xE_none (hC : Exl C) (m : ME) : ∀ {r : VR × Cells}, eE C G m ρ st = some r → xE C G m ρ st = none := match m with
  | .call f es => fun h => by
    unfold eE at h
    unfold xE
    cases e : eEs C G es ρ st with
    | none => rw [e] at h; cases h
    | some q =>
      rw [e, Option.bind_some] at h
      rw [Option.bind_some]
      cases ex : C (XB + f) q.1 q.2 with
      | none => rfl
      | some z =>
        rw [hC f q.1 q.2 z ex] at h
        cases h
  | .lst (.cons a .nil) => fun h => by
    unfold eE eEs at h
    unfold xE
    cases e : eE C G a ρ st with
    | none => rw [e] at h; cases h
    | some q => exact xE_none hC a e
  | .lst .nil => fun _ => by unfold xE; rfl
  | .lst (.cons _ (.cons _ _)) => fun _ => by unfold xE; rfl
  | .v _ => fun _ => by unfold xE; rfl
  | .int _ => fun _ => by unfold xE; rfl
  | .bl _ => fun _ => by unfold xE; rfl
  | .non => fun _ => by unfold xE; rfl
  | .str _ => fun _ => by unfold xE; rfl
  | .gl _ => fun _ => by unfold xE; rfl
  | .bin .. => fun _ => by unfold xE; rfl
  | .neg _ => fun _ => by unfold xE; rfl
  | .cmp .. => fun _ => by unfold xE; rfl
  | .isN .. => fun _ => by unfold xE; rfl
  | .ch .. => fun _ => by unfold xE; rfl
  | .bop .. => fun _ => by unfold xE; rfl
  | .not _ => fun _ => by unfold xE; rfl
  | .ite .. => fun _ => by unfold xE; rfl
  | .tup _ => fun _ => by unfold xE; rfl
  | .cell _ => fun _ => by unfold xE; rfl
  | .ix .. => fun _ => by unfold xE; rfl
  | .sl .. => fun _ => by unfold xE; rfl
  | .bi .. => fun _ => by unfold xE; rfl
  | .index .. => fun _ => by unfold xE; rfl
  | .gindex .. => fun _ => by unfold xE; rfl
  | .lc .. => fun _ => by unfold xE; rfl
  | .lc2 .. => fun _ => by unfold xE; rfl
  | .sset _ => fun _ => by unfold xE; rfl
  | .rgL _ => fun _ => by unfold xE; rfl
  | .rgT _ => fun _ => by unfold xE; rfl
  | .strI _ => fun _ => by unfold xE; rfl
  | .tr _ => fun _ => by unfold xE; rfl
theorem xS1_none (hC : Exl C) {b : MS} {o : Out} (h : eS C G b ρ st = some o) : xS1 C G b ρ st = none := by
  have key : ∀ {m : ME} {β : Type} {f : VR × Cells → Option β} {o : β}, (eE C G m ρ st).bind f = some o → xE C G m ρ st = none := fun {m β f o} h => by
    cases e : eE C G m ρ st with
    | none => rw [e] at h; cases h
    | some q => exact xE_none hC _ e
  cases b with
  | set i e => unfold eS at h; unfold xS1; exact key h
  | unp t e => unfold eS at h; unfold xS1; exact key h
  | expr e =>
    unfold eS at h
    unfold xS1
    cases q : eE C G e ρ st with
    | none => rw [q] at h; cases h
    | some z => exact xE_none hC _ q
  | ret e =>
    unfold eS at h
    unfold xS1
    cases e with
    | v i => unfold xE; rfl
    | _ => exact key h
  | rais k => unfold eS at h; cases h
  | _ => unfold xS1; rfl
theorem st_try (hC : Exl C) {b : MS} {cl i : Nat} {hh : HE} {P : Out → Prop} (h : Ev (eS C G b ρ st) P) : Ev (eS C G (.tryR b cl i hh) ρ st) P := by
  obtain ⟨o, e, p⟩ := h
  refine ⟨o, ?_, p⟩
  unfold eS
  rw [xS1_none hC e]
  exact e
theorem st_tryx {b : MS} {cl i : Nat} {hh : HE} {P : Out → Prop} (h : Xv (xS1 C G b ρ st) fun k st' => (isSub k cl = true ∧ i < ρ.length) ∧ ∃ d, (hE k ρ hh).bind VR.data = some d ∧ P (.ret d st')) : Ev (eS C G (.tryR b cl i hh) ρ st) P := by
  obtain ⟨k, st', e, h1, d, h2, p⟩ := h
  refine ⟨_, ?_, p⟩
  unfold eS
  rw [e]
  dsimp only
  rw [if_pos h1, h2]
  rfl
theorem x1_expr {e : ME} {P : Nat → Cells → Prop} (h : Xv (xE C G e ρ st) P) : Xv (xS1 C G (.expr e) ρ st) P := by unfold xS1; exact h
theorem x1_set {i : Nat} {e : ME} {P : Nat → Cells → Prop} (h : Xv (xE C G e ρ st) P) : Xv (xS1 C G (.set i e) ρ st) P := by unfold xS1; exact h
theorem x1_ret {e : ME} {P : Nat → Cells → Prop} (h : Xv (xE C G e ρ st) P) : Xv (xS1 C G (.ret e) ρ st) P := by unfold xS1; exact h
theorem st_expr {e : ME} {P : Out → Prop} : Ev (eS C G (.expr e) ρ st) P ↔ Ev (eE C G e ρ st) fun x => P (.nx ρ x.2) := by rw [eS, ev_map]
end
end Sf
namespace K76
open PySem Sf
theorem dcl {n i : Nat} {ds : List D} {st : Cells} {P : D × Cells → Prop} {f : Def} (hf : T.fns[i]? = some f) (hl : ds.length = f.k) (h : Ev (eSs (callN T n) GV f.body (start f.N.length ds) st) (defK P)) : Ev (callN T (n + 1) i ds st) P := cl hf hl h
def chk (i : Nat) : Bool := match T.fns[i]?, sts[i]? with
  | some d, some st => defB T d st
  | _, _ => false
theorem few : T.fns.length ≤ XB := by decide +kernel
theorem chk_err : errChk T sts = true := by decide +kernel
theorem dclX {n i : Nat} {ds : List D} {st : Cells} {P : Nat → Cells → Prop} {f : Def} (hf : T.fns[i]? = some f) (hl : ds.length = f.k) (h : Xv (xSs (callN T n) GV f.body (start f.N.length ds) st) P) : Xq (callN T (n + 1)) i ds st P := clX few hf hl h
theorem len_ok : T.fns.length = sts.length := by decide +kernel
theorem chk_0 : chk 0 = true := by decide +kernel
theorem chk_1 : chk 1 = true := by decide +kernel
theorem chk_2 : chk 2 = true := by decide +kernel
theorem chk_3 : chk 3 = true := by decide +kernel
theorem chk_4 : chk 4 = true := by decide +kernel
theorem chk_5 : chk 5 = true := by decide +kernel
theorem chk_6 : chk 6 = true := by decide +kernel
theorem chk_7 : chk 7 = true := by decide +kernel
theorem chk_8 : chk 8 = true := by decide +kernel
theorem chk_9 : chk 9 = true := by decide +kernel
theorem chk_10 : chk 10 = true := by decide +kernel
theorem chk_11 : chk 11 = true := by decide +kernel
theorem chk_12 : chk 12 = true := by decide +kernel
theorem chk_13 : chk 13 = true := by decide +kernel
theorem chk_14 : chk 14 = true := by decide +kernel
theorem chk_15 : chk 15 = true := by decide +kernel
theorem chk_16 : chk 16 = true := by decide +kernel
theorem chk_17 : chk 17 = true := by decide +kernel
theorem chk_18 : chk 18 = true := by decide +kernel
theorem chk_19 : chk 19 = true := by decide +kernel
theorem chk_20 : chk 20 = true := by decide +kernel
theorem chk_21 : chk 21 = true := by decide +kernel
theorem chk_22 : chk 22 = true := by decide +kernel
theorem chk_23 : chk 23 = true := by decide +kernel
theorem chk_24 : chk 24 = true := by decide +kernel
theorem chk_25 : chk 25 = true := by decide +kernel
theorem chk_26 : chk 26 = true := by decide +kernel
theorem chk_27 : chk 27 = true := by decide +kernel
theorem chk_28 : chk 28 = true := by decide +kernel
theorem chk_29 : chk 29 = true := by decide +kernel
theorem chk_30 : chk 30 = true := by decide +kernel
theorem chk_31 : chk 31 = true := by decide +kernel
theorem chk_32 : chk 32 = true := by decide +kernel
theorem chk_33 : chk 33 = true := by decide +kernel
theorem chk_34 : chk 34 = true := by decide +kernel
theorem chk_35 : chk 35 = true := by decide +kernel
theorem chk_36 : chk 36 = true := by decide +kernel
theorem chk_37 : chk 37 = true := by decide +kernel
theorem chk_38 : chk 38 = true := by decide +kernel
theorem chk_39 : chk 39 = true := by decide +kernel
theorem chk_40 : chk 40 = true := by decide +kernel
theorem chk_41 : chk 41 = true := by decide +kernel
theorem chk_42 : chk 42 = true := by decide +kernel
theorem chk_43 : chk 43 = true := by decide +kernel
theorem chk_44 : chk 44 = true := by decide +kernel
end K76
namespace K76
open PySem PySem.Spec PyProof.Rows L2 Sf
theorem bnd0 : BindsP (f_is_word.N.take f_is_word.k) (defArgs (top 19)) := fun _ _ _ _ _ _ _ _ _ _ us hl => match us, hl with | [_], _ => rfl
theorem bnd1 : BindsP (f_result_of.N.take f_result_of.k) (defArgs (top 20)) := fun _ _ _ _ _ _ _ _ _ _ us hl => match us, hl with | [_, _, _], _ => rfl
theorem bnd2 : BindsP (f_grown.N.take f_grown.k) (defArgs (top 21)) := fun _ _ _ _ _ _ _ _ _ _ us hl => match us, hl with | [_, _, _], _ => rfl
theorem bnd3 : BindsP (f_stepped.N.take f_stepped.k) (defArgs (top 22)) := fun _ _ _ _ _ _ _ _ _ _ us hl => match us, hl with | [_, _, _, _], _ => rfl
theorem bnd4 : BindsP (f_trace.N.take f_trace.k) (defArgs (top 23)) := fun _ _ _ _ _ _ _ _ _ _ us hl => match us, hl with | [_, _], _ => rfl
theorem bnd5 : BindsP (f_run.N.take f_run.k) (defArgs (top 24)) := fun _ _ _ _ _ _ _ _ _ _ us hl => match us, hl with | [_, _], _ => rfl
theorem bnd6 : BindsP (f_is_range.N.take f_is_range.k) (defArgs (top 34)) := fun _ _ _ _ _ _ _ _ _ _ us hl => match us, hl with | [_], _ => rfl
theorem bnd7 : BindsP (f_are_ranges.N.take f_are_ranges.k) (defArgs (top 35)) := fun _ _ _ _ _ _ _ _ _ _ us hl => match us, hl with | [_], _ => rfl
theorem bnd8 : BindsP (f_range_result.N.take f_range_result.k) (defArgs (top 36)) := fun _ _ _ _ _ _ _ _ _ _ us hl => match us, hl with | [_, _, _], _ => rfl
theorem bnd9 : BindsP (f_range_grown.N.take f_range_grown.k) (defArgs (top 37)) := fun _ _ _ _ _ _ _ _ _ _ us hl => match us, hl with | [_, _, _], _ => rfl
theorem bnd10 : BindsP (f_with_told.N.take f_with_told.k) (defArgs (top 38)) := fun _ _ _ _ _ _ _ _ _ _ us hl => match us, hl with | [_, _], _ => rfl
theorem bnd11 : BindsP (f_outcomes.N.take f_outcomes.k) (defArgs (top 39)) := fun _ _ _ _ _ _ _ _ _ _ us hl => match us, hl with | [_, _, _, _], _ => rfl
theorem bnd12 : BindsP (f_put_together.N.take f_put_together.k) (defArgs (top 40)) := fun _ _ _ _ _ _ _ _ _ _ us hl => match us, hl with | [_, _], _ => rfl
theorem bnd13 : BindsP (f_chart_of.N.take f_chart_of.k) (defArgs (top 41)) := fun _ _ _ _ _ _ _ _ _ _ us hl => match us, hl with | [_, _], _ => rfl
theorem bnd14 : BindsP (f_used_gauges.N.take f_used_gauges.k) (defArgs (top 43)) := fun _ _ _ _ _ _ _ _ _ _ us hl => match us, hl with | [_], _ => rfl
theorem bnd15 : BindsP (f_product_range.N.take f_product_range.k) (defArgs (top 44)) := fun _ _ _ _ _ _ _ _ _ _ us hl => match us, hl with | [_, _], _ => rfl
theorem bnd16 : BindsP (f_sum_ranges.N.take f_sum_ranges.k) (defArgs (top 45)) := fun _ _ _ _ _ _ _ _ _ _ us hl => match us, hl with | [_, _], _ => rfl
theorem bnd17 : BindsP (f_may_ring.N.take f_may_ring.k) (defArgs (top 46)) := fun _ _ _ _ _ _ _ _ _ _ us hl => match us, hl with | [_, _], _ => rfl
theorem bnd18 : BindsP (f_is_worded.N.take f_is_worded.k) (defArgs (top 47)) := fun _ _ _ _ _ _ _ _ _ _ us hl => match us, hl with | [_, _], _ => rfl
theorem bnd19 : BindsP (f_sum_code.N.take f_sum_code.k) (defArgs (top 48)) := fun _ _ _ _ _ _ _ _ _ _ us hl => match us, hl with | [_], _ => rfl
theorem bnd20 : BindsP (f_test_code.N.take f_test_code.k) (defArgs (top 49)) := fun _ _ _ _ _ _ _ _ _ _ us hl => match us, hl with | [_, _, _, _], _ => rfl
theorem bnd21 : BindsP (f_program_of.N.take f_program_of.k) (defArgs (top 50)) := fun _ _ _ _ _ _ _ _ _ _ us hl => match us, hl with | [_, _], _ => rfl
theorem bnd22 : BindsP (f__law_deal.N.take f__law_deal.k) (defArgs (top 52)) := fun _ _ _ _ _ _ _ _ _ _ us hl => match us, hl with | [_], _ => rfl
theorem bnd23 : BindsP (f__law_take.N.take f__law_take.k) (defArgs (top 53)) := fun _ _ _ _ _ _ _ _ _ _ us hl => match us, hl with | [_, _], _ => rfl
theorem bnd24 : BindsP (f__law_same.N.take f__law_same.k) (defArgs (top 54)) := fun _ _ _ _ _ _ _ _ _ _ us hl => match us, hl with | [_, _], _ => rfl
theorem bnd25 : BindsP (f__law_bool.N.take f__law_bool.k) (defArgs (top 55)) := fun _ _ _ _ _ _ _ _ _ _ us hl => match us, hl with | [_, _], _ => rfl
theorem bnd26 : BindsP (f__law_with.N.take f__law_with.k) (defArgs (top 56)) := fun _ _ _ _ _ _ _ _ _ _ us hl => match us, hl with | [_, _, _], _ => rfl
theorem bnd27 : BindsP (f__law_wholes_sum.N.take f__law_wholes_sum.k) (defArgs (top 57)) := fun _ _ _ _ _ _ _ _ _ _ us hl => match us, hl with | [_, _], _ => rfl
theorem bnd28 : BindsP (f__law_breaks.N.take f__law_breaks.k) (defArgs (top 58)) := fun _ _ _ _ _ _ _ _ _ _ us hl => match us, hl with | [_, _], _ => rfl
theorem bnd29 : BindsP (f__law_first_ring.N.take f__law_first_ring.k) (defArgs (top 59)) := fun _ _ _ _ _ _ _ _ _ _ us hl => match us, hl with | [_, _], _ => rfl
theorem bnd30 : BindsP (f__law_is_word.N.take f__law_is_word.k) (defArgs (top 60)) := fun _ _ _ _ _ _ _ _ _ _ us hl => match us, hl with | [_], _ => rfl
theorem bnd31 : BindsP (f__law_made.N.take f__law_made.k) (defArgs (top 61)) := fun _ _ _ _ _ _ _ _ _ _ us hl => match us, hl with | [_, _, _], _ => rfl
theorem bnd32 : BindsP (f__law_trace.N.take f__law_trace.k) (defArgs (top 62)) := fun _ _ _ _ _ _ _ _ _ _ us hl => match us, hl with | [_, _], _ => rfl
theorem bnd33 : BindsP (f__law_ranges.N.take f__law_ranges.k) (defArgs (top 63)) := fun _ _ _ _ _ _ _ _ _ _ us hl => match us, hl with | [_, _], _ => rfl
theorem bnd34 : BindsP (f__law_within.N.take f__law_within.k) (defArgs (top 64)) := fun _ _ _ _ _ _ _ _ _ _ us hl => match us, hl with | [_, _], _ => rfl
theorem bnd35 : BindsP (f__law_is_error.N.take f__law_is_error.k) (defArgs (top 65)) := fun _ _ _ _ _ _ _ _ _ _ us hl => match us, hl with | [_, _], _ => rfl
theorem bnd36 : BindsP (f__law_product.N.take f__law_product.k) (defArgs (top 66)) := fun _ _ _ _ _ _ _ _ _ _ us hl => match us, hl with | [_, _], _ => rfl
theorem bnd37 : BindsP (f__law_sums.N.take f__law_sums.k) (defArgs (top 67)) := fun _ _ _ _ _ _ _ _ _ _ us hl => match us, hl with | [_, _], _ => rfl
theorem bnd38 : BindsP (f__law_code.N.take f__law_code.k) (defArgs (top 68)) := fun _ _ _ _ _ _ _ _ _ _ us hl => match us, hl with | [_, _, _, _], _ => rfl
theorem bnd39 : BindsP (f__law_due.N.take f__law_due.k) (defArgs (top 69)) := fun _ _ _ _ _ _ _ _ _ _ us hl => match us, hl with | [_, _], _ => rfl
theorem bnd40 : BindsP (f__law_told.N.take f__law_told.k) (defArgs (top 70)) := fun _ _ _ _ _ _ _ _ _ _ us hl => match us, hl with | [_, _], _ => rfl
theorem bnd41 : BindsP (f__law_test.N.take f__law_test.k) (defArgs (top 71)) := fun _ _ _ _ _ _ _ _ _ _ us hl => match us, hl with | [_, _], _ => rfl
theorem bnd42 : BindsP (f__law_many.N.take f__law_many.k) (defArgs (top 72)) := fun _ _ _ _ _ _ _ _ _ _ us hl => match us, hl with | [_], _ => rfl
theorem bnd43 : BindsP (f__law_wrong_ranges.N.take f__law_wrong_ranges.k) (defArgs (top 73)) := fun _ _ _ _ _ _ _ _ _ _ us hl => match us, hl with | [_, _], _ => rfl
theorem bnd44 : BindsP (f_law.N.take f_law.k) (defArgs (top 74)) := fun _ _ _ _ _ _ _ _ _ _ us hl => match us, hl with | [_], _ => rfl
theorem defs_ok : ∀ (i : Nat) d st, T.fns[i]? = some d → sts[i]? = some st → defB T d st = true ∧ BindsP (d.N.take d.k) (defArgs st)
  | 0, _, _, rfl, rfl => ⟨chk_0, bnd0⟩
  | 1, _, _, rfl, rfl => ⟨chk_1, bnd1⟩
  | 2, _, _, rfl, rfl => ⟨chk_2, bnd2⟩
  | 3, _, _, rfl, rfl => ⟨chk_3, bnd3⟩
  | 4, _, _, rfl, rfl => ⟨chk_4, bnd4⟩
  | 5, _, _, rfl, rfl => ⟨chk_5, bnd5⟩
  | 6, _, _, rfl, rfl => ⟨chk_6, bnd6⟩
  | 7, _, _, rfl, rfl => ⟨chk_7, bnd7⟩
  | 8, _, _, rfl, rfl => ⟨chk_8, bnd8⟩
  | 9, _, _, rfl, rfl => ⟨chk_9, bnd9⟩
  | 10, _, _, rfl, rfl => ⟨chk_10, bnd10⟩
  | 11, _, _, rfl, rfl => ⟨chk_11, bnd11⟩
  | 12, _, _, rfl, rfl => ⟨chk_12, bnd12⟩
  | 13, _, _, rfl, rfl => ⟨chk_13, bnd13⟩
  | 14, _, _, rfl, rfl => ⟨chk_14, bnd14⟩
  | 15, _, _, rfl, rfl => ⟨chk_15, bnd15⟩
  | 16, _, _, rfl, rfl => ⟨chk_16, bnd16⟩
  | 17, _, _, rfl, rfl => ⟨chk_17, bnd17⟩
  | 18, _, _, rfl, rfl => ⟨chk_18, bnd18⟩
  | 19, _, _, rfl, rfl => ⟨chk_19, bnd19⟩
  | 20, _, _, rfl, rfl => ⟨chk_20, bnd20⟩
  | 21, _, _, rfl, rfl => ⟨chk_21, bnd21⟩
  | 22, _, _, rfl, rfl => ⟨chk_22, bnd22⟩
  | 23, _, _, rfl, rfl => ⟨chk_23, bnd23⟩
  | 24, _, _, rfl, rfl => ⟨chk_24, bnd24⟩
  | 25, _, _, rfl, rfl => ⟨chk_25, bnd25⟩
  | 26, _, _, rfl, rfl => ⟨chk_26, bnd26⟩
  | 27, _, _, rfl, rfl => ⟨chk_27, bnd27⟩
  | 28, _, _, rfl, rfl => ⟨chk_28, bnd28⟩
  | 29, _, _, rfl, rfl => ⟨chk_29, bnd29⟩
  | 30, _, _, rfl, rfl => ⟨chk_30, bnd30⟩
  | 31, _, _, rfl, rfl => ⟨chk_31, bnd31⟩
  | 32, _, _, rfl, rfl => ⟨chk_32, bnd32⟩
  | 33, _, _, rfl, rfl => ⟨chk_33, bnd33⟩
  | 34, _, _, rfl, rfl => ⟨chk_34, bnd34⟩
  | 35, _, _, rfl, rfl => ⟨chk_35, bnd35⟩
  | 36, _, _, rfl, rfl => ⟨chk_36, bnd36⟩
  | 37, _, _, rfl, rfl => ⟨chk_37, bnd37⟩
  | 38, _, _, rfl, rfl => ⟨chk_38, bnd38⟩
  | 39, _, _, rfl, rfl => ⟨chk_39, bnd39⟩
  | 40, _, _, rfl, rfl => ⟨chk_40, bnd40⟩
  | 41, _, _, rfl, rfl => ⟨chk_41, bnd41⟩
  | 42, _, _, rfl, rfl => ⟨chk_42, bnd42⟩
  | 43, _, _, rfl, rfl => ⟨chk_43, bnd43⟩
  | 44, _, _, rfl, rfl => ⟨chk_44, bnd44⟩
  | n + 45, _, _, h, _ => nomatch h
theorem law_at : T.fns[44]? = some f_law := rfl
theorem facts {P : Program} {w : World} {K : PySem.W.Frag} {h : Heap} {mg : Str → Option Value} {f : Addr} (X : K.In h) (G : h.Ns mainGlobals mg) (hfa : mg ("law" : Str) = some (.ref f)) (c : SaysC hFa hFn gls T.exc K) :
    ∃ fd : FuncData, (∀ (s : Shared) (v : Value), BindsTo s fd ⟨[v], []⟩ [("script", v)]) ∧ ∀ base : Heap, K.In base → base.Ns mainGlobals mg → FnOk P w K mg base CX0 100 f fd ["script"] (spF K (callN T 100) 44) := by
  have A := around_of X G len_ok few chk_err c defs_ok
  obtain ⟨st, f', fd, e1, e2, F⟩ := A.fn 44 f_law law_at
  have e := hfa.symm.trans e2
  cases e
  have es : st = top 74 := (Option.some.inj e1).symm
  subst es
  have b := FunD.bindsA (ps := ["script"]) F fun kV doc pm an cdv ct us hl => bnd44 _ _ _ _ _ _ _ _ _ _ us hl
  refine ⟨fd, fun s v => b s [v] rfl, fun base _ _ => ?_⟩
  exact fn_all A 100 44 f_law (top 74) f fd law_at rfl F
end K76
local macro_rules | `(tactic| simp! only [$ls,*] $[$loc]?) => `(tactic| simp only [Sf.ev_some,Sf.ev_none,Sf.ev_bind,Sf.ev_map,Sf.ev_iteN,Sf.seq_nx,Sf.seq_ret,Sf.seq_brk,Sf.seq_cnt,Sf.iff_t,Sf.iff_f,Sf.iff_d,Sf.for_nx,Sf.for_cnt,Sf.for_brk,Sf.for_ret,Sf.ite_t,Sf.ite_f,Sf.ite_d,Sf.bs_b,Sf.ch_t,Sf.ch_f,Sf.ch_d,Sf.ts_b,Sf.slot_d,Sf.slot_o,Sf.ee_v,Sf.ee_int,Sf.ee_bl,Sf.ee_non,Sf.ee_str,Sf.ee_gl,Sf.ee_bin,Sf.neg_i,Sf.ee_neg,Sf.ee_cmp,Sf.ee_isN,Sf.ee_ch,Sf.ee_bop,Sf.ee_not,Sf.ee_ite,Sf.ee_tup,Sf.ee_lst,Sf.ee_cell,Sf.ee_ix,Sf.ee_sl,Sf.ee_call,Sf.ee_bi,Sf.ee_index,Sf.ee_gindex,Sf.ee_lc,Sf.ee_lc2,Sf.sset_t,Sf.ee_sset,Sf.rgL_i,Sf.ee_rgL,Sf.rgT_i,Sf.ee_rgT,Sf.str_i,Sf.ee_strI,Sf.sr_sset,Sf.sr_rgL,Sf.sr_rgT,Sf.sr_strI,Sf.sr_lc2,Sf.es_nil,Sf.es_cons,Sf.ev_nil,Sf.ev_cons,Sf.bo_one,Sf.bo_cons,Sf.et_not,Sf.et_bop,Sf.et_tr,Sf.et_cmp,Sf.et_isN,Sf.et_ch,Sf.ts_one,Sf.ts_cons,Sf.eo_none,Sf.opt_i,Sf.eo_some,Sf.ec_none,Sf.ec_some,Sf.ei_seq,Sf.rng_i,Sf.ei_rng1,Sf.rng2_i,Sf.ei_rng2,Sf.ei_enum,Sf.ei_zip,Sf.ei_rev,Sf.ss_nil,Sf.ss_cons,Sf.st_set,Sf.own_n,Sf.st_own,Sf.st_unp,Sf.st_par,Sf.aug_i,Sf.st_aug,Sf.setIx_i,Sf.st_setIx,Sf.setCell_i,Sf.st_setCell,Sf.st_app,Sf.ext_l,Sf.ext_t,Sf.st_ext,Sf.st_frz,Sf.ret_d,Sf.ret_o,Sf.st_retV,Sf.sr_int,Sf.sr_bl,Sf.sr_non,Sf.sr_str,Sf.sr_gl,Sf.sr_bin,Sf.sr_neg,Sf.sr_cmp,Sf.sr_isN,Sf.sr_ch,Sf.sr_bop,Sf.sr_not,Sf.sr_ite,Sf.sr_tup,Sf.sr_lst,Sf.sr_cell,Sf.sr_ix,Sf.sr_sl,Sf.sr_call,Sf.sr_bi,Sf.sr_index,Sf.sr_gindex,Sf.sr_lc,Sf.st_retN,Sf.st_iff,Sf.st_forr,Sf.st_whl,Sf.st_brk,Sf.st_cnt,Sf.st_pass,Sf.def_nx,Sf.def_ret,Sf.b_add,Sf.b_sub,Sf.b_mul,Sf.b_fdiv,Sf.b_mod,Sf.b_pow,Sf.b_adds,Sf.b_addt,Sf.b_addl1,Sf.b_addl2,Sf.b_addl3,Sf.b_addl4,Sf.b_addl5,Sf.b_addl6,Sf.b_addl7,Sf.b_mult,Sf.b_mull,Sf.x_tup,Sf.x_lst,Sf.x_rol,Sf.x_bor,Sf.x_new,Sf.x_ptr,Sf.x_str,Sf.sl_tup,Sf.sl_lst,Sf.sl_bor,Sf.sl_new,Sf.sl_str,Sf.k_lent,Sf.k_lenl,Sf.k_lenr,Sf.k_lenb,Sf.k_lenn,Sf.k_lens,Sf.k_abs,Sf.k_int,Sf.k_intb,Sf.k_max2,Sf.k_min2,Sf.k_sumd,Sf.k_sumb,Sf.k_sumn,Sf.k_tupd,Sf.k_tupl,Sf.k_tupb,Sf.k_tupn,Sf.k_lstt,Sf.k_lstl,Sf.k_isT,Sf.k_isL,Sf.k_isI,Sf.k_isB,Sf.k_isS,Sf.flk_nx,Sf.flk_cnt,Sf.flk_brk,Sf.flk_ret,Sf.wlk_nx,Sf.wlk_cnt,Sf.wlk_brk,Sf.wlk_ret,Sf.wt_t,Sf.wt_f,Sf.wt_d,Sf.llk_t,Sf.llk_f,Sf.llk_d,Sf.cut_all,Sf.cut_to_lit,Sf.cut_from_lit,Sf.cut_neg1,Sf.cut_neg2,List.drop_zero,List.drop_succ_cons,Sf.bn_tf,Sf.bn_ft,Sf.bn_tt,Sf.bn_ff,Sf.getI_lapp,Sf.nc_lit,Sf.gidx_t,Sf.idx_l,Sf.iss_s,Sf.fi_cons,Option.map_some,Option.map_none,Sf.ix_10,Sf.c_eqs,Sf.c_nes,Sf.c_eqb,Sf.eqb_str,Sf.eqb_int,List.any_cons,List.any_nil,List.all_cons,List.all_nil,Bool.or_false,Bool.false_or,Bool.true_or,Bool.or_true,Bool.and_true,Bool.true_and,Bool.false_and,Bool.and_false,decide_true,decide_false,List.cons.injEq,Nat.reduceEqDiff,false_and,and_false,not_true_eq_false,not_false_eq_true,ne_eq,Int.reduceLT,Int.reduceLE,Int.reduceEq,Int.reduceNe,Int.reduceNeg,Sf.c_eqi,Sf.c_nei,Sf.c_lt,Sf.c_le,Sf.c_gt,Sf.c_ge,Sf.c_in,Sf.c_notin,Sf.in_s,Sf.fl_non,Sf.fl_bl,Sf.fl_int,Sf.fl_str,Sf.getI_lit,Sf.dat_d,Sf.dat_n,Sf.rd_d,Sf.rd_b,Sf.rd_n,Sf.isn_d,Sf.isn_b,Sf.isn_n,Sf.no_non,Sf.no_bl,Sf.no_int,Sf.no_str,Sf.no_tup,Sf.no_lst,Sf.tr_non,Sf.tr_bl,Sf.tr_int,Sf.tr_tup,Sf.tr_lst,Sf.it_tup,Sf.it_lst,Sf.it_rol,Sf.wk_d,Sf.wk_n,Sf.wk_b,Sf.slotD,Sf.slotO,Sf.frzE,Sf.bindT,Sf.Env.wipe,List.getElem?_cons_zero,List.getElem?_cons_succ,List.set_cons_zero,List.set_cons_succ,List.length_cons,List.length_nil,List.map_cons,List.map_nil,Nat.reduceAdd,Nat.reduceLT,Nat.reduceLeDiff,Nat.reduceSub,true_and,and_true,if_true,if_false,Bool.false_eq_true,Bool.not_true,Bool.not_false,bne_self_eq_false,reduceCtorEq,Bool.true_eq_false,reduceIte,K76.gv_0,K76.gv_1,K76.gv_2,K76.gv_3,K76.gv_4,K76.gv_5,K76.gv_6,K76.gv_7,K76.gv_8,K76.gv_9,K76.gv_10,K76.gv_11,K76.gv_12,K76.gv_13,K76.gv_14,K76.gv_15,K76.gv_16,K76.gv_17,K76.gv_18,$ls,*] $[$loc]?)
/-! P: words, truth, take -/
namespace K76
open Sf
/-! ### small defs -/
theorem dec_and {p q : Prop} [Decidable p] [Decidable q] : (decide p && decide q) = decide (p ∧ q) := by
  by_cases hp : p <;> by_cases hq : q <;> simp [hp, hq]
def word (x : Int) : Prop := -2147483648 ≤ x ∧ x ≤ 2147483647
instance (x : Int) : Decidable (word x) := inferInstanceAs (Decidable (_ ∧ _))
theorem c_is_word (n : Nat) (x : Int) (st : Cells) : Ev (callN T (n+1) i_is_word [.int x] st) fun q => q = (.bl (decide (word x)), st) := by
  refine dcl (f := f_is_word) rfl rfl ?_
  simp! only [f_is_word,b_is_word,start,List.replicate,List.append_nil,List.cons_append,List.nil_append]
  by_cases h : -2147483648 ≤ x
  · rw [if_pos h]
    simp [word, h]
  · rw [if_neg h]
    simp [word, h]
theorem c__law_bool (n : Nat) (a b : Bool) (st : Cells) : Ev (callN T (n+1) i__law_bool [.bl a, .bl b] st) fun q => q = (.bl (a == b), st) := by
  refine dcl (f := f__law_bool) rfl rfl ?_
  simp! only [f__law_bool,b__law_bool,start,List.replicate,List.append_nil,List.cons_append,List.nil_append,D.isBool]
/-! ### take -/
def deal (row : List Int) (total : Int) : D := .lst [.lst (row.map .int), .ptr 0, .int total]
structure DealOk (row : List Int) (total : Int) : Prop where
  row : ∀ x ∈ row, 0 ≤ x ∧ x < 1009
  t0 : 0 ≤ total
  t1 : total < 2 ^ 60
/-- the cell: how many are taken -/
def at_ (a : Nat) : Cells := [[.int (a : Int)]]
theorem bits_of {i : Int} {k : Nat} (h0 : 0 ≤ i) (h : i < 2 ^ (k + 1)) : bits i ≤ k := by
  refine bits_lt ?_
  have e : ((i.natAbs : Nat) : Int) = i := by omega
  have h2 : ((i.natAbs : Nat) : Int) < ((2 ^ (k + 1) : Nat) : Int) := by rw [e]; exact_mod_cast h
  exact_mod_cast h2
theorem fmod_lo {a b : Int} (h : 0 < b) : 0 ≤ a.fmod b := Int.fmod_nonneg_of_pos a h
theorem fmod_hi {a b : Int} (h : 0 < b) : a.fmod b < b := Int.fmod_lt_of_pos a h
def takeI (row : List Int) (total many : Int) (a : Nat) (_ : List D) (ρ : Env) (st : Cells) : Prop :=
  ∃ (c : Int) (x : Slot), ρ = [.dat (.lst [.lst (row.map .int), .ptr 0, .int total]), .dat (.int many), .dat (.int a), .dat (.int c), x] ∧ (0 ≤ c ∧ c < 2147483647) ∧ st = [[.int ((a + 1 : Nat) : Int)]]
theorem c_take (n : Nat) {row : List Int} {total many : Int} {a : Nat} (hd : DealOk row total) (hm : 0 < many) (ha : a < 2 ^ 60) : Ev (callN T (n+1) i__law_take [deal row total, .int many] (at_ a)) fun q => ∃ r, q = (.int r, at_ (a + 1)) ∧ 0 ≤ r ∧ r < many := by
  refine dcl (f := f__law_take) rfl rfl ?_
  unfold deal at_
  simp! only [f__law_take,b__law_take,start,List.replicate,List.append_nil,List.cons_append,List.nil_append]
  have e1 : (a : Int) + 1 = ((a + 1 : Nat) : Int) := by omega
  rw [e1]
  split
  · rename_i h
    have h : a < row.length := by simpa using h
    rw [getI_nat, List.getElem?_map, List.getElem?_eq_getElem h]
    simp! only []
    refine ⟨by omega, _, rfl, fmod_lo hm, fmod_hi hm⟩
  · have ba : bits (a : Int) ≤ 59 := bits_of (by omega) (by exact_mod_cast ha)
    have bt : bits total ≤ 59 := bits_of hd.t0 (by exact_mod_cast hd.t1)
    have b1 : bits 7919 = 12 := by decide
    have b2 : bits 31 = 4 := by decide
    have b3 : bits 48271 = 15 := by decide
    have b4 : bits 7 = 2 := by decide
    refine ⟨by omega, by omega, by omega, ?_⟩
    refine fl_inv (I := takeI row total many a) ⟨_, _, rfl, ⟨fmod_lo (by decide), Int.lt_trans (fmod_hi (by decide)) (by decide)⟩, rfl⟩ ?_ ?_
    · rintro ρ st ⟨c, x, rfl, hc, rfl⟩
      simp! only []
      exact ⟨by omega, by omega, _, rfl, fmod_lo hm, fmod_hi hm⟩
    · rintro y ys ρ st ⟨c, x, rfl, hc, rfl⟩
      simp! only []
      have bc : bits c ≤ 30 := bits_of hc.1 (by omega)
      exact ⟨by omega, by omega, _, _, rfl, ⟨fmod_lo (by decide), fmod_hi (by decide)⟩, rfl⟩
end K76
/-! D: the deal -/
namespace K76
open Sf
theorem intsOf_map (l : List Int) : intsOf (l.map .int) = some l := by
  induction l with
  | nil => rfl
  | cons a l ih => simp [intsOf, ih]
theorem rng_mem {lo : Int} {n : Nat} {x : D} (h : x ∈ rngD lo n) : ∃ k : Nat, x = .int (lo + k) ∧ k < n := by
  unfold rngD at h
  obtain ⟨k, hk, e⟩ := List.mem_map.mp h
  exact ⟨k, e.symm, List.mem_range.mp hk⟩
theorem rng_len {lo : Int} {n : Nat} : (rngD lo n).length = n := by simp [rngD]
def small (row : List Int) : Prop := ∀ x ∈ row, 0 ≤ x ∧ x < 1009
theorem small.add {row : List Int} (h : small row) {x : Int} (h0 : 0 ≤ x) (h1 : x < 1009) : small (row ++ [x]) := fun y hy => by
  rcases List.mem_append.mp hy with q | q
  · exact h y q
  · rw [List.mem_singleton.mp q]; exact ⟨h0, h1⟩
theorem small.sum {row : List Int} (h : small row) : 0 ≤ row.sum ∧ row.sum ≤ 1009 * row.length := by
  induction row with
  | nil => simp
  | cons a l ih =>
    have h1 := h a List.mem_cons_self
    have h2 := ih fun x hx => h x (List.mem_cons_of_mem _ hx)
    rw [List.sum_cons, List.length_cons]
    omega
/-- the outer loop; the inner ones: so many numbers may be there at their end -/
def dealI (ns : List Int) (xs : List D) (ρ : Env) (st : Cells) : Prop :=
  ∃ (row : List Int) (s2 s3 s4 s5 : Slot), ρ = [.dat (.rol (ns.map .int)), .own (row.map .int), s2, s3, s4, s5] ∧ small row ∧ row.length + 40 * xs.length ≤ 2520 ∧ (∀ x ∈ xs, ∃ k : Nat, x = .int k ∧ k < ns.length ∧ k < 63) ∧ st = []
def dealA (ns : List Int) (b : Nat) (k : Nat) (xs : List D) (ρ : Env) (st : Cells) : Prop :=
  ∃ (row : List Int) (c : Int) (s4 s5 : Slot), ρ = [.dat (.rol (ns.map .int)), .own (row.map .int), .dat (.int k), .dat (.int c), s4, s5] ∧ small row ∧ row.length + xs.length ≤ b ∧ 0 ≤ c ∧ st = []
def dealB (ns : List Int) (b : Nat) (k : Nat) (xs : List D) (ρ : Env) (st : Cells) : Prop :=
  ∃ (row : List Int) (c : Int) (s4 s5 : Slot), ρ = [.dat (.rol (ns.map .int)), .own (row.map .int), .dat (.int k), .dat (.int c), s4, s5] ∧ small row ∧ row.length + xs.length ≤ b ∧ (0 ≤ c ∧ c < 2 ^ 50) ∧ (∀ x ∈ xs, ∃ t : Nat, x = .int t ∧ t < 5) ∧ st = []
def dealR (q : D × Cells) : Prop := ∃ row total, q = (deal row total, at_ 0) ∧ DealOk row total
theorem line_big : (2520 : Nat) < line := by decide
theorem c_deal (n : Nat) {ns : List Int} (hn : ns.length ≤ 63) : Ev (callN T (n+1) i__law_deal [.rol (ns.map .int)] []) dealR := by
  refine dcl (f := f__law_deal) rfl rfl ?_
  simp! only [f__law_deal,b__law_deal,start,List.replicate,List.append_nil,List.cons_append,List.nil_append]
  refine ⟨by decide, ?_⟩
  have hl : (List.map D.int ns).length = ns.length := by simp
  rw [hl]
  refine ⟨?_, ?_⟩
  · split <;> omega
  refine fl_inv (I := dealI ns) ⟨[], _, _, _, _, rfl, fun x hx => absurd hx List.not_mem_nil, ?_, ?_, rfl⟩ ?_ ?_
  · rw [rng_len]
    simp only [List.length_nil]
    split <;> omega
  · intro x hx
    obtain ⟨k, e, hk⟩ := rng_mem hx
    refine ⟨k, by rw [e]; simp, ?_⟩
    split at hk <;> omega
  · rintro ρ st ⟨row, s2, s3, s4, s5, rfl, hs, hlen, _, rfl⟩
    simp! only []
    rw [intsOf_map, ev_some]
    refine ⟨by decide, by decide, row, _, rfl, hs, ?_, ?_⟩
    · have := hs.sum
      simp only [List.length_map]
      omega
    · have := hs.sum
      simp only [List.length_map,List.length_nil] at hlen ⊢
      omega
  · rintro x xs ρ st ⟨row, s2, s3, s4, s5, rfl, hs, hlen, hx, rfl⟩
    obtain ⟨k, rfl, hk, hk63⟩ := hx x List.mem_cons_self
    have hx' : ∀ x ∈ xs, ∃ k : Nat, x = .int k ∧ k < ns.length ∧ k < 63 := fun x h => hx x (List.mem_cons_of_mem _ h)
    rw [List.length_cons] at hlen
    have back : ∀ {ρ : Env} {st : Cells} {b : Nat}, b + 40 * xs.length ≤ 2520 → dealA ns b k [] ρ st ∨ dealB ns b k [] ρ st → dealI ns xs ρ st := fun {ρ st b} hb h => by
      rcases h with ⟨row, c, s4, s5, e, h1, h2, h3, h4⟩ | ⟨row, c, s4, s5, e, h1, h2, h3, _, h4⟩
      · exact ⟨row, _, _, _, _, e, h1, by simp only [List.length_nil] at h2; omega, hx', h4⟩
      · exact ⟨row, _, _, _, _, e, h1, by simp only [List.length_nil] at h2; omega, hx', h4⟩
    simp! only []
    rw [getI_nat, List.getElem?_map, List.getElem?_eq_getElem hk]
    simp! only []
    generalize hc : (if ns[k] < 0 then -ns[k] else ns[k]) = c
    have hc0 : 0 ≤ c := by rw [← hc]; split <;> omega
    refine ⟨by decide, ?_⟩
    split
    · refine ⟨by decide, ?_⟩
      refine fl_inv (I := dealA ns (row.length + 40) k) ⟨row, c, _, _, rfl, hs, by rw [rng_len]; exact Nat.le_refl _, hc0, rfl⟩ ?_ ?_
      · intro ρ st h
        simp! only []
        exact back (by omega) (.inl h)
      · rintro y ys ρ st ⟨row2, c2, s4, s5, rfl, hs2, hl2, hc2, rfl⟩
        rw [List.length_cons] at hl2
        simp! only []
        split
        · refine ⟨by simp only [List.length_map]; have := line_big; omega, by decide, row2 ++ [c2.fmod 1009], _, _, _, by rw [List.map_append]; rfl, hs2.add (fmod_lo (by decide)) (fmod_hi (by decide)), by simp only [List.length_append,List.length_singleton]; omega, Int.fdiv_nonneg hc2 (by decide), rfl⟩
        · exact ⟨row2, c2, _, _, rfl, hs2, by omega, hc2, rfl⟩
    · have q0 : 0 ≤ c.fmod 2147483629 := fmod_lo (by decide)
      have q1 : c.fmod 2147483629 < 2147483629 := fmod_hi (by decide)
      have b0 : bits (c.fmod 2147483629) ≤ 30 := bits_of q0 (by omega)
      have b1 : bits 48271 = 15 := by decide
      have b2 : bits (k : Int) ≤ 5 := bits_of (by omega) (by omega)
      have b3 : bits 69621 = 16 := by decide
      have b4 : bits 16807 = 14 := by decide
      refine ⟨by omega, by omega, by decide, ?_⟩
      refine fl_inv (I := dealB ns (row.length + 5) k) ⟨row, _, _, _, rfl, hs, by rw [rng_len]; exact Nat.le_refl _, ⟨by omega, by omega⟩, ?_, rfl⟩ ?_ ?_
      · intro x hx
        obtain ⟨t, e, ht⟩ := rng_mem hx
        exact ⟨t, by rw [e]; simp, ht⟩
      · intro ρ st h
        simp! only []
        exact back (by omega) (.inr h)
      · rintro y ys ρ st ⟨row2, c2, s4, s5, rfl, hs2, hl2, hc2, hys, rfl⟩
        obtain ⟨t, rfl, ht⟩ := hys y List.mem_cons_self
        rw [List.length_cons] at hl2
        simp! only []
        have b5 : bits c2 ≤ 49 := bits_of hc2.1 (by omega)
        have q2 : (c2 * 16807 + 12345 + (t : Int)).fmod 2147483647 < 2147483647 := fmod_hi (by decide)
        refine ⟨by omega, by decide, by simp only [List.length_map]; have := line_big; omega, row2 ++ [_], _, _, _, by rw [List.map_append]; rfl, hs2.add (fmod_lo (by decide)) (fmod_hi (by decide)), by simp only [List.length_append,List.length_singleton]; omega, ⟨fmod_lo (by decide), by omega⟩, fun x h => hys x (List.mem_cons_of_mem _ h), rfl⟩
end K76
/-! S: same -/
namespace K76
open Sf
mutual
/-- no cell in it, at most n deep, not long -/
def fine : Nat → D → Bool
  | _, .non => true
  | _, .bl _ => true
  | _, .int _ => true
  | _, .str s => s.all fun c => decide (c < 1114112)
  | 0, _ => false
  | n + 1, .tup ds => decide (ds.length ≤ line) && fines n ds
  | n + 1, .lst ds => decide (ds.length ≤ line) && fines n ds
  | n + 1, .rol ds => decide (ds.length ≤ line) && fines n ds
  | _ + 1, .ptr _ => false
def fines : Nat → List D → Bool
  | _, [] => true
  | n, d :: ds => fine n d && fines n ds
end
theorem fines_get : ∀ {ds : List D} {n i : Nat} {d : D}, fines n ds = true → ds[i]? = some d → fine n d = true
  | [], _, i, _, _, h => by simp at h
  | x :: xs, n, 0, d, f, h => by
    unfold fines at f
    rw [Bool.and_eq_true] at f
    simp at h
    rw [← h]; exact f.1
  | x :: xs, n, i + 1, d, f, h => by
    unfold fines at f
    rw [Bool.and_eq_true] at f
    exact fines_get f.2 (by simpa using h)
def sameI (d : D) (len : Nat) (st0 : Cells) (xs : List D) (ρ : Env) (st : Cells) : Prop := ∃ s2 : Slot, ρ = [.dat d, .dat d, s2] ∧ (∀ x ∈ xs, ∃ k : Nat, x = .int k ∧ k < len) ∧ st = st0
def sameR (st : Cells) (q : D × Cells) : Prop := q = (.bl true, st)
theorem line62 {n : Nat} (h : n ≤ line) : -(2 ^ 62) ≤ ((n : Nat) : Int) ∧ ((n : Nat) : Int) < 2 ^ 62 := by
  have : line = 16777216 := rfl
  omega
theorem shp_int {n : Nat} {i : Int} : D.shp n (.int i) = true := by cases n <;> rfl
theorem same_refl : ∀ (k : Nat) (d : D) (n : Nat) (st : Cells), fine k d = true → Ev (callN T (n + k + 1) i__law_same [d, d] st) (sameR st)
  | k, .non, n, st, _ => by
    refine dcl (f := f__law_same) rfl rfl ?_
    simp! only [f__law_same,b__law_same,start,List.replicate,List.append_nil,List.cons_append,List.nil_append,D.isTup,D.isList,D.isInt,D.isBool,D.isStr]
    rfl
  | k, .bl b, n, st, _ => by
    refine dcl (f := f__law_same) rfl rfl ?_
    simp! only [f__law_same,b__law_same,start,List.replicate,List.append_nil,List.cons_append,List.nil_append,D.isTup,D.isList,D.isInt,D.isBool,D.isStr]
    simp [sameR]
  | k, .int i, n, st, _ => by
    refine dcl (f := f__law_same) rfl rfl ?_
    simp! only [f__law_same,b__law_same,start,List.replicate,List.append_nil,List.cons_append,List.nil_append,D.isTup,D.isList,D.isInt,D.isBool,D.isStr]
    simp [sameR]
  | k, .str s, n, st, f => by
    have f : (s.all fun c => decide (c < 1114112)) = true := by cases k <;> exact f
    refine dcl (f := f__law_same) rfl rfl ?_
    simp! only [f__law_same,b__law_same,start,List.replicate,List.append_nil,List.cons_append,List.nil_append,D.isTup,D.isList,D.isInt,D.isBool,D.isStr,f]
    simp [sameR]
  | k + 1, .tup ds, n, st, f => by
    unfold fine at f
    rw [Bool.and_eq_true] at f
    have hl := of_decide_eq_true f.1
    refine dcl (f := f__law_same) rfl rfl ?_
    simp! only [f__law_same,b__law_same,start,List.replicate,List.append_nil,List.cons_append,List.nil_append,D.isTup,D.isList,D.isInt,D.isBool,D.isStr]
    refine ⟨line62 hl, ?_⟩
    refine fl_inv (I := sameI (.tup ds) ds.length st) ⟨_, rfl, fun x hx => ?_, rfl⟩ ?_ ?_
    · obtain ⟨i, e, hi⟩ := rng_mem hx
      exact ⟨i, by rw [e]; simp, by simpa using hi⟩
    · rintro ρ st' ⟨s2, rfl, _, rfl⟩
      simp! only []
      rfl
    · rintro x xs ρ st' ⟨s2, rfl, hx, rfl⟩
      obtain ⟨i, rfl, hi⟩ := hx x List.mem_cons_self
      simp! only [getI_nat,List.getElem?_eq_getElem hi]
      refine (same_refl k ds[i] n _ (fines_get f.2 (List.getElem?_eq_getElem hi))).mono fun q hq => ?_
      unfold sameR at hq
      subst hq
      simp! only []
      exact ⟨_, rfl, fun x h => hx x (List.mem_cons_of_mem _ h), rfl⟩
  | k + 1, .lst ds, n, st, f => by
    unfold fine at f
    rw [Bool.and_eq_true] at f
    have hl := of_decide_eq_true f.1
    refine dcl (f := f__law_same) rfl rfl ?_
    simp! only [f__law_same,b__law_same,start,List.replicate,List.append_nil,List.cons_append,List.nil_append,D.isTup,D.isList,D.isInt,D.isBool,D.isStr]
    refine ⟨line62 hl, ?_⟩
    refine fl_inv (I := sameI (.lst ds) ds.length st) ⟨_, rfl, fun x hx => ?_, rfl⟩ ?_ ?_
    · obtain ⟨i, e, hi⟩ := rng_mem hx
      exact ⟨i, by rw [e]; simp, by simpa using hi⟩
    · rintro ρ st' ⟨s2, rfl, _, rfl⟩
      simp! only []
      rfl
    · rintro x xs ρ st' ⟨s2, rfl, hx, rfl⟩
      obtain ⟨i, rfl, hi⟩ := hx x List.mem_cons_self
      simp! only [getI_nat,List.getElem?_eq_getElem hi]
      refine (same_refl k ds[i] n _ (fines_get f.2 (List.getElem?_eq_getElem hi))).mono fun q hq => ?_
      unfold sameR at hq
      subst hq
      simp! only []
      exact ⟨_, rfl, fun x h => hx x (List.mem_cons_of_mem _ h), rfl⟩
  | k + 1, .rol ds, n, st, f => by
    unfold fine at f
    rw [Bool.and_eq_true] at f
    have hl := of_decide_eq_true f.1
    refine dcl (f := f__law_same) rfl rfl ?_
    simp! only [f__law_same,b__law_same,start,List.replicate,List.append_nil,List.cons_append,List.nil_append,D.isTup,D.isList,D.isInt,D.isBool,D.isStr]
    refine ⟨line62 hl, ?_⟩
    refine fl_inv (I := sameI (.rol ds) ds.length st) ⟨_, rfl, fun x hx => ?_, rfl⟩ ?_ ?_
    · obtain ⟨i, e, hi⟩ := rng_mem hx
      exact ⟨i, by rw [e]; simp, by simpa using hi⟩
    · rintro ρ st' ⟨s2, rfl, _, rfl⟩
      simp! only []
      rfl
    · rintro x xs ρ st' ⟨s2, rfl, hx, rfl⟩
      obtain ⟨i, rfl, hi⟩ := hx x List.mem_cons_self
      simp! only [getI_nat,List.getElem?_eq_getElem hi]
      refine (same_refl k ds[i] n _ (fines_get f.2 (List.getElem?_eq_getElem hi))).mono fun q hq => ?_
      unfold sameR at hq
      subst hq
      simp! only []
      exact ⟨_, rfl, fun x h => hx x (List.mem_cons_of_mem _ h), rfl⟩
  | 0, .tup ds, n, st, f => by unfold fine at f; cases f
  | 0, .lst ds, n, st, f => by unfold fine at f; cases f
  | 0, .rol ds, n, st, f => by unfold fine at f; cases f
  | 0, .ptr k, n, st, f => by unfold fine at f; cases f
  | _ + 1, .ptr k, n, st, f => by unfold fine at f; cases f
end K76
/-! M: instructions, programs -/
namespace K76
open Sf
inductive Ins where
  | push (v : Int) | reading (k : Int) | times | add | less | least | ring (t : Int) | skip (a t : Int) | stop
def Ins.d : Ins → D
  | .push v => .tup [.str [112, 117, 115, 104], .int v]
  | .reading k => .tup [.str [114, 101, 97, 100, 105, 110, 103], .int k]
  | .times => .tup [.str [116, 105, 109, 101, 115]]
  | .add => .tup [.str [97, 100, 100]]
  | .less => .tup [.str [108, 101, 115, 115]]
  | .least => .tup [.str [108, 101, 97, 115, 116]]
  | .ring t => .tup [.str [114, 105, 110, 103], .int t]
  | .skip a t => .tup [.str [115, 107, 105, 112], .int a, .int t]
  | .stop => .tup [.str [101, 110, 100]]
def insOk (p m g : Int) : Ins → Prop
  | .push v => word v
  | .reading k => 0 ≤ k ∧ k < g
  | .ring t => 0 ≤ t ∧ t < 1000
  | .skip a t => (0 ≤ a ∧ a < g) ∧ p < t ∧ t < m
  | _ => True
instance (p m g : Int) (i : Ins) : Decidable (insOk p m g i) := by
  cases i <;> unfold insOk <;> infer_instance
theorem bl_same {b c : Bool} {st : Cells} (h : b = c) : (D.bl b, st) = (D.bl c, st) := by rw [h]
/-! the rows that are none -/
/-! ### programs -/
def endD : D := .tup [.str [101, 110, 100]]
def progR (ok : Bool) (st : Cells) (q : D × Cells) : Prop := q = (.bl ok, st)
/-- the walk over the instructions -/
def progI (ds : List D) (g : Int) (f : Nat → Bool) (st0 : Cells) (i : Nat) (ρ : Env) (st : Cells) : Prop := ∃ s2 s3 : Slot, ρ = [.dat (.tup ds), .dat (.int g), s2, s3] ∧ (∀ j, j < i → f j = true) ∧ st = st0
end K76
/-! R: what runs do -/
namespace K76
open Sf
def optD : Option Int → D
  | none => .non
  | some i => .int i
def turnD (t : List (Option Int)) : D := .tup (t.map optD)
def stackD (s : List Int) : D := .tup (s.map .int)
inductive R where
  | on (p : Int) (s : List Int) | fin (d : D)
def silent : D := .tup [.str [115, 105, 108, 101, 110, 116]]
def broken (p : Int) : D := .tup [.str [98, 114, 111, 107, 101, 110], .int p]
def rings (t : Int) : D := .tup [.str [114, 105, 110, 103, 115], .int t]
def R.d : R → D
  | .on p s => .tup [.str [111, 110], .int p, stackD s]
  | .fin d => d
def op (i : Ins) (a b : Int) : Int := match i with
  | .times => a * b
  | .add => a + b
  | .less => a - b
  | _ => if a ≥ b then 1 else 0
def two : Ins → Bool
  | .times => true
  | .add => true
  | .less => true
  | .least => true
  | _ => false
/-- the rest of the stack, the new number -/
def made (t : List (Option Int)) (s : List Int) : Ins → List Int × Option Int
  | .push v => (s, some v)
  | .reading k => (s, (t[k.toNat]?).join)
  | i => if s.length < 2 then (s, none) else (s.take (s.length - 2), some (op i (s.getD (s.length - 2) 0) (s.getD (s.length - 1) 0)))
def push1 (p : Int) : List Int × Option Int → R
  | (rest, some x) => if word x ∧ rest.length ≤ 7 then .on (p + 1) (rest ++ [x]) else .fin (broken p)
  | (_, none) => .fin (broken p)
def step (t : List (Option Int)) (p : Int) (s : List Int) : Ins → R
  | .stop => .fin silent
  | .skip a u => .on (if (t[a.toNat]?).join = none then u else p + 1) s
  | .ring u => if s = [] then .fin (broken p) else if s.getD (s.length - 1) 0 ≠ 0 then .fin (rings u) else .on (p + 1) (s.take (s.length - 1))
  | i => push1 p (made t s i)
/-- a stack -/
structure Stk (s : List Int) : Prop where
  len : s.length ≤ 8
  word : ∀ x ∈ s, word x
theorem bits_word {x : Int} (h : word x) : bits x ≤ 31 := by
  unfold word at h
  exact bits_lt (by omega)
theorem c_result_of (n : Nat) {i : Ins} (hi : two i = true) {a b : Int} (ha : word a) (hb : word b) (st : Cells) {w : D} (hw : (match i.d with | .tup (x :: _) => x | _ => .non) = w) : Ev (callN T (n + 1) i_result_of [w, .int a, .int b] st) fun q => q = (.int (op i a b), st) := by
  have h1 := bits_word ha
  have h2 := bits_word hb
  subst hw
  refine dcl (f := f_result_of) rfl rfl ?_
  cases i <;> first | (cases hi; done) | skip
  all_goals simp! only [Ins.d,f_result_of,b_result_of,start,List.replicate,List.append_nil,List.cons_append,List.nil_append,op]
  · exact by omega
  · congr 2
    by_cases h : b ≤ a <;> simp [h]
def resG (rest : List Int) (x : Int) : D := if word x ∧ rest.length ≤ 7 then stackD (rest ++ [x]) else .non
def grownD : List Int × Option Int → D
  | (rest, some x) => resG rest x
  | (_, none) => .non
def kept (st : Cells) (d : D) (q : D × Cells) : Prop := q = (d, st)
theorem resG_f {rest : List Int} {x : Int} (h : ¬ word x) : resG rest x = .non := if_neg fun q => h q.1
theorem resG_8 {rest : List Int} {x : Int} (h : rest.length = 8) : resG rest x = .non := if_neg fun q => by omega
theorem resG_t {rest : List Int} {x : Int} (h : word x) (h2 : rest.length ≤ 8) (h3 : rest.length ≠ 8) : resG rest x = .tup (rest.map .int ++ [.int x]) := by
  unfold resG
  rw [if_pos ⟨h, by omega⟩]
  simp [stackD]
theorem line9 {n : Nat} (h : n ≤ 8) : n + 1 ≤ line := by
  have : line = 16777216 := rfl
  omega
theorem two_made {i : Ins} (h : two i = true) (t : List (Option Int)) (s : List Int) : made t s i = if s.length < 2 then (s, none) else (s.take (s.length - 2), some (op i (s.getD (s.length - 2) 0) (s.getD (s.length - 1) 0))) := by
  cases i <;> first | rfl | cases h
theorem getI_s2 {s : List Int} (h : 2 ≤ s.length) : getI (s.map D.int) (-2) = some (.int (s.getD (s.length - 2) 0)) := by
  rw [getI_neg2 (by simpa using h), List.length_map, List.getElem?_map, List.getElem?_eq_getElem (by omega)]
  simp [List.getD, List.getElem?_eq_getElem (show s.length - 2 < s.length by omega)]
theorem getI_s1 {s : List Int} (h : 1 ≤ s.length) : getI (s.map D.int) (-1) = some (.int (s.getD (s.length - 1) 0)) := by
  rw [getI_last, List.length_map, List.getElem?_map, List.getElem?_eq_getElem (by omega)]
  simp [List.getD, List.getElem?_eq_getElem (show s.length - 1 < s.length by omega)]
theorem stk_get {s : List Int} (hs : Stk s) {k : Nat} (h : k < s.length) : word (s.getD k 0) := by
  have : s.getD k 0 = s[k] := by simp [List.getD, List.getElem?_eq_getElem h]
  rw [this]
  exact hs.word _ (List.getElem_mem h)
theorem getI_t {t : List (Option Int)} {k : Int} (h0 : 0 ≤ k) (h1 : k < t.length) : getI (t.map optD) k = some (optD (t[k.toNat]?).join) := by
  obtain ⟨j, rfl⟩ := Int.eq_ofNat_of_zero_le h0
  have hj : j < t.length := by exact_mod_cast h1
  rw [getI_nat, List.getElem?_map, Int.toNat_natCast, List.getElem?_eq_getElem hj]
  rfl
theorem c_grown (n : Nat) {i : Ins} {t : List (Option Int)} {s : List Int} {p m : Int} (hi : insOk p m t.length i) (hs : Stk s) (hk : i ≠ .stop ∧ (∀ a b, i ≠ .skip a b) ∧ ∀ a, i ≠ .ring a) (st : Cells) :
    Ev (callN T (n + 2) i_grown [i.d, turnD t, stackD s] st) (kept st (grownD (made t s i))) := by
  refine dcl (f := f_grown) rfl rfl ?_
  have tail : ∀ (x : Int) {P : D × Cells → Prop}, P (.bl (decide (word x)), st) → Ev (callN T (n + 1) i_is_word [.int x] st) P := fun x P h => (c_is_word n x st).mono fun q hq => by rw [hq]; exact h
  have hl := hs.len
  cases i with
  | push v =>
    have e : grownD (made t s (.push v)) = resG s v := rfl
    rw [e]
    simp! only [Ins.d,turnD,stackD,f_grown,b_grown,start,List.replicate,List.append_nil,List.cons_append,List.nil_append,List.length_map]
    refine tail v ?_
    by_cases hw : word v
    · simp! only [hw]
      split
      · rename_i h; rw [resG_8 (by omega)]; rfl
      · rename_i h; rw [resG_t hw hl (by omega)]; exact ⟨by decide, line9 hl, rfl⟩
    · simp! only [hw]
      rw [resG_f hw]; rfl
  | reading k =>
    have hi : 0 ≤ k ∧ k < t.length := hi
    have e : made t s (.reading k) = (s, (t[k.toNat]?).join) := rfl
    rw [e]
    simp! only [Ins.d,turnD,stackD,f_grown,b_grown,start,List.replicate,List.append_nil,List.cons_append,List.nil_append,List.length_map,getI_t hi.1 hi.2]
    cases (t[k.toNat]?).join with
    | none =>
      simp! only [optD]
      rfl
    | some v =>
      have e : grownD (s, some v) = resG s v := rfl
      rw [e]
      simp! only [optD]
      refine tail v ?_
      by_cases hw : word v
      · simp! only [hw]
        split
        · rename_i h; rw [resG_8 (by omega)]; rfl
        · rename_i h; rw [resG_t hw hl (by omega)]; exact ⟨by decide, line9 hl, rfl⟩
      · simp! only [hw]
        rw [resG_f hw]; rfl
  | stop => exact absurd rfl hk.1
  | skip a b => exact absurd rfl (hk.2.1 a b)
  | ring a => exact absurd rfl (hk.2.2 a)
  | _ =>
    rw [two_made rfl]
    simp! only [Ins.d,turnD,stackD,f_grown,b_grown,start,List.replicate,List.append_nil,List.cons_append,List.nil_append,List.length_map]
    by_cases h2 : s.length < 2
    · rw [if_pos (by omega), if_pos h2]; rfl
    · have q1 := stk_get hs (k := s.length - 2) (by omega)
      have q2 := stk_get hs (k := s.length - 1) (by omega)
      rw [if_neg (by omega), if_neg h2]
      simp! only [getI_s2 (by omega : 2 ≤ s.length),getI_s1 (by omega : 1 ≤ s.length)]
      first
        | refine (c_result_of n (i := .times) rfl q1 q2 st rfl).mono fun q hq => ?_
        | refine (c_result_of n (i := .add) rfl q1 q2 st rfl).mono fun q hq => ?_
        | refine (c_result_of n (i := .less) rfl q1 q2 st rfl).mono fun q hq => ?_
        | refine (c_result_of n (i := .least) rfl q1 q2 st rfl).mono fun q hq => ?_
      subst hq
      simp! only []
      refine tail _ ?_
      rw [← List.map_take]
      simp only [List.length_map]
      generalize hx : op _ _ _ = x
      generalize hr : List.take (s.length - 2) s = rest
      have hrl : rest.length ≤ 8 := by rw [← hr, List.length_take]; omega
      have e : grownD (rest, some x) = resG rest x := rfl
      rw [e]
      by_cases hw : word x
      · simp! only [hw]
        split
        · rename_i h; rw [resG_8 (by omega)]; rfl
        · rename_i h; rw [resG_t hw hrl (by omega)]; exact ⟨by decide, line9 hrl, rfl⟩
      · simp! only [hw]
        rw [resG_f hw]; rfl
end K76
/-! X: steps -/
namespace K76
open Sf
def progD (is : List Ins) : D := .tup (is.map Ins.d)
theorem prog_at {is : List Ins} {p : Nat} {i : Ins} (h : is[p]? = some i) : getI (is.map Ins.d) (p : Int) = some i.d := by
  rw [getI_nat, List.getElem?_map, h]; rfl
theorem made_stk {t : List (Option Int)} {s : List Int} (hs : Stk s) (i : Ins) : Stk (made t s i).1 := by
  have ht : Stk (s.take (s.length - 2)) := ⟨by rw [List.length_take]; have := hs.len; omega, fun x hx => hs.word x (List.mem_of_mem_take hx)⟩
  cases i <;> unfold made <;> first | exact hs | (dsimp only; split <;> first | exact hs | exact ht)
theorem push1_d (p : Int) (r : List Int × Option Int) : (push1 p r).d = if (grownD r).isNone = true then broken p else .tup [.str [111, 110], .int (p + 1), grownD r] := by
  obtain ⟨rest, o⟩ := r
  cases o with
  | none => rfl
  | some x =>
    show (if word x ∧ rest.length ≤ 7 then R.on (p + 1) (rest ++ [x]) else R.fin (broken p)).d = _
    have e : grownD (rest, some x) = if word x ∧ rest.length ≤ 7 then stackD (rest ++ [x]) else .non := rfl
    rw [e]
    by_cases h : word x ∧ rest.length ≤ 7
    · simp only [if_pos h]; rfl
    · simp only [if_neg h]; rfl
theorem shps_int {n : Nat} : ∀ s : List Int, D.shps n (s.map .int) = true
  | [] => rfl
  | x :: s => by
    show (D.shp n (.int x) && D.shps n (s.map .int)) = true
    rw [shp_int, shps_int s]; rfl
theorem cmp0 {s : List Int} {P : Bool → Prop} : Ev (dCmp .eq (.dat (.tup (s.map .int))) (.dat (.tup []))) P ↔ P (decide (s = [])) := by
  rw [c_eq]
  have e : (D.shp 60 (.tup (s.map .int)) && D.shp 60 (.tup [])) = true := by
    show (D.shps 59 (s.map .int) && D.shps 59 []) = true
    rw [shps_int]; rfl
  simp only [rd_d,e,true_and]
  cases s <;> exact Iff.rfl
theorem c_stepped (n : Nat) {is : List Ins} {t : List (Option Int)} {s : List Int} {p : Nat} {m : Int} {i : Ins} (hp : is[p]? = some i) (hi : insOk p m t.length i) (hs : Stk s) (st : Cells) :
    Ev (callN T (n + 3) i_stepped [progD is, turnD t, .int p, stackD s] st) (kept st (step t p s i).d) := by
  refine dcl (f := f_stepped) rfl rfl ?_
  have hpA := prog_at hp
  have hl := hs.len
  have gr : (i ≠ .stop ∧ (∀ a b, i ≠ .skip a b) ∧ ∀ a, i ≠ .ring a) → ∀ {P : D × Cells → Prop}, P (grownD (made t s i), st) → Ev (callN T (n + 2) i_grown [i.d, .tup (t.map optD), .tup (s.map .int)] st) P := fun hk P h => (c_grown n hi hs hk st).mono fun q hq => by
    unfold kept at hq
    rw [hq]; exact h
  cases i with
  | stop =>
    simp! only [progD,turnD,stackD,f_stepped,b_stepped,start,List.replicate,List.append_nil,List.cons_append,List.nil_append,hpA,Ins.d]
    exact ⟨by decide, rfl⟩
  | skip a b =>
    have hi : (0 ≤ a ∧ a < t.length) ∧ (p : Int) < b ∧ b < m := hi
    simp! only [progD,turnD,stackD,f_stepped,b_stepped,start,List.replicate,List.append_nil,List.cons_append,List.nil_append,hpA,Ins.d,getI_t hi.1.1 hi.1.2]
    have e : (optD (t[a.toNat]?).join).isNone = decide ((t[a.toNat]?).join = none) := by
      cases (t[a.toNat]?).join <;> rfl
    rw [e]
    have ex : step t p s (.skip a b) = .on (if (t[a.toNat]?).join = none then b else p + 1) s := rfl
    rw [ex]
    by_cases h : (t[a.toNat]?).join = none
    · simp! only [h]; exact ⟨by decide, rfl⟩
    · simp! only [h]; exact ⟨by decide, rfl⟩
  | ring u =>
    have ex : step t p s (.ring u) = if s = [] then .fin (broken p) else if s.getD (s.length - 1) 0 ≠ 0 then .fin (rings u) else .on (p + 1) (s.take (s.length - 1)) := rfl
    rw [ex]
    simp! only [progD,turnD,stackD,f_stepped,b_stepped,start,List.replicate,List.append_nil,List.cons_append,List.nil_append,hpA,Ins.d,cmp0]
    by_cases h0 : s = []
    · simp! only [h0]; exact ⟨by decide, by decide, rfl⟩
    · have h1 : 1 ≤ s.length := by
        cases s with
        | nil => exact absurd rfl h0
        | cons a l => simp
      simp! only [h0,getI_s1 h1]
      by_cases h2 : s.getD (s.length - 1) 0 = 0
      · simp! only [h2]
        refine ⟨by decide, ?_⟩
        rw [List.length_map, ← List.map_take]; exact ⟨by decide, rfl⟩
      · simp! only [h2]
        exact ⟨by decide, by decide, rfl⟩
  | _ =>
    simp! only [progD,turnD,stackD,f_stepped,b_stepped,start,List.replicate,List.append_nil,List.cons_append,List.nil_append,hpA,Ins.d]
    simp only [Ins.d] at gr
    refine gr ⟨by simp, by simp, by simp⟩ ?_
    have ex : ∀ i, (i ≠ .stop ∧ (∀ a b, i ≠ .skip a b) ∧ ∀ a, i ≠ .ring a) → step t p s i = push1 p (made t s i) := fun i hk => by
      cases i <;> first | rfl | exact absurd rfl hk.1 | exact absurd rfl (hk.2.1 _ _) | exact absurd rfl (hk.2.2 _)
    rw [ex _ ⟨by simp, by simp, by simp⟩, push1_d]
    generalize grownD _ = gd
    simp! only []
    cases gd.isNone with
    | true => simp! only []; exact ⟨by decide, rfl⟩
    | false => simp! only []; exact ⟨by decide, rfl⟩
end K76
/-! Y: the trace -/
namespace K76
open Sf
structure Good (is : List Ins) (g : Nat) : Prop where
  one : 1 ≤ is.length
  most : is.length ≤ 4000
  last : is[is.length - 1]? = some .stop
  ok : ∀ (p : Nat) i, is[p]? = some i → insOk p is.length g i
def stD (p : Int) (s : List Int) : D := .tup [.int p, stackD s]
def loop (is : List Ins) (t : List (Option Int)) : Nat → Nat → List Int → List D → List D × D
  | 0, p, _, acc => (acc, broken p)
  | k + 1, p, s, acc => match is[p]? with
    | none => (acc, .non)
    | some i => match step t p s i with
      | .fin d => (acc ++ [stD p s], d)
      | .on p' s' => loop is t k p'.toNat s' (acc ++ [stD p s])
def FinOk (d : D) : Prop := ∃ w r, d = .tup (.str w :: r) ∧ ([111, 110] : List Nat) ≠ w ∧ (w.all fun c => decide (c < 1114112)) = true
theorem fin_silent : FinOk silent := ⟨_, _, rfl, by decide, by decide⟩
theorem fin_broken (p : Int) : FinOk (broken p) := ⟨_, _, rfl, by decide, by decide⟩
theorem fin_rings (p : Int) : FinOk (rings p) := ⟨_, _, rfl, by decide, by decide⟩
theorem step_other {t : List (Option Int)} {p : Int} {s : List Int} {i : Ins} (hk : i ≠ .stop ∧ (∀ a b, i ≠ .skip a b) ∧ ∀ a, i ≠ .ring a) : step t p s i = push1 p (made t s i) := by
  cases i <;> first | rfl | exact absurd rfl hk.1 | exact absurd rfl (hk.2.1 _ _) | exact absurd rfl (hk.2.2 _)
theorem loop_fin {is : List Ins} {t : List (Option Int)} {k p : Nat} {s : List Int} {acc : List D} {i : Ins} {d : D} (hi : is[p]? = some i) (h : step t p s i = .fin d) : loop is t (k + 1) p s acc = (acc ++ [stD p s], d) := by
  rw [loop, hi]
  simp only [h]
theorem loop_on {is : List Ins} {t : List (Option Int)} {k p : Nat} {s s' : List Int} {p' : Int} {acc : List D} {i : Ins} (hi : is[p]? = some i) (h : step t p s i = .on p' s') : loop is t (k + 1) p s acc = loop is t k p'.toNat s' (acc ++ [stD p s]) := by
  rw [loop, hi]
  simp only [h]
theorem push1_some {p : Int} {rest : List Int} {x : Int} : push1 p (rest, some x) = if word x ∧ rest.length ≤ 7 then .on (p + 1) (rest ++ [x]) else .fin (broken p) := rfl
theorem step_ring {t : List (Option Int)} {p : Int} {s : List Int} {u : Int} : step t p s (.ring u) = if s = [] then .fin (broken p) else if s.getD (s.length - 1) 0 ≠ 0 then .fin (rings u) else .on (p + 1) (s.take (s.length - 1)) := rfl
theorem push1_cases (p : Int) (r : List Int × Option Int) : push1 p r = .fin (broken p) ∨ ∃ x, r.2 = some x ∧ word x ∧ r.1.length ≤ 7 ∧ push1 p r = .on (p + 1) (r.1 ++ [x]) := by
  obtain ⟨rest, o⟩ := r
  cases o with
  | none => exact .inl rfl
  | some x =>
    rw [push1_some]
    by_cases h : word x ∧ rest.length ≤ 7
    · rw [if_pos h]; exact .inr ⟨x, rfl, h.1, h.2, rfl⟩
    · rw [if_neg h]; exact .inl rfl
theorem step_fin {t : List (Option Int)} {p : Int} {s : List Int} {i : Ins} {d : D} (h : step t p s i = .fin d) : FinOk d := by
  have pu : ∀ r, push1 p r = .fin d → FinOk d := fun r h => by
    rcases push1_cases p r with q | ⟨x, _, _, _, q⟩
    · rw [q] at h; cases h; exact fin_broken p
    · rw [q] at h; cases h
  cases i with
  | stop => cases h; exact fin_silent
  | skip a u => cases h
  | ring u =>
    rw [step_ring] at h
    split at h
    · cases h; exact fin_broken p
    · split at h
      · cases h; exact fin_rings u
      · cases h
  | _ => rw [step_other ⟨by simp, by simp, by simp⟩] at h; exact pu _ h
theorem step_on {is : List Ins} {g : Nat} {t : List (Option Int)} {p : Nat} {s s' : List Int} {i : Ins} {p' : Int} (hg : Good is g) (hp : is[p]? = some i) (hs : Stk s) (h : step t p s i = .on p' s') : (∃ q : Nat, p' = q ∧ p < q ∧ q < is.length) ∧ Stk s' := by
  have hl : p < is.length := (List.getElem?_eq_some_iff.mp hp).1
  have hns : i ≠ .stop := fun e => by rw [e] at h; cases h
  have hp1 : p + 1 < is.length := by
    have : p ≠ is.length - 1 := fun e => by
      have q := hg.last
      rw [← e, hp] at q
      exact hns (Option.some.inj q)
    omega
  have one : ∃ q : Nat, (p : Int) + 1 = q ∧ p < q ∧ q < is.length := ⟨p + 1, by omega, by omega, hp1⟩
  have pu : ∀ r : List Int × Option Int, Stk r.1 → push1 p r = .on p' s' → (∃ q : Nat, p' = q ∧ p < q ∧ q < is.length) ∧ Stk s' := fun r hr h => by
    rcases push1_cases p r with q | ⟨x, _, hw, hl7, q⟩
    · rw [q] at h; cases h
    · rw [q] at h
      cases h
      refine ⟨one, ⟨by simp; omega, fun y hy => ?_⟩⟩
      rcases List.mem_append.mp hy with hy | hy
      · exact hr.word y hy
      · rw [List.mem_singleton.mp hy]; exact hw
  cases i with
  | stop => cases h
  | skip a u =>
    have hok : (0 ≤ a ∧ a < g) ∧ (p : Int) < u ∧ u < is.length := hg.ok p _ hp
    cases h
    refine ⟨?_, hs⟩
    split
    · exact ⟨u.toNat, by omega, by omega, by omega⟩
    · exact one
  | ring u =>
    rw [step_ring] at h
    split at h
    · cases h
    · split at h
      · cases h
      · cases h
        exact ⟨one, ⟨by rw [List.length_take]; have := hs.len; omega, fun y hy => hs.word y (List.mem_of_mem_take hy)⟩⟩
  | _ => rw [step_other ⟨by simp, by simp, by simp⟩] at h; exact pu _ (made_stk hs _) h
theorem stk_nil : Stk [] := ⟨by decide, fun x h => absurd h List.not_mem_nil⟩
def traceI (is : List Ins) (t : List (Option Int)) (R : List D × D) (st0 : Cells) (j : Nat) (ρ : Env) (st : Cells) : Prop :=
  ∃ (p : Nat) (s : List Int) (acc : List D) (s3 s4 : Slot), ρ = [.dat (progD is), .dat (turnD t), .own (acc ++ [stD p s]), s3, s4] ∧ j ≤ p ∧ p < is.length ∧ Stk s ∧ acc.length ≤ j ∧ loop is t (is.length - j) p s acc = R ∧ st = st0
theorem c_trace (n : Nat) {is : List Ins} {t : List (Option Int)} (hg : Good is t.length) (st : Cells) {R : List D × D} (hR : loop is t is.length 0 [] [] = R) : Ev (callN T (n + 4) i_trace [progD is, turnD t] st) (kept st (.tup [.lst R.1, R.2])) := by
  have h1 := hg.one
  have h2 := hg.most
  have hline : line = 16777216 := rfl
  refine dcl (f := f_trace) rfl rfl ?_
  have ep : progD is = .tup (is.map Ins.d) := rfl
  simp! only [f_trace,b_trace,start,List.replicate,List.append_nil,List.cons_append,List.nil_append]
  rw [ep]
  simp! only [List.length_map]
  refine ⟨by decide, by decide, by decide, by omega, ?_⟩
  refine fl_idx (I := traceI is t R st) ⟨0, [], [], _, _, rfl, Nat.le_refl _, by omega, stk_nil, Nat.le_refl _, hR, rfl⟩ ?_ ?_
  · rintro ρ st' ⟨p, s, acc, s3, s4, rfl, hj, hp, _⟩
    rw [rngD_len] at hj
    omega
  · rintro j x ρ st' hx ⟨p, s, acc, s3, s4, rfl, hj, hp, hs, ha, hl, rfl⟩
    have hjl : j < is.length := by omega
    have hi : is[p]? = some is[p] := List.getElem?_eq_getElem hp
    generalize is[p] = i at hi
    simp! only []
    have e2 : stD p s = .tup [.int p, stackD s] := rfl
    rw [e2]
    simp! only []
    rw [show is.length - j = (is.length - (j + 1)) + 1 by omega] at hl
    refine (c_stepped n hi (hg.ok p i hi) hs st').mono fun q hq => ?_
    unfold kept at hq
    subst hq
    cases hst : step t p s i with
    | fin d =>
      obtain ⟨w, r, hd, hw, hc⟩ := step_fin hst
      rw [loop_fin hi hst] at hl
      subst hl
      subst hd
      simp! only [K76.R.d,hc,Ne.symm hw]
      exact ⟨by decide, rfl⟩
    | on p' s' =>
      rw [loop_on hi hst] at hl
      obtain ⟨⟨q, rfl, hq1, hq2⟩, hs'⟩ := step_on hg hi hs hst
      rw [Int.toNat_natCast] at hl
      simp! only [K76.R.d,List.length_append,List.length_singleton]
      refine ⟨by omega, q, s', acc ++ [stD p s], _, _, rfl, by omega, hq2, hs', ?_, hl, rfl⟩
      simp only [List.length_append,List.length_singleton]
      omega
end K76
/-! K: take, once more -/
namespace K76
open Sf
variable {row : List Int} {total : Int}
theorem take' (n : Nat) {m : Int} {a : Nat} {P : D × Cells → Prop} (hd : DealOk row total) (ha : a ≤ 2 ^ 55) (hm : 0 < m) (h : ∀ r, 0 ≤ r → r < m → P (.int r, at_ (a + 1))) : Ev (callN T (n + 1) i__law_take [deal row total, .int m] (at_ a)) P :=
  (c_take n hd hm (by have : (2 : Nat) ^ 55 < 2 ^ 60 := by decide
                      omega)).mono fun q hq => by
    obtain ⟨r, rfl, h0, h1⟩ := hq
    exact h r h0 h1
theorem p55 : (2 : Nat) ^ 55 = 36028797018963968 := by decide
end K76
/-! I: an instruction is drawn -/
namespace K76
open Sf
variable {row : List Int} {total : Int}
def insR (p m g : Int) (a : Nat) (q : D × Cells) : Prop := ∃ (i : Ins) (a' : Nat), q = (i.d, at_ a') ∧ insOk p m g i ∧ a' ≤ a + 3
end K76
/-! Q: a program is drawn -/
namespace K76
open Sf
variable {row : List Int} {total : Int}
def pgI (m g a : Nat) (i : Nat) (acc : List D) (st : Cells) : Prop := ∃ (is : List Ins) (a' : Nat), acc = is.map Ins.d ∧ is.length = i ∧ (∀ (p : Nat) x, is[p]? = some x → insOk p m g x) ∧ st = at_ a' ∧ a' ≤ a + 3 * i
def pgR (size g a : Nat) (q : D × Cells) : Prop := ∃ (is : List Ins) (a' : Nat), q = (progD is, at_ a') ∧ is.length = size + 1 ∧ Good is g ∧ a' ≤ a + 3 * size
theorem get_app {α : Type} {l : List α} {y : α} {p : Nat} {x : α} (h : (l ++ [y])[p]? = some x) : l[p]? = some x ∨ (p = l.length ∧ x = y) := by
  by_cases hp : p < l.length
  · rw [List.getElem?_append_left hp] at h; exact .inl h
  · rw [List.getElem?_append_right (by omega)] at h
    have : p - l.length = 0 := by
      have := (List.getElem?_eq_some_iff.mp h).1
      simp at this
      omega
    rw [this] at h
    simp at h
    exact .inr ⟨by omega, h.symm⟩
end K76
/-! A: ranges. -/
namespace K76
open Sf
abbrev Pr := Int × Int
def pairD (p : Pr) : D := .tup [.int p.1, .int p.2]
def rangesD (rs : List Pr) : D := .tup (rs.map pairD)
def okR (p : Pr) : Prop := word p.1 ∧ word p.2 ∧ p.1 ≤ p.2
instance (p : Pr) : Decidable (okR p) := inferInstanceAs (Decidable (_ ∧ _))
theorem is_word' (n : Nat) {x : Int} {st : Cells} {P : D × Cells → Prop} (h : P (.bl (decide (word x)), st)) : Ev (callN T (n + 1) i_is_word [.int x] st) P := (c_is_word n x st).mono fun q hq => by rw [hq]; exact h
theorem c_is_range (n : Nat) (p : Pr) (st : Cells) : Ev (callN T (n + 2) i_is_range [pairD p] st) (kept st (.bl (decide (okR p)))) := by
  refine dcl (f := f_is_range) rfl rfl ?_
  unfold pairD
  simp! only [f_is_range,b_is_range,start,List.replicate,List.append_nil,List.cons_append,List.nil_append,line,Int.reduceSub,Int.reduceAdd,Int.reduceMul,Int.reduceMod,Int.reduceDiv,List.length_map,List.length_append,and_self]
  refine is_word' n ?_
  by_cases h1 : word p.1
  · simp! only [h1,line,Int.reduceSub,Int.reduceAdd,Int.reduceMul,Int.reduceMod,Int.reduceDiv,List.length_map,List.length_append,and_self]
    refine is_word' n ?_
    by_cases h2 : word p.2
    · simp! only [h2,line,Int.reduceSub,Int.reduceAdd,Int.reduceMul,Int.reduceMod,Int.reduceDiv,List.length_map,List.length_append,and_self]
      exact bl_same (decide_eq_decide.mpr (by unfold okR; simp [h1, h2]))
    · simp! only [h2,line,Int.reduceSub,Int.reduceAdd,Int.reduceMul,Int.reduceMod,Int.reduceDiv,List.length_map,List.length_append,and_self]
      exact bl_same (decide_eq_false (by unfold okR; simp [h2])).symm
  · simp! only [h1,line,Int.reduceSub,Int.reduceAdd,Int.reduceMul,Int.reduceMod,Int.reduceDiv,List.length_map,List.length_append,and_self]
    exact bl_same (decide_eq_false (by unfold okR; simp [h1])).symm
theorem range' (n : Nat) {p : Pr} {st : Cells} {P : D × Cells → Prop} (h : P (.bl (decide (okR p)), st)) : Ev (callN T (n + 2) i_is_range [pairD p] st) P := (c_is_range n p st).mono fun q hq => by unfold kept at hq; rw [hq]; exact h
def allI (rs : List Pr) (st0 : Cells) (i : Nat) (acc : List D) (st : Cells) : Prop := (acc = [] ↔ ∀ p ∈ rs.take i, okR p) ∧ acc.length ≤ i ∧ st = st0
theorem take_one {α : Type} {l : List α} {i : Nat} {x : α} (h : l[i]? = some x) : l.take (i + 1) = l.take i ++ [x] := by
  rw [List.take_succ, h]; rfl
theorem c_are_ranges (n : Nat) {rs : List Pr} (hl : rs.length ≤ 1000) (st : Cells) : Ev (callN T (n + 3) i_are_ranges [rangesD rs] st) (kept st (.bl (decide (rs.length ≤ 6 ∧ ∀ p ∈ rs, okR p)))) := by
  refine dcl (f := f_are_ranges) rfl rfl ?_
  unfold rangesD
  simp! only [f_are_ranges,b_are_ranges,start,List.replicate,List.append_nil,List.cons_append,List.nil_append,line,Int.reduceSub,Int.reduceAdd,Int.reduceMul,Int.reduceMod,Int.reduceDiv,List.length_map,List.length_append,and_self]
  by_cases h6 : rs.length ≤ 6
  · have e : ((rs.length : Int) ≤ 6) := by omega
    simp! only [e,line,Int.reduceSub,Int.reduceAdd,Int.reduceMul,Int.reduceMod,Int.reduceDiv,List.length_map,List.length_append,and_self]
    refine ll_idx (I := allI rs st) ⟨by simp, Nat.le_refl _, rfl⟩ ?_ ?_
    · rintro acc st' ⟨ha, hal, rfl⟩
      simp! only [line,Int.reduceSub,Int.reduceAdd,Int.reduceMul,Int.reduceMod,Int.reduceDiv,List.length_map,List.length_append,and_self,List.take_of_length_le (Nat.le_refl _)] at ha hal ⊢
      refine ⟨by omega, ?_⟩
      refine bl_same (decide_eq_decide.mpr ?_)
      have : ((acc.length : Int) = 0) ↔ acc = [] := by
        cases acc with
        | nil => simp
        | cons a l => simp; omega
      rw [this, ha]
      exact ⟨fun h => ⟨h6, h⟩, fun h => h.2⟩
    · rintro i x acc st' hx ⟨ha, hal, rfl⟩
      rw [List.getElem?_map] at hx
      obtain ⟨p, hp, rfl⟩ := Option.map_eq_some_iff.mp hx
      simp! only [line,Int.reduceSub,Int.reduceAdd,Int.reduceMul,Int.reduceMod,Int.reduceDiv,List.length_map,List.length_append,and_self]
      refine range' n ?_
      by_cases hok : okR p
      · simp! only [hok,line,Int.reduceSub,Int.reduceAdd,Int.reduceMul,Int.reduceMod,Int.reduceDiv,List.length_map,List.length_append,and_self]
        refine ⟨?_, by omega, rfl⟩
        rw [ha, take_one hp]
        exact ⟨fun h q hq => (List.mem_append.mp hq).elim (h q) fun e => (List.mem_singleton.mp e) ▸ hok, fun h q hq => h q (List.mem_append_left _ hq)⟩
      · simp! only [hok,line,Int.reduceSub,Int.reduceAdd,Int.reduceMul,Int.reduceMod,Int.reduceDiv,List.length_map,List.length_append,and_self]
        refine ⟨⟨fun h => by simp at h, fun h => absurd (h p ?_) hok⟩, by simp; omega, rfl⟩
        rw [take_one hp]; simp
  · have e : ¬ ((rs.length : Int) ≤ 6) := by omega
    simp! only [e,line,Int.reduceSub,Int.reduceAdd,Int.reduceMul,Int.reduceMod,Int.reduceDiv,List.length_map,List.length_append,and_self]
    exact bl_same (decide_eq_false fun h => h6 h.1).symm
end K76
/-! B: ranges drawn, ranges told. -/
namespace K76
open Sf
variable {row : List Int} {total : Int}
theorem bool' (n : Nat) {b c : Bool} {st : Cells} {P : D × Cells → Prop} (h : P (.bl (b == c), st)) : Ev (callN T (n + 1) i__law_bool [.bl b, .bl c] st) P := (c__law_bool n b c st).mono fun q hq => by rw [hq]; exact h
theorem ranges' (n : Nat) {rs : List Pr} (hl : rs.length ≤ 1000) {st : Cells} {P : D × Cells → Prop} (h : P (.bl (decide (rs.length ≤ 6 ∧ ∀ p ∈ rs, okR p)), st)) : Ev (callN T (n + 3) i_are_ranges [rangesD rs] st) P := (c_are_ranges n hl st).mono fun q hq => by unfold kept at hq; rw [hq]; exact h
structure Rgs (rs : List Pr) (g : Nat) : Prop where
  len : rs.length = g
  most : g ≤ 6
  ok : ∀ p ∈ rs, okR p
def noneI (st0 : Cells) (_ : Nat) (acc : List D) (st : Cells) : Prop := acc = [] ∧ st = st0
theorem rep1 {α : Type} {x : α} : ∀ k : Nat, (List.replicate k [x]).flatten = List.replicate k x
  | 0 => rfl
  | k + 1 => by rw [List.replicate_succ, List.flatten_cons, rep1 k]; rfl
theorem ranges_t (n : Nat) {rs : List Pr} (hl : rs.length ≤ 1000) (h1 : rs.length ≤ 6 ∧ ∀ p ∈ rs, okR p) {st : Cells} {P : D × Cells → Prop} (h : P (.bl true, st)) : Ev (callN T (n + 3) i_are_ranges [rangesD rs] st) P := ranges' n hl (by rw [decide_eq_true h1]; exact h)
theorem ranges_f (n : Nat) {rs : List Pr} (hl : rs.length ≤ 1000) (h1 : ¬ (rs.length ≤ 6 ∧ ∀ p ∈ rs, okR p)) {st : Cells} {P : D × Cells → Prop} (h : P (.bl false, st)) : Ev (callN T (n + 3) i_are_ranges [rangesD rs] st) P := ranges' n hl (by rw [decide_eq_false h1]; exact h)
theorem bool_s (n : Nat) {b : Bool} {st : Cells} {P : D × Cells → Prop} (h : P (.bl true, st)) : Ev (callN T (n + 1) i__law_bool [.bl b, .bl b] st) P := bool' n (by rw [beq_self_eq_true]; exact h)
end K76
/-! C: what an entry leads to. -/
namespace K76
open Sf
structure Entry where
  stack : List Pr
  told : List Int
def intsD (l : List Int) : D := .tup (l.map .int)
def entryD (e : Entry) : D := .tup [rangesD e.stack, intsD e.told]
def four (a b : Pr) : List Int := [a.1 * b.1, a.1 * b.2, a.2 * b.1, a.2 * b.2]
def least4 (a b : Pr) : Int := (minOf (four a b)).getD 0
def most4 (a b : Pr) : Int := (maxOf (four a b)).getD 0
def rres (i : Ins) (a b : Pr) : Pr := match i with
  | .times => (least4 a b, most4 a b)
  | .add => (a.1 + b.1, a.2 + b.2)
  | .less => (a.1 - b.2, a.2 - b.1)
  | _ => (0, 1)
structure EntryOk (g : Nat) (e : Entry) : Prop where
  len : e.stack.length ≤ 8
  ok : ∀ p ∈ e.stack, okR p
  asc : e.told.Pairwise (· < ·)
  mem : ∀ x ∈ e.told, 0 ≤ x ∧ x < g
theorem min4 {a b c d : Int} : ∃ m, minOf [a, b, c, d] = some m ∧ m ≤ a ∧ m ≤ b ∧ m ≤ c ∧ m ≤ d ∧ (m = a ∨ m = b ∨ m = c ∨ m = d) := by
  unfold minOf
  simp only [List.foldl_cons,List.foldl_nil]
  refine ⟨_, rfl, ?_⟩
  repeat' split
  all_goals omega
theorem max4 {a b c d : Int} : ∃ m, maxOf [a, b, c, d] = some m ∧ a ≤ m ∧ b ≤ m ∧ c ≤ m ∧ d ≤ m ∧ (m = a ∨ m = b ∨ m = c ∨ m = d) := by
  unfold maxOf
  simp only [List.foldl_cons,List.foldl_nil]
  refine ⟨_, rfl, ?_⟩
  repeat' split
  all_goals omega
theorem least_min (a b : Pr) : minOf (four a b) = some (least4 a b) := by
  obtain ⟨m, h, _⟩ := min4 (a := a.1 * b.1) (b := a.1 * b.2) (c := a.2 * b.1) (d := a.2 * b.2)
  unfold least4 four
  rw [h]; rfl
theorem most_max (a b : Pr) : maxOf (four a b) = some (most4 a b) := by
  obtain ⟨m, h, _⟩ := max4 (a := a.1 * b.1) (b := a.1 * b.2) (c := a.2 * b.1) (d := a.2 * b.2)
  unfold most4 four
  rw [h]; rfl
theorem intsOf_four (a b : Pr) : intsOf [.int (a.1 * b.1), .int (a.1 * b.2), .int (a.2 * b.1), .int (a.2 * b.2)] = some (four a b) := rfl
def innI (x : Int) (b : Pr) (st0 : Cells) (i : Nat) (acc : List D) (st : Cells) : Prop := acc = (([b.1, b.2].take i).map fun y => D.int (x * y)) ∧ st = st0
theorem k_minl {ds : List D} {P : VR → Prop} : Ev (dBi .minl [.dat (.lst ds)]) P ↔ Ev ((intsOf ds).bind minOf) fun i => P (.dat (.int i)) := by simp only [dBi,VR.read,ev_map]
theorem k_maxl {ds : List D} {P : VR → Prop} : Ev (dBi .maxl [.dat (.lst ds)]) P ↔ Ev ((intsOf ds).bind maxOf) fun i => P (.dat (.int i)) := by simp only [dBi,VR.read,ev_map]
theorem c_range_result (n : Nat) {i : Ins} (hi : two i = true) {a b : Pr} (ha : okR a) (hb : okR b) (st : Cells) {w : D} (hw : (match i.d with | .tup (x :: _) => x | _ => .non) = w) : Ev (callN T (n + 1) i_range_result [w, pairD a, pairD b] st) (kept st (pairD (rres i a b))) := by
  have a1 := bits_word ha.1
  have a2 := bits_word ha.2.1
  have b1 := bits_word hb.1
  have b2 := bits_word hb.2.1
  subst hw
  refine dcl (f := f_range_result) rfl rfl ?_
  cases i <;> first | (cases hi; done) | skip
  · unfold pairD
    simp! only [Ins.d,f_range_result,b_range_result,start,List.replicate,List.append_nil,List.cons_append,List.nil_append,line,Int.reduceSub,Int.reduceAdd,Int.reduceMul,Int.reduceMod,Int.reduceDiv,List.length_map,List.length_append,and_self,l2_cons,l2_nil,ll_cons,ll_nil,lcK,k_minl,k_maxl,intsOf_four,Option.bind_some,least_min,most_max]
    exact ⟨by omega, by omega, by omega, by omega, rfl⟩
  all_goals unfold pairD
  all_goals simp! only [Ins.d,f_range_result,b_range_result,start,List.replicate,List.append_nil,List.cons_append,List.nil_append,line,Int.reduceSub,Int.reduceAdd,Int.reduceMul,Int.reduceMod,Int.reduceDiv,List.length_map,List.length_append,and_self]
  all_goals rfl
theorem rres_ok {i : Ins} (hi : two i = true) {a b : Pr} (ha : okR a) (hb : okR b) : (rres i a b).1 ≤ (rres i a b).2 := by
  have h1 := ha.2.2
  have h2 := hb.2.2
  cases i <;> first | (cases hi; done) | skip
  · show least4 a b ≤ most4 a b
    obtain ⟨m, e1, q1, _⟩ := min4 (a := a.1 * b.1) (b := a.1 * b.2) (c := a.2 * b.1) (d := a.2 * b.2)
    obtain ⟨k, e2, q2, _⟩ := max4 (a := a.1 * b.1) (b := a.1 * b.2) (c := a.2 * b.1) (d := a.2 * b.2)
    have h3 : least4 a b = m := by unfold least4 four; rw [e1]; rfl
    have h4 : most4 a b = k := by unfold most4 four; rw [e2]; rfl
    omega
  · show a.1 + b.1 ≤ a.2 + b.2; omega
  · show a.1 - b.2 ≤ a.2 - b.1; omega
  · show (0 : Int) ≤ 1; omega
/-- what is made: the rest, the new pair -/
def pmade (rs : List Pr) (e : Entry) : Ins → List Pr × Option Pr
  | .push v => (e.stack, some (v, v))
  | .reading k => (e.stack, if k ∈ e.told then some (rs.getD k.toNat (0, 0)) else none)
  | i => if e.stack.length < 2 then (e.stack, none) else (e.stack.take (e.stack.length - 2), some (rres i (e.stack.getD (e.stack.length - 2) (0, 0)) (e.stack.getD (e.stack.length - 1) (0, 0))))
def pgrown : List Pr × Option Pr → Option (List Pr)
  | (rest, some p) => if okR p ∧ rest.length ≤ 7 then some (rest ++ [p]) else none
  | (_, none) => none
def optSt : Option (List Pr) → D
  | none => .non
  | some s => rangesD s
theorem two_pmade {i : Ins} (h : two i = true) (rs : List Pr) (e : Entry) : pmade rs e i = if e.stack.length < 2 then (e.stack, none) else (e.stack.take (e.stack.length - 2), some (rres i (e.stack.getD (e.stack.length - 2) (0, 0)) (e.stack.getD (e.stack.length - 1) (0, 0)))) := by
  cases i <;> first | rfl | cases h
theorem pget {s : List Pr} {k : Nat} (h : k < s.length) : (s.map pairD)[k]? = some (pairD (s.getD k (0, 0))) := by
  rw [List.getElem?_map, List.getElem?_eq_getElem h]
  simp [List.getD, List.getElem?_eq_getElem h]
theorem pget_ok {s : List Pr} (hs : ∀ p ∈ s, okR p) {k : Nat} (h : k < s.length) : okR (s.getD k (0, 0)) := by
  have : s.getD k (0, 0) = s[k] := by simp [List.getD, List.getElem?_eq_getElem h]
  rw [this]
  exact hs _ (List.getElem_mem h)
theorem pget2 {s : List Pr} (h : 2 ≤ s.length) : getI (s.map pairD) (-2) = some (pairD (s.getD (s.length - 2) (0, 0))) := by
  rw [getI_neg2 (by simpa using h), List.length_map, pget (by omega)]
theorem pget1 {s : List Pr} (h : 1 ≤ s.length) : getI (s.map pairD) (-1) = some (pairD (s.getD (s.length - 1) (0, 0))) := by
  rw [getI_last, List.length_map, pget (by omega)]
theorem told_in {k : Int} {t : List Int} : ((t.map D.int).any fun d => D.eqb d (.int k)) = decide (k ∈ t) := by
  induction t with
  | nil => rfl
  | cons x t ih =>
    rw [List.map_cons, List.any_cons, ih, eqb_int]
    by_cases h : x = k
    · subst h; simp
    · have : ¬ k = x := fun e => h e.symm
      simp [h, this]
theorem told_flat (t : List Int) : (t.map D.int).all D.flat = true := by
  induction t with
  | nil => rfl
  | cons x t ih => rw [List.map_cons, List.all_cons, ih]; rfl
theorem pgrown_t {rest : List Pr} {p : Pr} (h : okR p) (h2 : rest.length ≤ 8) (h3 : rest.length ≠ 8) : optSt (pgrown (rest, some p)) = .tup (rest.map pairD ++ [pairD p]) := by
  have : pgrown (rest, some p) = some (rest ++ [p]) := if_pos ⟨h, by omega⟩
  rw [this]
  show D.tup ((rest ++ [p]).map pairD) = _
  rw [List.map_append]; rfl
theorem pgrown_f {rest : List Pr} {p : Pr} (h : ¬ (okR p ∧ rest.length ≤ 7)) : optSt (pgrown (rest, some p)) = .non := by
  have : pgrown (rest, some p) = none := if_neg h
  rw [this]; rfl
theorem c_range_grown (n : Nat) {i : Ins} {rs : List Pr} {g : Nat} {e : Entry} {p m : Int} (hr : Rgs rs g) (hi : insOk p m g i) (he : EntryOk g e) (hk : i ≠ .stop ∧ (∀ a b, i ≠ .skip a b) ∧ ∀ a, i ≠ .ring a) (st : Cells) :
    Ev (callN T (n + 3) i_range_grown [i.d, rangesD rs, entryD e] st) (kept st (optSt (pgrown (pmade rs e i)))) := by
  refine dcl (f := f_range_grown) rfl rfl ?_
  have hl := he.len
  have hrl := hr.len
  cases i with
  | push v =>
    have e1 : pmade rs e (.push v) = (e.stack, some (v, v)) := rfl
    rw [e1]
    unfold entryD rangesD intsD
    simp! only [Ins.d,f_range_grown,b_range_grown,start,List.replicate,List.append_nil,List.cons_append,List.nil_append,line,Int.reduceSub,Int.reduceAdd,Int.reduceMul,Int.reduceMod,Int.reduceDiv,List.length_map,List.length_append,and_self]
    refine range' n (p := (v, v)) ?_
    by_cases hok : okR (v, v)
    · simp! only [hok,line,Int.reduceSub,Int.reduceAdd,Int.reduceMul,Int.reduceMod,Int.reduceDiv,List.length_map,List.length_append,and_self]
      split
      · rename_i h8; rw [pgrown_f (fun q => by have := q.2; omega)]; rfl
      · rename_i h8; rw [pgrown_t hok hl (by omega)]; exact ⟨by omega, rfl⟩
    · simp! only [hok,line,Int.reduceSub,Int.reduceAdd,Int.reduceMul,Int.reduceMod,Int.reduceDiv,List.length_map,List.length_append,and_self]
      rw [pgrown_f (fun q => hok q.1)]; rfl
  | reading k =>
    have hi : 0 ≤ k ∧ k < g := hi
    have e1 : pmade rs e (.reading k) = (e.stack, if k ∈ e.told then some (rs.getD k.toNat (0, 0)) else none) := rfl
    rw [e1]
    unfold entryD rangesD intsD
    obtain ⟨j, rfl⟩ := Int.eq_ofNat_of_zero_le hi.1
    have hj : j < rs.length := by omega
    simp! only [Ins.d,f_range_grown,b_range_grown,start,List.replicate,List.append_nil,List.cons_append,List.nil_append,line,Int.reduceSub,Int.reduceAdd,Int.reduceMul,Int.reduceMod,Int.reduceDiv,List.length_map,List.length_append,and_self,told_in,told_flat]
    by_cases hm : (j : Int) ∈ e.told
    · simp! only [hm,line,Int.reduceSub,Int.reduceAdd,Int.reduceMul,Int.reduceMod,Int.reduceDiv,List.length_map,List.length_append,and_self,getI_nat,pget hj]
      refine range' n ?_
      rw [Int.toNat_natCast]
      by_cases hok : okR (rs.getD j (0, 0))
      · simp! only [hok,line,Int.reduceSub,Int.reduceAdd,Int.reduceMul,Int.reduceMod,Int.reduceDiv,List.length_map,List.length_append,and_self]
        split
        · rename_i h8; rw [pgrown_f (fun q => by have := q.2; omega)]; rfl
        · rename_i h8; rw [pgrown_t hok hl (by omega)]; exact ⟨by omega, rfl⟩
      · simp! only [hok,line,Int.reduceSub,Int.reduceAdd,Int.reduceMul,Int.reduceMod,Int.reduceDiv,List.length_map,List.length_append,and_self]
        rw [pgrown_f (fun q => hok q.1)]; rfl
    · simp! only [hm,line,Int.reduceSub,Int.reduceAdd,Int.reduceMul,Int.reduceMod,Int.reduceDiv,List.length_map,List.length_append,and_self]
      rfl
  | stop => exact absurd rfl hk.1
  | skip a b => exact absurd rfl (hk.2.1 a b)
  | ring a => exact absurd rfl (hk.2.2 a)
  | times =>
    rw [two_pmade rfl]
    unfold entryD rangesD intsD
    simp! only [Ins.d,f_range_grown,b_range_grown,start,List.replicate,List.append_nil,List.cons_append,List.nil_append,line,Int.reduceSub,Int.reduceAdd,Int.reduceMul,Int.reduceMod,Int.reduceDiv,List.length_map,List.length_append,and_self]
    by_cases h2 : e.stack.length < 2
    · rw [if_pos (by omega), if_pos h2]; rfl
    · rw [if_neg (by omega), if_neg h2]
      have q1 := pget_ok he.ok (k := e.stack.length - 2) (by omega)
      have q2 := pget_ok he.ok (k := e.stack.length - 1) (by omega)
      simp! only [pget2 (by omega : 2 ≤ e.stack.length),pget1 (by omega : 1 ≤ e.stack.length),line,Int.reduceSub,Int.reduceAdd,Int.reduceMul,Int.reduceMod,Int.reduceDiv,List.length_map,List.length_append,and_self]
      refine (c_range_result (n + 1) (i := .times) rfl q1 q2 st rfl).mono fun q hq => ?_
      unfold kept at hq
      subst hq
      simp! only [line,Int.reduceSub,Int.reduceAdd,Int.reduceMul,Int.reduceMod,Int.reduceDiv,List.length_map,List.length_append,and_self]
      refine range' n ?_
      rw [← List.map_take]
      generalize rres .times _ _ = pr
      generalize hre : List.take (e.stack.length - 2) e.stack = rest
      have hrl2 : rest.length ≤ 8 := by rw [← hre, List.length_take]; omega
      simp only [List.length_map]
      by_cases hok : okR pr
      · simp! only [hok,line,Int.reduceSub,Int.reduceAdd,Int.reduceMul,Int.reduceMod,Int.reduceDiv,List.length_map,List.length_append,and_self]
        split
        · rename_i h8; rw [pgrown_f (fun q => by have := q.2; omega)]; rfl
        · rename_i h8; rw [pgrown_t hok hrl2 (by omega)]; exact ⟨by omega, rfl⟩
      · simp! only [hok,line,Int.reduceSub,Int.reduceAdd,Int.reduceMul,Int.reduceMod,Int.reduceDiv,List.length_map,List.length_append,and_self]
        rw [pgrown_f (fun q => hok q.1)]; rfl
  | add =>
    rw [two_pmade rfl]
    unfold entryD rangesD intsD
    simp! only [Ins.d,f_range_grown,b_range_grown,start,List.replicate,List.append_nil,List.cons_append,List.nil_append,line,Int.reduceSub,Int.reduceAdd,Int.reduceMul,Int.reduceMod,Int.reduceDiv,List.length_map,List.length_append,and_self]
    by_cases h2 : e.stack.length < 2
    · rw [if_pos (by omega), if_pos h2]; rfl
    · rw [if_neg (by omega), if_neg h2]
      have q1 := pget_ok he.ok (k := e.stack.length - 2) (by omega)
      have q2 := pget_ok he.ok (k := e.stack.length - 1) (by omega)
      simp! only [pget2 (by omega : 2 ≤ e.stack.length),pget1 (by omega : 1 ≤ e.stack.length),line,Int.reduceSub,Int.reduceAdd,Int.reduceMul,Int.reduceMod,Int.reduceDiv,List.length_map,List.length_append,and_self]
      refine (c_range_result (n + 1) (i := .add) rfl q1 q2 st rfl).mono fun q hq => ?_
      unfold kept at hq
      subst hq
      simp! only [line,Int.reduceSub,Int.reduceAdd,Int.reduceMul,Int.reduceMod,Int.reduceDiv,List.length_map,List.length_append,and_self]
      refine range' n ?_
      rw [← List.map_take]
      generalize rres .add _ _ = pr
      generalize hre : List.take (e.stack.length - 2) e.stack = rest
      have hrl2 : rest.length ≤ 8 := by rw [← hre, List.length_take]; omega
      simp only [List.length_map]
      by_cases hok : okR pr
      · simp! only [hok,line,Int.reduceSub,Int.reduceAdd,Int.reduceMul,Int.reduceMod,Int.reduceDiv,List.length_map,List.length_append,and_self]
        split
        · rename_i h8; rw [pgrown_f (fun q => by have := q.2; omega)]; rfl
        · rename_i h8; rw [pgrown_t hok hrl2 (by omega)]; exact ⟨by omega, rfl⟩
      · simp! only [hok,line,Int.reduceSub,Int.reduceAdd,Int.reduceMul,Int.reduceMod,Int.reduceDiv,List.length_map,List.length_append,and_self]
        rw [pgrown_f (fun q => hok q.1)]; rfl
  | less =>
    rw [two_pmade rfl]
    unfold entryD rangesD intsD
    simp! only [Ins.d,f_range_grown,b_range_grown,start,List.replicate,List.append_nil,List.cons_append,List.nil_append,line,Int.reduceSub,Int.reduceAdd,Int.reduceMul,Int.reduceMod,Int.reduceDiv,List.length_map,List.length_append,and_self]
    by_cases h2 : e.stack.length < 2
    · rw [if_pos (by omega), if_pos h2]; rfl
    · rw [if_neg (by omega), if_neg h2]
      have q1 := pget_ok he.ok (k := e.stack.length - 2) (by omega)
      have q2 := pget_ok he.ok (k := e.stack.length - 1) (by omega)
      simp! only [pget2 (by omega : 2 ≤ e.stack.length),pget1 (by omega : 1 ≤ e.stack.length),line,Int.reduceSub,Int.reduceAdd,Int.reduceMul,Int.reduceMod,Int.reduceDiv,List.length_map,List.length_append,and_self]
      refine (c_range_result (n + 1) (i := .less) rfl q1 q2 st rfl).mono fun q hq => ?_
      unfold kept at hq
      subst hq
      simp! only [line,Int.reduceSub,Int.reduceAdd,Int.reduceMul,Int.reduceMod,Int.reduceDiv,List.length_map,List.length_append,and_self]
      refine range' n ?_
      rw [← List.map_take]
      generalize rres .less _ _ = pr
      generalize hre : List.take (e.stack.length - 2) e.stack = rest
      have hrl2 : rest.length ≤ 8 := by rw [← hre, List.length_take]; omega
      simp only [List.length_map]
      by_cases hok : okR pr
      · simp! only [hok,line,Int.reduceSub,Int.reduceAdd,Int.reduceMul,Int.reduceMod,Int.reduceDiv,List.length_map,List.length_append,and_self]
        split
        · rename_i h8; rw [pgrown_f (fun q => by have := q.2; omega)]; rfl
        · rename_i h8; rw [pgrown_t hok hrl2 (by omega)]; exact ⟨by omega, rfl⟩
      · simp! only [hok,line,Int.reduceSub,Int.reduceAdd,Int.reduceMul,Int.reduceMod,Int.reduceDiv,List.length_map,List.length_append,and_self]
        rw [pgrown_f (fun q => hok q.1)]; rfl
  | least =>
    rw [two_pmade rfl]
    unfold entryD rangesD intsD
    simp! only [Ins.d,f_range_grown,b_range_grown,start,List.replicate,List.append_nil,List.cons_append,List.nil_append,line,Int.reduceSub,Int.reduceAdd,Int.reduceMul,Int.reduceMod,Int.reduceDiv,List.length_map,List.length_append,and_self]
    by_cases h2 : e.stack.length < 2
    · rw [if_pos (by omega), if_pos h2]; rfl
    · rw [if_neg (by omega), if_neg h2]
      have q1 := pget_ok he.ok (k := e.stack.length - 2) (by omega)
      have q2 := pget_ok he.ok (k := e.stack.length - 1) (by omega)
      simp! only [pget2 (by omega : 2 ≤ e.stack.length),pget1 (by omega : 1 ≤ e.stack.length),line,Int.reduceSub,Int.reduceAdd,Int.reduceMul,Int.reduceMod,Int.reduceDiv,List.length_map,List.length_append,and_self]
      refine (c_range_result (n + 1) (i := .least) rfl q1 q2 st rfl).mono fun q hq => ?_
      unfold kept at hq
      subst hq
      simp! only [line,Int.reduceSub,Int.reduceAdd,Int.reduceMul,Int.reduceMod,Int.reduceDiv,List.length_map,List.length_append,and_self]
      refine range' n ?_
      rw [← List.map_take]
      generalize rres .least _ _ = pr
      generalize hre : List.take (e.stack.length - 2) e.stack = rest
      have hrl2 : rest.length ≤ 8 := by rw [← hre, List.length_take]; omega
      simp only [List.length_map]
      by_cases hok : okR pr
      · simp! only [hok,line,Int.reduceSub,Int.reduceAdd,Int.reduceMul,Int.reduceMod,Int.reduceDiv,List.length_map,List.length_append,and_self]
        split
        · rename_i h8; rw [pgrown_f (fun q => by have := q.2; omega)]; rfl
        · rename_i h8; rw [pgrown_t hok hrl2 (by omega)]; exact ⟨by omega, rfl⟩
      · simp! only [hok,line,Int.reduceSub,Int.reduceAdd,Int.reduceMul,Int.reduceMod,Int.reduceDiv,List.length_map,List.length_append,and_self]
        rw [pgrown_f (fun q => hok q.1)]; rfl
end K76
/-! E: outcomes, by the program and by the law. -/
namespace K76
open Sf
theorem asc_len : ∀ {t : List Int} {lo : Int} {g : Nat}, t.Pairwise (· < ·) → (∀ x ∈ t, lo ≤ x ∧ x < lo + g) → t.length ≤ g
  | [], _, _, _, _ => Nat.zero_le _
  | x :: t, lo, g, h, hm => by
    have h1 := (List.pairwise_cons.mp h).1
    have h2 := (List.pairwise_cons.mp h).2
    have hx := hm x List.mem_cons_self
    have := asc_len (lo := x + 1) (g := (lo + g - (x + 1)).toNat) h2 fun y hy => by
      have a := h1 y hy
      have b := hm y (List.mem_cons_of_mem _ hy)
      omega
    simp only [List.length_cons]
    omega
theorem EntryOk.tlen {g : Nat} {e : Entry} (h : EntryOk g e) : e.told.length ≤ g := asc_len (lo := 0) h.asc fun x hx => by have := h.mem x hx; omega
def tellD (t : List Int) (a : Int) : List Int := sortSet (t ++ [a])
theorem intsOf_m (l : List Int) : intsOf (l.map .int) = some l := intsOf_map l
theorem c_with_told (n : Nat) {t : List Int} {a : Int} (ht : t.length ≤ 60) (st : Cells) : Ev (callN T (n + 1) i_with_told [intsD t, .int a] st) (kept st (intsD (tellD t a))) := by
  refine dcl (f := f_with_told) rfl rfl ?_
  unfold intsD
  simp! only [f_with_told,b_with_told,start,List.replicate,List.append_nil,List.cons_append,List.nil_append,line,Int.reduceSub,Int.reduceAdd,Int.reduceMul,Int.reduceMod,Int.reduceDiv,List.length_map,List.length_append,and_self]
  have e : t.map D.int ++ [.int a] = (t ++ [a]).map D.int := by rw [List.map_append]; rfl
  rw [e, intsOf_m, ev_some]
  simp! only [line,Int.reduceSub,Int.reduceAdd,Int.reduceMul,Int.reduceMod,Int.reduceDiv,List.length_map,List.length_append,and_self]
  exact ⟨by omega, by omega, rfl⟩
theorem tell_ok {g : Nat} {e : Entry} (h : EntryOk g e) {a : Int} (ha : 0 ≤ a ∧ a < g) : EntryOk g ⟨e.stack, tellD e.told a⟩ :=
  ⟨h.len, h.ok, sortSet_asc _, fun x hx => by
    rcases List.mem_append.mp ((sortSet_mem _ _).mp hx) with q | q
    · exact h.mem x q
    · rw [List.mem_singleton.mp q]; exact ha⟩
def outs (rs : List Pr) (p : Int) (e : Entry) : Ins → Option (List (Int × Entry))
  | .stop => some []
  | .skip a t => some [(p + 1, ⟨e.stack, tellD e.told a⟩), (t, e)]
  | .ring _ => if e.stack = [] then none else some [(p + 1, ⟨e.stack.take (e.stack.length - 1), e.told⟩)]
  | i => (pgrown (pmade rs e i)).map fun s => [(p + 1, ⟨s, e.told⟩)]
def outD (q : Int × Entry) : D := .tup [.int q.1, entryD q.2]
def outsD : Option (List (Int × Entry)) → D
  | none => .non
  | some l => .lst (l.map outD)
theorem shps_pair {n : Nat} : ∀ s : List Pr, D.shps (n + 1) (s.map pairD) = true
  | [] => rfl
  | p :: s => by
    show (D.shp (n + 1) (pairD p) && D.shps (n + 1) (s.map pairD)) = true
    rw [shps_pair s, Bool.and_true]
    show (D.shp n (.int p.1) && (D.shp n (.int p.2) && true)) = true
    rw [shp_int, shp_int]; rfl
theorem pcmp0 {s : List Pr} {P : Bool → Prop} : Ev (dCmp .eq (.dat (.tup (s.map pairD))) (.dat (.tup []))) P ↔ P (decide (s = [])) := by
  rw [c_eq]
  have e : (D.shp 60 (.tup (s.map pairD)) && D.shp 60 (.tup [])) = true := by
    show (D.shps 59 (s.map pairD) && D.shps 59 []) = true
    rw [shps_pair (n := 58)]; rfl
  simp only [rd_d,e,true_and]
  cases s <;> exact Iff.rfl
theorem outs_other {rs : List Pr} {p : Int} {e : Entry} {i : Ins} (hk : i ≠ .stop ∧ (∀ a b, i ≠ .skip a b) ∧ ∀ a, i ≠ .ring a) : outs rs p e i = (pgrown (pmade rs e i)).map fun s => [(p + 1, ⟨s, e.told⟩)] := by
  cases i <;> first | rfl | exact absurd rfl hk.1 | exact absurd rfl (hk.2.1 _ _) | exact absurd rfl (hk.2.2 _)
theorem c_outcomes (n : Nat) {is : List Ins} {rs : List Pr} {g p : Nat} {e : Entry} {i : Ins} (hr : Rgs rs g) (hp : is[p]? = some i) (hi : insOk p is.length g i) (he : EntryOk g e) (st : Cells) :
    Ev (callN T (n + 4) i_outcomes [progD is, rangesD rs, .int p, entryD e] st) (kept st (outsD (outs rs p e i))) := by
  refine dcl (f := f_outcomes) rfl rfl ?_
  have hpA := prog_at hp
  have hl := he.len
  have htl := he.tlen
  have hg4 := hr.most
  have ee : entryD e = .tup [rangesD e.stack, intsD e.told] := rfl
  rw [ee]
  have er : rangesD e.stack = .tup (e.stack.map pairD) := rfl
  cases i with
  | stop =>
    simp! only [progD,f_outcomes,b_outcomes,start,List.replicate,List.append_nil,List.cons_append,List.nil_append,line,Int.reduceSub,Int.reduceAdd,Int.reduceMul,Int.reduceMod,Int.reduceDiv,List.length_map,List.length_append,and_self,hpA,Ins.d]
    rfl
  | skip a b =>
    simp! only [progD,f_outcomes,b_outcomes,start,List.replicate,List.append_nil,List.cons_append,List.nil_append,line,Int.reduceSub,Int.reduceAdd,Int.reduceMul,Int.reduceMod,Int.reduceDiv,List.length_map,List.length_append,and_self,hpA,Ins.d]
    refine (c_with_told (n + 2) (by omega) st).mono fun q hq => ?_
    unfold kept at hq
    subst hq
    simp! only [line,Int.reduceSub,Int.reduceAdd,Int.reduceMul,Int.reduceMod,Int.reduceDiv,List.length_map,List.length_append,and_self]
    rfl
  | ring u =>
    simp! only [progD,f_outcomes,b_outcomes,start,List.replicate,List.append_nil,List.cons_append,List.nil_append,line,Int.reduceSub,Int.reduceAdd,Int.reduceMul,Int.reduceMod,Int.reduceDiv,List.length_map,List.length_append,and_self,hpA,Ins.d]
    rw [er]
    simp! only [line,Int.reduceSub,Int.reduceAdd,Int.reduceMul,Int.reduceMod,Int.reduceDiv,List.length_map,List.length_append,and_self,pcmp0]
    have eo : outs rs p e (.ring u) = if e.stack = [] then none else some [((p : Int) + 1, ⟨e.stack.take (e.stack.length - 1), e.told⟩)] := rfl
    rw [eo]
    by_cases h0 : e.stack = []
    · simp! only [h0,line,Int.reduceSub,Int.reduceAdd,Int.reduceMul,Int.reduceMod,Int.reduceDiv,List.length_map,List.length_append,and_self]; rfl
    · simp! only [h0,line,Int.reduceSub,Int.reduceAdd,Int.reduceMul,Int.reduceMod,Int.reduceDiv,List.length_map,List.length_append,and_self,← List.map_take]
      rfl
  | _ =>
    simp! only [progD,f_outcomes,b_outcomes,start,List.replicate,List.append_nil,List.cons_append,List.nil_append,line,Int.reduceSub,Int.reduceAdd,Int.reduceMul,Int.reduceMod,Int.reduceDiv,List.length_map,List.length_append,and_self,hpA,Ins.d]
    rw [outs_other ⟨by simp, by simp, by simp⟩]
    have gr := c_range_grown n hr hi he ⟨by simp, by simp, by simp⟩ st
    simp only [Ins.d] at gr
    refine gr.mono fun q hq => ?_
    unfold kept at hq
    subst hq
    generalize pgrown _ = o
    cases o with
    | none => simp! only [optSt,line,Int.reduceSub,Int.reduceAdd,Int.reduceMul,Int.reduceMod,Int.reduceDiv,List.length_map,List.length_append,and_self]; rfl
    | some s => simp! only [optSt,rangesD,line,Int.reduceSub,Int.reduceAdd,Int.reduceMul,Int.reduceMod,Int.reduceDiv,List.length_map,List.length_append,and_self]; rfl
end K76
/-! H: charts. -/
namespace K76
open Sf
theorem pgrown_some {rest : List Pr} {p : Pr} : pgrown (rest, some p) = if okR p ∧ rest.length ≤ 7 then some (rest ++ [p]) else none := rfl
def both (a b : Pr) : Pr := (min a.1 b.1, max a.2 b.2)
def merge (o e : Entry) : Entry := ⟨List.zipWith both o.stack e.stack, o.told.filter fun g => decide (g ∈ e.told)⟩
def optE : Option Entry → D
  | none => .non
  | some e => entryD e
def ptI (a b : List Pr) (st0 : Cells) (i : Nat) (acc : List D) (st : Cells) : Prop := acc = ((List.zipWith both a b).take i).map pairD ∧ st = st0
def ptJ (t u : List Int) (st0 : Cells) (i : Nat) (acc : List D) (st : Cells) : Prop := acc = ((t.take i).filter fun g => decide (g ∈ u)).map D.int ∧ st = st0
theorem c_put_together (n : Nat) {o : Option Entry} {e : Entry} {st : Cells} (hl : ∀ x, o = some x → x.stack.length ≤ 100 ∧ x.told.length ≤ 100) : Ev (callN T (n + 1) i_put_together [optE o, entryD e] st) (kept st (entryD (match o with | none => e | some x => merge x e))) := by
  refine dcl (f := f_put_together) rfl rfl ?_
  cases o with
  | none =>
    simp! only [optE,f_put_together,b_put_together,start,List.replicate,List.append_nil,List.cons_append,List.nil_append,line,Int.reduceSub,Int.reduceAdd,Int.reduceMul,Int.reduceMod,Int.reduceDiv,List.length_map,List.length_append,and_self]
    rfl
  | some x =>
    obtain ⟨hl1, hl2⟩ := hl x rfl
    unfold optE entryD rangesD intsD
    simp! only [f_put_together,b_put_together,start,List.replicate,List.append_nil,List.cons_append,List.nil_append,line,Int.reduceSub,Int.reduceAdd,Int.reduceMul,Int.reduceMod,Int.reduceDiv,List.length_map,List.length_append,and_self]
    refine ll_idx (I := ptI x.stack e.stack st) ⟨rfl, rfl⟩ ?_ ?_
    · rintro acc st' ⟨rfl, rfl⟩
      have e1 : (List.zipWith both x.stack e.stack).take (zipD (x.stack.map pairD) (e.stack.map pairD)).length = List.zipWith both x.stack e.stack := by
        refine List.take_of_length_le ?_
        rw [zipD_len, List.length_map, List.length_map, List.length_zipWith]
        exact Nat.le_refl _
      simp! only [line,Int.reduceSub,Int.reduceAdd,Int.reduceMul,Int.reduceMod,Int.reduceDiv,List.length_map,List.length_append,and_self,e1]
      refine ⟨by rw [zipD_len, List.length_map, List.length_map]; omega, ?_⟩
      refine ll_idx (I := ptJ x.told e.told st') ⟨rfl, rfl⟩ ?_ ?_
      · rintro acc st ⟨rfl, rfl⟩
        simp! only [line,Int.reduceSub,Int.reduceAdd,Int.reduceMul,Int.reduceMod,Int.reduceDiv,List.length_map,List.length_append,and_self,List.take_of_length_le (Nat.le_refl _)]
        exact ⟨by omega, rfl⟩
      · rintro i y acc st hy ⟨rfl, rfl⟩
        rw [List.getElem?_map] at hy
        obtain ⟨k, hk, rfl⟩ := Option.map_eq_some_iff.mp hy
        simp! only [line,Int.reduceSub,Int.reduceAdd,Int.reduceMul,Int.reduceMod,Int.reduceDiv,List.length_map,List.length_append,and_self,told_in,told_flat]
        by_cases h : k ∈ e.told
        · simp! only [h,line,Int.reduceSub,Int.reduceAdd,Int.reduceMul,Int.reduceMod,Int.reduceDiv,List.length_map,List.length_append,and_self]
          refine ⟨?_, rfl⟩
          rw [take_one hk, List.filter_append, List.map_append]
          simp [h]
        · simp! only [h,line,Int.reduceSub,Int.reduceAdd,Int.reduceMul,Int.reduceMod,Int.reduceDiv,List.length_map,List.length_append,and_self]
          refine ⟨?_, rfl⟩
          rw [take_one hk, List.filter_append, List.map_append]
          simp [h]
    · rintro i y acc st' hy ⟨rfl, rfl⟩
      rw [zipD_get, List.getElem?_map, List.getElem?_map] at hy
      cases h1 : x.stack[i]? with
      | none => rw [h1] at hy; cases hy
      | some p =>
        cases h2 : e.stack[i]? with
        | none => rw [h1, h2] at hy; cases hy
        | some q =>
          rw [h1, h2] at hy
          cases hy
          simp! only [pairD,line,Int.reduceSub,Int.reduceAdd,Int.reduceMul,Int.reduceMod,Int.reduceDiv,List.length_map,List.length_append,and_self]
          have hz : (List.zipWith both x.stack e.stack)[i]? = some (both p q) := by
            rw [List.getElem?_zipWith, h1, h2]
          refine ⟨?_, rfl⟩
          rw [take_one hz, List.map_append]
          have m1 : (if q.1 < p.1 then q.1 else p.1) = min p.1 q.1 := by split <;> omega
          have m2 : (if p.2 < q.2 then q.2 else p.2) = max p.2 q.2 := by split <;> omega
          simp [pairD, both, m1, m2]
end K76
/-! I2: the chart, by the program. -/
namespace K76
open Sf
abbrev Chart := List (Option Entry)
def putOne (ch : Chart) (q : Int × Entry) : Option Chart := match (ch[q.1.toNat]?).join with
  | some o => if o.stack.length = q.2.stack.length then some (ch.set q.1.toNat (some (merge o q.2))) else none
  | none => some (ch.set q.1.toNat (some q.2))
def putAll : Chart → List (Int × Entry) → Option Chart
  | ch, [] => some ch
  | ch, q :: r => (putOne ch q).bind fun c => putAll c r
def chartLoop (is : List Ins) (rs : List Pr) : Nat → Nat → Chart → Option Chart
  | 0, _, ch => some ch
  | k + 1, p, ch => match (ch[p]?).join with
    | none => chartLoop is rs k (p + 1) ch
    | some e => match is[p]? with
      | none => none
      | some i => ((outs rs p e i).bind (putAll ch)).bind fun c => chartLoop is rs k (p + 1) c
def resD : Option Chart → D
  | none => .non
  | some ch => .tup (ch.map optE)
structure ChOk (m g : Nat) (ch : Chart) : Prop where
  len : ch.length = m
  ok : ∀ e, some e ∈ ch → EntryOk g e
theorem asc_filter {t : List Int} (h : t.Pairwise (· < ·)) (f : Int → Bool) : (t.filter f).Pairwise (· < ·) := h.filter f
theorem both_ok {a b : Pr} (ha : okR a) (hb : okR b) : okR (both a b) := by
  unfold okR both word at *
  simp only
  omega
theorem merge_ok {g : Nat} {o e : Entry} (ho : EntryOk g o) (he : EntryOk g e) : EntryOk g (merge o e) where
  len := by
    have := ho.len
    show (List.zipWith both o.stack e.stack).length ≤ 8
    rw [List.length_zipWith]; omega
  ok := fun p hp => by
    have hp : p ∈ List.zipWith both o.stack e.stack := hp
    obtain ⟨i, hi⟩ := List.getElem?_of_mem hp
    rw [List.getElem?_zipWith] at hi
    cases h1 : o.stack[i]? with
    | none => rw [h1] at hi; cases hi
    | some a =>
      cases h2 : e.stack[i]? with
      | none => rw [h1, h2] at hi; cases hi
      | some b =>
        rw [h1, h2] at hi
        cases hi
        exact both_ok (ho.ok a (List.mem_of_getElem? h1)) (he.ok b (List.mem_of_getElem? h2))
  asc := asc_filter ho.asc _
  mem := fun x hx => ho.mem x (List.mem_filter.mp hx).1
theorem ChOk.get {m g : Nat} {ch : Chart} (h : ChOk m g ch) {k : Nat} {e : Entry} (he : (ch[k]?).join = some e) : EntryOk g e := by
  cases hk : ch[k]? with
  | none => rw [hk] at he; cases he
  | some o =>
    rw [hk] at he
    have he : o = some e := he
    subst he
    exact h.ok e (List.mem_of_getElem? hk)
theorem ChOk.set {m g : Nat} {ch : Chart} (h : ChOk m g ch) {k : Nat} {e : Entry} (he : EntryOk g e) : ChOk m g (ch.set k (some e)) where
  len := by rw [List.length_set]; exact h.len
  ok := fun x hx => by
    rcases List.mem_or_eq_of_mem_set hx with q | q
    · exact h.ok x q
    · cases q; exact he
theorem putOne_ok {m g : Nat} {ch c : Chart} {q : Int × Entry} (h : ChOk m g ch) (hq : EntryOk g q.2) (e : putOne ch q = some c) : ChOk m g c := by
  unfold putOne at e
  split at e
  · rename_i o ho
    split at e
    · cases e; exact h.set (merge_ok (h.get ho) hq)
    · cases e
  · cases e; exact h.set hq
end K76
/-! J: what an entry leads to is right. -/
namespace K76
open Sf
theorem pgrown_cases (r : List Pr × Option Pr) : pgrown r = none ∨ ∃ p, r.2 = some p ∧ okR p ∧ r.1.length ≤ 7 ∧ pgrown r = some (r.1 ++ [p]) := by
  obtain ⟨rest, o⟩ := r
  cases o with
  | none => exact .inl rfl
  | some p =>
    rw [pgrown_some]
    by_cases h : okR p ∧ rest.length ≤ 7
    · rw [if_pos h]; exact .inr ⟨p, rfl, h.1, h.2, rfl⟩
    · rw [if_neg h]; exact .inl rfl
theorem pmade_rest {rs : List Pr} {e : Entry} (i : Ins) : ∀ p ∈ (pmade rs e i).1, p ∈ e.stack := by
  have two_ : ∀ x : Option Pr, ∀ p ∈ (if e.stack.length < 2 then (e.stack, none) else (e.stack.take (e.stack.length - 2), x)).1, p ∈ e.stack := by
    intro x p hp
    split at hp
    · exact hp
    · exact List.mem_of_mem_take hp
  cases i with
  | push v => exact fun p h => h
  | reading k => exact fun p h => h
  | _ => exact two_ _
theorem last_one {is : List Ins} {g p : Nat} {i : Ins} (hg : Good is g) (hp : is[p]? = some i) (hns : i ≠ .stop) : p + 1 < is.length := by
  have hl : p < is.length := (List.getElem?_eq_some_iff.mp hp).1
  have : p ≠ is.length - 1 := fun e => by
    have q := hg.last
    rw [← e, hp] at q
    exact hns (Option.some.inj q)
  omega
def OutOk (m g p : Nat) (q : Int × Entry) : Prop := (∃ t : Nat, q.1 = t ∧ p < t ∧ t < m) ∧ EntryOk g q.2
theorem outs_ok {is : List Ins} {rs : List Pr} {g p : Nat} {e : Entry} {i : Ins} {l : List (Int × Entry)} (hg : Good is g) (hp : is[p]? = some i) (he : EntryOk g e) (h : outs rs p e i = some l) : ∀ q ∈ l, OutOk is.length g p q := by
  cases i with
  | stop => cases h; exact fun q hq => nomatch hq
  | skip a u =>
    have hok : (0 ≤ a ∧ a < g) ∧ (p : Int) < u ∧ u < is.length := hg.ok p _ hp
    have h1 := last_one hg hp (by simp)
    cases h
    intro q hq
    simp only [List.mem_cons,List.not_mem_nil,or_false] at hq
    rcases hq with rfl | rfl
    · exact ⟨⟨p + 1, rfl, by omega, h1⟩, tell_ok he hok.1⟩
    · exact ⟨⟨u.toNat, by simp only; omega, by omega, by omega⟩, he⟩
  | ring u =>
    have h1 := last_one hg hp (by simp)
    have eo : outs rs p e (.ring u) = if e.stack = [] then none else some [((p : Int) + 1, ⟨e.stack.take (e.stack.length - 1), e.told⟩)] := rfl
    rw [eo] at h
    split at h
    · cases h
    · cases h
      intro q hq
      rw [List.mem_singleton.mp hq]
      exact ⟨⟨p + 1, rfl, by omega, h1⟩, ⟨by have := he.len; simp only [List.length_take]; omega, fun x hx => he.ok x (List.mem_of_mem_take hx), he.asc, he.mem⟩⟩
  | _ =>
    have h1 := last_one hg hp (by simp)
    rw [outs_other ⟨by simp, by simp, by simp⟩] at h
    rcases pgrown_cases (pmade rs e _) with c | ⟨x, _, hx, h7, c⟩
    · rw [c] at h; cases h
    · rw [c] at h
      cases h
      intro q hq
      rw [List.mem_singleton.mp hq]
      refine ⟨⟨p + 1, rfl, by omega, h1⟩, ⟨by simp only [List.length_append,List.length_singleton]; omega, fun y hy => ?_, he.asc, he.mem⟩⟩
      rcases List.mem_append.mp hy with hy | hy
      · exact he.ok y (pmade_rest _ y hy)
      · rw [List.mem_singleton.mp hy]; exact hx
theorem putAll_ok {m g : Nat} : ∀ {l : List (Int × Entry)} {ch c : Chart}, ChOk m g ch → (∀ q ∈ l, EntryOk g q.2) → putAll ch l = some c → ChOk m g c
  | [], ch, c, h, _, e => by cases e; exact h
  | q :: r, ch, c, h, hq, e => by
    have e : (putOne ch q).bind (fun c => putAll c r) = some c := e
    cases h1 : putOne ch q with
    | none => rw [h1] at e; cases e
    | some c1 =>
      rw [h1] at e
      exact putAll_ok (putOne_ok h (hq q List.mem_cons_self) h1) (fun x hx => hq x (List.mem_cons_of_mem _ hx)) e
theorem loop_ok {is : List Ins} {rs : List Pr} {g : Nat} (hg : Good is g) : ∀ {k p : Nat} {ch c : Chart}, ChOk is.length g ch → chartLoop is rs k p ch = some c → ChOk is.length g c
  | 0, p, ch, c, h, e => by cases e; exact h
  | k + 1, p, ch, c, h, e => by
    rw [chartLoop] at e
    cases h1 : (ch[p]?).join with
    | none => rw [h1] at e; exact loop_ok hg h e
    | some en =>
      rw [h1] at e
      simp only at e
      cases h2 : is[p]? with
      | none => rw [h2] at e; cases e
      | some i =>
        rw [h2] at e
        simp only at e
        have he := h.get h1
        cases h3 : outs rs p en i with
        | none => rw [h3] at e; cases e
        | some l =>
          rw [h3] at e
          simp only [Option.bind_some] at e
          cases h4 : putAll ch l with
          | none => rw [h4] at e; cases e
          | some c1 =>
            rw [h4] at e
            exact loop_ok hg (putAll_ok h (fun q hq => (outs_ok hg h2 he h3 q hq).2) h4) e
end K76
/-! L2: chart_of. -/
namespace K76
open Sf
def ch0 (m : Nat) : Chart := some ⟨[], []⟩ :: List.replicate (m - 1) none
def chartR (is : List Ins) (rs : List Pr) : Option Chart := chartLoop is rs is.length 0 (ch0 is.length)
theorem entry0 (g : Nat) : EntryOk g ⟨[], []⟩ where
  len := Nat.zero_le _
  ok := fun p h => absurd h List.not_mem_nil
  asc := List.Pairwise.nil
  mem := fun p h => absurd h List.not_mem_nil
theorem ch0_ok {m g : Nat} (h : 1 ≤ m) : ChOk m g (ch0 m) where
  len := by unfold ch0; simp; omega
  ok := fun e he => by
    rcases List.mem_cons.mp he with q | q
    · cases q; exact entry0 g
    · cases List.eq_of_mem_replicate q
def coI (is : List Ins) (rs : List Pr) (g : Nat) (R : Option Chart) (st0 : Cells) (i : Nat) (ρ : Env) (st : Cells) : Prop :=
  ∃ (ch : Chart) (s3 s4 s5 s6 : Slot), ρ = [.dat (progD is), .dat (rangesD rs), .own (ch.map optE), s3, s4, s5, s6] ∧ ChOk is.length g ch ∧ chartLoop is rs (is.length - i) i ch = R ∧ st = st0
def coJ (is : List Ins) (rs : List Pr) (g : Nat) (R : Option Chart) (l : List (Int × Entry)) (p : Nat) (st0 : Cells) (i : Nat) (ρ : Env) (st : Cells) : Prop :=
  ∃ (ch : Chart) (s3 s4 s5 s6 : Slot), ρ = [.dat (progD is), .dat (rangesD rs), .own (ch.map optE), s3, s4, s5, s6] ∧ ChOk is.length g ch ∧ ((putAll ch (l.drop i)).bind fun c => chartLoop is rs (is.length - (p + 1)) (p + 1) c) = R ∧ st = st0
theorem chGet {ch : Chart} {j : Nat} (h : j < ch.length) : (ch.map optE)[j]? = some (optE (ch[j]?).join) := by
  rw [List.getElem?_map, List.getElem?_eq_getElem h]; rfl
theorem drop_one {α : Type} {l : List α} {i : Nat} {x : α} (h : l[i]? = some x) : l.drop i = x :: l.drop (i + 1) := by
  obtain ⟨h1, h2⟩ := List.getElem?_eq_some_iff.mp h
  rw [List.drop_eq_getElem_cons h1, h2]
theorem c_chart_of (n : Nat) {is : List Ins} {rs : List Pr} {g : Nat} (hg : Good is g) (hr : Rgs rs g) (st : Cells) {R : Option Chart} (hR : chartR is rs = R) : Ev (callN T (n + 5) i_chart_of [progD is, rangesD rs] st) (kept st (resD R)) := by
  have h1 := hg.one
  have h2 := hg.most
  refine dcl (f := f_chart_of) rfl rfl ?_
  simp! only [progD,f_chart_of,b_chart_of,start,List.replicate,List.append_nil,List.cons_append,List.nil_append,line,Int.reduceSub,Int.reduceAdd,Int.reduceMul,Int.reduceMod,Int.reduceDiv,List.length_map,List.length_append,and_self]
  rw [rep1, Int.toNat_natCast]
  refine ⟨⟨by omega, by omega, by omega⟩, ?_⟩
  rw [List.length_replicate, show (0 : Int) = ((0 : Nat) : Int) from rfl, ixOf_nat (by omega), ev_some]
  refine ⟨by omega, ?_⟩
  have e0 : (List.replicate is.length D.non).set 0 (D.tup [D.tup [], D.tup []]) = (ch0 is.length).map optE := by
    obtain ⟨m, hm⟩ : ∃ m, is.length = m + 1 := ⟨is.length - 1, by omega⟩
    rw [hm]
    simp [ch0, List.replicate_succ, optE, entryD, rangesD, intsD]
  rw [e0]
  refine fl_idx (I := coI is rs g R st) ⟨ch0 is.length, _, _, _, _, rfl, ch0_ok h1, hR, rfl⟩ ?_ ?_
  · rintro ρ st' ⟨ch, s3, s4, s5, s6, rfl, hc, hl, rfl⟩
    rw [rngD_len, Nat.sub_self] at hl
    have hl : some ch = R := hl
    subst hl
    simp! only [line,Int.reduceSub,Int.reduceAdd,Int.reduceMul,Int.reduceMod,Int.reduceDiv,List.length_map,List.length_append,and_self]
    have := hc.len
    rfl
  · rintro i x ρ st' hx ⟨ch, s3, s4, s5, s6, rfl, hc, hl, rfl⟩
    obtain ⟨hi, rfl⟩ : i < is.length ∧ x = .int (i : Int) := by
      rw [rngD_get] at hx
      split at hx
      · rename_i q
        exact ⟨by simpa using q, by simpa using hx.symm⟩
      · cases hx
    have hcl := hc.len
    rw [show is.length - i = (is.length - (i + 1)) + 1 by omega, chartLoop] at hl
    have hgt : ∀ {j : Nat}, j < is.length → (ch.map optE)[j]? = some (optE (ch[j]?).join) := fun h => chGet (by omega)
    simp! only [line,Int.reduceSub,Int.reduceAdd,Int.reduceMul,Int.reduceMod,Int.reduceDiv,List.length_map,List.length_append,and_self,getI_nat,hgt hi]
    cases h3 : (ch[i]?).join with
    | none =>
      rw [h3] at hl
      simp only at hl
      simp! only [optE,line,Int.reduceSub,Int.reduceAdd,Int.reduceMul,Int.reduceMod,Int.reduceDiv,List.length_map,List.length_append,and_self]
      exact ⟨ch, _, _, _, _, rfl, hc, hl, rfl⟩
    | some e =>
      rw [h3] at hl
      have hp : is[i]? = some is[i] := List.getElem?_eq_getElem hi
      generalize is[i] = ins at hp
      rw [hp] at hl
      simp only at hl
      have he := hc.get h3
      have os : optE (some e) = .tup [rangesD e.stack, intsD e.told] := rfl
      have hco := c_outcomes n hr hp (hg.ok i ins hp) he st'
      have ee : entryD e = .tup [rangesD e.stack, intsD e.told] := rfl
      simp only [progD] at hco
      rw [ee] at hco
      rw [os]
      simp! only [line,Int.reduceSub,Int.reduceAdd,Int.reduceMul,Int.reduceMod,Int.reduceDiv,List.length_map,List.length_append,and_self,getI_nat,hgt hi,h3,os]
      refine hco.mono fun q hq => ?_
      unfold kept at hq
      subst hq
      cases ho : outs rs i e ins with
      | none =>
        rw [ho] at hl
        have hl : none = R := hl
        subst hl
        simp! only [outsD,line,Int.reduceSub,Int.reduceAdd,Int.reduceMul,Int.reduceMod,Int.reduceDiv,List.length_map,List.length_append,and_self]
        rfl
      | some l =>
        rw [ho] at hl
        simp only [Option.bind_some] at hl
        simp! only [outsD,line,Int.reduceSub,Int.reduceAdd,Int.reduceMul,Int.reduceMod,Int.reduceDiv,List.length_map,List.length_append,and_self]
        have hlo := outs_ok hg hp he ho
        refine fl_idx (I := coJ is rs g R l i st') ⟨ch, _, _, _, _, rfl, hc, hl, rfl⟩ ?_ ?_
        · rintro ρ st ⟨ch, s3, s4, s5, s6, rfl, hc, hl, rfl⟩
          rw [List.drop_eq_nil_of_le (by simp)] at hl
          simp! only [line,Int.reduceSub,Int.reduceAdd,Int.reduceMul,Int.reduceMod,Int.reduceDiv,List.length_map,List.length_append,and_self]
          exact ⟨ch, _, _, _, _, rfl, hc, hl, rfl⟩
        · rintro j y ρ st hy ⟨ch, s3, s4, s5, s6, rfl, hc, hl, rfl⟩
          rw [List.getElem?_map] at hy
          obtain ⟨⟨t, en⟩, hk, rfl⟩ := Option.map_eq_some_iff.mp hy
          obtain ⟨⟨tn, rfl, htp, htl⟩, hen⟩ : OutOk is.length g i (t, en) := hlo _ (List.mem_of_getElem? hk)
          rw [drop_one hk] at hl
          have hcl := hc.len
          have hgt : ∀ {j : Nat}, j < is.length → (ch.map optE)[j]? = some (optE (ch[j]?).join) := fun h => chGet (by omega)
          have een : entryD en = .tup [rangesD en.stack, intsD en.told] := rfl
          have hbnd : ∀ x, (ch[tn]?).join = some x → x.stack.length ≤ 100 ∧ x.told.length ≤ 100 := fun x hx => by
            have := hc.get hx
            have h1 := this.len
            have h2 := this.tlen
            have h3 := hr.most
            exact ⟨by omega, by omega⟩
          have hls : (ch.map optE).length = is.length := by rw [List.length_map]; exact hcl
          have hj1 : ixOf ch.length (tn : Int) = some tn := by rw [hcl]; exact ixOf_nat htl
          rw [show outD ((tn : Int), en) = .tup [.int tn, entryD en] from rfl]
          simp! only [line,Int.reduceSub,Int.reduceAdd,Int.reduceMul,Int.reduceMod,Int.reduceDiv,List.length_map,List.length_append,and_self,getI_nat,hgt htl]
          have hpl : ∀ x, (ch[tn]?).join = x → (putAll ch ((↑tn, en) :: l.drop (j + 1))) = (putOne ch (↑tn, en)).bind fun c => putAll c (l.drop (j + 1)) := fun _ _ => rfl
          rw [hpl _ rfl] at hl
          unfold putOne at hl
          simp only [Int.toNat_natCast] at hl
          cases ho2 : (ch[tn]?).join with
          | none =>
            have hput : Ev (callN T (n + 3 + 1) i_put_together [optE none, entryD en] st) (kept st (entryD en)) := c_put_together (n + 3) (o := none) (e := en) (st := st) fun x hx => by cases hx
            rw [ho2] at hl
            have hl : ((putAll (ch.set tn (some en)) (l.drop (j + 1))).bind fun c => chartLoop is rs (is.length - (i + 1)) (i + 1) c) = R := hl
            simp! only [optE,line,Int.reduceSub,Int.reduceAdd,Int.reduceMul,Int.reduceMod,Int.reduceDiv,List.length_map,List.length_append,and_self,getI_nat,hgt htl,ho2]
            refine hput.mono fun q hq => ?_
            unfold kept at hq
            subst hq
            simp! only [line,Int.reduceSub,Int.reduceAdd,Int.reduceMul,Int.reduceMod,Int.reduceDiv,List.length_map,List.length_append,and_self,hj1]
            have hs : (ch.map optE).set tn (entryD en) = (ch.set tn (some en)).map optE := by rw [List.map_set]; rfl
            rw [hs]
            exact ⟨_, _, _, _, _, rfl, hc.set hen, hl, rfl⟩
          | some o =>
            have hput : Ev (callN T (n + 3 + 1) i_put_together [optE (some o), entryD en] st) (kept st (entryD (merge o en))) := c_put_together (n + 3) (o := some o) (e := en) (st := st) fun x hx => by cases hx; exact hbnd _ ho2
            rw [ho2] at hl
            have hl : (((if o.stack.length = en.stack.length then some (ch.set tn (some (merge o en))) else none).bind fun c => putAll c (l.drop (j + 1))).bind fun c => chartLoop is rs (is.length - (i + 1)) (i + 1) c) = R := hl
            have os2 : optE (some o) = .tup [.tup (o.stack.map pairD), intsD o.told] := rfl
            have en2 : entryD en = .tup [.tup (en.stack.map pairD), intsD en.told] := rfl
            rw [os2, en2] at hput ⊢
            simp! only [line,Int.reduceSub,Int.reduceAdd,Int.reduceMul,Int.reduceMod,Int.reduceDiv,List.length_map,List.length_append,and_self]
            by_cases hle : o.stack.length = en.stack.length
            · rw [if_pos hle] at hl
              have hl : ((putAll (ch.set tn (some (merge o en))) (l.drop (j + 1))).bind fun c => chartLoop is rs (is.length - (i + 1)) (i + 1) c) = R := hl
              simp! only [hle,line,Int.reduceSub,Int.reduceAdd,Int.reduceMul,Int.reduceMod,Int.reduceDiv,List.length_map,List.length_append,and_self,getI_nat,hgt htl,ho2,os2]
              refine hput.mono fun q hq => ?_
              unfold kept at hq
              subst hq
              simp! only [line,Int.reduceSub,Int.reduceAdd,Int.reduceMul,Int.reduceMod,Int.reduceDiv,List.length_map,List.length_append,and_self,hj1]
              have hs : (ch.map optE).set tn (entryD (merge o en)) = (ch.set tn (some (merge o en))).map optE := by rw [List.map_set]; rfl
              rw [hs]
              exact ⟨_, _, _, _, _, rfl, hc.set (merge_ok (hc.get ho2) hen), hl, rfl⟩
            · rw [if_neg hle] at hl
              have hl : none = R := hl
              subst hl
              have hle' : ¬ ((o.stack.length : Int) = en.stack.length) := by omega
              simp! only [hle',line,Int.reduceSub,Int.reduceAdd,Int.reduceMul,Int.reduceMod,Int.reduceDiv,List.length_map,List.length_append,and_self]
              rfl
end K76
/-! P2: a chart that is right; the chart of a program is right. -/
namespace K76
open Sf
def covE (w e : Entry) : Prop := w.stack.length = e.stack.length ∧ (∀ (k : Nat) p q, w.stack[k]? = some p → e.stack[k]? = some q → p.1 ≤ q.1 ∧ q.2 ≤ p.2) ∧ ∀ x ∈ w.told, x ∈ e.told
def cov (w : Option Entry) (e : Entry) : Prop := ∃ x, w = some x ∧ covE x e
def rightP (is : List Ins) (rs : List Pr) (g : Nat) (ch : Chart) : Prop :=
  ch.length = is.length ∧ cov (ch[0]?).join ⟨[], []⟩ ∧ ∀ (p : Nat) e i, (ch[p]?).join = some e → is[p]? = some i → EntryOk g e ∧ ∃ l, outs rs p e i = some l ∧ ∀ q ∈ l, cov (ch[q.1.toNat]?).join q.2
theorem covE_refl (e : Entry) : covE e e := ⟨rfl, fun k p q h1 h2 => by rw [h1] at h2; cases h2; exact ⟨Int.le_refl _, Int.le_refl _⟩, fun x h => h⟩
theorem zw_get {a b : List Pr} {k : Nat} {p q : Pr} (h1 : a[k]? = some p) (h2 : b[k]? = some q) : (List.zipWith both a b)[k]? = some (both p q) := by
  rw [List.getElem?_zipWith, h1, h2]
theorem covE_merge1 {o e x : Entry} (hl : o.stack.length = e.stack.length) (h : covE o x) : covE (merge o e) x := by
  obtain ⟨h1, h2, h3⟩ := h
  refine ⟨by show (List.zipWith both o.stack e.stack).length = _; rw [List.length_zipWith]; omega, fun k p q hp hq => ?_, fun y hy => h3 y (List.mem_filter.mp hy).1⟩
  have hp : (List.zipWith both o.stack e.stack)[k]? = some p := hp
  have hk : k < x.stack.length := (List.getElem?_eq_some_iff.mp hq).1
  have ho : o.stack[k]? = some o.stack[k] := List.getElem?_eq_getElem (by omega)
  have he : e.stack[k]? = some e.stack[k] := List.getElem?_eq_getElem (by omega)
  rw [zw_get ho he] at hp
  cases hp
  have := h2 k _ q ho hq
  unfold both
  simp only
  omega
theorem covE_merge2 {o e : Entry} (hl : o.stack.length = e.stack.length) : covE (merge o e) e := by
  refine ⟨by show (List.zipWith both o.stack e.stack).length = _; rw [List.length_zipWith]; omega, fun k p q hp hq => ?_, fun y hy => of_decide_eq_true (List.mem_filter.mp hy).2⟩
  have hp : (List.zipWith both o.stack e.stack)[k]? = some p := hp
  have hk : k < e.stack.length := (List.getElem?_eq_some_iff.mp hq).1
  have ho : o.stack[k]? = some o.stack[k] := List.getElem?_eq_getElem (by omega)
  rw [zw_get ho hq] at hp
  cases hp
  unfold both
  simp only
  omega
/-- c allows what ch allows, and is the same up to the place p -/
structure Wider (p : Nat) (ch c : Chart) : Prop where
  len : c.length = ch.length
  same : ∀ k, k ≤ p → c[k]? = ch[k]?
  cov : ∀ (k : Nat) x, cov (ch[k]?).join x → cov (c[k]?).join x
theorem Wider.refl {p : Nat} {ch : Chart} : Wider p ch ch := ⟨rfl, fun _ _ => rfl, fun _ _ h => h⟩
theorem Wider.trans {p p' : Nat} {a b c : Chart} (h : Wider p a b) (h' : Wider p' b c) (hp : p ≤ p') : Wider p a c :=
  ⟨h'.len.trans h.len, fun k hk => (h'.same k (by omega)).trans (h.same k hk), fun k x hx => h'.cov k x (h.cov k x hx)⟩
theorem set_get {ch : Chart} {k j : Nat} {e : Entry} : ((ch.set k (some e))[j]?).join = if k = j ∧ j < ch.length then some e else (ch[j]?).join := by
  rw [List.getElem?_set]
  by_cases h : k = j
  · subst h
    by_cases h2 : k < ch.length
    · simp [h2]
    · simp [h2]
  · simp [h]
theorem putOne_right {p m : Nat} {ch c : Chart} {q : Int × Entry} (hq : ∃ t : Nat, q.1 = t ∧ p < t ∧ t < m) (hl : ch.length = m) (e : putOne ch q = some c) : Wider p ch c ∧ cov (c[q.1.toNat]?).join q.2 := by
  obtain ⟨t, ht, hp, hm⟩ := hq
  unfold putOne at e
  rw [ht] at e ⊢
  rw [Int.toNat_natCast] at e ⊢
  split at e
  · rename_i o ho
    split at e
    · rename_i hle
      cases e
      refine ⟨⟨List.length_set, fun k hk => List.getElem?_set_ne (by omega), fun k x hx => ?_⟩, ?_⟩
      · rw [set_get]
        split
        · rename_i hk
          rw [← hk.1, ho] at hx
          obtain ⟨y, hy, hx⟩ := hx
          cases hy
          exact ⟨_, rfl, covE_merge1 hle hx⟩
        · exact hx
      · rw [set_get, if_pos ⟨rfl, by omega⟩]
        exact ⟨_, rfl, covE_merge2 hle⟩
    · cases e
  · rename_i ho
    cases e
    refine ⟨⟨List.length_set, fun k hk => List.getElem?_set_ne (by omega), fun k x hx => ?_⟩, ?_⟩
    · rw [set_get]
      split
      · rename_i hk
        rw [← hk.1, ho] at hx
        obtain ⟨y, hy, hx⟩ := hx
        cases hy
      · exact hx
    · rw [set_get, if_pos ⟨rfl, by omega⟩]
      exact ⟨_, rfl, covE_refl _⟩
theorem putAll_right {p m : Nat} : ∀ {l : List (Int × Entry)} {ch c : Chart}, (∀ q ∈ l, ∃ t : Nat, q.1 = t ∧ p < t ∧ t < m) → ch.length = m → putAll ch l = some c → Wider p ch c ∧ ∀ q ∈ l, cov (c[q.1.toNat]?).join q.2
  | [], ch, c, _, _, e => by cases e; exact ⟨Wider.refl, fun q h => absurd h List.not_mem_nil⟩
  | q :: r, ch, c, hq, hl, e => by
    have e : (putOne ch q).bind (fun c => putAll c r) = some c := e
    cases h1 : putOne ch q with
    | none => rw [h1] at e; cases e
    | some c1 =>
      rw [h1] at e
      obtain ⟨w1, k1⟩ := putOne_right (hq q List.mem_cons_self) hl h1
      obtain ⟨w2, k2⟩ := putAll_right (fun x hx => hq x (List.mem_cons_of_mem _ hx)) (w1.len.trans hl) e
      refine ⟨w1.trans w2 (Nat.le_refl _), fun x hx => ?_⟩
      rcases List.mem_cons.mp hx with rfl | hx
      · exact w2.cov _ _ k1
      · exact k2 x hx
theorem loop_right {is : List Ins} {rs : List Pr} {g : Nat} (hg : Good is g) : ∀ {k p : Nat} {ch c : Chart}, p + k = is.length → ChOk is.length g ch → chartLoop is rs k p ch = some c →
    Wider p ch c ∧ ∀ (j : Nat) e i, p ≤ j → (c[j]?).join = some e → is[j]? = some i → ∃ l, outs rs j e i = some l ∧ ∀ q ∈ l, cov (c[q.1.toNat]?).join q.2
  | 0, p, ch, c, hp, _, e => by
    cases e
    refine ⟨Wider.refl, fun j e i hj _ hi => ?_⟩
    have := (List.getElem?_eq_some_iff.mp hi).1
    omega
  | k + 1, p, ch, c, hp, h, e => by
    rw [chartLoop] at e
    cases h1 : (ch[p]?).join with
    | none =>
      rw [h1] at e
      obtain ⟨w, r⟩ := loop_right hg (by omega) h e
      refine ⟨⟨w.len, fun k hk => w.same k (by omega), w.cov⟩, fun j en i hj hc hi => ?_⟩
      by_cases hjp : j = p
      · subst hjp
        rw [w.same j (by omega), h1] at hc
        cases hc
      · exact r j en i (by omega) hc hi
    | some en =>
      rw [h1] at e
      simp only at e
      cases h2 : is[p]? with
      | none => rw [h2] at e; cases e
      | some i =>
        rw [h2] at e
        simp only at e
        have he := h.get h1
        cases h3 : outs rs p en i with
        | none => rw [h3] at e; cases e
        | some l =>
          rw [h3] at e
          simp only [Option.bind_some] at e
          cases h4 : putAll ch l with
          | none => rw [h4] at e; cases e
          | some c1 =>
            rw [h4] at e
            have ho := outs_ok hg h2 he h3
            obtain ⟨w1, k1⟩ := putAll_right (fun q hq => (ho q hq).1) h.len h4
            obtain ⟨w2, k2⟩ := loop_right hg (by omega) (putAll_ok h (fun q hq => (ho q hq).2) h4) e
            refine ⟨w1.trans w2 (by omega), fun j en' i' hj hc hi => ?_⟩
            by_cases hjp : j = p
            · subst hjp
              rw [w2.same j (by omega), w1.same j (Nat.le_refl _), h1] at hc
              cases hc
              rw [h2] at hi
              cases hi
              exact ⟨l, h3, fun q hq => w2.cov _ _ (k1 q hq)⟩
            · exact k2 j en' i' (by omega) hc hi
theorem chart_right {is : List Ins} {rs : List Pr} {g : Nat} {ch : Chart} (hg : Good is g) (h : chartR is rs = some ch) : rightP is rs g ch ∧ ChOk is.length g ch := by
  have h0 := ch0_ok (g := g) hg.one
  have hc := loop_ok hg h0 h
  obtain ⟨w, r⟩ := loop_right hg (by omega) h0 h
  refine ⟨⟨hc.len, w.cov 0 _ ⟨_, rfl, covE_refl _⟩, fun p e i he hi => ⟨hc.get he, r p e i (Nat.zero_le _) he hi⟩⟩, hc⟩
end K76
/-! S: one entry allows what another allows, by the program and by the law. -/
namespace K76
open Sf
/-- a truth is told -/
def tells (st : Cells) (p : Prop) (q : D × Cells) : Prop := ∃ b : Bool, q = (.bl b, st) ∧ (b = true ↔ p)
theorem tells_t {st : Cells} {p : Prop} (h : p) : tells st p (.bl true, st) := ⟨true, rfl, ⟨fun _ => h, fun _ => rfl⟩⟩
theorem tells_f {st : Cells} {p : Prop} (h : ¬ p) : tells st p (.bl false, st) := ⟨false, rfl, ⟨fun e => (nomatch e), fun e => absurd e h⟩⟩
/-- not long -/
def Raw (e : Entry) : Prop := e.stack.length ≤ 100 ∧ e.told.length ≤ 100
def within (w e : List Pr) (i : Nat) : Prop := ∀ (k : Nat) p q, k < i → w[k]? = some p → e[k]? = some q → p.1 ≤ q.1 ∧ q.2 ≤ p.2
theorem within_one {w e : List Pr} {i : Nat} {p q : Pr} (h : within w e i) (h1 : w[i]? = some p) (h2 : e[i]? = some q) (h3 : p.1 ≤ q.1 ∧ q.2 ≤ p.2) : within w e (i + 1) := fun k p' q' hk a b => by
  by_cases e : k = i
  · subst e
    rw [h1] at a; rw [h2] at b
    cases a; cases b; exact h3
  · exact h k p' q' (by omega) a b
/-- what is told too much -/
def lackI (t u : List Int) (st0 : Cells) (i : Nat) (acc : List D) (st : Cells) : Prop := (acc = [] ↔ ∀ x ∈ t.take i, x ∈ u) ∧ acc.length ≤ i ∧ st = st0
theorem lack_in {t u : List Int} {i : Nat} {acc : List D} {x : Int} {st : Cells} (hx : t[i]? = some x) (hu : x ∈ u) (h : lackI t u st i acc st) : lackI t u st (i + 1) acc st := by
  obtain ⟨h1, h2, _⟩ := h
  refine ⟨?_, by omega, rfl⟩
  rw [h1, take_one hx]
  exact ⟨fun h y hy => (List.mem_append.mp hy).elim (h y) fun e => (List.mem_singleton.mp e) ▸ hu, fun h y hy => h y (List.mem_append_left _ hy)⟩
theorem lack_out {t u : List Int} {i : Nat} {acc : List D} {x : Int} {st : Cells} (d : D) (hx : t[i]? = some x) (hu : ¬ x ∈ u) (h : lackI t u st i acc st) : lackI t u st (i + 1) (acc ++ [d]) st := by
  obtain ⟨h1, h2, _⟩ := h
  refine ⟨⟨fun e => by simp at e, fun e => absurd (e x ?_) hu⟩, by simp; omega, rfl⟩
  rw [take_one hx]; simp
theorem len0 {acc : List D} : ((acc.length : Int) = 0) ↔ acc = [] := by
  cases acc with
  | nil => simp
  | cons a l => simp; omega
theorem lack_end {w e : Entry} {acc : List D} {st : Cells} (h0 : w.stack.length = e.stack.length) (h1 : within w.stack e.stack w.stack.length) (h : lackI w.told e.told st w.told.length acc st) : tells st (cov (some w) e) (.bl (decide ((acc.length : Int) = 0)), st) := by
  refine ⟨_, rfl, ?_⟩
  rw [decide_eq_true_eq, len0, h.1, List.take_of_length_le (Nat.le_refl _)]
  constructor
  · intro h3
    exact ⟨w, rfl, h0, fun k p q hp hq => h1 k p q (List.getElem?_eq_some_iff.mp hp).1 hp hq, h3⟩
  · rintro ⟨x, hx, _, _, h3⟩
    cases hx
    exact h3
theorem cov_some {w e : Entry} : cov (some w) e ↔ covE w e := ⟨fun ⟨x, h, k⟩ => by cases h; exact k, fun h => ⟨w, rfl, h⟩⟩
def covI (w e : Entry) (st0 : Cells) (i : Nat) (ρ : Env) (st : Cells) : Prop := ∃ (s2 s3 s4 : Slot), ρ = [.dat (entryD w), .dat (entryD e), s2, s3, s4] ∧ within w.stack e.stack i ∧ st = st0
end K76
/-! T2: entries are judged. -/
namespace K76
open Sf
def gsL (g : Nat) : List Int := (List.range g).map fun (k : Nat) => (k : Int)
theorem gsL_get {g j : Nat} (h : j < g) : (gsL g)[j]? = some (j : Int) := by
  unfold gsL
  rw [List.getElem?_map, List.getElem?_range h]; rfl
theorem gsL_len {g : Nat} : (gsL g).length = g := by simp [gsL]
def selL (g : Nat) (t : List Int) : List Int := (gsL g).filter fun k => decide (k ∈ t)
theorem sel_eq {g : Nat} {t : List Int} : t = selL g t ↔ t.Pairwise (· < ·) ∧ ∀ x ∈ t, 0 ≤ x ∧ x < (g : Int) := by
  have asc : (selL g t).Pairwise (· < ·) := by
    refine List.Pairwise.filter _ (List.pairwise_map.mpr ?_)
    refine (List.pairwise_lt_range (n := g)).imp fun {a b} h => ?_
    exact_mod_cast h
  have mem : ∀ k, k ∈ selL g t ↔ (0 ≤ k ∧ k < (g : Int)) ∧ k ∈ t := fun k => by
    unfold selL gsL
    simp only [List.mem_filter,List.mem_map,List.mem_range,decide_eq_true_eq]
    constructor
    · rintro ⟨⟨j, hj, rfl⟩, h⟩; exact ⟨by omega, h⟩
    · rintro ⟨h1, h2⟩; exact ⟨⟨k.toNat, by omega, by omega⟩, h2⟩
  constructor
  · intro h
    rw [h]
    exact ⟨by rw [← h]; rw [h]; exact asc, fun x hx => ((mem x).mp hx).1⟩
  · rintro ⟨h1, h2⟩
    refine asc_eq h1 asc fun k => ?_
    rw [mem k]
    exact ⟨fun h => ⟨h2 k h, h⟩, fun h => h.2⟩
def selI (g : Nat) (t : List Int) (st0 : Cells) (i : Nat) (acc : List D) (st : Cells) : Prop := acc = (((gsL g).take i).filter fun k => decide (k ∈ t)).map D.int ∧ st = st0
theorem sel_step {g : Nat} {t : List Int} {i : Nat} {acc : List D} {st : Cells} (hi : i < g) (h : selI g t st i acc st) : if ((i : Nat) : Int) ∈ t then selI g t st (i + 1) (acc ++ [.int (i : Int)]) st else selI g t st (i + 1) acc st := by
  obtain ⟨rfl, _⟩ := h
  by_cases hm : ((i : Nat) : Int) ∈ t
  · rw [if_pos hm]
    refine ⟨?_, rfl⟩
    rw [take_one (gsL_get hi), List.filter_append, List.map_append]
    simp [hm]
  · rw [if_neg hm]
    refine ⟨?_, rfl⟩
    rw [take_one (gsL_get hi), List.filter_append, List.map_append]
    simp [hm]
theorem sel_end {g : Nat} {t : List Int} {acc : List D} {st : Cells} (h : selI g t st g acc st) : acc = (selL g t).map D.int := by
  obtain ⟨rfl, _⟩ := h
  rw [List.take_of_length_le (by rw [gsL_len]; exact Nat.le_refl _)]
  rfl
theorem sel_len {g : Nat} {t : List Int} : (selL g t).length ≤ g := by
  have := List.length_filter_le (fun k => decide (k ∈ t)) (gsL g)
  rw [gsL_len] at this
  exact this
theorem eqbs_ints : ∀ {a b : List Int}, D.eqbs (a.map .int) (b.map .int) = decide (a = b)
  | [], [] => rfl
  | [], _ :: _ => rfl
  | _ :: _, [] => rfl
  | x :: a, y :: b => by
    show (D.eqb (.int x) (.int y) && D.eqbs (a.map .int) (b.map .int)) = _
    rw [eqbs_ints, eqb_int]
    by_cases h : x = y <;> by_cases h2 : a = b <;> simp [h, h2]
theorem eqb_ints {a b : List Int} : D.eqb (.tup (a.map .int)) (.tup (b.map .int)) = decide (a = b) := eqbs_ints
theorem shp_ints {a : List Int} : D.shp 60 (.tup (a.map .int)) = true := shps_int (n := 59) a
theorem allI_in {rs : List Pr} {i : Nat} {acc : List D} {p : Pr} {st : Cells} (hp : rs[i]? = some p) (hok : okR p) (h : allI rs st i acc st) : allI rs st (i + 1) acc st := by
  obtain ⟨ha, hl, _⟩ := h
  refine ⟨?_, by omega, rfl⟩
  rw [ha, take_one hp]
  exact ⟨fun h q hq => (List.mem_append.mp hq).elim (h q) fun e => (List.mem_singleton.mp e) ▸ hok, fun h q hq => h q (List.mem_append_left _ hq)⟩
theorem allI_out {rs : List Pr} {i : Nat} {acc : List D} {p : Pr} {st : Cells} (d : D) (hp : rs[i]? = some p) (hok : ¬ okR p) (h : allI rs st i acc st) : allI rs st (i + 1) (acc ++ [d]) st := by
  obtain ⟨ha, hl, _⟩ := h
  refine ⟨⟨fun h => by simp at h, fun h => absurd (h p ?_) hok⟩, by simp; omega, rfl⟩
  rw [take_one hp]; simp
theorem allI_end {rs : List Pr} {acc : List D} {st : Cells} (h : allI rs st rs.length acc st) : acc = [] ↔ ∀ p ∈ rs, okR p := by
  have := h.1
  rw [List.take_of_length_le (Nat.le_refl _)] at this
  exact this
theorem entry_iff {g : Nat} {e : Entry} : EntryOk g e ↔ e.stack.length ≤ 8 ∧ (∀ p ∈ e.stack, okR p) ∧ e.told = selL g e.told := by
  rw [sel_eq]
  exact ⟨fun h => ⟨h.len, h.ok, h.asc, h.mem⟩, fun h => ⟨h.1, h.2.1, h.2.2.1, h.2.2.2⟩⟩
theorem pos_len {acc : List D} : (0 < (acc.length : Int)) ↔ acc ≠ [] := by
  cases acc with
  | nil => simp
  | cons a l => exact ⟨fun _ => by simp, fun _ => by simp only [List.length_cons]; omega⟩
end K76
/-! U2: shows_chart. -/
namespace K76
open Sf
/-- nothing that is found fails -/
def noneL {α : Type} (l : List α) (p : α → Prop) (st0 : Cells) (i : Nat) (acc : List D) (st : Cells) : Prop := (acc = [] ↔ ∀ x ∈ l.take i, p x) ∧ acc.length ≤ i ∧ st = st0
theorem noneL0 {α : Type} {l : List α} {p : α → Prop} {st : Cells} : noneL l p st 0 [] st := ⟨by simp, Nat.le_refl _, rfl⟩
theorem noneL_in {α : Type} {l : List α} {p : α → Prop} {i : Nat} {acc : List D} {x : α} {st : Cells} (hx : l[i]? = some x) (hu : p x) (h : noneL l p st i acc st) : noneL l p st (i + 1) acc st := by
  obtain ⟨h1, h2, _⟩ := h
  refine ⟨?_, by omega, rfl⟩
  rw [h1, take_one hx]
  exact ⟨fun h y hy => (List.mem_append.mp hy).elim (h y) fun e => (List.mem_singleton.mp e) ▸ hu, fun h y hy => h y (List.mem_append_left _ hy)⟩
theorem noneL_out {α : Type} {l : List α} {p : α → Prop} {i : Nat} {acc : List D} {x : α} {st : Cells} (d : D) (hx : l[i]? = some x) (hu : ¬ p x) (h : noneL l p st i acc st) : noneL l p st (i + 1) (acc ++ [d]) st := by
  obtain ⟨h1, h2, _⟩ := h
  refine ⟨⟨fun e => by simp at e, fun e => absurd (e x ?_) hu⟩, by simp; omega, rfl⟩
  rw [take_one hx]; simp
theorem noneL_end {α : Type} {l : List α} {p : α → Prop} {acc : List D} {st st' : Cells} (h : noneL l p st l.length acc st') : acc = [] ↔ ∀ x ∈ l, p x := by
  have := h.1
  rw [List.take_of_length_le (Nat.le_refl _)] at this
  exact this
def okO (g : Nat) (o : Option Entry) : Prop := ∀ e, o = some e → EntryOk g e
def rightTo (is : List Ins) (rs : List Pr) (ch : Chart) (i : Nat) : Prop := ∀ (p : Nat) e ins, p < i → (ch[p]?).join = some e → is[p]? = some ins → ∃ l, outs rs p e ins = some l ∧ ∀ q ∈ l, cov (ch[q.1.toNat]?).join q.2
def shI (is : List Ins) (rs : List Pr) (ch : Chart) (st0 : Cells) (i : Nat) (ρ : Env) (st : Cells) : Prop := ∃ (s3 s4 s5 s6 s7 : Slot), ρ = [.dat (progD is), .dat (rangesD rs), .dat (.tup (ch.map optE)), s3, s4, s5, s6, s7] ∧ rightTo is rs ch i ∧ st = st0
structure RawC (m : Nat) (ch : Chart) : Prop where
  len : ch.length ≤ 5000
  raw : ∀ e, some e ∈ ch → Raw e
theorem RawC.get {m : Nat} {ch : Chart} (h : RawC m ch) {k : Nat} {e : Entry} (he : (ch[k]?).join = some e) : Raw e := by
  cases hk : ch[k]? with
  | none => rw [hk] at he; cases he
  | some o =>
    rw [hk] at he
    have he : o = some e := he
    subst he
    exact h.raw e (List.mem_of_getElem? hk)
theorem outs_len {rs : List Pr} {p : Int} {e : Entry} {i : Ins} {l : List (Int × Entry)} (h : outs rs p e i = some l) : l.length ≤ 1000 := by
  cases i with
  | stop => cases h; decide
  | skip a u => cases h; simp
  | ring u =>
    have eo : outs rs p e (.ring u) = if e.stack = [] then none else some [((p : Int) + 1, ⟨e.stack.take (e.stack.length - 1), e.told⟩)] := rfl
    rw [eo] at h
    split at h
    · cases h
    · cases h; simp
  | _ =>
    rw [outs_other ⟨by simp, by simp, by simp⟩] at h
    cases hp : pgrown (pmade rs e _) with
    | none => rw [hp] at h; cases h
    | some s => rw [hp] at h; cases h; simp
theorem e00 : D.tup [.tup [], .tup []] = entryD ⟨[], []⟩ := rfl
end K76
/-! W: within a chart; a turn is drawn. -/
namespace K76
open Sf
theorem set_cut {ds : List D} {k : Nat} {d : D} (h : k < ds.length) : ds.take k ++ [d] ++ ds.drop (k + 1) = ds.set k d := by
  rw [List.set_eq_take_append_cons_drop, if_pos h, List.append_assoc]; rfl
theorem c__law_with (n : Nat) {ds : List D} {k : Nat} {d : D} (h : k < ds.length) (hl : ds.length ≤ 100000) (st : Cells) : Ev (callN T (n + 1) i__law_with [.tup ds, .int k, d] st) (kept st (.tup (ds.set k d))) := by
  refine dcl (f := f__law_with) rfl rfl ?_
  have e1 : (k : Int) + 1 = ((k + 1 : Nat) : Int) := by omega
  simp! only [f__law_with,b__law_with,start,List.replicate,List.append_nil,List.cons_append,List.nil_append,line,Int.reduceSub,Int.reduceAdd,Int.reduceMul,Int.reduceMod,Int.reduceDiv,List.length_map,List.length_append,and_self,cut_to,e1,cut_from,List.length_take,List.length_drop,set_cut h]
  exact ⟨by omega, by omega, rfl⟩
theorem with' (n : Nat) {ds : List D} {k : Nat} {d : D} (h : k < ds.length) (hl : ds.length ≤ 100000) {st : Cells} {P : D × Cells → Prop} (hP : P (.tup (ds.set k d), st)) : Ev (callN T (n + 1) i__law_with [.tup ds, .int k, d] st) P := (c__law_with n h hl st).mono fun q hq => by unfold kept at hq; rw [hq]; exact hP
end K76
/-! TA: whole tests: gauges, sums. -/
namespace K76
open Sf
structure WT where
  row : List Int
  rest : Int
def testD (t : WT) : D := .tup [intsD t.row, .int t.rest]
def natsD (l : List Nat) : List D := l.map fun (k : Nat) => D.int (k : Int)
def usedL (row : List Int) : List Nat := (List.range row.length).filter fun g => decide (row.getD g 0 ≠ 0)
theorem used_lt {row : List Int} {g : Nat} (h : g ∈ usedL row) : g < row.length ∧ row.getD g 0 ≠ 0 := by
  unfold usedL at h
  rw [List.mem_filter, List.mem_range, decide_eq_true_eq] at h
  exact h
theorem used_len {row : List Int} : (usedL row).length ≤ row.length := by
  have := List.length_filter_le (fun g => decide (row.getD g 0 ≠ 0)) (List.range row.length)
  rw [List.length_range] at this
  exact this
def usI (row : List Int) (st0 : Cells) (i : Nat) (acc : List D) (st : Cells) : Prop := acc = natsD (((List.range row.length).take i).filter fun g => decide (row.getD g 0 ≠ 0)) ∧ st = st0
theorem c_used_gauges (n : Nat) {t : WT} (hl : t.row.length ≤ 1000) (st : Cells) : Ev (callN T (n + 1) i_used_gauges [testD t] st) (kept st (.lst (natsD (usedL t.row)))) := by
  refine dcl (f := f_used_gauges) rfl rfl ?_
  unfold testD intsD
  simp! only [f_used_gauges,b_used_gauges,start,List.replicate,List.append_nil,List.cons_append,List.nil_append,line,Int.reduceSub,Int.reduceAdd,Int.reduceMul,Int.reduceMod,Int.reduceDiv,List.length_map,List.length_append,and_self]
  refine ll_idx (I := usI t.row st) ⟨rfl, rfl⟩ ?_ ?_
  · rintro acc st' ⟨rfl, rfl⟩
    rw [enumD_len, List.length_map, List.take_of_length_le (by simp)]
    simp! only [line,Int.reduceSub,Int.reduceAdd,Int.reduceMul,Int.reduceMod,Int.reduceDiv,List.length_map,List.length_append,and_self,enumD_len]
    exact ⟨by omega, rfl⟩
  · rintro i x acc st' hx ⟨rfl, rfl⟩
    rw [enumD_get, List.getElem?_map] at hx
    cases h1 : t.row[i]? with
    | none => rw [h1] at hx; cases hx
    | some a =>
      rw [h1] at hx
      cases hx
      have hi := (List.getElem?_eq_some_iff.mp h1).1
      have tk : (List.range t.row.length).take (i + 1) = (List.range t.row.length).take i ++ [i] := take_one (List.getElem?_range hi)
      have hd : t.row.getD i 0 = a := by simp [List.getD, h1]
      simp! only [line,Int.reduceSub,Int.reduceAdd,Int.reduceMul,Int.reduceMod,Int.reduceDiv,List.length_map,List.length_append,and_self]
      by_cases h0 : a = 0
      · simp! only [h0,line,Int.reduceSub,Int.reduceAdd,Int.reduceMul,Int.reduceMod,Int.reduceDiv,List.length_map,List.length_append,and_self]
        refine ⟨?_, rfl⟩
        rw [tk, List.filter_append]
        simp [List.filter_cons, hd, h0, h1]
      · simp! only [h0,line,Int.reduceSub,Int.reduceAdd,Int.reduceMul,Int.reduceMod,Int.reduceDiv,List.length_map,List.length_append,and_self]
        refine ⟨?_, rfl⟩
        rw [tk, List.filter_append]
        simp [List.filter_cons, hd, h0, natsD, h1]
def prodP (a : Int) (p : Pr) : Pr := (min (a * p.1) (a * p.2), max (a * p.1) (a * p.2))
theorem c_product_range (n : Nat) {a : Int} {p : Pr} (ha : bits a ≤ 10000) (h1 : bits p.1 ≤ 10000) (h2 : bits p.2 ≤ 10000) (st : Cells) : Ev (callN T (n + 1) i_product_range [.int a, pairD p] st) (kept st (pairD (prodP a p))) := by
  refine dcl (f := f_product_range) rfl rfl ?_
  unfold pairD
  have e : intsOf [.int (a * p.1), .int (a * p.2)] = some [a * p.1, a * p.2] := rfl
  simp! only [f_product_range,b_product_range,start,List.replicate,List.append_nil,List.cons_append,List.nil_append,line,Int.reduceSub,Int.reduceAdd,Int.reduceMul,Int.reduceMod,Int.reduceDiv,List.length_map,List.length_append,and_self,k_minl,k_maxl,e,Option.bind_some,minOf,maxOf,List.foldl_cons,List.foldl_nil]
  refine ⟨by omega, by omega, ?_⟩
  unfold kept prodP
  have m1 : (if a * p.2 < a * p.1 then a * p.2 else a * p.1) = min (a * p.1) (a * p.2) := by split <;> omega
  have m2 : (if a * p.2 > a * p.1 then a * p.2 else a * p.1) = max (a * p.1) (a * p.2) := by split <;> omega
  rw [m1, m2]
/-- the range of the sum over some gauges -/
def sumTo (row : List Int) (rs : List Pr) (us : List Nat) : Pr := ((us.map fun g => (prodP (row.getD g 0) (rs.getD g (0, 0))).1).sum, (us.map fun g => (prodP (row.getD g 0) (rs.getD g (0, 0))).2).sum)
theorem sumTo_add (row : List Int) (rs : List Pr) (us : List Nat) (g : Nat) : sumTo row rs (us ++ [g]) = ((sumTo row rs us).1 + (prodP (row.getD g 0) (rs.getD g (0, 0))).1, (sumTo row rs us).2 + (prodP (row.getD g 0) (rs.getD g (0, 0))).2) := by
  unfold sumTo
  simp [List.sum_append]
def sumsL (row : List Int) (rs : List Pr) (us : List Nat) (i : Nat) : List Pr := (List.range (i + 1)).map fun j => sumTo row rs (us.take j)
theorem sumsL_add {row : List Int} {rs : List Pr} {us : List Nat} {i : Nat} : sumsL row rs us (i + 1) = sumsL row rs us i ++ [sumTo row rs (us.take (i + 1))] := by
  unfold sumsL
  rw [List.range_succ (n := i + 1), List.map_append]; rfl
theorem sumsL_len {row : List Int} {rs : List Pr} {us : List Nat} {i : Nat} : (sumsL row rs us i).length = i + 1 := by simp [sumsL]
theorem sumsL_last {row : List Int} {rs : List Pr} {us : List Nat} {i : Nat} : getI ((sumsL row rs us i).map pairD) (-1) = some (pairD (sumTo row rs (us.take i))) := by
  unfold sumsL
  rw [List.range_succ, List.map_append, List.map_append]
  exact getI_lapp
/-- what a test and ranges must be for its sums to be worked out -/
structure Fit (t : WT) (rs : List Pr) : Prop where
  len : t.row.length ≤ rs.length
  most : t.row.length ≤ 1000
  row : ∀ a ∈ t.row, bits a ≤ 10000
  rs : ∀ p ∈ rs, bits p.1 ≤ 10000 ∧ bits p.2 ≤ 10000
theorem Fit.at {t : WT} {rs : List Pr} (h : Fit t rs) {g : Nat} (hg : g < t.row.length) : bits (t.row.getD g 0) ≤ 10000 ∧ bits (rs.getD g (0, 0)).1 ≤ 10000 ∧ bits (rs.getD g (0, 0)).2 ≤ 10000 := by
  have h1 : t.row.getD g 0 = t.row[g] := by simp [List.getD, List.getElem?_eq_getElem hg]
  have hg2 : g < rs.length := by have := h.len; omega
  have h2 : rs.getD g (0, 0) = rs[g] := by simp [List.getD, List.getElem?_eq_getElem hg2]
  rw [h1, h2]
  have a := h.row _ (List.getElem_mem hg)
  have b := h.rs _ (List.getElem_mem hg2)
  exact ⟨a, b.1, b.2⟩
theorem iget {s : List Int} {k : Nat} (h : k < s.length) : (s.map D.int)[k]? = some (.int (s.getD k 0)) := by
  rw [List.getElem?_map, List.getElem?_eq_getElem h]
  simp [List.getD, List.getElem?_eq_getElem h]
theorem nats_get {l : List Nat} {i : Nat} {x : D} (h : (natsD l)[i]? = some x) : ∃ g, l[i]? = some g ∧ x = .int (g : Int) := by
  unfold natsD at h
  rw [List.getElem?_map] at h
  obtain ⟨g, hg, rfl⟩ := Option.map_eq_some_iff.mp h
  exact ⟨g, hg, rfl⟩
theorem nats_len {l : List Nat} : (natsD l).length = l.length := by simp [natsD]
def srI (t : WT) (rs : List Pr) (st0 : Cells) (i : Nat) (ρ : Env) (st : Cells) : Prop := ∃ s3 s4 : Slot, ρ = [.dat (testD t), .dat (rangesD rs), .own ((sumsL t.row rs (usedL t.row) i).map pairD), s3, s4] ∧ st = st0
theorem c_sum_ranges (n : Nat) {t : WT} {rs : List Pr} (hf : Fit t rs) (st : Cells) : Ev (callN T (n + 2) i_sum_ranges [testD t, rangesD rs] st) (kept st (.lst ((sumsL t.row rs (usedL t.row) (usedL t.row).length).map pairD))) := by
  refine dcl (f := f_sum_ranges) rfl rfl ?_
  have hm := hf.most
  have hul := used_len (row := t.row)
  simp! only [f_sum_ranges,b_sum_ranges,start,List.replicate,List.append_nil,List.cons_append,List.nil_append,line,Int.reduceSub,Int.reduceAdd,Int.reduceMul,Int.reduceMod,Int.reduceDiv,List.length_map,List.length_append,and_self]
  refine (c_used_gauges n hm st).mono fun q hq => ?_
  unfold kept at hq
  subst hq
  simp! only [line,Int.reduceSub,Int.reduceAdd,Int.reduceMul,Int.reduceMod,Int.reduceDiv,List.length_map,List.length_append,and_self]
  refine fl_idx (I := srI t rs st) ⟨_, _, rfl, rfl⟩ ?_ ?_
  · rintro ρ st' ⟨s3, s4, rfl, rfl⟩
    rw [nats_len]
    simp! only [line,Int.reduceSub,Int.reduceAdd,Int.reduceMul,Int.reduceMod,Int.reduceDiv,List.length_map,List.length_append,and_self]
    rfl
  · rintro i x ρ st' hx ⟨s3, s4, rfl, rfl⟩
    obtain ⟨g, hg, rfl⟩ := nats_get hx
    have hgl := used_lt (List.mem_of_getElem? hg)
    have hat := hf.at hgl.1
    have er : rangesD rs = .tup (rs.map pairD) := rfl
    have et : testD t = .tup [.tup (t.row.map .int), .int t.rest] := rfl
    have hil := (List.getElem?_eq_some_iff.mp hg).1
    rw [er, et]
    simp! only [line,Int.reduceSub,Int.reduceAdd,Int.reduceMul,Int.reduceMod,Int.reduceDiv,List.length_map,List.length_append,and_self,getI_nat,iget hgl.1,pget (s := rs) (k := g) (by have := hf.len; omega)]
    refine (c_product_range n hat.1 hat.2.1 hat.2.2 st').mono fun q hq => ?_
    unfold kept at hq
    subst hq
    simp! only [line,Int.reduceSub,Int.reduceAdd,Int.reduceMul,Int.reduceMod,Int.reduceDiv,List.length_map,List.length_append,and_self,sumsL_last,pairD,List.length_map,sumsL_len]
    refine ⟨by omega, _, _, by rw [sumsL_add, take_one hg, sumTo_add, List.map_append]; rfl, rfl⟩
theorem c_may_ring (n : Nat) {t : WT} {rs : List Pr} (hf : Fit t rs) (st : Cells) : Ev (callN T (n + 3) i_may_ring [testD t, rangesD rs] st) (kept st (.bl (decide (t.rest < (sumTo t.row rs (usedL t.row)).2)))) := by
  refine dcl (f := f_may_ring) rfl rfl ?_
  simp! only [f_may_ring,b_may_ring,start,List.replicate,List.append_nil,List.cons_append,List.nil_append,line,Int.reduceSub,Int.reduceAdd,Int.reduceMul,Int.reduceMod,Int.reduceDiv,List.length_map,List.length_append,and_self]
  refine (c_sum_ranges n hf st).mono fun q hq => ?_
  unfold kept at hq
  subst hq
  have et : testD t = .tup [.tup (t.row.map .int), .int t.rest] := rfl
  rw [et]
  simp! only [line,Int.reduceSub,Int.reduceAdd,Int.reduceMul,Int.reduceMod,Int.reduceDiv,List.length_map,List.length_append,and_self,sumsL_last,pairD,List.take_length]
  rfl
def w2 (p : Pr) : Prop := word p.1 ∧ word p.2
def prodG (t : WT) (rs : List Pr) (g : Nat) : Pr := prodP (t.row.getD g 0) (rs.getD g (0, 0))
def Worded (t : WT) (rs : List Pr) : Prop := (∀ j, j ≤ (usedL t.row).length → w2 (sumTo t.row rs ((usedL t.row).take j))) ∧ ∀ g ∈ usedL t.row, w2 (prodG t rs g) ∧ word (t.row.getD g 0)
def wdL (t : WT) (rs : List Pr) (i : Nat) : List Pr := sumsL t.row rs (usedL t.row) (usedL t.row).length ++ ((usedL t.row).take i).flatMap fun g => [prodG t rs g, (t.row.getD g 0, t.row.getD g 0)]
theorem wd_iff {t : WT} {rs : List Pr} : (∀ p ∈ wdL t rs (usedL t.row).length, w2 p) ↔ Worded t rs := by
  unfold wdL Worded
  rw [List.take_length]
  constructor
  · intro h
    refine ⟨fun j hj => h _ (List.mem_append_left _ ?_), fun g hg => ⟨h _ (List.mem_append_right _ ?_), ?_⟩⟩
    · unfold sumsL
      exact List.mem_map.mpr ⟨j, List.mem_range.mpr (by omega), rfl⟩
    · exact List.mem_flatMap.mpr ⟨g, hg, by simp⟩
    · exact (h (t.row.getD g 0, t.row.getD g 0) (List.mem_append_right _ (List.mem_flatMap.mpr ⟨g, hg, by simp⟩))).1
  · rintro ⟨h1, h2⟩ p hp
    rcases List.mem_append.mp hp with hp | hp
    · unfold sumsL at hp
      obtain ⟨j, hj, rfl⟩ := List.mem_map.mp hp
      exact h1 j (by have := List.mem_range.mp hj; omega)
    · obtain ⟨g, hg, hp⟩ := List.mem_flatMap.mp hp
      simp only [List.mem_cons,List.not_mem_nil,or_false] at hp
      rcases hp with rfl | rfl
      · exact (h2 g hg).1
      · exact ⟨(h2 g hg).2, (h2 g hg).2⟩
def wdI (t : WT) (rs : List Pr) (st0 : Cells) (i : Nat) (ρ : Env) (st : Cells) : Prop := ∃ s3 s4 s5 : Slot, ρ = [.dat (testD t), .dat (rangesD rs), .own ((wdL t rs i).map pairD), s3, s4, s5] ∧ (wdL t rs i).length ≤ 1001 + 2 * i ∧ st = st0
theorem c_is_worded (n : Nat) {t : WT} {rs : List Pr} (hf : Fit t rs) (st : Cells) : Ev (callN T (n + 3) i_is_worded [testD t, rangesD rs] st) (tells st (Worded t rs)) := by
  refine dcl (f := f_is_worded) rfl rfl ?_
  have hm := hf.most
  have hul := used_len (row := t.row)
  simp! only [f_is_worded,b_is_worded,start,List.replicate,List.append_nil,List.cons_append,List.nil_append,line,Int.reduceSub,Int.reduceAdd,Int.reduceMul,Int.reduceMod,Int.reduceDiv,List.length_map,List.length_append,and_self]
  refine (c_sum_ranges n hf st).mono fun q hq => ?_
  unfold kept at hq
  subst hq
  simp! only [line,Int.reduceSub,Int.reduceAdd,Int.reduceMul,Int.reduceMod,Int.reduceDiv,List.length_map,List.length_append,and_self]
  refine (c_used_gauges (n + 1) hm st).mono fun q hq => ?_
  unfold kept at hq
  subst hq
  simp! only [line,Int.reduceSub,Int.reduceAdd,Int.reduceMul,Int.reduceMod,Int.reduceDiv,List.length_map,List.length_append,and_self]
  have e0 : sumsL t.row rs (usedL t.row) (usedL t.row).length = wdL t rs 0 := by simp [wdL]
  rw [e0]
  refine fl_idx (I := wdI t rs st) ⟨_, _, _, rfl, by rw [← e0, sumsL_len]; omega, rfl⟩ ?_ ?_
  · rintro ρ st' ⟨s3, s4, s5, rfl, hwl, rfl⟩
    rw [nats_len] at hwl ⊢
    simp! only [line,Int.reduceSub,Int.reduceAdd,Int.reduceMul,Int.reduceMod,Int.reduceDiv,List.length_map,List.length_append,and_self]
    refine ll_idx (I := noneL (wdL t rs (usedL t.row).length) w2 st') noneL0 ?_ ?_
    · rintro acc st ⟨ha, hal, rfl⟩
      rw [List.length_map] at ha hal
      rw [List.take_of_length_le (Nat.le_refl _)] at ha
      simp! only [line,Int.reduceSub,Int.reduceAdd,Int.reduceMul,Int.reduceMod,Int.reduceDiv,List.length_map,List.length_append,and_self]
      refine ⟨by omega, _, rfl, ?_⟩
      rw [decide_eq_true_eq, len0, ha]
      exact wd_iff
    · rintro i x acc st hx h
      have hst : st = st' := h.2.2
      subst hst
      rw [List.getElem?_map] at hx
      obtain ⟨p, hp, rfl⟩ := Option.map_eq_some_iff.mp hx
      unfold pairD
      simp! only [line,Int.reduceSub,Int.reduceAdd,Int.reduceMul,Int.reduceMod,Int.reduceDiv,List.length_map,List.length_append,and_self]
      refine is_word' (n + 1) ?_
      by_cases h1 : word p.1
      · simp! only [h1,line,Int.reduceSub,Int.reduceAdd,Int.reduceMul,Int.reduceMod,Int.reduceDiv,List.length_map,List.length_append,and_self]
        refine is_word' (n + 1) ?_
        by_cases h2 : word p.2
        · simp! only [h2,line,Int.reduceSub,Int.reduceAdd,Int.reduceMul,Int.reduceMod,Int.reduceDiv,List.length_map,List.length_append,and_self]
          exact noneL_in hp ⟨h1, h2⟩ h
        · simp! only [h2,line,Int.reduceSub,Int.reduceAdd,Int.reduceMul,Int.reduceMod,Int.reduceDiv,List.length_map,List.length_append,and_self]
          exact noneL_out _ hp (fun q => h2 q.2) h
      · simp! only [h1,line,Int.reduceSub,Int.reduceAdd,Int.reduceMul,Int.reduceMod,Int.reduceDiv,List.length_map,List.length_append,and_self]
        exact noneL_out _ hp (fun q => h1 q.1) h
  · rintro i x ρ st' hx ⟨s3, s4, s5, rfl, hwl, rfl⟩
    obtain ⟨g, hg, rfl⟩ := nats_get hx
    have hgl := used_lt (List.mem_of_getElem? hg)
    have hat := hf.at hgl.1
    have er : rangesD rs = .tup (rs.map pairD) := rfl
    have et : testD t = .tup [.tup (t.row.map .int), .int t.rest] := rfl
    have hil := (List.getElem?_eq_some_iff.mp hg).1
    rw [er, et]
    simp! only [line,Int.reduceSub,Int.reduceAdd,Int.reduceMul,Int.reduceMod,Int.reduceDiv,List.length_map,List.length_append,and_self,getI_nat,iget hgl.1,pget (s := rs) (k := g) (by have := hf.len; omega)]
    refine (c_product_range (n + 1) hat.1 hat.2.1 hat.2.2 st').mono fun q hq => ?_
    unfold kept at hq
    subst hq
    simp! only [line,Int.reduceSub,Int.reduceAdd,Int.reduceMul,Int.reduceMod,Int.reduceDiv,List.length_map,List.length_append,and_self,getI_nat,iget hgl.1,List.length_map]
    have ew : wdL t rs (i + 1) = wdL t rs i ++ [prodG t rs g, (t.row.getD g 0, t.row.getD g 0)] := by
      unfold wdL
      rw [take_one hg, List.flatMap_append, List.append_assoc]
      simp
    exact ⟨by omega, by omega, _, _, _, by rw [ew, List.map_append, List.append_assoc]; rfl, by rw [ew, List.length_append]; simp only [List.length_cons,List.length_nil]; omega, rfl⟩
end K76
/-! TB: the program of whole tests. -/
namespace K76
open Sf
def one3 (row : List Int) (g : Nat) : List Ins := [.reading g, .push (row.getD g 0), .times]
def parts (row : List Int) : List Nat → List Ins
  | [] => []
  | g :: r => one3 row g ++ r.flatMap fun g => one3 row g ++ [.add]
def sumC (row : List Int) (us : List Nat) : List Ins := if us = [] then [.push 0] else parts row us
theorem parts_add {row : List Int} {us : List Nat} {g : Nat} : parts row (us ++ [g]) = parts row us ++ (one3 row g ++ if us.length = 0 then [] else [.add]) := by
  cases us with
  | nil => simp [parts]
  | cons a l => simp [parts, List.flatMap_append]
theorem parts_len {row : List Int} : ∀ {us : List Nat}, (parts row us).length ≤ 4 * us.length
  | [] => by simp [parts]
  | g :: r => by
    have : (r.flatMap fun g => one3 row g ++ [Ins.add]).length = 4 * r.length := by
      induction r with
      | nil => rfl
      | cons a r ih => rw [List.flatMap_cons, List.length_append, ih]; simp [one3]; omega
    have h3 : (one3 row g).length = 3 := rfl
    rw [parts, List.length_append, this, h3, List.length_cons]
    omega
theorem sumC_len {row : List Int} {us : List Nat} : (sumC row us).length ≤ 4 * us.length + 1 := by
  unfold sumC
  split
  · simp
  · have := parts_len (row := row) (us := us); omega
def scI (t : WT) (st0 : Cells) (i : Nat) (ρ : Env) (st : Cells) : Prop := ∃ s3 s4 : Slot, ρ = [.dat (testD t), .dat (.lst (natsD (usedL t.row))), .own ((parts t.row ((usedL t.row).take i)).map Ins.d), s3, s4] ∧ st = st0
theorem c_sum_code (n : Nat) {t : WT} (hm : t.row.length ≤ 1000) (st : Cells) : Ev (callN T (n + 2) i_sum_code [testD t] st) (kept st (.lst ((sumC t.row (usedL t.row)).map Ins.d))) := by
  refine dcl (f := f_sum_code) rfl rfl ?_
  have hul := used_len (row := t.row)
  simp! only [f_sum_code,b_sum_code,start,List.replicate,List.append_nil,List.cons_append,List.nil_append,line,Int.reduceSub,Int.reduceAdd,Int.reduceMul,Int.reduceMod,Int.reduceDiv,List.length_map,List.length_append,and_self]
  refine (c_used_gauges n hm st).mono fun q hq => ?_
  unfold kept at hq
  subst hq
  have hsh : ∀ l : List Nat, D.shp 60 (.lst (natsD l)) = true := fun l => by
    show D.shps 59 (natsD l) = true
    unfold natsD
    have := shps_int (n := 59) (l.map fun (k : Nat) => (k : Int))
    rw [List.map_map] at this
    exact this
  have hsh0 : D.shp 60 (.lst []) = true := hsh []
  simp! only [line,Int.reduceSub,Int.reduceAdd,Int.reduceMul,Int.reduceMod,Int.reduceDiv,List.length_map,List.length_append,and_self,c_eq,hsh,hsh0]
  cases hu : usedL t.row with
  | nil =>
    have e : D.eqb (.lst (natsD [])) (.lst []) = true := rfl
    simp! only [e,line,Int.reduceSub,Int.reduceAdd,Int.reduceMul,Int.reduceMod,Int.reduceDiv,List.length_map,List.length_append,and_self]
    rfl
  | cons g0 r0 =>
    have e : D.eqb (.lst (natsD (g0 :: r0))) (.lst []) = false := rfl
    simp! only [e,line,Int.reduceSub,Int.reduceAdd,Int.reduceMul,Int.reduceMod,Int.reduceDiv,List.length_map,List.length_append,and_self]
    rw [← hu]
    refine fl_idx (I := scI t st) ⟨_, _, rfl, rfl⟩ ?_ ?_
    · rintro ρ st' ⟨s3, s4, rfl, rfl⟩
      rw [enumD_len, nats_len, List.take_length]
      simp! only [line,Int.reduceSub,Int.reduceAdd,Int.reduceMul,Int.reduceMod,Int.reduceDiv,List.length_map,List.length_append,and_self]
      unfold kept sumC
      rw [if_neg (by rw [hu]; simp)]
    · rintro i x ρ st' hx ⟨s3, s4, rfl, rfl⟩
      rw [enumD_get] at hx
      obtain ⟨d, hd, rfl⟩ := Option.map_eq_some_iff.mp hx
      obtain ⟨g, hg, rfl⟩ := nats_get hd
      have hgl := used_lt (List.mem_of_getElem? hg)
      have hil := (List.getElem?_eq_some_iff.mp hg).1
      have et : testD t = .tup [.tup (t.row.map .int), .int t.rest] := rfl
      have hpl := parts_len (row := t.row) (us := (usedL t.row).take i)
      have htl : ((usedL t.row).take i).length = i := by rw [List.length_take]; omega
      rw [et]
      simp! only [line,Int.reduceSub,Int.reduceAdd,Int.reduceMul,Int.reduceMod,Int.reduceDiv,List.length_map,List.length_append,and_self,getI_nat,iget hgl.1]
      refine ⟨by omega, ?_⟩
      by_cases h0 : i = 0
      · subst h0
        simp! only [line,Int.reduceSub,Int.reduceAdd,Int.reduceMul,Int.reduceMod,Int.reduceDiv,List.length_map,List.length_append,and_self]
        exact ⟨_, _, by rw [take_one hg, parts_add, htl]; rfl, rfl⟩
      · have hi0 : (0 : Int) < i := by omega
        simp! only [hi0,line,Int.reduceSub,Int.reduceAdd,Int.reduceMul,Int.reduceMod,Int.reduceDiv,List.length_map,List.length_append,and_self]
        exact ⟨by omega, _, _, by rw [take_one hg, parts_add, htl, if_neg h0, List.map_append, List.map_append, ← List.append_assoc]; rfl, rfl⟩
def leastOf (t : WT) (rs : List Pr) : Int := max (t.rest + 1) (sumTo t.row rs (usedL t.row)).1
def bodyC (k : Nat) (t : WT) (rs : List Pr) : List Ins := sumC t.row (usedL t.row) ++ [.push (leastOf t rs), .least, .ring k]
def testC (k : Nat) (t : WT) (rs : List Pr) (s0 : Nat) : List Ins := ((usedL t.row).map fun (g : Nat) => Ins.skip g ((s0 + (usedL t.row).length + (bodyC k t rs).length : Nat) : Int)) ++ bodyC k t rs
def tcI (us : List Nat) (b : Int) (st0 : Cells) (i : Nat) (acc : List D) (st : Cells) : Prop := acc = ((us.take i).map fun (g : Nat) => (Ins.skip g b).d) ∧ st = st0
theorem c_test_code (n : Nat) {k s0 : Nat} {t : WT} {rs : List Pr} (hf : Fit t rs) (st : Cells) : Ev (callN T (n + 3) i_test_code [.int k, testD t, rangesD rs, .int s0] st) (kept st (.lst ((testC k t rs s0).map Ins.d))) := by
  refine dcl (f := f_test_code) rfl rfl ?_
  have hm := hf.most
  have hul := used_len (row := t.row)
  have hsl := sumC_len (row := t.row) (us := usedL t.row)
  have et : testD t = .tup [.tup (t.row.map .int), .int t.rest] := rfl
  rw [et]
  simp! only [f_test_code,b_test_code,start,List.replicate,List.append_nil,List.cons_append,List.nil_append,line,Int.reduceSub,Int.reduceAdd,Int.reduceMul,Int.reduceMod,Int.reduceDiv,List.length_map,List.length_append,and_self]
  rw [← et]
  refine (c_sum_ranges n hf st).mono fun q hq => ?_
  unfold kept at hq
  subst hq
  simp! only [line,Int.reduceSub,Int.reduceAdd,Int.reduceMul,Int.reduceMod,Int.reduceDiv,List.length_map,List.length_append,and_self,sumsL_last,pairD,List.take_length]
  refine (c_sum_code n hm st).mono fun q hq => ?_
  unfold kept at hq
  subst hq
  simp! only [line,Int.reduceSub,Int.reduceAdd,Int.reduceMul,Int.reduceMod,Int.reduceDiv,List.length_map,List.length_append,and_self]
  refine ⟨by omega, ?_⟩
  refine (c_used_gauges (n + 1) hm st).mono fun q hq => ?_
  unfold kept at hq
  subst hq
  simp! only [line,Int.reduceSub,Int.reduceAdd,Int.reduceMul,Int.reduceMod,Int.reduceDiv,List.length_map,List.length_append,and_self,nats_len]
  have ml : (if t.rest + 1 < (sumTo t.row rs (usedL t.row)).1 then (sumTo t.row rs (usedL t.row)).1 else t.rest + 1) = leastOf t rs := by unfold leastOf; split <;> omega
  have eb : (sumC t.row (usedL t.row)).map Ins.d ++ [.tup [.str [112, 117, 115, 104], .int (if t.rest + 1 < (sumTo t.row rs (usedL t.row)).1 then (sumTo t.row rs (usedL t.row)).1 else t.rest + 1)], .tup [.str [108, 101, 97, 115, 116]], .tup [.str [114, 105, 110, 103], .int k]] = (bodyC k t rs).map Ins.d := by
    rw [ml]
    unfold bodyC
    rw [List.map_append]; rfl
  rw [eb]
  have hbl : (bodyC k t rs).length = (sumC t.row (usedL t.row)).length + 3 := by simp [bodyC]
  have ebh : ((s0 : Int) + (usedL t.row).length + ((sumC t.row (usedL t.row)).length + 1 + 1 + 1 : Nat)) = ((s0 + (usedL t.row).length + (bodyC k t rs).length : Nat) : Int) := by omega
  refine ll_idx (I := tcI (usedL t.row) ((s0 + (usedL t.row).length + (bodyC k t rs).length : Nat) : Int) st) ⟨rfl, rfl⟩ ?_ ?_
  · rintro acc st' ⟨rfl, rfl⟩
    rw [nats_len, List.take_length]
    simp! only [line,Int.reduceSub,Int.reduceAdd,Int.reduceMul,Int.reduceMod,Int.reduceDiv,List.length_map,List.length_append,and_self,nats_len]
    refine ⟨by omega, by omega, ?_⟩
    unfold kept testC
    rw [List.map_append, List.map_map]
    rfl
  · rintro i x acc st' hx ⟨rfl, rfl⟩
    obtain ⟨g, hg, rfl⟩ := nats_get hx
    simp! only [line,Int.reduceSub,Int.reduceAdd,Int.reduceMul,Int.reduceMod,Int.reduceDiv,List.length_map,List.length_append,and_self]
    refine ⟨?_, rfl⟩
    rw [take_one hg, List.map_append]
    simp only [List.map_cons,List.map_nil,Ins.d]
    rw [← ebh]
end K76
/-! TB2: program_of. -/
namespace K76
open Sf
def mayR (t : WT) (rs : List Pr) : Prop := t.rest < (sumTo t.row rs (usedL t.row)).2
instance (t : WT) (rs : List Pr) : Decidable (mayR t rs) := inferInstanceAs (Decidable (_ < _))
/-- the code of tests, the first of them the k-th, from the place s0 on -/
def codeF (rs : List Pr) : Nat → Nat → List WT → List Ins
  | _, _, [] => []
  | k, s0, t :: r => if mayR t rs then testC k t rs s0 ++ codeF rs (k + 1) (s0 + (testC k t rs s0).length) r else codeF rs (k + 1) s0 r
def progW (rs : List Pr) (ts : List WT) : List Ins := codeF rs 0 0 ts ++ [.stop]
def poI (rs : List Pr) (ts : List WT) (st0 : Cells) (i : Nat) (ρ : Env) (st : Cells) : Prop := ∃ (F : List Ins) (s3 s4 : Slot), ρ = [.dat (.tup (ts.map testD)), .dat (rangesD rs), .own (F.map Ins.d), s3, s4] ∧ F ++ codeF rs i F.length (ts.drop i) = codeF rs 0 0 ts ∧ st = st0
theorem drop_get {α : Type} {l : List α} {i : Nat} {x : α} (h : l[i]? = some x) : l.drop i = x :: l.drop (i + 1) := drop_one h
theorem c_program_of (n : Nat) {rs : List Pr} {ts : List WT} {g : Nat} (hr : Rgs rs g) (ht : ts.length ≤ 1000) (hf : ∀ t ∈ ts, Fit t rs) (hw : ∀ t ∈ ts, mayR t rs → Worded t rs) (hl : (codeF rs 0 0 ts).length ≤ 3999) (st : Cells) : Ev (callN T (n + 4) i_program_of [.tup (ts.map testD), rangesD rs] st) (kept st (progD (progW rs ts))) := by
  have hrl := hr.len
  have hrm := hr.most
  refine dcl (f := f_program_of) rfl rfl ?_
  simp! only [f_program_of,b_program_of,start,List.replicate,List.append_nil,List.cons_append,List.nil_append,line,Int.reduceSub,Int.reduceAdd,Int.reduceMul,Int.reduceMod,Int.reduceDiv,List.length_map,List.length_append,and_self]
  refine ranges_t n (by omega) ⟨by omega, hr.ok⟩ ?_
  have h1 : ¬ (1000 : Int) < ts.length := by omega
  simp! only [h1,line,Int.reduceSub,Int.reduceAdd,Int.reduceMul,Int.reduceMod,Int.reduceDiv,List.length_map,List.length_append,and_self]
  refine fl_idx (I := poI rs ts st) ⟨[], _, _, rfl, rfl, rfl⟩ ?_ ?_
  · rintro ρ st' ⟨F, s3, s4, rfl, hF, rfl⟩
    rw [enumD_len, List.length_map, List.drop_length] at hF
    have hF : F = codeF rs 0 0 ts := by rw [← hF]; simp [codeF]
    subst hF
    have h2 : ¬ (4000 : Int) < ((codeF rs 0 0 ts).length + 1 : Nat) := by omega
    simp! only [line,Int.reduceSub,Int.reduceAdd,Int.reduceMul,Int.reduceMod,Int.reduceDiv,List.length_map,List.length_append,and_self]
    refine ⟨by omega, ?_⟩
    rw [if_neg (by omega)]
    unfold kept progW progD
    rw [List.map_append]
    rfl
  · rintro i x ρ st' hx ⟨F, s3, s4, rfl, hF, rfl⟩
    rw [enumD_get, List.getElem?_map] at hx
    cases hti : ts[i]? with
    | none => rw [hti] at hx; cases hx
    | some t =>
      rw [hti] at hx
      cases hx
      have hm := List.mem_of_getElem? hti
      have hft := hf t hm
      rw [drop_get hti, codeF] at hF
      simp! only [line,Int.reduceSub,Int.reduceAdd,Int.reduceMul,Int.reduceMod,Int.reduceDiv,List.length_map,List.length_append,and_self]
      refine (c_may_ring n hft st').mono fun q hq => ?_
      unfold kept at hq
      subst hq
      by_cases hmr : mayR t rs
      · rw [if_pos hmr] at hF
        have hmr2 : t.rest < (sumTo t.row rs (usedL t.row)).2 := hmr
        simp! only [hmr2,line,Int.reduceSub,Int.reduceAdd,Int.reduceMul,Int.reduceMod,Int.reduceDiv,List.length_map,List.length_append,and_self]
        refine (c_is_worded n hft st').mono fun q hq => ?_
        obtain ⟨b, rfl, hb⟩ := hq
        have hb : b = true := hb.mpr (hw t hm hmr)
        subst hb
        simp! only [line,Int.reduceSub,Int.reduceAdd,Int.reduceMul,Int.reduceMod,Int.reduceDiv,List.length_map,List.length_append,and_self]
        refine (c_test_code n (k := i) (s0 := F.length) hft st').mono fun q hq => ?_
        unfold kept at hq
        subst hq
        have hlen : F.length + (testC i t rs F.length).length ≤ 3999 := by
          have := congrArg List.length hF
          simp only [List.length_append] at this
          omega
        simp! only [line,Int.reduceSub,Int.reduceAdd,Int.reduceMul,Int.reduceMod,Int.reduceDiv,List.length_map,List.length_append,and_self]
        refine ⟨by omega, F ++ testC i t rs F.length, _, _, by rw [List.map_append], ?_, rfl⟩
        rw [List.length_append, List.append_assoc]
        exact hF
      · rw [if_neg hmr] at hF
        have hmr2 : ¬ t.rest < (sumTo t.row rs (usedL t.row)).2 := hmr
        simp! only [hmr2,line,Int.reduceSub,Int.reduceAdd,Int.reduceMul,Int.reduceMod,Int.reduceDiv,List.length_map,List.length_append,and_self]
        exact ⟨F, _, _, rfl, hF, rfl⟩
end K76
/-! TC: the program of tests has a chart. -/
namespace K76
open Sf
def At (is : List Ins) (p : Nat) (c : List Ins) : Prop := ∀ (j : Nat) x, c[j]? = some x → is[p + j]? = some x
theorem At.left {is : List Ins} {p : Nat} {a b : List Ins} (h : At is p (a ++ b)) : At is p a := fun j x hx => h j x (by
  rw [List.getElem?_append_left (List.getElem?_eq_some_iff.mp hx).1]; exact hx)
theorem At.right {is : List Ins} {p : Nat} {a b : List Ins} (h : At is p (a ++ b)) : At is (p + a.length) b := fun j x hx => by
  have := h (a.length + j) x (by rw [List.getElem?_append_right (by omega), Nat.add_sub_cancel_left]; exact hx)
  rw [← Nat.add_assoc] at this
  exact this
theorem At.tail {is : List Ins} {p : Nat} {i : Ins} {c : List Ins} (h : At is p (i :: c)) : is[p]? = some i ∧ At is (p + 1) c := ⟨h 0 i rfl, At.right (a := [i]) h⟩
def straight (i : Ins) : Prop := i ≠ .stop ∧ (∀ a b, i ≠ .skip a b) ∧ ∀ a, i ≠ .ring a
structure Cur (n : Nat) (ch : Chart) (p : Nat) (S : List Pr) (T : List Int) (b : Nat) (o : Option Entry) : Prop where
  len : ch.length = n
  here : (ch[p]?).join = some ⟨S, T⟩
  none : ∀ q, p < q → q ≠ b → (ch[q]?).join = none
  there : (ch[b]?).join = o
theorem adv1 {is : List Ins} {rs : List Pr} {n k p b : Nat} {ch : Chart} {S S' : List Pr} {T : List Int} {o : Option Entry} {i : Ins} (hc : Cur n ch p S T b o) (hi : is[p]? = some i) (hs : straight i) (hg : pgrown (pmade rs ⟨S, T⟩ i) = some S') (hn : p + 1 < n) (hb : p + 1 < b) :
    ∃ ch', chartLoop is rs (k + 1) p ch = chartLoop is rs k (p + 1) ch' ∧ Cur n ch' (p + 1) S' T b o := by
  have hl := hc.len
  refine ⟨ch.set (p + 1) (some ⟨S', T⟩), ?_, ?_⟩
  · rw [chartLoop, hc.here]
    simp only [hi]
    rw [outs_other hs, hg]
    simp only [Option.map_some,Option.bind_some,putAll]
    unfold putOne
    rw [show ((p : Int) + 1).toNat = p + 1 by omega, hc.none (p + 1) (by omega) (by omega)]
    rfl
  · refine ⟨by rw [List.length_set]; exact hl, ?_, fun q h1 h2 => ?_, ?_⟩
    · rw [set_get, if_pos ⟨rfl, by omega⟩]
    · rw [set_get, if_neg (by omega)]; exact hc.none q (by omega) h2
    · rw [set_get, if_neg (by omega)]; exact hc.there
def absRun (rs : List Pr) (T : List Int) : List Ins → List Pr → Option (List Pr)
  | [], S => some S
  | i :: r, S => (pgrown (pmade rs ⟨S, T⟩ i)).bind (absRun rs T r)
theorem absRun_app {rs : List Pr} {T : List Int} : ∀ {a b : List Ins} {S : List Pr}, absRun rs T (a ++ b) S = (absRun rs T a S).bind (absRun rs T b)
  | [], b, S => rfl
  | i :: a, b, S => by
    show (pgrown (pmade rs ⟨S, T⟩ i)).bind (absRun rs T (a ++ b)) = ((pgrown (pmade rs ⟨S, T⟩ i)).bind (absRun rs T a)).bind (absRun rs T b)
    cases pgrown (pmade rs ⟨S, T⟩ i) with
    | none => rfl
    | some s => exact absRun_app
theorem adv {is : List Ins} {rs : List Pr} {n k b : Nat} {T : List Int} {o : Option Entry} : ∀ {c : List Ins} {p : Nat} {ch : Chart} {S S' : List Pr}, Cur n ch p S T b o → At is p c → (∀ i ∈ c, straight i) → absRun rs T c S = some S' → p + c.length < n → p + c.length < b →
    ∃ ch', chartLoop is rs (k + c.length) p ch = chartLoop is rs k (p + c.length) ch' ∧ Cur n ch' (p + c.length) S' T b o
  | [], p, ch, S, S', hc, _, _, h, _, _ => by cases h; exact ⟨ch, rfl, hc⟩
  | i :: c, p, ch, S, S', hc, ha, hs, h, hn, hb => by
    rw [List.length_cons] at hn hb ⊢
    have h : (pgrown (pmade rs ⟨S, T⟩ i)).bind (absRun rs T c) = some S' := h
    cases hg : pgrown (pmade rs ⟨S, T⟩ i) with
    | none => rw [hg] at h; cases h
    | some S1 =>
      rw [hg] at h
      obtain ⟨c1, e1, k1⟩ := adv1 (k := k + c.length) hc ha.tail.1 (hs i List.mem_cons_self) hg (by omega) (by omega)
      obtain ⟨c2, e2, k2⟩ := adv (k := k) k1 ha.tail.2 (fun x hx => hs x (List.mem_cons_of_mem _ hx)) h (by omega) (by omega)
      refine ⟨c2, ?_, ?_⟩
      · rw [← Nat.add_assoc, e1, e2, Nat.add_comm c.length 1, Nat.add_assoc]
      · rw [Nat.add_comm c.length 1, ← Nat.add_assoc]; exact k2
def OS (o : Option Entry) : Prop := o = none ∨ ∃ T, o = some ⟨[], T⟩
theorem put_b {ch : Chart} {n b : Nat} {T : List Int} (hl : ch.length = n) (hb : b < n) (ho : OS (ch[b]?).join) : ∃ T', putOne ch ((b : Int), ⟨[], T⟩) = some (ch.set b (some ⟨[], T'⟩)) := by
  unfold putOne
  rw [Int.toNat_natCast]
  rcases ho with h | ⟨T0, h⟩
  · rw [h]; exact ⟨T, rfl⟩
  · rw [h]; exact ⟨_, rfl⟩
theorem adv_skip {is : List Ins} {rs : List Pr} {n k p b : Nat} {ch : Chart} {T : List Int} {o : Option Entry} {g : Int} (hc : Cur n ch p [] T b o) (ho : OS o) (hi : is[p]? = some (.skip g b)) (hn : b < n) (hb : p + 1 < b) :
    ∃ ch' o', chartLoop is rs (k + 1) p ch = chartLoop is rs k (p + 1) ch' ∧ Cur n ch' (p + 1) [] (tellD T g) b o' ∧ OS o' := by
  have hl := hc.len
  have hl2 : (ch.set (p + 1) (some (⟨[], tellD T g⟩ : Entry))).length = n := by rw [List.length_set]; exact hl
  have ho2 : OS (((ch.set (p + 1) (some (⟨[], tellD T g⟩ : Entry)))[b]?).join) := by rw [set_get, if_neg (by omega), hc.there]; exact ho
  obtain ⟨T', hT⟩ := put_b (T := T) hl2 hn ho2
  refine ⟨(ch.set (p + 1) (some ⟨[], tellD T g⟩)).set b (some ⟨[], T'⟩), some ⟨[], T'⟩, ?_, ?_, .inr ⟨T', rfl⟩⟩
  · rw [chartLoop, hc.here]
    simp only [hi]
    have eo : outs rs p ⟨[], T⟩ (.skip g b) = some [((p : Int) + 1, ⟨[], tellD T g⟩), ((b : Int), ⟨[], T⟩)] := rfl
    rw [eo]
    have e1 : putOne ch ((p : Int) + 1, ⟨[], tellD T g⟩) = some (ch.set (p + 1) (some ⟨[], tellD T g⟩)) := by
      unfold putOne
      rw [show ((p : Int) + 1).toNat = p + 1 by omega, hc.none (p + 1) (by omega) (by omega)]
    simp only [Option.bind_some,putAll,e1,hT]
  · refine ⟨by rw [List.length_set]; exact hl2, ?_, fun q h1 h2 => ?_, ?_⟩
    · rw [set_get, if_neg (by omega), set_get, if_pos ⟨rfl, by omega⟩]
    · rw [set_get, if_neg (by omega), set_get, if_neg (by omega)]; exact hc.none q (by omega) h2
    · rw [set_get, if_pos ⟨rfl, by rw [hl2]; exact hn⟩]
theorem tell_mem {T : List Int} {g x : Int} : x ∈ tellD T g ↔ x ∈ T ∨ x = g := by
  unfold tellD
  rw [sortSet_mem, List.mem_append, List.mem_singleton]
theorem adv_skips {is : List Ins} {rs : List Pr} {n k b : Nat} (hn : b < n) : ∀ {us : List Nat} {p : Nat} {ch : Chart} {T : List Int} {o : Option Entry}, Cur n ch p [] T b o → OS o → At is p (us.map fun (g : Nat) => Ins.skip g b) → p + us.length < b →
    ∃ ch' o' T', chartLoop is rs (k + us.length) p ch = chartLoop is rs k (p + us.length) ch' ∧ Cur n ch' (p + us.length) [] T' b o' ∧ OS o' ∧ (∀ x ∈ T, x ∈ T') ∧ ∀ g ∈ us, ((g : Nat) : Int) ∈ T'
  | [], p, ch, T, o, hc, ho, _, _ => ⟨ch, o, T, rfl, hc, ho, fun x h => h, fun g h => nomatch h⟩
  | g :: us, p, ch, T, o, hc, ho, ha, hb => by
    rw [List.length_cons] at hb ⊢
    obtain ⟨c1, o1, e1, k1, ho1⟩ := adv_skip (rs := rs) (k := k + us.length) hc ho ha.tail.1 hn (by omega)
    obtain ⟨c2, o2, T2, e2, k2, ho2, hT, hu⟩ := adv_skips (k := k) hn k1 ho1 ha.tail.2 (by omega)
    refine ⟨c2, o2, T2, ?_, ?_, ho2, fun x hx => hT x (tell_mem.mpr (.inl hx)), fun x hx => ?_⟩
    · rw [← Nat.add_assoc, e1, e2, Nat.add_comm us.length 1, Nat.add_assoc]
    · rw [Nat.add_comm us.length 1, ← Nat.add_assoc]; exact k2
    · rcases List.mem_cons.mp hx with rfl | hx
      · exact hT _ (tell_mem.mpr (.inr rfl))
      · exact hu x hx
theorem prod_le {a : Int} {p : Pr} : (prodP a p).1 ≤ (prodP a p).2 := by unfold prodP; simp only; omega
theorem sumTo_le {row : List Int} {rs : List Pr} : ∀ {us : List Nat}, (sumTo row rs us).1 ≤ (sumTo row rs us).2
  | [] => by unfold sumTo; simp
  | g :: us => by
    have h := sumTo_le (row := row) (rs := rs) (us := us)
    have h2 := prod_le (a := row.getD g 0) (p := rs.getD g (0, 0))
    unfold sumTo at h ⊢
    simp only [List.map_cons,List.sum_cons] at h ⊢
    omega
theorem rres_prod {a : Int} {p : Pr} : rres .times p (a, a) = prodP a p := by
  show (least4 p (a, a), most4 p (a, a)) = _
  have e1 := least_min p (a, a)
  have e2 := most_max p (a, a)
  unfold four minOf at e1
  unfold four maxOf at e2
  simp only [List.foldl_cons,List.foldl_nil,Option.some.injEq,Int.mul_comm p.1 a,Int.mul_comm p.2 a] at e1 e2
  rw [← e1, ← e2]
  unfold prodP
  ext
  · simp only; repeat' split
    all_goals omega
  · simp only; repeat' split
    all_goals omega
theorem pgrown_y {rest : List Pr} {p : Pr} (h : okR p) (h2 : rest.length ≤ 7) : pgrown (rest, some p) = some (rest ++ [p]) := if_pos ⟨h, h2⟩
theorem abs_one3 {t : WT} {rs : List Pr} {T : List Int} {g : Nat} {S : List Pr} (hg : ((g : Nat) : Int) ∈ T) (hr : okR (rs.getD g (0, 0))) (hp : w2 (prodG t rs g)) (hw : word (t.row.getD g 0)) (hS : S.length ≤ 6) : absRun rs T (one3 t.row g) S = some (S ++ [prodG t rs g]) := by
  unfold one3
  have e1 : pmade rs ⟨S, T⟩ (.reading g) = (S, some (rs.getD g (0, 0))) := by
    show (S, if ((g : Nat) : Int) ∈ T then some (rs.getD ((g : Nat) : Int).toNat (0, 0)) else none) = _
    rw [if_pos hg, Int.toNat_natCast]
  show (pgrown (pmade rs ⟨S, T⟩ (.reading g))).bind _ = _
  rw [e1, pgrown_y hr (by omega), Option.bind_some]
  show (pgrown (S ++ [rs.getD g (0, 0)], some (t.row.getD g 0, t.row.getD g 0))).bind _ = _
  rw [pgrown_y ⟨hw, hw, Int.le_refl _⟩ (by simp; omega), Option.bind_some]
  show (pgrown (pmade rs ⟨S ++ [rs.getD g (0, 0)] ++ [(t.row.getD g 0, t.row.getD g 0)], T⟩ .times)).bind _ = _
  rw [two_pmade rfl]
  simp only
  have hl : (S ++ [rs.getD g (0, 0)] ++ [(t.row.getD g 0, t.row.getD g 0)]).length = S.length + 2 := by simp
  rw [if_neg (by omega), hl]
  have t1 : (S ++ [rs.getD g (0, 0)] ++ [(t.row.getD g 0, t.row.getD g 0)]).take (S.length + 2 - 2) = S := by simp
  have t2 : (S ++ [rs.getD g (0, 0)] ++ [(t.row.getD g 0, t.row.getD g 0)]).getD (S.length + 2 - 2) (0, 0) = rs.getD g (0, 0) := by simp [List.getD]
  have t3 : (S ++ [rs.getD g (0, 0)] ++ [(t.row.getD g 0, t.row.getD g 0)]).getD (S.length + 2 - 1) (0, 0) = (t.row.getD g 0, t.row.getD g 0) := by simp [List.getD]
  rw [t1, t2, t3, rres_prod]
  have hpr : prodP (t.row.getD g 0) (rs.getD g (0, 0)) = prodG t rs g := rfl
  rw [hpr, pgrown_y ⟨hp.1, hp.2, prod_le⟩ (by omega)]
  rfl
theorem abs_parts {t : WT} {rs : List Pr} {T : List Int} {us : List Nat} (hT : ∀ g ∈ us, ((g : Nat) : Int) ∈ T) (hr : ∀ g ∈ us, okR (rs.getD g (0, 0))) (hw : ∀ g ∈ us, w2 (prodG t rs g) ∧ word (t.row.getD g 0)) (hs : ∀ j, j ≤ us.length → w2 (sumTo t.row rs (us.take j))) :
    ∀ i, i + 1 ≤ us.length → absRun rs T (parts t.row (us.take (i + 1))) [] = some [sumTo t.row rs (us.take (i + 1))]
  | 0, h => by
    cases us with
    | nil => simp at h
    | cons g r =>
      have := abs_one3 (t := t) (S := []) (hT g List.mem_cons_self) (hr g List.mem_cons_self) (hw g List.mem_cons_self).1 (hw g List.mem_cons_self).2 (by simp)
      simp only [List.take_succ_cons,List.take_zero,parts,List.flatMap_nil,List.append_nil]
      rw [this]
      simp [sumTo, prodG]
  | i + 1, h => by
    have hi : us[i + 1]? = some us[i + 1] := List.getElem?_eq_getElem (by omega)
    have hm := List.mem_of_getElem? hi
    generalize us[i + 1] = g at hi hm
    rw [take_one hi, parts_add, absRun_app, abs_parts hT hr hw hs i (by omega), Option.bind_some, absRun_app, abs_one3 (hT g hm) (hr g hm) (hw g hm).1 (hw g hm).2 (by simp), Option.bind_some]
    rw [if_neg (by rw [List.length_take]; omega)]
    show (pgrown (pmade rs ⟨[sumTo t.row rs (us.take (i + 1))] ++ [prodG t rs g], T⟩ .add)).bind _ = _
    rw [two_pmade rfl]
    have e : rres .add (sumTo t.row rs (us.take (i + 1))) (prodG t rs g) = sumTo t.row rs (us.take (i + 1) ++ [g]) := by rw [sumTo_add]; rfl
    have hws := hs (i + 2) (by omega)
    rw [take_one hi] at hws
    show (pgrown ([], some (rres .add (sumTo t.row rs (us.take (i + 1))) (prodG t rs g)))).bind _ = _
    rw [e, pgrown_y ⟨hws.1, hws.2, sumTo_le⟩ (by simp)]
    rfl
structure Rings (t : WT) (rs : List Pr) : Prop where
  fit : t.row.length ≤ rs.length
  may : mayR t rs
  worded : Worded t rs
theorem used_ok {t : WT} {rs : List Pr} (hf : t.row.length ≤ rs.length) (hr : ∀ p ∈ rs, okR p) : ∀ g ∈ usedL t.row, okR (rs.getD g (0, 0)) := fun g hg => pget_ok hr (by have := (used_lt hg).1; omega)
theorem abs_sum {t : WT} {rs : List Pr} {T : List Int} (h : Rings t rs) (hr : ∀ p ∈ rs, okR p) (hT : ∀ g ∈ usedL t.row, ((g : Nat) : Int) ∈ T) : absRun rs T (sumC t.row (usedL t.row)) [] = some [sumTo t.row rs (usedL t.row)] := by
  unfold sumC
  by_cases h0 : usedL t.row = []
  · rw [if_pos h0, h0]
    show (pgrown ([], some ((0 : Int), (0 : Int)))).bind _ = _
    rw [pgrown_y (by decide) (by simp)]
    rfl
  · rw [if_neg h0]
    have hl : 1 ≤ (usedL t.row).length := List.length_pos_iff.mpr h0
    have := abs_parts (t := t) hT (used_ok h.fit hr) h.worded.2 h.worded.1 ((usedL t.row).length - 1) (by omega)
    rw [show (usedL t.row).length - 1 + 1 = (usedL t.row).length by omega, List.take_length] at this
    exact this
theorem least_word {t : WT} {rs : List Pr} (h : Rings t rs) : word (leastOf t rs) := by
  have h1 := h.worded.1 (usedL t.row).length (Nat.le_refl _)
  rw [List.take_length] at h1
  have h2 : t.rest < (sumTo t.row rs (usedL t.row)).2 := h.may
  have h3 := sumTo_le (row := t.row) (rs := rs) (us := usedL t.row)
  unfold leastOf
  unfold w2 word at *
  omega
theorem abs_body {t : WT} {rs : List Pr} {T : List Int} (h : Rings t rs) (hr : ∀ p ∈ rs, okR p) (hT : ∀ g ∈ usedL t.row, ((g : Nat) : Int) ∈ T) : absRun rs T (sumC t.row (usedL t.row) ++ [.push (leastOf t rs), .least]) [] = some [((0 : Int), (1 : Int))] := by
  rw [absRun_app, abs_sum h hr hT, Option.bind_some]
  show (pgrown ([sumTo t.row rs (usedL t.row)], some (leastOf t rs, leastOf t rs))).bind _ = _
  rw [pgrown_y ⟨least_word h, least_word h, Int.le_refl _⟩ (by simp), Option.bind_some]
  show (pgrown ([], some ((0 : Int), (1 : Int)))).bind _ = _
  rw [pgrown_y (by decide) (by simp)]
  rfl
theorem straight_one3 {row : List Int} {g : Nat} : ∀ i ∈ one3 row g, straight i := fun i hi => by
  unfold one3 at hi
  simp only [List.mem_cons,List.not_mem_nil,or_false] at hi
  rcases hi with rfl | rfl | rfl <;> exact ⟨by simp, by simp, by simp⟩
theorem straight_sum {row : List Int} {us : List Nat} : ∀ i ∈ sumC row us, straight i := fun i hi => by
  unfold sumC at hi
  split at hi
  · rw [List.mem_singleton.mp hi]; exact ⟨by simp, by simp, by simp⟩
  · cases us with
    | nil => simp [parts] at hi
    | cons g r =>
      simp only [parts] at hi
      rcases List.mem_append.mp hi with hi | hi
      · exact straight_one3 i hi
      · obtain ⟨g', _, hi⟩ := List.mem_flatMap.mp hi
        rcases List.mem_append.mp hi with hi | hi
        · exact straight_one3 i hi
        · rw [List.mem_singleton.mp hi]; exact ⟨by simp, by simp, by simp⟩
structure Start (n : Nat) (ch : Chart) (p : Nat) : Prop where
  len : ch.length = n
  here : ∃ T, (ch[p]?).join = some ⟨[], T⟩
  none : ∀ q, p < q → (ch[q]?).join = none
theorem test_chart {is : List Ins} {rs : List Pr} {n k f p : Nat} {t : WT} {ch : Chart} (h : Rings t rs) (hr : ∀ p ∈ rs, okR p) (hs : Start n ch p) (ha : At is p (testC k t rs p)) (hn : p + (testC k t rs p).length < n) :
    ∃ ch', chartLoop is rs (f + (testC k t rs p).length) p ch = chartLoop is rs f (p + (testC k t rs p).length) ch' ∧ Start n ch' (p + (testC k t rs p).length) := by
  obtain ⟨T, hT⟩ := hs.here
  have hbl : (bodyC k t rs).length = (sumC t.row (usedL t.row)).length + 3 := by simp [bodyC]
  have hlen : (testC k t rs p).length = (usedL t.row).length + (bodyC k t rs).length := by simp [testC]
  generalize hB : p + (usedL t.row).length + (bodyC k t rs).length = B
  have hBn : p + (testC k t rs p).length = B := by omega
  have hat : At is p (((usedL t.row).map fun (g : Nat) => Ins.skip g (B : Nat)) ++ bodyC k t rs) := by
    unfold testC at ha
    rw [hB] at ha
    exact ha
  have hc : Cur n ch p [] T B none := ⟨hs.len, hT, fun q h1 _ => hs.none q h1, hs.none B (by omega)⟩
  obtain ⟨c1, o1, T1, e1, k1, ho1, _, hu⟩ := adv_skips (rs := rs) (k := f + (bodyC k t rs).length) (by omega) hc (.inl rfl) hat.left (by omega)
  have hbody := hat.right
  rw [List.length_map] at hbody
  have hbs : bodyC k t rs = (sumC t.row (usedL t.row) ++ [.push (leastOf t rs), .least]) ++ [.ring k] := by simp [bodyC]
  rw [hbs] at hbody
  have hll : (sumC t.row (usedL t.row) ++ [Ins.push (leastOf t rs), .least]).length = (sumC t.row (usedL t.row)).length + 2 := by simp
  obtain ⟨c2, e2, k2⟩ := adv (rs := rs) (k := f + 1) k1 hbody.left (fun i hi => by
    rcases List.mem_append.mp hi with hi | hi
    · exact straight_sum i hi
    · simp only [List.mem_cons,List.not_mem_nil,or_false] at hi
      rcases hi with rfl | rfl <;> exact ⟨by simp, by simp, by simp⟩) (abs_body h hr hu) (by omega) (by omega)
  have hring := hbody.right.tail.1
  rw [hll] at hring e2 k2
  generalize hP : p + (usedL t.row).length + ((sumC t.row (usedL t.row)).length + 2) = P at hring e2 k2
  have hPB : P + 1 = B := by omega
  have ho2 : OS ((c2[B]?).join) := by rw [k2.there]; exact ho1
  obtain ⟨T', hput⟩ := put_b (T := T1) k2.len (by omega : B < n) ho2
  refine ⟨c2.set B (some ⟨[], T'⟩), ?_, ?_⟩
  · rw [hlen, hB.symm.trans (by omega : _ = p + ((usedL t.row).length + (bodyC k t rs).length))] at *
    rw [show f + ((usedL t.row).length + (bodyC k t rs).length) = f + (bodyC k t rs).length + (usedL t.row).length by omega, e1]
    rw [show f + (bodyC k t rs).length = f + 1 + ((sumC t.row (usedL t.row)).length + 2) by omega, e2]
    rw [chartLoop, k2.here]
    simp only [hring]
    have eo : outs rs P ⟨[((0 : Int), (1 : Int))], T1⟩ (.ring k) = some [((P : Int) + 1, ⟨[], T1⟩)] := rfl
    rw [eo]
    have eP : (P : Int) + 1 = ((P + 1 : Nat) : Int) := by omega
    rw [eP, hPB]
    simp only [Option.bind_some,putAll,hput]
  · rw [hBn]
    refine ⟨by rw [List.length_set]; exact k2.len, ⟨T', ?_⟩, fun q hq => ?_⟩
    · rw [set_get, if_pos ⟨rfl, by rw [k2.len]; omega⟩]
    · rw [set_get, if_neg (by omega)]
      exact k2.none q (by omega) (by omega)
theorem tests_chart {is : List Ins} {rs : List Pr} {n : Nat} (hr : ∀ p ∈ rs, okR p) (hn : is.length = n) : ∀ {ts : List WT} {k p : Nat} {ch : Chart}, (∀ t ∈ ts, mayR t rs → Rings t rs) → Start n ch p → At is p (codeF rs k p ts ++ [.stop]) → p + (codeF rs k p ts).length + 1 = n → ∃ ch', chartLoop is rs (n - p) p ch = some ch'
  | [], k, p, ch, _, hs, ha, hl => by
    have hl : p + 0 + 1 = n := hl
    have ha : At is p [.stop] := ha
    obtain ⟨T, hT⟩ := hs.here
    rw [show n - p = 0 + 1 by omega, chartLoop, hT]
    simp only [ha.tail.1]
    exact ⟨ch, rfl⟩
  | t :: ts, k, p, ch, hw, hs, ha, hl => by
    have hw' : ∀ t ∈ ts, mayR t rs → Rings t rs := fun x hx => hw x (List.mem_cons_of_mem _ hx)
    rw [codeF] at ha hl
    by_cases hm : mayR t rs
    · rw [if_pos hm] at ha hl
      rw [List.append_assoc] at ha
      rw [List.length_append] at hl
      obtain ⟨c1, e1, k1⟩ := test_chart (f := n - (p + (testC k t rs p).length)) (hw t List.mem_cons_self hm) hr hs ha.left (by omega)
      obtain ⟨c2, e2⟩ := tests_chart hr hn hw' k1 ha.right (by omega)
      exact ⟨c2, by rw [show n - p = n - (p + (testC k t rs p).length) + (testC k t rs p).length by omega, e1, e2]⟩
    · rw [if_neg hm] at ha hl
      exact tests_chart hr hn hw' hs ha hl
theorem prog_chart {rs : List Pr} {ts : List WT} (hr : ∀ p ∈ rs, okR p) (hw : ∀ t ∈ ts, mayR t rs → Rings t rs) : ∃ ch, chartR (progW rs ts) rs = some ch := by
  unfold chartR
  have hl : (progW rs ts).length = (codeF rs 0 0 ts).length + 1 := by simp [progW]
  have := tests_chart (is := progW rs ts) (n := (progW rs ts).length) hr rfl (ts := ts) (k := 0) (p := 0) (ch := ch0 (progW rs ts).length) hw ⟨(ch0_ok (g := 0) (by omega)).len, ⟨[], rfl⟩, fun q hq => by
    unfold ch0
    obtain ⟨m, rfl⟩ : ∃ m, q = m + 1 := ⟨q - 1, by omega⟩
    rw [List.getElem?_cons_succ]
    by_cases h : m < (progW rs ts).length - 1
    · rw [List.getElem?_replicate, if_pos h]; rfl
    · rw [List.getElem?_replicate, if_neg h]; rfl⟩ (fun j x hx => by rw [Nat.zero_add]; exact hx) (by omega)
  rw [Nat.sub_zero] at this
  exact this
end K76
/-! TD: the program of tests rings with the first test that is broken. -/
namespace K76
open Sf
abbrev Turn := List (Option Int)
def turnAt (t : Turn) (g : Nat) : Option Int := (t[g]?).join
theorem on1 {is : List Ins} {t : Turn} {f p : Nat} {s : List Int} {acc : List D} {i : Ins} {x : Int} {rest : List Int} (hi : is[p]? = some i) (hs : straight i) (hm : made t s i = (rest, some x)) (hw : word x) (hl : rest.length ≤ 7) :
    loop is t (f + 1) p s acc = loop is t f (p + 1) (rest ++ [x]) (acc ++ [stD p s]) := by
  have e : step t p s i = .on ((p : Int) + 1) (rest ++ [x]) := by
    rw [step_other hs, hm, push1_some, if_pos ⟨hw, hl⟩]
  rw [loop_on hi e]
  congr 1
def conRun (t : Turn) : List Ins → List Int → Option (List Int)
  | [], s => some s
  | i :: r, s => match made t s i with
    | (rest, some x) => if word x ∧ rest.length ≤ 7 then conRun t r (rest ++ [x]) else none
    | _ => none
theorem conRun_one {t : Turn} {i : Ins} {r : List Ins} {s rest : List Int} {x : Int} (h : made t s i = (rest, some x)) (hw : word x) (hl : rest.length ≤ 7) : conRun t (i :: r) s = conRun t r (rest ++ [x]) := by
  rw [conRun, h]
  exact if_pos ⟨hw, hl⟩
theorem conRun_app {t : Turn} : ∀ {a b : List Ins} {s s' : List Int}, conRun t a s = some s' → conRun t (a ++ b) s = conRun t b s'
  | [], b, s, s', h => by cases h; rfl
  | i :: a, b, s, s', h => by
    rw [conRun] at h
    show conRun t (i :: (a ++ b)) s = _
    rw [conRun]
    split at h
    · rename_i rest x e
      split at h
      · rename_i hw
        rw [if_pos hw]
        exact conRun_app h
      · cases h
    · cases h
theorem run_con {is : List Ins} {t : Turn} {f : Nat} : ∀ {c : List Ins} {p : Nat} {s s' : List Int} {acc : List D}, At is p c → (∀ i ∈ c, straight i) → conRun t c s = some s' → ∃ acc', loop is t (f + c.length) p s acc = loop is t f (p + c.length) s' acc'
  | [], p, s, s', acc, _, _, h => by cases h; exact ⟨acc, rfl⟩
  | i :: c, p, s, s', acc, ha, hs, h => by
    rw [conRun] at h
    split at h
    · rename_i rest x e
      split at h
      · rename_i hw
        have e1 := on1 (t := t) (f := f + c.length) (acc := acc) ha.tail.1 (hs i List.mem_cons_self) e hw.1 hw.2
        obtain ⟨acc', e2⟩ := run_con (f := f) (acc := acc ++ [stD p s]) ha.tail.2 (fun x hx => hs x (List.mem_cons_of_mem _ hx)) h
        refine ⟨acc', ?_⟩
        rw [List.length_cons, ← Nat.add_assoc, e1, e2, Nat.add_comm c.length 1, Nat.add_assoc]
      · cases h
    · cases h
/-- the sum of what gauges tell, by a test -/
def valG (t : Turn) (row : List Int) (g : Nat) : Int := row.getD g 0 * (turnAt t g).getD 0
def sumV (t : Turn) (row : List Int) (us : List Nat) : Int := (us.map (valG t row)).sum
theorem sumV_add {t : Turn} {row : List Int} {us : List Nat} {g : Nat} : sumV t row (us ++ [g]) = sumV t row us + valG t row g := by
  unfold sumV; simp [List.sum_append]
theorem lin {a lo hi y : Int} (h1 : lo ≤ y) (h2 : y ≤ hi) : (a * lo ≤ a * y ∧ a * y ≤ a * hi) ∨ (a * hi ≤ a * y ∧ a * y ≤ a * lo) := by
  by_cases h : 0 ≤ a
  · exact .inl ⟨Int.mul_le_mul_of_nonneg_left h1 h, Int.mul_le_mul_of_nonneg_left h2 h⟩
  · exact .inr ⟨Int.mul_le_mul_of_nonpos_left (by omega) h2, Int.mul_le_mul_of_nonpos_left (by omega) h1⟩
theorem prod_in {a v : Int} {p : Pr} (h : p.1 ≤ v ∧ v ≤ p.2) : (prodP a p).1 ≤ a * v ∧ a * v ≤ (prodP a p).2 := by
  have := lin (a := a) h.1 h.2
  unfold prodP
  simp only
  omega
theorem sumV_in {t : Turn} {w : WT} {rs : List Pr} : ∀ {us : List Nat}, (∀ g ∈ us, ∃ v, turnAt t g = some v ∧ (rs.getD g (0, 0)).1 ≤ v ∧ v ≤ (rs.getD g (0, 0)).2) → (sumTo w.row rs us).1 ≤ sumV t w.row us ∧ sumV t w.row us ≤ (sumTo w.row rs us).2
  | [], _ => by unfold sumTo sumV; simp
  | g :: us, h => by
    have ih := sumV_in (w := w) (us := us) fun x hx => h x (List.mem_cons_of_mem _ hx)
    obtain ⟨v, hv, h1⟩ := h g List.mem_cons_self
    have h2 := prod_in (a := w.row.getD g 0) h1
    have e : valG t w.row g = w.row.getD g 0 * v := by unfold valG; rw [hv]; rfl
    unfold sumTo sumV at ih ⊢
    simp only [List.map_cons,List.sum_cons] at ih ⊢
    rw [e]
    omega
/-- what is told is within the ranges -/
def Told (t : Turn) (rs : List Pr) (us : List Nat) : Prop := ∀ g ∈ us, ∃ v, turnAt t g = some v ∧ (rs.getD g (0, 0)).1 ≤ v ∧ v ≤ (rs.getD g (0, 0)).2
theorem con_one3 {t : Turn} {w : WT} {rs : List Pr} {g : Nat} {s : List Int} {v : Int} (hv : turnAt t g = some v) (hin : (rs.getD g (0, 0)).1 ≤ v ∧ v ≤ (rs.getD g (0, 0)).2) (hr : okR (rs.getD g (0, 0))) (hp : w2 (prodG w rs g)) (hw : word (w.row.getD g 0)) (hS : s.length ≤ 6) : conRun t (one3 w.row g) s = some (s ++ [valG t w.row g]) := by
  unfold one3
  have e1 : made t s (.reading g) = (s, some v) := by
    show (s, (t[((g : Nat) : Int).toNat]?).join) = _
    rw [Int.toNat_natCast]
    exact congrArg _ hv
  have wv : word v := by
    obtain ⟨a, b, c⟩ := hr
    unfold word at *; omega
  rw [conRun_one e1 wv (by omega)]
  rw [conRun_one (rest := s ++ [v]) (x := w.row.getD g 0) rfl hw (by simp; omega)]
  have e3 : made t (s ++ [v] ++ [w.row.getD g 0]) .times = (s, some (valG t w.row g)) := by
    rw [two_made rfl]
    have hl : (s ++ [v] ++ [w.row.getD g 0]).length = s.length + 2 := by simp
    rw [if_neg (by omega), hl]
    have t1 : (s ++ [v] ++ [w.row.getD g 0]).take (s.length + 2 - 2) = s := by simp
    have t2 : (s ++ [v] ++ [w.row.getD g 0]).getD (s.length + 2 - 2) 0 = v := by simp [List.getD]
    have t3 : (s ++ [v] ++ [w.row.getD g 0]).getD (s.length + 2 - 1) 0 = w.row.getD g 0 := by simp [List.getD]
    rw [t1, t2, t3]
    unfold valG
    rw [hv]
    show (s, some (v * w.row.getD g 0)) = _
    rw [Int.mul_comm]; rfl
  have hval : word (valG t w.row g) := by
    have := prod_in (a := w.row.getD g 0) hin
    have e : valG t w.row g = w.row.getD g 0 * v := by unfold valG; rw [hv]; rfl
    rw [e]
    obtain ⟨a, b⟩ := hp
    unfold prodG at a b
    unfold word at *
    omega
  rw [conRun_one e3 hval (by omega)]
  rfl
theorem con_parts {t : Turn} {w : WT} {rs : List Pr} {us : List Nat} (ht : Told t rs us) (hr : ∀ g ∈ us, okR (rs.getD g (0, 0))) (hw : ∀ g ∈ us, w2 (prodG w rs g) ∧ word (w.row.getD g 0)) (hs : ∀ j, j ≤ us.length → w2 (sumTo w.row rs (us.take j))) :
    ∀ i, i + 1 ≤ us.length → conRun t (parts w.row (us.take (i + 1))) [] = some [sumV t w.row (us.take (i + 1))]
  | 0, h => by
    cases us with
    | nil => simp at h
    | cons g r =>
      obtain ⟨v, hv, hin⟩ := ht g List.mem_cons_self
      have := con_one3 (w := w) (s := []) hv hin (hr g List.mem_cons_self) (hw g List.mem_cons_self).1 (hw g List.mem_cons_self).2 (by simp)
      simp only [List.take_succ_cons,List.take_zero,parts,List.flatMap_nil,List.append_nil]
      rw [this]
      simp [sumV]
  | i + 1, h => by
    have hi : us[i + 1]? = some us[i + 1] := List.getElem?_eq_getElem (by omega)
    have hm := List.mem_of_getElem? hi
    generalize us[i + 1] = g at hi hm
    obtain ⟨v, hv, hin⟩ := ht g hm
    rw [take_one hi, parts_add, conRun_app (con_parts ht hr hw hs i (by omega)), conRun_app (con_one3 hv hin (hr g hm) (hw g hm).1 (hw g hm).2 (by simp))]
    rw [if_neg (by rw [List.length_take]; omega)]
    have hws := hs (i + 2) (by omega)
    have hin2 := sumV_in (t := t) (w := w) (rs := rs) (us := us.take (i + 2)) fun g hg => ht g (List.mem_of_mem_take hg)
    rw [take_one hi] at hws hin2
    rw [sumV_add] at hin2 ⊢
    have hwd : word (sumV t w.row (us.take (i + 1)) + valG t w.row g) := by
      obtain ⟨a, b⟩ := hws
      unfold word at *
      omega
    rw [conRun_one (rest := []) (x := sumV t w.row (us.take (i + 1)) + valG t w.row g) rfl hwd (by simp)]
    rfl
theorem con_sum {t : Turn} {w : WT} {rs : List Pr} (h : Rings w rs) (hr : ∀ p ∈ rs, okR p) (ht : Told t rs (usedL w.row)) : conRun t (sumC w.row (usedL w.row)) [] = some [sumV t w.row (usedL w.row)] := by
  unfold sumC
  by_cases h0 : usedL w.row = []
  · rw [if_pos h0, h0, conRun_one (rest := []) (x := 0) rfl (by decide) (by simp)]
    rfl
  · rw [if_neg h0]
    have hl : 1 ≤ (usedL w.row).length := List.length_pos_iff.mpr h0
    have := con_parts (w := w) ht (used_ok h.fit hr) h.worded.2 h.worded.1 ((usedL w.row).length - 1) (by omega)
    rw [show (usedL w.row).length - 1 + 1 = (usedL w.row).length by omega, List.take_length] at this
    exact this
theorem con_body {t : Turn} {w : WT} {rs : List Pr} (h : Rings w rs) (hr : ∀ p ∈ rs, okR p) (ht : Told t rs (usedL w.row)) : conRun t (sumC w.row (usedL w.row) ++ [.push (leastOf w rs), .least]) [] = some [if leastOf w rs ≤ sumV t w.row (usedL w.row) then 1 else 0] := by
  rw [conRun_app (con_sum h hr ht)]
  rw [conRun_one (rest := [sumV t w.row (usedL w.row)]) (x := leastOf w rs) rfl (least_word h) (by simp)]
  have e : made t ([sumV t w.row (usedL w.row)] ++ [leastOf w rs]) .least = ([], some (if leastOf w rs ≤ sumV t w.row (usedL w.row) then 1 else 0)) := rfl
  rw [conRun_one e (by split <;> decide) (by simp)]
  rfl
/-- a test is broken by a turn -/
def breaksT (t : Turn) (w : WT) : Prop := (∀ g ∈ usedL w.row, turnAt t g ≠ none) ∧ w.rest < sumV t w.row (usedL w.row)
instance (t : Turn) (w : WT) : Decidable (breaksT t w) := inferInstanceAs (Decidable (_ ∧ _))
theorem skip_on {is : List Ins} {t : Turn} {f p b g : Nat} {acc : List D} (hi : is[p]? = some (.skip g b)) : loop is t (f + 1) p [] acc = loop is t f (if turnAt t g = none then b else p + 1) [] (acc ++ [stD p []]) := by
  have e : step t p [] (.skip g b) = .on (if (t[((g : Nat) : Int).toNat]?).join = none then (b : Int) else (p : Int) + 1) [] := rfl
  rw [loop_on hi e, Int.toNat_natCast]
  by_cases h : turnAt t g = none
  · have h2 : (t[g]?).join = none := h
    rw [if_pos h, if_pos h2]
    rfl
  · have h2 : ¬ (t[g]?).join = none := h
    rw [if_neg h, if_neg h2]
    rfl
theorem skips_on {is : List Ins} {t : Turn} {b n : Nat} : ∀ {us : List Nat} {f p : Nat} {acc : List D}, At is p (us.map fun (g : Nat) => Ins.skip g b) → p + us.length < b → b < n → n ≤ p + f →
    ∃ f' acc', ((∀ g ∈ us, turnAt t g ≠ none) ∧ n ≤ p + us.length + f' ∧ loop is t f p [] acc = loop is t f' (p + us.length) [] acc') ∨ ((∃ g ∈ us, turnAt t g = none) ∧ n ≤ b + f' ∧ loop is t f p [] acc = loop is t f' b [] acc')
  | [], f, p, acc, _, _, _, hf => ⟨f, acc, .inl ⟨fun g h => (nomatch h), hf, rfl⟩⟩
  | g :: us, f, p, acc, ha, hb, hn, hf => by
    rw [List.length_cons] at hb ⊢
    obtain ⟨f0, rfl⟩ : ∃ f0, f = f0 + 1 := ⟨f - 1, by omega⟩
    have e1 := skip_on (t := t) (f := f0) (acc := acc) ha.tail.1
    by_cases h : turnAt t g = none
    · rw [if_pos h] at e1
      exact ⟨f0, _, .inr ⟨⟨g, List.mem_cons_self, h⟩, by omega, e1⟩⟩
    · rw [if_neg h] at e1
      obtain ⟨f', acc', h2⟩ := skips_on (n := n) (f := f0) (acc := acc ++ [stD p []]) ha.tail.2 (by omega) hn (by omega)
      refine ⟨f', acc', ?_⟩
      rcases h2 with ⟨a, b, c⟩ | ⟨⟨g', a, a'⟩, b, c⟩
      · refine .inl ⟨fun x hx => ?_, by omega, by rw [e1, c, Nat.add_comm us.length 1, Nat.add_assoc]⟩
        rcases List.mem_cons.mp hx with rfl | hx
        · exact h
        · exact a x hx
      · exact .inr ⟨⟨g', List.mem_cons_of_mem _ a, a'⟩, b, by rw [e1, c]⟩
/-- what is told is within the ranges -/
def TurnOk (t : Turn) (rs : List Pr) : Prop := ∀ (g : Nat) v, turnAt t g = some v → (rs.getD g (0, 0)).1 ≤ v ∧ v ≤ (rs.getD g (0, 0)).2
theorem test_run {is : List Ins} {rs : List Pr} {n k f p : Nat} {w : WT} {t : Turn} {acc : List D} (h : Rings w rs) (hr : ∀ p ∈ rs, okR p) (ht : TurnOk t rs) (ha : At is p (testC k w rs p)) (hn : p + (testC k w rs p).length < n) (hf : n ≤ p + f) :
    (breaksT t w ∧ (loop is t f p [] acc).2 = rings k) ∨ (¬ breaksT t w ∧ ∃ f' acc', n ≤ p + (testC k w rs p).length + f' ∧ loop is t f p [] acc = loop is t f' (p + (testC k w rs p).length) [] acc') := by
  have hbl : (bodyC k w rs).length = (sumC w.row (usedL w.row)).length + 3 := by simp [bodyC]
  have hlen : (testC k w rs p).length = (usedL w.row).length + (bodyC k w rs).length := by simp [testC]
  generalize hB : p + (usedL w.row).length + (bodyC k w rs).length = B
  have hBn : p + (testC k w rs p).length = B := by omega
  have hat : At is p (((usedL w.row).map fun (g : Nat) => Ins.skip g (B : Nat)) ++ bodyC k w rs) := by
    unfold testC at ha
    rw [hB] at ha
    exact ha
  rw [hBn]
  obtain ⟨f1, acc1, h1⟩ := skips_on (t := t) (n := n) (f := f) (acc := acc) hat.left (by omega) (by omega) hf
  rcases h1 with ⟨hall, hf1, e1⟩ | ⟨⟨g, hg, hgn⟩, hf1, e1⟩
  · have htold : Told t rs (usedL w.row) := fun g hg => by
      cases hv : turnAt t g with
      | none => exact absurd hv (hall g hg)
      | some v => exact ⟨v, rfl, ht g v hv⟩
    have hbody := hat.right
    rw [List.length_map] at hbody
    have hbs : bodyC k w rs = (sumC w.row (usedL w.row) ++ [.push (leastOf w rs), .least]) ++ [.ring k] := by simp [bodyC]
    rw [hbs] at hbody
    have hll : (sumC w.row (usedL w.row) ++ [Ins.push (leastOf w rs), .least]).length = (sumC w.row (usedL w.row)).length + 2 := by simp
    obtain ⟨acc2, e2⟩ := run_con (f := f1 - ((sumC w.row (usedL w.row)).length + 2)) (acc := acc1) hbody.left (fun i hi => by
      rcases List.mem_append.mp hi with hi | hi
      · exact straight_sum i hi
      · simp only [List.mem_cons,List.not_mem_nil,or_false] at hi
        rcases hi with rfl | rfl <;> exact ⟨by simp, by simp, by simp⟩) (con_body h hr htold)
    have hring := hbody.right.tail.1
    rw [hll] at hring e2
    rw [show f1 - ((sumC w.row (usedL w.row)).length + 2) + ((sumC w.row (usedL w.row)).length + 2) = f1 by omega] at e2
    obtain ⟨f3, hf3⟩ : ∃ f3, f1 - ((sumC w.row (usedL w.row)).length + 2) = f3 + 1 := ⟨f1 - ((sumC w.row (usedL w.row)).length + 2) - 1, by omega⟩
    rw [hf3] at e2
    generalize hP : p + (usedL w.row).length + ((sumC w.row (usedL w.row)).length + 2) = P at hring e2
    have hin := sumV_in (t := t) (w := w) (rs := rs) htold
    rw [e1, e2]
    by_cases hbr : w.rest < sumV t w.row (usedL w.row)
    · refine .inl ⟨⟨hall, hbr⟩, ?_⟩
      have hle : leastOf w rs ≤ sumV t w.row (usedL w.row) := by unfold leastOf; omega
      rw [if_pos hle]
      have es : step t P [1] (.ring k) = .fin (rings k) := rfl
      rw [loop_fin hring es]
    · refine .inr ⟨fun q => hbr q.2, f3, ?_⟩
      have hle : ¬ leastOf w rs ≤ sumV t w.row (usedL w.row) := by unfold leastOf; omega
      rw [if_neg hle]
      have es : step t P [0] (.ring k) = .on ((P : Int) + 1) [] := rfl
      rw [loop_on hring es]
      refine ⟨acc2 ++ [stD P [0]], by omega, ?_⟩
      have : ((P : Int) + 1).toNat = B := by omega
      rw [this]
  · exact .inr ⟨fun q => q.1 g hg hgn, f1, acc1, hf1, e1⟩
/-- the first test that is broken, the first of them the k-th -/
def firstB (t : Turn) : Nat → List WT → Option Nat
  | _, [] => none
  | k, w :: r => if breaksT t w then some k else firstB t (k + 1) r
def toldR : Option Nat → D
  | none => silent
  | some k => rings (k : Int)
theorem not_may {t : Turn} {w : WT} {rs : List Pr} (ht : TurnOk t rs) (hm : ¬ mayR w rs) : ¬ breaksT t w := by
  rintro ⟨h1, h2⟩
  have hin := sumV_in (t := t) (w := w) (rs := rs) (us := usedL w.row) fun g hg => by
    cases hv : turnAt t g with
    | none => exact absurd hv (h1 g hg)
    | some v => exact ⟨v, rfl, ht g v hv⟩
  have hm : ¬ w.rest < (sumTo w.row rs (usedL w.row)).2 := hm
  omega
theorem tests_run {is : List Ins} {rs : List Pr} {n : Nat} {t : Turn} (hr : ∀ p ∈ rs, okR p) (ht : TurnOk t rs) : ∀ {ts : List WT} {k p f : Nat} {acc : List D}, (∀ w ∈ ts, mayR w rs → Rings w rs) → At is p (codeF rs k p ts ++ [.stop]) → p + (codeF rs k p ts).length + 1 = n → n ≤ p + f → (loop is t f p [] acc).2 = toldR (firstB t k ts)
  | [], k, p, f, acc, _, ha, hl, hf => by
    have hl : p + 0 + 1 = n := hl
    have ha : At is p [.stop] := ha
    obtain ⟨f0, rfl⟩ : ∃ f0, f = f0 + 1 := ⟨f - 1, by omega⟩
    have es : step t p [] .stop = .fin silent := rfl
    rw [loop_fin ha.tail.1 es]
    rfl
  | w :: ts, k, p, f, acc, hw, ha, hl, hf => by
    have hw' : ∀ t ∈ ts, mayR t rs → Rings t rs := fun x hx => hw x (List.mem_cons_of_mem _ hx)
    rw [codeF] at ha hl
    rw [firstB]
    by_cases hm : mayR w rs
    · rw [if_pos hm] at ha hl
      rw [List.append_assoc] at ha
      rw [List.length_append] at hl
      rcases test_run (t := t) (n := n) (f := f) (acc := acc) (hw w List.mem_cons_self hm) hr ht ha.left (by omega) hf with ⟨hb, e⟩ | ⟨hb, f', acc', hf', e⟩
      · rw [if_pos hb]; exact e
      · rw [if_neg hb, e]
        exact tests_run hr ht hw' ha.right (by omega) hf'
    · rw [if_neg hm] at ha hl
      rw [if_neg (not_may ht hm)]
      exact tests_run hr ht hw' ha hl hf
theorem prog_run {rs : List Pr} {ts : List WT} {t : Turn} (hr : ∀ p ∈ rs, okR p) (ht : TurnOk t rs) (hw : ∀ w ∈ ts, mayR w rs → Rings w rs) : (loop (progW rs ts) t (progW rs ts).length 0 [] []).2 = toldR (firstB t 0 ts) := by
  have hl : (progW rs ts).length = (codeF rs 0 0 ts).length + 1 := by simp [progW]
  exact tests_run (n := (progW rs ts).length) hr ht hw (fun j x hx => by rw [Nat.zero_add]; exact hx) (by omega) (by omega)
end K76
/-! TE: a place of a chart is come to; the program of tests is good. -/
namespace K76
open Sf
theorem putOne_new {ch c : Chart} {q : Int × Entry} {k : Nat} (e : putOne ch q = some c) (h : (c[k]?).join ≠ none) : (ch[k]?).join ≠ none ∨ q.1.toNat = k := by
  by_cases hk : q.1.toNat = k
  · exact .inr hk
  · left
    unfold putOne at e
    split at e
    · split at e
      · cases e
        rw [set_get, if_neg (fun h => hk h.1)] at h
        exact h
      · cases e
    · cases e
      rw [set_get, if_neg (fun h => hk h.1)] at h
      exact h
theorem putAll_new {k : Nat} : ∀ {l : List (Int × Entry)} {ch c : Chart}, putAll ch l = some c → (c[k]?).join ≠ none → (ch[k]?).join ≠ none ∨ ∃ q ∈ l, q.1.toNat = k
  | [], ch, c, e, h => by cases e; exact .inl h
  | q :: r, ch, c, e, h => by
    have e : (putOne ch q).bind (fun c => putAll c r) = some c := e
    cases h1 : putOne ch q with
    | none => rw [h1] at e; cases e
    | some c1 =>
      rw [h1] at e
      rcases putAll_new e h with a | ⟨x, hx, hk⟩
      · rcases putOne_new h1 a with b | b
        · exact .inl b
        · exact .inr ⟨q, List.mem_cons_self, b⟩
      · exact .inr ⟨x, List.mem_cons_of_mem _ hx, hk⟩
def FromP (is : List Ins) (rs : List Pr) (c : Chart) (k : Nat) : Prop := ∃ (j : Nat) (e : Entry) (i : Ins) (l : List (Int × Entry)), (c[j]?).join = some e ∧ is[j]? = some i ∧ outs rs j e i = some l ∧ ∃ q ∈ l, q.1.toNat = k
theorem loop_new {is : List Ins} {rs : List Pr} {g x : Nat} (hg : Good is g) : ∀ {k p : Nat} {ch c : Chart}, p + k = is.length → ChOk is.length g ch → chartLoop is rs k p ch = some c → (c[x]?).join ≠ none → (ch[x]?).join ≠ none ∨ FromP is rs c x
  | 0, p, ch, c, hp, _, e, h => by cases e; exact .inl h
  | k + 1, p, ch, c, hp, hc, e, h => by
    have e0 := e
    rw [chartLoop] at e
    cases h1 : (ch[p]?).join with
    | none => rw [h1] at e; exact loop_new hg (by omega) hc e h
    | some en =>
      rw [h1] at e
      simp only at e
      cases h2 : is[p]? with
      | none => rw [h2] at e; cases e
      | some i =>
        rw [h2] at e
        simp only at e
        have he := hc.get h1
        cases h3 : outs rs p en i with
        | none => rw [h3] at e; cases e
        | some l =>
          rw [h3] at e
          simp only [Option.bind_some] at e
          cases h4 : putAll ch l with
          | none => rw [h4] at e; cases e
          | some c1 =>
            rw [h4] at e
            have ho := outs_ok hg h2 he h3
            rcases loop_new hg (by omega) (putAll_ok hc (fun q hq => (ho q hq).2) h4) e h with a | a
            · rcases putAll_new h4 a with b | ⟨q, hq, hk⟩
              · exact .inl b
              · right
                obtain ⟨w, _⟩ := loop_right hg hp hc e0
                exact ⟨p, en, i, l, by rw [w.same p (Nat.le_refl _)]; exact h1, h2, h3, q, hq, hk⟩
            · exact .inr a
theorem set_none {ch : Chart} {k j : Nat} : ((ch.set k none)[j]?).join = if k = j then none else (ch[j]?).join := by
  rw [List.getElem?_set]
  by_cases h : k = j
  · subst h
    by_cases h2 : k < ch.length
    · simp [h2]
    · simp [h2]
  · simp [h]
/-- a chart without a place that is come to shows nothing -/
theorem not_right {is : List Ins} {rs : List Pr} {g k : Nat} {ch : Chart} (hg : Good is g) (hR : chartR is rs = some ch) (hk : (ch[k]?).join ≠ none) : ¬ rightP is rs g (ch.set k none) := by
  intro h
  by_cases h0 : k = 0
  · subst h0
    obtain ⟨x, hx, _⟩ := h.2.1
    rw [set_none, if_pos rfl] at hx
    cases hx
  · have hf : FromP is rs ch k := by
      rcases loop_new hg (by omega) (ch0_ok (g := g) hg.one) hR hk with a | a
      · exfalso
        refine a ?_
        unfold ch0
        obtain ⟨m, rfl⟩ : ∃ m, k = m + 1 := ⟨k - 1, by omega⟩
        rw [List.getElem?_cons_succ, List.getElem?_replicate]
        split <;> rfl
      · exact a
    obtain ⟨j, e, i, l, h1, h2, h3, q, hq, hqk⟩ := hf
    have hjk : k ≠ j := fun e' => by
      subst e'
      have hok := chart_right hg hR
      obtain ⟨⟨t, ht, hlt, _⟩, _⟩ := outs_ok hg h2 (hok.2.get h1) h3 q hq
      rw [ht, Int.toNat_natCast] at hqk
      omega
    obtain ⟨_, l', h4, h5⟩ := h.2.2 j e i (by rw [set_none, if_neg hjk]; exact h1) h2
    rw [h3] at h4
    cases h4
    obtain ⟨x, hx, _⟩ := h5 q hq
    rw [hqk, set_none, if_pos rfl] at hx
    cases hx
/-! ### the program of tests is good -/
theorem body_ok {k g : Nat} {w : WT} {rs : List Pr} (h : Rings w rs) (hl : w.row.length ≤ g) (hk : k < 1000) {p m : Int} : ∀ i ∈ bodyC k w rs, insOk p m g i := by
  have one : ∀ x ∈ usedL w.row, ∀ i ∈ one3 w.row x, insOk p m g i := fun x hx i hi => by
    have hu := used_lt hx
    have hw := (h.worded.2 x hx).2
    unfold one3 at hi
    simp only [List.mem_cons,List.not_mem_nil,or_false] at hi
    rcases hi with rfl | rfl | rfl
    · exact ⟨by omega, by omega⟩
    · exact hw
    · exact trivial
  have part : ∀ us : List Nat, (∀ x ∈ us, x ∈ usedL w.row) → ∀ i ∈ parts w.row us, insOk p m g i := fun us hus i hi => by
    cases us with
    | nil => simp [parts] at hi
    | cons a r =>
      simp only [parts] at hi
      rcases List.mem_append.mp hi with hi | hi
      · exact one a (hus a List.mem_cons_self) i hi
      · obtain ⟨b, hb, hi⟩ := List.mem_flatMap.mp hi
        rcases List.mem_append.mp hi with hi | hi
        · exact one b (hus b (List.mem_cons_of_mem _ hb)) i hi
        · rw [List.mem_singleton.mp hi]; exact trivial
  intro i hi
  unfold bodyC at hi
  rcases List.mem_append.mp hi with hi | hi
  · unfold sumC at hi
    split at hi
    · rw [List.mem_singleton.mp hi]
      show word 0
      decide
    · exact part _ (fun x h => h) i hi
  · simp only [List.mem_cons,List.not_mem_nil,or_false] at hi
    rcases hi with rfl | rfl | rfl
    · exact least_word h
    · exact trivial
    · exact ⟨by omega, by omega⟩
theorem test_ok {k g p m : Nat} {w : WT} {rs : List Pr} (h : Rings w rs) (hl : w.row.length ≤ g) (hk : k < 1000) (hm : p + (testC k w rs p).length < m) {j : Nat} {i : Ins} (hj : (testC k w rs p)[j]? = some i) : insOk ((p + j : Nat) : Int) m g i := by
  have hlen : (testC k w rs p).length = (usedL w.row).length + (bodyC k w rs).length := by simp [testC]
  unfold testC at hj
  by_cases hju : j < (usedL w.row).length
  · rw [List.getElem?_append_left (by rw [List.length_map]; exact hju), List.getElem?_map] at hj
    obtain ⟨x, hx, rfl⟩ := Option.map_eq_some_iff.mp hj
    have hu := used_lt (List.mem_of_getElem? hx)
    exact ⟨⟨by omega, by omega⟩, by omega, by omega⟩
  · rw [List.getElem?_append_right (by rw [List.length_map]; omega)] at hj
    exact body_ok h hl hk i (List.mem_of_getElem? hj)
theorem code_ok {g m : Nat} {rs : List Pr} : ∀ {ts : List WT} {k p : Nat}, (∀ w ∈ ts, mayR w rs → Rings w rs) → (∀ w ∈ ts, w.row.length ≤ g) → k + ts.length ≤ 1000 → p + (codeF rs k p ts).length < m → ∀ {j : Nat} {i : Ins}, (codeF rs k p ts)[j]? = some i → insOk ((p + j : Nat) : Int) m g i
  | [], k, p, _, _, _, _, j, i, hj => by simp [codeF] at hj
  | w :: ts, k, p, hw, hl, hk, hm, j, i, hj => by
    have hw' : ∀ t ∈ ts, mayR t rs → Rings t rs := fun x hx => hw x (List.mem_cons_of_mem _ hx)
    have hl' : ∀ t ∈ ts, t.row.length ≤ g := fun x hx => hl x (List.mem_cons_of_mem _ hx)
    rw [List.length_cons] at hk
    rw [codeF] at hj hm
    by_cases hmr : mayR w rs
    · rw [if_pos hmr] at hj hm
      rw [List.length_append] at hm
      by_cases h1 : j < (testC k w rs p).length
      · rw [List.getElem?_append_left h1] at hj
        exact test_ok (hw w List.mem_cons_self hmr) (hl w List.mem_cons_self) (by omega) (by omega) hj
      · rw [List.getElem?_append_right (by omega)] at hj
        have := code_ok (m := m) (k := k + 1) (p := p + (testC k w rs p).length) hw' hl' (by omega) (by omega) hj
        rw [show p + (testC k w rs p).length + (j - (testC k w rs p).length) = p + j by omega] at this
        exact this
    · rw [if_neg hmr] at hj hm
      exact code_ok hw' hl' (by omega) hm hj
theorem prog_good {g : Nat} {rs : List Pr} {ts : List WT} (hw : ∀ w ∈ ts, mayR w rs → Rings w rs) (hl : ∀ w ∈ ts, w.row.length ≤ g) (hk : ts.length ≤ 1000) (hm : (codeF rs 0 0 ts).length ≤ 3999) : Good (progW rs ts) g := by
  have hlen : (progW rs ts).length = (codeF rs 0 0 ts).length + 1 := by simp [progW]
  refine ⟨by omega, by omega, by unfold progW; simp, fun p i hi => ?_⟩
  unfold progW at hi
  rcases get_app hi with a | ⟨_, rfl⟩
  · have := code_ok (m := (progW rs ts).length) (k := 0) (p := 0) hw hl (by omega) (by omega) a
    rw [Nat.zero_add] at this
    exact this
  · exact trivial
theorem code_len {G : Nat} {rs : List Pr} : ∀ {ts : List WT} {k p : Nat}, (∀ w ∈ ts, w.row.length ≤ G) → (codeF rs k p ts).length ≤ ts.length * (5 * G + 4)
  | [], k, p, _ => by simp [codeF]
  | w :: ts, k, p, h => by
    have hw := h w List.mem_cons_self
    have ih := fun k p => code_len (rs := rs) (ts := ts) (k := k) (p := p) fun x hx => h x (List.mem_cons_of_mem _ hx)
    have h1 := used_len (row := w.row)
    have h2 := sumC_len (row := w.row) (us := usedL w.row)
    have hbl : (bodyC k w rs).length = (sumC w.row (usedL w.row)).length + 3 := by simp [bodyC]
    have hlen : (testC k w rs p).length = (usedL w.row).length + (bodyC k w rs).length := by simp [testC]
    rw [codeF, List.length_cons, Nat.add_mul, Nat.one_mul]
    split
    · rw [List.length_append]
      have := ih (k + 1) (p + (testC k w rs p).length)
      omega
    · have := ih (k + 1) p
      omega
end K76
/-! TF: runs, the tests that a turn breaks, by the law. -/
namespace K76
open Sf
theorem nats_app {a b : List Nat} : natsD a ++ natsD b = natsD (a ++ b) := by simp [natsD]
theorem nats_one {a : Nat} : [D.int (a : Int)] = natsD [a] := rfl
/-- the first of n places at which p holds -/
def IsFirst (p : Nat → Prop) (n : Nat) : Option Nat → Prop
  | none => ∀ j, j < n → ¬ p j
  | some g => g < n ∧ p g ∧ ∀ j, j < g → ¬ p j
theorem first_eq {p : Nat → Prop} {n : Nat} : ∀ {a b : Option Nat}, IsFirst p n a → IsFirst p n b → a = b
  | none, none, _, _ => rfl
  | none, some g, h, k => absurd k.2.1 (h g k.1)
  | some g, none, h, k => absurd h.2.1 (k g h.1)
  | some g, some g', h, k => by
    have h1 : ¬ g < g' := fun q => k.2.2 g q h.2.1
    have h2 : ¬ g' < g := fun q => h.2.2 g' q k.2.1
    rw [show g = g' by omega]
def optN : Option Nat → D
  | none => .non
  | some g => .int (g : Int)
theorem tget {t : Turn} {g : Nat} (h : g < t.length) : (t.map optD)[g]? = some (optD (turnAt t g)) := by
  rw [List.getElem?_map, turnAt, List.getElem?_eq_getElem h]; rfl
def tellsF (st : Cells) (p : Nat → Prop) (n : Nat) (q : D × Cells) : Prop := ∃ o, q = (optN o, st) ∧ IsFirst p n o
theorem filt_succ {f : Nat → Bool} {i : Nat} : (List.range (i + 1)).filter f = (List.range i).filter f ++ if f i = true then [i] else [] := by
  rw [List.range_succ, List.filter_append]
  by_cases h : f i = true
  · simp [h]
  · simp [h]
theorem head_first {f : Nat → Bool} : ∀ {n : Nat}, IsFirst (fun j => f j = true) n ((List.range n).filter f).head?
  | 0 => fun j h => absurd h (Nat.not_lt_zero _)
  | n + 1 => by
    have ih := head_first (f := f) (n := n)
    rw [filt_succ]
    cases h : ((List.range n).filter f).head? with
    | none =>
      rw [h] at ih
      have he : (List.range n).filter f = [] := List.head?_eq_none_iff.mp h
      rw [he, List.nil_append]
      by_cases hn : f n = true
      · rw [if_pos hn]
        exact ⟨Nat.lt_succ_self n, hn, ih⟩
      · rw [if_neg hn]
        intro j hj
        rcases Nat.lt_succ_iff_lt_or_eq.mp hj with q | q
        · exact ih j q
        · rw [q]; exact hn
    | some g =>
      rw [h] at ih
      have hh : ((List.range n).filter f ++ if f n = true then [n] else []).head? = some g := by
        rw [List.head?_append, h]; rfl
      rw [hh]
      exact ⟨by have := ih.1; omega, ih.2.1, ih.2.2⟩
def fiI (f : Nat → Bool) (st0 : Cells) (i : Nat) (acc : List D) (st : Cells) : Prop := acc = natsD ((List.range i).filter f) ∧ st = st0
theorem fi_t {f : Nat → Bool} {i : Nat} {acc : List D} {st : Cells} (h : f i = true) (ha : fiI f st i acc st) : fiI f st (i + 1) (acc ++ [.int (i : Int)]) st := by
  obtain ⟨rfl, _⟩ := ha
  refine ⟨?_, rfl⟩
  rw [filt_succ, if_pos h, ← nats_app]
  rfl
theorem fi_f {f : Nat → Bool} {i : Nat} {acc : List D} {st : Cells} (h : f i = false) (ha : fiI f st i acc st) : fiI f st (i + 1) acc st := by
  obtain ⟨rfl, _⟩ := ha
  refine ⟨?_, rfl⟩
  rw [filt_succ, if_neg (by rw [h]; decide), List.append_nil]
theorem filt_len {f : Nat → Bool} {n : Nat} : ((List.range n).filter f).length ≤ n := by
  have := List.length_filter_le f (List.range n)
  rw [List.length_range] at this
  exact this
theorem rng_at {n i : Nat} {x : D} (h : (rngD 0 ((n : Int)).toNat)[i]? = some x) : i < n ∧ x = .int (i : Int) := by
  rw [rngD_get] at h
  split at h
  · rename_i q
    exact ⟨by simpa using q, by simpa using h.symm⟩
  · cases h
/-! ### sums -/
def sumR (t : Turn) (row : List Int) (n : Nat) : Int := ((List.range n).map (valG t row)).sum
theorem sumR_succ {t : Turn} {row : List Int} {n : Nat} : sumR t row (n + 1) = sumR t row n + valG t row n := by
  unfold sumR
  rw [List.range_succ, List.map_append, List.sum_append]
  simp
theorem sumR_used {t : Turn} {row : List Int} : ∀ n, sumR t row n = (((List.range n).filter fun g => decide (row.getD g 0 ≠ 0)).map (valG t row)).sum
  | 0 => rfl
  | n + 1 => by
    rw [sumR_succ, sumR_used n, filt_succ, List.map_append, List.sum_append]
    by_cases h : row.getD n 0 = 0
    · have e : valG t row n = 0 := by unfold valG; rw [h, Int.zero_mul]
      rw [if_neg (by simpa using h), e]
      rfl
    · rw [if_pos (by simpa using h)]
      simp
theorem sumR_all {t : Turn} {row : List Int} : sumR t row row.length = sumV t row (usedL row) := sumR_used row.length
structure TurnSm (t : Turn) : Prop where
  ok : ∀ (g : Nat) v, turnAt t g = some v → bits v ≤ 10000
def wsI (row : List Int) (d : D) (t : Turn) (st0 : Cells) (i : Nat) (ρ : Env) (st : Cells) : Prop := ∃ s3 : Slot, ρ = [.dat (intsD row), .dat d, .dat (.int (sumR t row i)), s3] ∧ st = st0
def wholesD (t : Turn) : List D := t.map fun o => D.int (o.getD 0)
theorem whget {t : Turn} {g : Nat} (h : g < t.length) : (wholesD t)[g]? = some (.int ((turnAt t g).getD 0)) := by
  unfold wholesD
  rw [List.getElem?_map, turnAt, List.getElem?_eq_getElem h]; rfl
theorem bits0 : bits 0 = 0 := by decide
theorem c__law_wholes_sum (n : Nat) {row : List Int} {t : Turn} (hl : row.length = t.length) (hr : ∀ a ∈ row, bits a ≤ 10000) (ht : TurnSm t) (hm : row.length ≤ 1000) (st : Cells) : Ev (callN T (n + 1) i__law_wholes_sum [intsD row, .lst (wholesD t)] st) (kept st (.int (sumV t row (usedL row)))) := by
  refine dcl (f := f__law_wholes_sum) rfl rfl ?_
  have ei : intsD row = .tup (row.map .int) := rfl
  rw [ei]
  simp! only [f__law_wholes_sum,b__law_wholes_sum,start,List.replicate,List.append_nil,List.cons_append,List.nil_append,line,Int.reduceSub,Int.reduceAdd,Int.reduceMul,Int.reduceMod,Int.reduceDiv,List.length_map,List.length_append,and_self]
  refine ⟨by omega, ?_⟩
  rw [← ei]
  refine fl_idx (I := wsI row (.lst (wholesD t)) t st) ⟨_, rfl, rfl⟩ ?_ ?_
  · rintro ρ st' ⟨s3, rfl, rfl⟩
    rw [rngD_len, Int.toNat_natCast, sumR_all]
    simp! only [line,Int.reduceSub,Int.reduceAdd,Int.reduceMul,Int.reduceMod,Int.reduceDiv,List.length_map,List.length_append,and_self]
    rfl
  · rintro i x ρ st' hx ⟨s3, rfl, rfl⟩
    obtain ⟨hi, rfl⟩ := rng_at hx
    have hbr : bits (row.getD i 0) ≤ 10000 := by
      have : row.getD i 0 = row[i] := by simp [List.getD, List.getElem?_eq_getElem hi]
      rw [this]; exact hr _ (List.getElem_mem hi)
    have hbt : bits ((turnAt t i).getD 0) ≤ 10000 := by
      cases h : turnAt t i with
      | none => show bits 0 ≤ 10000; rw [bits0]; omega
      | some v => exact ht.ok i v h
    rw [ei]
    simp! only [line,Int.reduceSub,Int.reduceAdd,Int.reduceMul,Int.reduceMod,Int.reduceDiv,List.length_map,List.length_append,and_self,getI_nat,iget hi,whget (t := t) (g := i) (by omega)]
    exact ⟨by omega, _, by rw [sumR_succ]; rfl, rfl⟩
def whI (t : Turn) (st0 : Cells) (i : Nat) (acc : List D) (st : Cells) : Prop := acc = (wholesD t).take i ∧ st = st0
def lackF (t : Turn) (row : List Int) (g : Nat) : Bool := decide (row.getD g 0 ≠ 0) && (turnAt t g).isNone
theorem c__law_breaks (n : Nat) {w : WT} {t : Turn} (hl : w.row.length = t.length) (hr : ∀ a ∈ w.row, bits a ≤ 10000) (ht : TurnSm t) (hm : w.row.length ≤ 1000) (st : Cells) : Ev (callN T (n + 2) i__law_breaks [testD w, turnD t] st) (kept st (.bl (decide (breaksT t w)))) := by
  refine dcl (f := f__law_breaks) rfl rfl ?_
  have ew : testD w = .tup [.tup (w.row.map .int), .int w.rest] := rfl
  have et : turnD t = .tup (t.map optD) := rfl
  rw [ew, et]
  simp! only [f__law_breaks,b__law_breaks,start,List.replicate,List.append_nil,List.cons_append,List.nil_append,line,Int.reduceSub,Int.reduceAdd,Int.reduceMul,Int.reduceMod,Int.reduceDiv,List.length_map,List.length_append,and_self]
  refine ⟨by omega, ?_⟩
  refine ll_idx (I := fiI (lackF t w.row) st) ⟨rfl, rfl⟩ ?_ ?_
  · rintro acc st' ⟨rfl, rfl⟩
    rw [rngD_len, Int.toNat_natCast]
    have hfl := filt_len (f := lackF t w.row) (n := t.length)
    simp! only [line,Int.reduceSub,Int.reduceAdd,Int.reduceMul,Int.reduceMod,Int.reduceDiv,List.length_map,List.length_append,and_self,nats_len,rngD_len,Int.toNat_natCast]
    refine ⟨by omega, ?_⟩
    by_cases hall : ∀ g ∈ usedL w.row, turnAt t g ≠ none
    · have h0 : (List.range t.length).filter (lackF t w.row) = [] := by
        refine List.filter_eq_nil_iff.mpr fun g hg => ?_
        unfold lackF
        intro h
        simp only [Bool.and_eq_true,decide_eq_true_eq,Option.isNone_iff_eq_none] at h
        refine hall g ?_ h.2
        unfold usedL
        exact List.mem_filter.mpr ⟨by rw [hl]; exact hg, by simpa using h.1⟩
      rw [h0, if_neg (by simp)]
      refine ll_idx (I := whI t st') ⟨rfl, rfl⟩ ?_ ?_
      · rintro acc st ⟨rfl, rfl⟩
        rw [List.length_map, List.take_of_length_le (by simp [wholesD])]
        refine ⟨by omega, ?_⟩
        simp! only [line,Int.reduceSub,Int.reduceAdd,Int.reduceMul,Int.reduceMod,Int.reduceDiv,List.length_map,List.length_append,and_self]
        refine (c__law_wholes_sum n hl hr ht hm st).mono fun q hq => ?_
        unfold kept at hq
        subst hq
        simp! only [line,Int.reduceSub,Int.reduceAdd,Int.reduceMul,Int.reduceMod,Int.reduceDiv,List.length_map,List.length_append,and_self]
        refine congrArg (fun b => (D.bl b, st)) (decide_eq_decide.mpr ?_)
        exact ⟨fun h => ⟨hall, h⟩, fun h => h.2⟩
      · rintro i x acc st hx ⟨rfl, rfl⟩
        rw [List.getElem?_map] at hx
        obtain ⟨o, ho, rfl⟩ := Option.map_eq_some_iff.mp hx
        have hw : (wholesD t)[i]? = some (.int (o.getD 0)) := by unfold wholesD; rw [List.getElem?_map, ho]; rfl
        simp! only [line,Int.reduceSub,Int.reduceAdd,Int.reduceMul,Int.reduceMod,Int.reduceDiv,List.length_map,List.length_append,and_self]
        cases o with
        | none =>
          simp! only [optD,line,Int.reduceSub,Int.reduceAdd,Int.reduceMul,Int.reduceMod,Int.reduceDiv,List.length_map,List.length_append,and_self]
          exact ⟨by rw [take_one hw]; rfl, rfl⟩
        | some v =>
          simp! only [optD,line,Int.reduceSub,Int.reduceAdd,Int.reduceMul,Int.reduceMod,Int.reduceDiv,List.length_map,List.length_append,and_self]
          exact ⟨by rw [take_one hw]; rfl, rfl⟩
    · have hpos : (0 : Int) < (((List.range t.length).filter (lackF t w.row)).length : Nat) := by
        have : ∃ g, g ∈ (List.range t.length).filter (lackF t w.row) := by
          refine Classical.byContradiction fun hc => hall fun g hg hn => hc ⟨g, ?_⟩
          have hu := used_lt hg
          refine List.mem_filter.mpr ⟨List.mem_range.mpr (by omega), ?_⟩
          unfold lackF
          rw [hn, decide_eq_true hu.2]; rfl
        obtain ⟨g, hg⟩ := this
        have := List.length_pos_of_mem hg
        omega
      rw [if_pos hpos]
      refine congrArg (fun b => (D.bl b, st')) (decide_eq_false fun h => hall h.1).symm
  · rintro i x acc st' hx h
    have hst : st' = st := h.2
    subst hst
    obtain ⟨hi, rfl⟩ := rng_at hx
    simp! only [line,Int.reduceSub,Int.reduceAdd,Int.reduceMul,Int.reduceMod,Int.reduceDiv,List.length_map,List.length_append,and_self,getI_nat,iget (s := w.row) (k := i) (by omega),tget hi]
    by_cases h0 : w.row.getD i 0 = 0
    · simp! only [h0,line,Int.reduceSub,Int.reduceAdd,Int.reduceMul,Int.reduceMod,Int.reduceDiv,List.length_map,List.length_append,and_self]
      exact fi_f (by unfold lackF; rw [h0]; rfl) h
    · simp! only [h0,line,Int.reduceSub,Int.reduceAdd,Int.reduceMul,Int.reduceMod,Int.reduceDiv,List.length_map,List.length_append,and_self,getI_nat,tget hi]
      cases hv : turnAt t i with
      | none =>
        simp! only [optD,line,Int.reduceSub,Int.reduceAdd,Int.reduceMul,Int.reduceMod,Int.reduceDiv,List.length_map,List.length_append,and_self]
        exact fi_t (by unfold lackF; rw [hv, decide_eq_true h0]; rfl) h
      | some v =>
        simp! only [optD,line,Int.reduceSub,Int.reduceAdd,Int.reduceMul,Int.reduceMod,Int.reduceDiv,List.length_map,List.length_append,and_self]
        exact fi_f (by unfold lackF; rw [hv, decide_eq_true h0]; rfl) h
def brF (t : Turn) (ts : List WT) (k : Nat) : Bool := match ts[k]? with
  | some w => decide (breaksT t w)
  | none => false
structure TestsOk (ts : List WT) (g : Nat) : Prop where
  most : ts.length ≤ 1000
  gs : g ≤ 6
  len : ∀ w ∈ ts, w.row.length = g
  row : ∀ w ∈ ts, ∀ a ∈ w.row, bits a ≤ 10000
theorem c__law_first_ring (n : Nat) {ts : List WT} {t : Turn} (hts : TestsOk ts t.length) (ht : TurnSm t) (st : Cells) : Ev (callN T (n + 3) i__law_first_ring [.tup (ts.map testD), turnD t] st) (tellsF st (fun k => brF t ts k = true) ts.length) := by
  refine dcl (f := f__law_first_ring) rfl rfl ?_
  have h1 := hts.most
  have h2 := hts.gs
  simp! only [f__law_first_ring,b__law_first_ring,start,List.replicate,List.append_nil,List.cons_append,List.nil_append,line,Int.reduceSub,Int.reduceAdd,Int.reduceMul,Int.reduceMod,Int.reduceDiv,List.length_map,List.length_append,and_self]
  refine ⟨by omega, ?_⟩
  refine ll_idx (I := fiI (brF t ts) st) ⟨rfl, rfl⟩ ?_ ?_
  · rintro acc st' ⟨rfl, rfl⟩
    have hfl := filt_len (f := brF t ts) (n := ts.length)
    have hf := head_first (f := brF t ts) (n := ts.length)
    simp! only [line,Int.reduceSub,Int.reduceAdd,Int.reduceMul,Int.reduceMod,Int.reduceDiv,List.length_map,List.length_append,and_self,nats_len,rngD_len,Int.toNat_natCast]
    refine ⟨by omega, ?_⟩
    cases hc : (List.range ts.length).filter (brF t ts) with
    | nil =>
      rw [hc] at hf
      simp! only [line,Int.reduceSub,Int.reduceAdd,Int.reduceMul,Int.reduceMod,Int.reduceDiv,List.length_map,List.length_append,and_self]
      exact ⟨none, rfl, hf⟩
    | cons g r =>
      rw [hc] at hf
      have hn : ¬ (((g :: r).length : Nat) : Int) = 0 := by simp only [List.length_cons]; omega
      rw [if_neg hn]
      simp! only [natsD,line,Int.reduceSub,Int.reduceAdd,Int.reduceMul,Int.reduceMod,Int.reduceDiv,List.length_map,List.length_append,and_self]
      exact ⟨some g, rfl, hf⟩
  · rintro i x acc st' hx h
    have hst : st' = st := h.2
    subst hst
    obtain ⟨hi, rfl⟩ := rng_at hx
    have hti : ts[i]? = some ts[i] := List.getElem?_eq_getElem hi
    generalize ts[i] = w at hti
    have hm := List.mem_of_getElem? hti
    have hw : (ts.map testD)[i]? = some (testD w) := by rw [List.getElem?_map, hti]; rfl
    simp! only [line,Int.reduceSub,Int.reduceAdd,Int.reduceMul,Int.reduceMod,Int.reduceDiv,List.length_map,List.length_append,and_self,getI_nat,hw]
    refine (c__law_breaks n (hts.len w hm) (hts.row w hm) ht (by have := hts.len w hm; omega) st').mono fun q hq => ?_
    unfold kept at hq
    subst hq
    by_cases hb : breaksT t w
    · have hd : decide (breaksT t w) = true := decide_eq_true hb
      simp! only [hd,line,Int.reduceSub,Int.reduceAdd,Int.reduceMul,Int.reduceMod,Int.reduceDiv,List.length_map,List.length_append,and_self]
      exact fi_t (by unfold brF; rw [hti]; exact hd) h
    · have hd : decide (breaksT t w) = false := decide_eq_false hb
      simp! only [hd,line,Int.reduceSub,Int.reduceAdd,Int.reduceMul,Int.reduceMod,Int.reduceDiv,List.length_map,List.length_append,and_self]
      exact fi_f (by unfold brF; rw [hti]; exact hd) h
theorem firstB_is {t : Turn} : ∀ {ts : List WT} {k : Nat}, match firstB t k ts with
    | none => ∀ j, j < ts.length → brF t ts j = false
    | some g => ∃ j, g = k + j ∧ j < ts.length ∧ brF t ts j = true ∧ ∀ i, i < j → brF t ts i = false
  | [], k => fun j h => absurd h (Nat.not_lt_zero _)
  | w :: ts, k => by
    rw [firstB]
    by_cases hb : breaksT t w
    · rw [if_pos hb]
      exact ⟨0, rfl, by simp, decide_eq_true hb, fun i h => absurd h (Nat.not_lt_zero _)⟩
    · rw [if_neg hb]
      have ih := firstB_is (t := t) (ts := ts) (k := k + 1)
      cases h : firstB t (k + 1) ts with
      | none =>
        rw [h] at ih
        intro j hj
        cases j with
        | zero => exact decide_eq_false hb
        | succ j => exact ih j (by simpa using hj)
      | some g =>
        rw [h] at ih
        obtain ⟨j, rfl, h1, h2, h3⟩ := ih
        refine ⟨j + 1, by omega, by simpa using h1, h2, fun i hi => ?_⟩
        cases i with
        | zero => exact decide_eq_false hb
        | succ i => exact h3 i (by omega)
theorem firstB_first {t : Turn} {ts : List WT} : IsFirst (fun k => brF t ts k = true) ts.length (firstB t 0 ts) := by
  have h := firstB_is (t := t) (ts := ts) (k := 0)
  cases hf : firstB t 0 ts with
  | none =>
    rw [hf] at h
    intro j hj hb
    rw [h j hj] at hb
    cases hb
  | some g =>
    rw [hf] at h
    obtain ⟨j, rfl, h1, h2, h3⟩ := h
    rw [Nat.zero_add]
    exact ⟨h1, h2, fun i hi hb => by
      have hb : brF t ts i = true := hb
      rw [h3 i hi] at hb; cases hb⟩
theorem c_run (n : Nat) {is : List Ins} {t : Turn} (hg : Good is t.length) (st : Cells) : Ev (callN T (n + 5) i_run [progD is, turnD t] st) (kept st (loop is t is.length 0 [] []).2) := by
  refine dcl (f := f_run) rfl rfl ?_
  simp! only [f_run,b_run,start,List.replicate,List.append_nil,List.cons_append,List.nil_append,line,Int.reduceSub,Int.reduceAdd,Int.reduceMul,Int.reduceMod,Int.reduceDiv,List.length_map,List.length_append,and_self]
  refine (c_trace n hg st rfl).mono fun q hq => ?_
  unfold kept at hq
  subst hq
  simp! only [line,Int.reduceSub,Int.reduceAdd,Int.reduceMul,Int.reduceMod,Int.reduceDiv,List.length_map,List.length_append,and_self]
  rfl
end K76
/-! LW: the law tells words -/
namespace K76
open Sf
theorem c__law_is_word (n : Nat) (x : Int) (st : Cells) : Ev (callN T (n+1) i__law_is_word [.int x] st) fun q => q = (.bl (decide (word x)), st) := by
  refine dcl (f := f__law_is_word) rfl rfl ?_
  simp! only [f__law_is_word,b__law_is_word,start,List.replicate,List.append_nil,List.cons_append,List.nil_append]
  by_cases h : -2147483648 ≤ x
  · rw [if_pos h]
    simp [word, h]
  · rw [if_neg h]
    simp [word, h]
end K76
/-! K76L: the law's own trace. -/
namespace K76
open Sf
theorem c__law_made (n : Nat) {i : Ins} {t : List (Option Int)} {s : List Int} {p m : Int} (hi : insOk p m t.length i) (hs : Stk s) (hk : i ≠ .stop ∧ (∀ a b, i ≠ .skip a b) ∧ ∀ a, i ≠ .ring a) (st : Cells) :
    Ev (callN T (n + 1) i__law_made [i.d, turnD t, stackD s] st) (kept st (.tup [stackD (made t s i).1, optD (made t s i).2])) := by
  refine dcl (f := f__law_made) rfl rfl ?_
  have hl := hs.len
  cases i with
  | push v =>
    simp! only [Ins.d,turnD,stackD,f__law_made,b__law_made,start,List.replicate,List.append_nil,List.cons_append,List.nil_append]
    exact ⟨by decide, rfl⟩
  | reading k =>
    have hi : 0 ≤ k ∧ k < t.length := hi
    simp! only [Ins.d,turnD,stackD,f__law_made,b__law_made,start,List.replicate,List.append_nil,List.cons_append,List.nil_append,getI_t hi.1 hi.2]
    exact ⟨by decide, rfl⟩
  | stop => exact absurd rfl hk.1
  | skip a b => exact absurd rfl (hk.2.1 a b)
  | ring a => exact absurd rfl (hk.2.2 a)
  | _ =>
    rw [two_made rfl]
    simp! only [Ins.d,turnD,stackD,f__law_made,b__law_made,start,List.replicate,List.append_nil,List.cons_append,List.nil_append,List.length_map]
    by_cases h2 : s.length < 2
    · rw [if_pos (by omega), if_pos h2]; exact ⟨by decide, rfl⟩
    · have q1 := bits_word (stk_get hs (k := s.length - 2) (by omega))
      have q2 := bits_word (stk_get hs (k := s.length - 1) (by omega))
      rw [if_neg (by omega), if_neg h2]
      have e2 : ((s.length : Int) - 2) = ((s.length - 2 : Nat) : Int) := by omega
      have e1 : ((s.length : Int) - 1) = ((s.length - 1 : Nat) : Int) := by omega
      have g2 : (s.map D.int)[s.length - 2]? = some (.int (s.getD (s.length - 2) 0)) := by
        rw [List.getElem?_map, List.getElem?_eq_getElem (by omega)]
        simp [List.getD, List.getElem?_eq_getElem (show s.length - 2 < s.length by omega)]
      have g1 : (s.map D.int)[s.length - 1]? = some (.int (s.getD (s.length - 1) 0)) := by
        rw [List.getElem?_map, List.getElem?_eq_getElem (by omega)]
        simp [List.getD, List.getElem?_eq_getElem (show s.length - 1 < s.length by omega)]
      simp! only [e2,e1,getI_nat,g2,g1,cut_to,← List.map_take]
      first
        | exact ⟨by omega, by decide, rfl⟩
        | exact ⟨by decide, rfl⟩
        | (refine ⟨by decide, ?_⟩; simp [kept, optD, op])
def lawI (is : List Ins) (t : List (Option Int)) (R : List D × D) (st0 : Cells) (j : Nat) (ρ : Env) (st : Cells) : Prop :=
  ∃ (p : Nat) (s : List Int) (acc : List D) (s5 s6 s7 s8 : Slot), ρ = [.dat (progD is), .dat (turnD t), .dat (.int p), .dat (stackD s), .own acc, s5, s6, s7, s8] ∧ j ≤ p ∧ p < is.length ∧ Stk s ∧ acc.length ≤ j ∧ loop is t (is.length - j) p s acc = R ∧ st = st0
theorem c__law_trace (n : Nat) {is : List Ins} {t : List (Option Int)} (hg : Good is t.length) (st : Cells) {R : List D × D} (hR : loop is t is.length 0 [] [] = R) : Ev (callN T (n + 4) i__law_trace [progD is, turnD t] st) (kept st (.tup [.lst R.1, R.2])) := by
  have h1 := hg.one
  have h2 := hg.most
  have hline : line = 16777216 := rfl
  refine dcl (f := f__law_trace) rfl rfl ?_
  have ep : progD is = .tup (is.map Ins.d) := rfl
  simp! only [f__law_trace,b__law_trace,start,List.replicate,List.append_nil,List.cons_append,List.nil_append]
  rw [ep]
  simp! only [List.length_map]
  refine ⟨by decide, by decide, by omega, ?_⟩
  refine fl_idx (I := lawI is t R st) ⟨0, [], [], _, _, _, _, rfl, Nat.le_refl _, by omega, stk_nil, Nat.le_refl _, hR, rfl⟩ ?_ ?_
  · rintro ρ st' ⟨p, s, acc, s5, s6, s7, s8, rfl, hj, hp, _⟩
    rw [rngD_len] at hj
    omega
  · rintro j x ρ st' hx ⟨p, s, acc, s5, s6, s7, s8, rfl, hj, hp, hs, ha, hl, rfl⟩
    have hjl : j < is.length := by omega
    have hi : is[p]? = some is[p] := List.getElem?_eq_getElem hp
    generalize is[p] = i at hi
    rw [show is.length - j = (is.length - (j + 1)) + 1 by omega] at hl
    have hpA := prog_at hi
    have hok := hg.ok p i hi
    have es : stD (p : Int) s = .tup [.int p, stackD s] := rfl
    have next : ∀ {p' : Int} {s' : List Int} {s5 s6 s7 s8 : Slot}, step t p s i = .on p' s' → lawI is t R st' (j + 1) [.dat (.tup (is.map Ins.d)), .dat (.tup (t.map optD)), .dat (.int p'), .dat (.tup (s'.map .int)), .own (acc ++ [.tup [.int p, stackD s]]), s5, s6, s7, s8] st' := fun {p' s' s5 s6 s7 s8} hst => by
      rw [loop_on hi hst] at hl
      obtain ⟨⟨q, rfl, hq1, hq2⟩, hs'⟩ := step_on hg hi hs hst
      rw [Int.toNat_natCast] at hl
      refine ⟨q, s', acc ++ [stD p s], _, _, _, _, rfl, by omega, hq2, hs', ?_, hl, rfl⟩
      simp only [List.length_append,List.length_singleton]
      omega
    have fin : ∀ {d : D}, step t p s i = .fin d → kept st' (.tup [.lst R.1, R.2]) (.tup [.lst (acc ++ [.tup [.int p, stackD s]]), d], st') := fun {d} hst => by
      rw [loop_fin hi hst] at hl
      subst hl
      rfl
    simp! only []
    refine ⟨by decide, by omega, ?_⟩
    rw [ep]
    simp! only [hpA]
    cases i with
    | stop =>
      simp! only [Ins.d]
      exact ⟨by decide, by decide, fin rfl⟩
    | skip a u =>
      have hok : (0 ≤ a ∧ a < t.length) ∧ (p : Int) < u ∧ u < is.length := hok
      have e : (optD (t[a.toNat]?).join).isNone = decide ((t[a.toNat]?).join = none) := by
        cases (t[a.toNat]?).join <;> rfl
      simp! only [Ins.d,turnD,getI_t hok.1.1 hok.1.2,e]
      have ex : step t p s (.skip a u) = .on (if (t[a.toNat]?).join = none then u else p + 1) s := rfl
      by_cases h : (t[a.toNat]?).join = none
      · rw [if_pos h] at ex
        simp! only [h]
        exact next ex
      · rw [if_neg h] at ex
        simp! only [h]
        exact next ex
    | ring u =>
      have ex : step t p s (.ring u) = if s = [] then .fin (broken p) else if s.getD (s.length - 1) 0 ≠ 0 then .fin (rings u) else .on (p + 1) (s.take (s.length - 1)) := rfl
      simp! only [Ins.d,stackD,List.length_map]
      by_cases h0 : s = []
      · rw [if_pos h0] at ex
        rw [if_pos (by rw [h0]; rfl)]
        exact ⟨by decide, by decide, fin ex⟩
      · have h1 : 1 ≤ s.length := by
          cases s with
          | nil => exact absurd rfl h0
          | cons a l => simp
        rw [if_neg h0] at ex
        rw [if_neg (by omega)]
        have e1 : ((s.length : Int) - 1) = ((s.length - 1 : Nat) : Int) := by omega
        have g1 : (s.map D.int)[s.length - 1]? = some (.int (s.getD (s.length - 1) 0)) := by
          rw [List.getElem?_map, List.getElem?_eq_getElem (by omega)]
          simp [List.getD, List.getElem?_eq_getElem (show s.length - 1 < s.length by omega)]
        simp! only [e1,getI_nat,g1]
        by_cases h2 : s.getD (s.length - 1) 0 = 0
        · rw [if_neg (not_not_intro h2)] at ex
          simp! only [h2,e1,List.length_map,cut_to,← List.map_take]
          exact next ex
        · rw [if_pos h2] at ex
          simp! only [h2]
          exact ⟨by decide, by decide, fin ex⟩
    | push v =>
      have ex := step_other (t := t) (p := p) (s := s) (i := (.push v)) ⟨by simp, by simp, by simp⟩
      have hm := c__law_made (n + 2) (i := (.push v)) hok hs ⟨by simp, by simp, by simp⟩ st'
      have hms := made_stk (t := t) hs (.push v)
      simp! only [Ins.d] at hm ⊢
      refine hm.mono fun q hq => ?_
      unfold kept at hq
      subst hq
      generalize made t s (.push v) = md at ex hms ⊢
      obtain ⟨rest, o⟩ := md
      have hrl := hms.len
      cases o with
      | none =>
        simp! only [optD]
        exact ⟨by decide, by decide, fin ex⟩
      | some y =>
        rw [push1_some] at ex
        simp! only [optD]
        refine (c__law_is_word (n + 2) y st').mono fun q hq => ?_
        subst hq
        by_cases hw : word y
        · simp! only [hw,stackD,List.length_map]
          by_cases h7 : rest.length ≤ 7
          · rw [if_pos ⟨hw, h7⟩] at ex
            rw [if_neg (by omega)]
            have nx := next (s5 := .dat x) (s6 := .dat (Ins.d (.push v))) (s7 := .dat (.tup (rest.map .int))) (s8 := .dat (.int y)) ex
            rw [List.map_append] at nx
            exact ⟨by decide, line9 (by omega), nx⟩
          · rw [if_neg (fun q => h7 q.2)] at ex
            rw [if_pos (by omega)]
            exact ⟨by decide, by decide, fin ex⟩
        · simp! only [hw]
          rw [if_neg (fun q => hw q.1)] at ex
          exact ⟨by decide, by decide, fin ex⟩
    | reading v =>
      have ex := step_other (t := t) (p := p) (s := s) (i := (.reading v)) ⟨by simp, by simp, by simp⟩
      have hm := c__law_made (n + 2) (i := (.reading v)) hok hs ⟨by simp, by simp, by simp⟩ st'
      have hms := made_stk (t := t) hs (.reading v)
      simp! only [Ins.d] at hm ⊢
      refine hm.mono fun q hq => ?_
      unfold kept at hq
      subst hq
      generalize made t s (.reading v) = md at ex hms ⊢
      obtain ⟨rest, o⟩ := md
      have hrl := hms.len
      cases o with
      | none =>
        simp! only [optD]
        exact ⟨by decide, by decide, fin ex⟩
      | some y =>
        rw [push1_some] at ex
        simp! only [optD]
        refine (c__law_is_word (n + 2) y st').mono fun q hq => ?_
        subst hq
        by_cases hw : word y
        · simp! only [hw,stackD,List.length_map]
          by_cases h7 : rest.length ≤ 7
          · rw [if_pos ⟨hw, h7⟩] at ex
            rw [if_neg (by omega)]
            have nx := next (s5 := .dat x) (s6 := .dat (Ins.d (.reading v))) (s7 := .dat (.tup (rest.map .int))) (s8 := .dat (.int y)) ex
            rw [List.map_append] at nx
            exact ⟨by decide, line9 (by omega), nx⟩
          · rw [if_neg (fun q => h7 q.2)] at ex
            rw [if_pos (by omega)]
            exact ⟨by decide, by decide, fin ex⟩
        · simp! only [hw]
          rw [if_neg (fun q => hw q.1)] at ex
          exact ⟨by decide, by decide, fin ex⟩
    | times =>
      have ex := step_other (t := t) (p := p) (s := s) (i := .times) ⟨by simp, by simp, by simp⟩
      have hm := c__law_made (n + 2) (i := .times) hok hs ⟨by simp, by simp, by simp⟩ st'
      have hms := made_stk (t := t) hs .times
      simp! only [Ins.d] at hm ⊢
      refine hm.mono fun q hq => ?_
      unfold kept at hq
      subst hq
      generalize made t s .times = md at ex hms ⊢
      obtain ⟨rest, o⟩ := md
      have hrl := hms.len
      cases o with
      | none =>
        simp! only [optD]
        exact ⟨by decide, by decide, fin ex⟩
      | some y =>
        rw [push1_some] at ex
        simp! only [optD]
        refine (c__law_is_word (n + 2) y st').mono fun q hq => ?_
        subst hq
        by_cases hw : word y
        · simp! only [hw,stackD,List.length_map]
          by_cases h7 : rest.length ≤ 7
          · rw [if_pos ⟨hw, h7⟩] at ex
            rw [if_neg (by omega)]
            have nx := next (s5 := .dat x) (s6 := .dat (Ins.d .times)) (s7 := .dat (.tup (rest.map .int))) (s8 := .dat (.int y)) ex
            rw [List.map_append] at nx
            exact ⟨by decide, line9 (by omega), nx⟩
          · rw [if_neg (fun q => h7 q.2)] at ex
            rw [if_pos (by omega)]
            exact ⟨by decide, by decide, fin ex⟩
        · simp! only [hw]
          rw [if_neg (fun q => hw q.1)] at ex
          exact ⟨by decide, by decide, fin ex⟩
    | add =>
      have ex := step_other (t := t) (p := p) (s := s) (i := .add) ⟨by simp, by simp, by simp⟩
      have hm := c__law_made (n + 2) (i := .add) hok hs ⟨by simp, by simp, by simp⟩ st'
      have hms := made_stk (t := t) hs .add
      simp! only [Ins.d] at hm ⊢
      refine hm.mono fun q hq => ?_
      unfold kept at hq
      subst hq
      generalize made t s .add = md at ex hms ⊢
      obtain ⟨rest, o⟩ := md
      have hrl := hms.len
      cases o with
      | none =>
        simp! only [optD]
        exact ⟨by decide, by decide, fin ex⟩
      | some y =>
        rw [push1_some] at ex
        simp! only [optD]
        refine (c__law_is_word (n + 2) y st').mono fun q hq => ?_
        subst hq
        by_cases hw : word y
        · simp! only [hw,stackD,List.length_map]
          by_cases h7 : rest.length ≤ 7
          · rw [if_pos ⟨hw, h7⟩] at ex
            rw [if_neg (by omega)]
            have nx := next (s5 := .dat x) (s6 := .dat (Ins.d .add)) (s7 := .dat (.tup (rest.map .int))) (s8 := .dat (.int y)) ex
            rw [List.map_append] at nx
            exact ⟨by decide, line9 (by omega), nx⟩
          · rw [if_neg (fun q => h7 q.2)] at ex
            rw [if_pos (by omega)]
            exact ⟨by decide, by decide, fin ex⟩
        · simp! only [hw]
          rw [if_neg (fun q => hw q.1)] at ex
          exact ⟨by decide, by decide, fin ex⟩
    | less =>
      have ex := step_other (t := t) (p := p) (s := s) (i := .less) ⟨by simp, by simp, by simp⟩
      have hm := c__law_made (n + 2) (i := .less) hok hs ⟨by simp, by simp, by simp⟩ st'
      have hms := made_stk (t := t) hs .less
      simp! only [Ins.d] at hm ⊢
      refine hm.mono fun q hq => ?_
      unfold kept at hq
      subst hq
      generalize made t s .less = md at ex hms ⊢
      obtain ⟨rest, o⟩ := md
      have hrl := hms.len
      cases o with
      | none =>
        simp! only [optD]
        exact ⟨by decide, by decide, fin ex⟩
      | some y =>
        rw [push1_some] at ex
        simp! only [optD]
        refine (c__law_is_word (n + 2) y st').mono fun q hq => ?_
        subst hq
        by_cases hw : word y
        · simp! only [hw,stackD,List.length_map]
          by_cases h7 : rest.length ≤ 7
          · rw [if_pos ⟨hw, h7⟩] at ex
            rw [if_neg (by omega)]
            have nx := next (s5 := .dat x) (s6 := .dat (Ins.d .less)) (s7 := .dat (.tup (rest.map .int))) (s8 := .dat (.int y)) ex
            rw [List.map_append] at nx
            exact ⟨by decide, line9 (by omega), nx⟩
          · rw [if_neg (fun q => h7 q.2)] at ex
            rw [if_pos (by omega)]
            exact ⟨by decide, by decide, fin ex⟩
        · simp! only [hw]
          rw [if_neg (fun q => hw q.1)] at ex
          exact ⟨by decide, by decide, fin ex⟩
    | least =>
      have ex := step_other (t := t) (p := p) (s := s) (i := .least) ⟨by simp, by simp, by simp⟩
      have hm := c__law_made (n + 2) (i := .least) hok hs ⟨by simp, by simp, by simp⟩ st'
      have hms := made_stk (t := t) hs .least
      simp! only [Ins.d] at hm ⊢
      refine hm.mono fun q hq => ?_
      unfold kept at hq
      subst hq
      generalize made t s .least = md at ex hms ⊢
      obtain ⟨rest, o⟩ := md
      have hrl := hms.len
      cases o with
      | none =>
        simp! only [optD]
        exact ⟨by decide, by decide, fin ex⟩
      | some y =>
        rw [push1_some] at ex
        simp! only [optD]
        refine (c__law_is_word (n + 2) y st').mono fun q hq => ?_
        subst hq
        by_cases hw : word y
        · simp! only [hw,stackD,List.length_map]
          by_cases h7 : rest.length ≤ 7
          · rw [if_pos ⟨hw, h7⟩] at ex
            rw [if_neg (by omega)]
            have nx := next (s5 := .dat x) (s6 := .dat (Ins.d .least)) (s7 := .dat (.tup (rest.map .int))) (s8 := .dat (.int y)) ex
            rw [List.map_append] at nx
            exact ⟨by decide, line9 (by omega), nx⟩
          · rw [if_neg (fun q => h7 q.2)] at ex
            rw [if_pos (by omega)]
            exact ⟨by decide, by decide, fin ex⟩
        · simp! only [hw]
          rw [if_neg (fun q => hw q.1)] at ex
          exact ⟨by decide, by decide, fin ex⟩
end K76
/-! MA: the law's own sums, and its own code of a test. -/
namespace K76
open Sf
theorem c__law_product (n : Nat) {a : Int} {p : Pr} (ha : bits a ≤ 10000) (h1 : bits p.1 ≤ 10000) (h2 : bits p.2 ≤ 10000) {st : Cells} {P : D × Cells → Prop} (hP : P (pairD (prodP a p), st)) : Ev (callN T (n + 1) i__law_product [.int a, pairD p] st) P := by
  refine dcl (f := f__law_product) rfl rfl ?_
  unfold pairD at hP ⊢
  simp! only [f__law_product,b__law_product,start,List.replicate,List.append_nil,List.cons_append,List.nil_append,line,Int.reduceSub,Int.reduceAdd,Int.reduceMul,Int.reduceMod,Int.reduceDiv,List.length_map,List.length_append,and_self]
  have m1 : (if a * p.2 < a * p.1 then a * p.2 else a * p.1) = min (a * p.1) (a * p.2) := by split <;> omega
  have m2 : (if a * p.1 < a * p.2 then a * p.2 else a * p.1) = max (a * p.1) (a * p.2) := by split <;> omega
  rw [m1, m2]
  exact ⟨by omega, by omega, by omega, by omega, hP⟩
theorem nget {l : List Nat} {i a : Nat} (h : l[i]? = some a) : (natsD l)[i]? = some (.int (a : Int)) := by unfold natsD; rw [List.getElem?_map, h]; rfl
theorem sumsL_snoc {row : List Int} {rs : List Pr} {us : List Nat} {g : Nat} : sumsL row rs (us ++ [g]) (us.length + 1) = sumsL row rs us us.length ++ [((sumTo row rs us).1 + (prodP (row.getD g 0) (rs.getD g (0, 0))).1, (sumTo row rs us).2 + (prodP (row.getD g 0) (rs.getD g (0, 0))).2)] := by
  rw [sumsL_add, ← sumTo_add]
  congr 1
  · unfold sumsL
    refine List.map_congr_left fun j hj => ?_
    have := List.mem_range.mp hj
    rw [List.take_append_of_le_length (by omega)]
  · rw [List.take_of_length_le (by simp)]
def usUp (row : List Int) (i : Nat) : List Nat := (List.range i).filter fun g => decide (row.getD g 0 ≠ 0)
theorem usUp_succ {row : List Int} {i : Nat} : usUp row (i + 1) = usUp row i ++ if row.getD i 0 ≠ 0 then [i] else [] := by
  unfold usUp
  rw [filt_succ]
  simp only [decide_eq_true_eq]
theorem usUp_len {row : List Int} {i : Nat} : (usUp row i).length ≤ i := filt_len
theorem sums_get {row : List Int} {rs : List Pr} {us : List Nat} : ((sumsL row rs us us.length).map pairD)[us.length]? = some (pairD (sumTo row rs us)) := by
  unfold sumsL
  rw [List.map_map, List.getElem?_map, List.getElem?_range (by omega)]
  simp
def lsI (t : WT) (rs : List Pr) (st0 : Cells) (i : Nat) (ρ : Env) (st : Cells) : Prop := ∃ s3 s4 s5 : Slot, ρ = [.dat (testD t), .dat (rangesD rs), .own ((sumsL t.row rs (usUp t.row i) (usUp t.row i).length).map pairD), s3, s4, s5] ∧ st = st0
theorem c__law_sums (n : Nat) {t : WT} {rs : List Pr} (hf : Fit t rs) (hl : t.row.length = rs.length) {st : Cells} {P : D × Cells → Prop} (hP : P (.lst ((sumsL t.row rs (usedL t.row) (usedL t.row).length).map pairD), st)) : Ev (callN T (n + 2) i__law_sums [testD t, rangesD rs] st) P := by
  refine dcl (f := f__law_sums) rfl rfl ?_
  have hm := hf.most
  have er : rangesD rs = .tup (rs.map pairD) := rfl
  have et : testD t = .tup [.tup (t.row.map .int), .int t.rest] := rfl
  rw [er]
  simp! only [f__law_sums,b__law_sums,start,List.replicate,List.append_nil,List.cons_append,List.nil_append,line,Int.reduceSub,Int.reduceAdd,Int.reduceMul,Int.reduceMod,Int.reduceDiv,List.length_map,List.length_append,and_self]
  rw [← er]
  refine ⟨by omega, ?_⟩
  refine fl_idx (I := lsI t rs st) ⟨_, _, _, rfl, rfl⟩ ?_ ?_
  · rintro ρ st' ⟨s3, s4, s5, rfl, rfl⟩
    rw [rngD_len, Int.toNat_natCast]
    simp! only [line,Int.reduceSub,Int.reduceAdd,Int.reduceMul,Int.reduceMod,Int.reduceDiv,List.length_map,List.length_append,and_self]
    have : usUp t.row rs.length = usedL t.row := by unfold usUp usedL; rw [hl]
    rw [this]
    exact hP
  · rintro i x ρ st' hx ⟨s3, s4, s5, rfl, rfl⟩
    obtain ⟨hi, rfl⟩ := rng_at hx
    have hig : i < t.row.length := by omega
    have hat := hf.at hig
    have hul := usUp_len (row := t.row) (i := i)
    rw [er, et]
    simp! only [line,Int.reduceSub,Int.reduceAdd,Int.reduceMul,Int.reduceMod,Int.reduceDiv,List.length_map,List.length_append,and_self,getI_nat,iget hig]
    by_cases h0 : t.row.getD i 0 = 0
    · simp! only [h0,line,Int.reduceSub,Int.reduceAdd,Int.reduceMul,Int.reduceMod,Int.reduceDiv,List.length_map,List.length_append,and_self]
      have hS : usUp t.row (i + 1) = usUp t.row i := by rw [usUp_succ, if_neg (fun h => h h0), List.append_nil]
      unfold lsI
      rw [hS]
      exact ⟨_, _, _, rfl, rfl⟩
    · simp! only [h0,line,Int.reduceSub,Int.reduceAdd,Int.reduceMul,Int.reduceMod,Int.reduceDiv,List.length_map,List.length_append,and_self,getI_nat,iget hig,pget (s := rs) (k := i) (by omega)]
      refine c__law_product n hat.1 hat.2.1 hat.2.2 ?_
      have hS : usUp t.row (i + 1) = usUp t.row i ++ [i] := by rw [usUp_succ, if_pos h0]
      have e1 : (((sumsL t.row rs (usUp t.row i) (usUp t.row i).length).map pairD).length : Int) - 1 = (((usUp t.row i).length : Nat) : Int) := by
        rw [List.length_map, sumsL_len]; omega
      have hsl := sumsL_len (row := t.row) (rs := rs) (us := usUp t.row i) (i := (usUp t.row i).length)
      rw [List.length_map] at e1
      simp! only [line,Int.reduceSub,Int.reduceAdd,Int.reduceMul,Int.reduceMod,Int.reduceDiv,List.length_map,List.length_append,and_self,e1,getI_nat,sums_get,pairD]
      refine ⟨by omega, ?_⟩
      unfold lsI
      rw [hS, List.length_append, List.length_singleton, sumsL_snoc, List.map_append]
      exact ⟨_, _, _, rfl, rfl⟩
theorem used_asc {row : List Int} : (usedL row).Pairwise (· < ·) := List.Pairwise.filter _ (List.pairwise_lt_range)
def bcI (k t rs s0 : D) (sums : D) (w : WT) (st0 : Cells) (i : Nat) (ρ : Env) (st : Cells) : Prop := ∃ s4 : Slot, ρ = [.dat k, .dat t, .dat rs, .dat s0, s4, .dat (.lst (natsD (usedL w.row))), .dat sums, .own ((if usedL w.row = [] then [Ins.push 0] else parts w.row ((usedL w.row).take i)).map Ins.d)] ∧ st = st0
def skI (us : List Nat) (b : Int) (st0 : Cells) (i : Nat) (acc : List D) (st : Cells) : Prop := acc = ((us.take i).map fun (g : Nat) => (Ins.skip g b).d) ∧ st = st0
theorem c__law_code (n : Nat) {k s0 : Nat} {t : WT} {rs : List Pr} (hf : Fit t rs) (hl : t.row.length = rs.length) {st : Cells} {P : D × Cells → Prop} (hP : P (.lst ((testC k t rs s0).map Ins.d), st)) : Ev (callN T (n + 3) i__law_code [.int k, testD t, rangesD rs, .int s0] st) P := by
  refine dcl (f := f__law_code) rfl rfl ?_
  have hm := hf.most
  have hul := used_len (row := t.row)
  have hsl := sumC_len (row := t.row) (us := usedL t.row)
  have et : testD t = .tup [.tup (t.row.map .int), .int t.rest] := rfl
  have er : rangesD rs = .tup (rs.map pairD) := rfl
  rw [er]
  simp! only [f__law_code,b__law_code,start,List.replicate,List.append_nil,List.cons_append,List.nil_append,line,Int.reduceSub,Int.reduceAdd,Int.reduceMul,Int.reduceMod,Int.reduceDiv,List.length_map,List.length_append,and_self]
  refine ⟨by omega, ?_⟩
  refine ll_idx (I := fiI (fun g => decide (t.row.getD g 0 ≠ 0)) st) ⟨rfl, rfl⟩ ?_ ?_
  · rintro acc st' ⟨rfl, rfl⟩
    rw [rngD_len, Int.toNat_natCast, ← er]
    have eu : (List.range rs.length).filter (fun g => decide (t.row.getD g 0 ≠ 0)) = usedL t.row := by unfold usedL; rw [hl]
    rw [eu]
    simp! only [line,Int.reduceSub,Int.reduceAdd,Int.reduceMul,Int.reduceMod,Int.reduceDiv,List.length_map,List.length_append,and_self]
    refine ⟨by omega, ?_⟩
    refine c__law_sums n hf hl ?_
    have hS : ((sumsL t.row rs (usedL t.row) (usedL t.row).length).map pairD)[(usedL t.row).length]? = some (pairD (sumTo t.row rs (usedL t.row))) := sums_get
    have hSl := sumsL_len (row := t.row) (rs := rs) (us := usedL t.row) (i := (usedL t.row).length)
    have hSe : ((((sumsL t.row rs (usedL t.row) (usedL t.row).length).length : Nat) : Int) - 1) = (((usedL t.row).length : Nat) : Int) := by omega
    generalize hSd : (sumsL t.row rs (usedL t.row) (usedL t.row).length) = SL at hS hSl hSe
    have ml : (if t.rest + 1 < (sumTo t.row rs (usedL t.row)).1 then (sumTo t.row rs (usedL t.row)).1 else t.rest + 1) = leastOf t rs := by unfold leastOf; split <;> omega
    simp only [nats_len]
    split
    all_goals
      rename_i h0
      refine fl_idx (I := bcI (.int k) (testD t) (rangesD rs) (.int s0) (.lst (SL.map pairD)) t st') ⟨.un, ?_, rfl⟩ ?_ ?_
      · have hu : (usedL t.row = []) = (((usedL t.row).length : Int) = 0) := by
          rw [← List.length_eq_zero_iff]; exact propext ⟨fun h => by omega, fun h => by omega⟩
        simp only [hu,h0]
        rfl
      · rintro ρ st ⟨s4, rfl, rfl⟩
        rw [nats_len, List.take_length]
        have esc : (if usedL t.row = [] then [Ins.push 0] else parts t.row (usedL t.row)) = sumC t.row (usedL t.row) := rfl
        rw [esc, et]
        simp! only [line,Int.reduceSub,Int.reduceAdd,Int.reduceMul,Int.reduceMod,Int.reduceDiv,List.length_map,List.length_append,and_self,hSe,getI_nat,hS,pairD]
        rw [← et]
        refine ⟨by omega, ?_⟩
        have ml' : (if (sumTo t.row rs (usedL t.row)).1 > t.rest + 1 then (sumTo t.row rs (usedL t.row)).1 else t.rest + 1) = leastOf t rs := ml
        rw [ml']
        have eb : (sumC t.row (usedL t.row)).map Ins.d ++ [.tup [.str [112, 117, 115, 104], .int (leastOf t rs)], .tup [.str [108, 101, 97, 115, 116]], .tup [.str [114, 105, 110, 103], .int k]] = (bodyC k t rs).map Ins.d := by
          unfold bodyC
          rw [List.map_append]; rfl
        rw [eb]
        have hbl : (bodyC k t rs).length = (sumC t.row (usedL t.row)).length + 3 := by simp [bodyC]
        refine ll_idx (I := skI (usedL t.row) ((s0 + (usedL t.row).length + (bodyC k t rs).length : Nat) : Int) st) ⟨rfl, rfl⟩ ?_ ?_
        · rintro acc st' ⟨rfl, rfl⟩
          rw [nats_len, List.take_length]
          refine ⟨by omega, by simp only [List.length_map]; omega, ?_⟩
          unfold testC at hP
          rw [List.map_append, List.map_map] at hP
          exact hP
        · rintro i x acc st' hx ⟨rfl, rfl⟩
          obtain ⟨g, hg, rfl⟩ := nats_get hx
          have eB : ((s0 : Int) + ((usedL t.row).length : Int) + ((bodyC k t rs).length : Int)) = ((s0 + (usedL t.row).length + (bodyC k t rs).length : Nat) : Int) := by omega
          simp! only [line,Int.reduceSub,Int.reduceAdd,Int.reduceMul,Int.reduceMod,Int.reduceDiv,List.length_map,List.length_append,and_self,nats_len,List.length_map]
          rw [eB]
          exact ⟨by rw [take_one hg, List.map_append]; rfl, rfl⟩
      · rintro i x ρ st hx ⟨s4, rfl, rfl⟩
        obtain ⟨g, hg, rfl⟩ := nats_get hx
        have hgl := used_lt (List.mem_of_getElem? hg)
        have hil := (List.getElem?_eq_some_iff.mp hg).1
        have htl : ((usedL t.row).take i).length = i := by rw [List.length_take]; omega
        have hpl := parts_len (row := t.row) (us := (usedL t.row).take i)
        have hne : usedL t.row ≠ [] := fun e => by rw [e] at hil; simp at hil
        have h0g : (natsD (usedL t.row))[0]? = some (.int ((usedL t.row)[0] : Nat)) := nget (List.getElem?_eq_getElem (by omega))
        rw [et]
        simp! only [if_neg hne,line,Int.reduceSub,Int.reduceAdd,Int.reduceMul,Int.reduceMod,Int.reduceDiv,List.length_map,List.length_append,and_self,getI_nat,iget hgl.1,h0g]
        refine ⟨by omega, ?_⟩
        have h00 : (usedL t.row)[0]? = some (usedL t.row)[0] := List.getElem?_eq_getElem (by omega)
        by_cases hi0 : i = 0
        · subst hi0
          have : (usedL t.row)[0] = g := by rw [h00] at hg; exact Option.some.inj hg
          rw [this, if_neg (fun h => h rfl)]
          unfold bcI
          rw [if_neg hne, take_one hg, parts_add, htl, if_pos rfl, List.append_nil, List.map_append]
          exact ⟨_, rfl, rfl⟩
        · have hlt : (usedL t.row)[0] < g := by
            have := List.pairwise_iff_getElem.mp (used_asc (row := t.row)) 0 i (by omega) hil (by omega)
            have e : (usedL t.row)[i] = g := by rw [List.getElem?_eq_getElem hil] at hg; exact Option.some.inj hg
            rw [e] at this
            exact this
          rw [if_pos (by omega)]
          refine ⟨by omega, ?_⟩
          unfold bcI
          rw [if_neg hne, take_one hg, parts_add, htl, if_neg hi0, List.map_append, List.map_append, ← List.append_assoc]
          exact ⟨_, rfl, rfl⟩
  · rintro i x acc st' hx h
    obtain ⟨hi, rfl⟩ := rng_at hx
    have hig : i < t.row.length := by omega
    have hst : st' = st := h.2
    rw [et]
    simp! only [line,Int.reduceSub,Int.reduceAdd,Int.reduceMul,Int.reduceMod,Int.reduceDiv,List.length_map,List.length_append,and_self,getI_nat,iget hig]
    by_cases h0 : t.row.getD i 0 = 0
    · simp! only [h0,line,Int.reduceSub,Int.reduceAdd,Int.reduceMul,Int.reduceMod,Int.reduceDiv,List.length_map,List.length_append,and_self]
      subst hst
      exact fi_f (f := fun g => decide (t.row.getD g 0 ≠ 0)) (decide_eq_false (fun h => h h0)) h
    · simp! only [h0,line,Int.reduceSub,Int.reduceAdd,Int.reduceMul,Int.reduceMod,Int.reduceDiv,List.length_map,List.length_append,and_self]
      subst hst
      exact fi_t (decide_eq_true h0) h
end K76
/-! MB: the due program, by the law. -/
namespace K76
open Sf
def okRs (rs : List Pr) : Prop := rs.length ≤ 6 ∧ ∀ p ∈ rs, okR p
open Classical in
noncomputable def dueR (rs : List Pr) (ts : List WT) : Option (List Ins) :=
  if okRs rs ∧ ts.length ≤ 1000 ∧ (∀ t ∈ ts, mayR t rs → Worded t rs) ∧ (codeF rs 0 0 ts).length ≤ 3999 then some (progW rs ts) else none
def dueD : Option (List Ins) → D
  | none => .non
  | some is => progD is
def Ready (rs : List Pr) (ts : List WT) : Prop := okRs rs → ts.length ≤ 1000 → ∀ t ∈ ts, Fit t rs ∧ t.row.length = rs.length
def wrI (rs : List Pr) (st0 : Cells) (i : Nat) (acc : List D) (st : Cells) : Prop := (acc = [] ↔ ∀ p ∈ rs.take i, okR p) ∧ acc.length ≤ i ∧ st = st0
def pwI (ps : List Pr) (st0 : Cells) (i : Nat) (acc : List D) (st : Cells) : Prop := (acc = [] ↔ ∀ p ∈ ps.take i, w2 p) ∧ acc.length ≤ i ∧ st = st0
theorem lword' (n : Nat) {x : Int} {st : Cells} {P : D × Cells → Prop} (h : P (.bl (decide (word x)), st)) : Ev (callN T (n + 1) i__law_is_word [.int x] st) P := (c__law_is_word n x st).mono fun q hq => by rw [hq]; exact h
theorem prI_in {α : Type} {l : List α} {ok : α → Prop} {i : Nat} {p : α} {acc : List D} {st0 st : Cells} (hp : l[i]? = some p) (hok : ok p) (h : (acc = [] ↔ ∀ p ∈ l.take i, ok p) ∧ acc.length ≤ i ∧ st = st0) : (acc = [] ↔ ∀ p ∈ l.take (i + 1), ok p) ∧ acc.length ≤ i + 1 ∧ st = st0 := by
  refine ⟨?_, by omega, h.2.2⟩
  rw [take_one hp, h.1]
  constructor
  · intro a p hp
    rcases List.mem_append.mp hp with hp | hp
    · exact a p hp
    · rw [List.mem_singleton.mp hp]; exact hok
  · intro a p hp
    exact a p (List.mem_append_left _ hp)
theorem prI_out {α : Type} {l : List α} {ok : α → Prop} {i : Nat} {p : α} {acc : List D} {d : D} {st0 st : Cells} (hp : l[i]? = some p) (hok : ¬ ok p) (h : (acc = [] ↔ ∀ p ∈ l.take i, ok p) ∧ acc.length ≤ i ∧ st = st0) : (acc ++ [d] = [] ↔ ∀ p ∈ l.take (i + 1), ok p) ∧ (acc ++ [d]).length ≤ i + 1 ∧ st = st0 := by
  refine ⟨⟨fun e => by simp at e, fun a => absurd (a p ?_) hok⟩, by simp; omega, h.2.2⟩
  rw [take_one hp]; simp
/-- what is due where the ranges are none, or there are too many tests -/
theorem due_none {rs : List Pr} {ts : List WT} (h : ¬ (okRs rs ∧ ts.length ≤ 1000)) : dueR rs ts = none := if_neg fun q => h ⟨q.1, q.2.1⟩
def duI (rs : List Pr) (ts : List WT) (d3 : D) (st0 : Cells) (i : Nat) (ρ : Env) (st : Cells) : Prop := ∃ (F : List Ins) (s2 s5 s6 s7 s8 s9 : Slot), ρ = [.dat (.tup (ts.map testD)), .dat (rangesD rs), s2, .dat d3, .dat (.lst (F.map Ins.d)), s5, s6, s7, s8, s9] ∧ F ++ codeF rs i F.length (ts.drop i) = codeF rs 0 0 ts ∧ (∀ t ∈ ts.take i, mayR t rs → Worded t rs) ∧ st = st0
def puI (t : WT) (rs : List Pr) (st0 : Cells) (i : Nat) (acc : List D) (st : Cells) : Prop := acc = (usUp t.row i).map (fun g => pairD (prodG t rs g)) ∧ st = st0
def aaI (t : WT) (st0 : Cells) (i : Nat) (acc : List D) (st : Cells) : Prop := acc = (t.row.take i).map (fun a => pairD (a, a)) ∧ st = st0
def dueL (t : WT) (rs : List Pr) : List Pr := (usedL t.row).map (prodG t rs) ++ sumsL t.row rs (usedL t.row) (usedL t.row).length ++ t.row.map fun a => (a, a)
theorem word0 : word 0 := by decide
theorem due_worded {t : WT} {rs : List Pr} : (∀ p ∈ dueL t rs, w2 p) ↔ Worded t rs := by
  rw [← wd_iff]
  unfold dueL wdL
  rw [List.take_length]
  constructor
  · intro h p hp
    rcases List.mem_append.mp hp with hp | hp
    · exact h p (List.mem_append_left _ (List.mem_append_right _ hp))
    · obtain ⟨g, hg, hp⟩ := List.mem_flatMap.mp hp
      simp only [List.mem_cons,List.not_mem_nil,or_false] at hp
      rcases hp with rfl | rfl
      · exact h _ (List.mem_append_left _ (List.mem_append_left _ (List.mem_map.mpr ⟨g, hg, rfl⟩)))
      · refine h _ (List.mem_append_right _ (List.mem_map.mpr ⟨_, ?_, rfl⟩))
        have := (used_lt hg).1
        have e : t.row.getD g 0 = t.row[g] := by simp [List.getD, List.getElem?_eq_getElem this]
        rw [e]
        exact List.getElem_mem this
  · intro h p hp
    rcases List.mem_append.mp hp with hp | hp
    · rcases List.mem_append.mp hp with hp | hp
      · obtain ⟨g, hg, rfl⟩ := List.mem_map.mp hp
        exact h _ (List.mem_append_right _ (List.mem_flatMap.mpr ⟨g, hg, by simp⟩))
      · exact h p (List.mem_append_left _ hp)
    · obtain ⟨a, ha, rfl⟩ := List.mem_map.mp hp
      obtain ⟨g, hg, rfl⟩ := List.mem_iff_getElem.mp ha
      by_cases h0 : t.row[g] = 0
      · rw [h0]; exact ⟨word0, word0⟩
      · have e : t.row.getD g 0 = t.row[g] := by simp [List.getD, List.getElem?_eq_getElem hg]
        refine h _ (List.mem_append_right _ (List.mem_flatMap.mpr ⟨g, ?_, by rw [e]; simp⟩))
        unfold usedL
        rw [List.mem_filter, List.mem_range, decide_eq_true_eq, e]
        exact ⟨hg, h0⟩
theorem c__law_due (n : Nat) {rs : List Pr} {ts : List WT} (hrl : rs.length ≤ 1000) (htl : ts.length ≤ 10000) (hrd : Ready rs ts) {st : Cells} {P : D × Cells → Prop} (hP : P (dueD (dueR rs ts), st)) : Ev (callN T (n + 4) i__law_due [.tup (ts.map testD), rangesD rs] st) P := by
  refine dcl (f := f__law_due) rfl rfl ?_
  have er : rangesD rs = .tup (rs.map pairD) := rfl
  rw [er]
  simp! only [f__law_due,b__law_due,start,List.replicate,List.append_nil,List.cons_append,List.nil_append,line,Int.reduceSub,Int.reduceAdd,Int.reduceMul,Int.reduceMod,Int.reduceDiv,List.length_map,List.length_append,and_self]
  rw [← er]
  refine ll_idx (I := wrI rs st) ⟨by simp, Nat.le_refl _, rfl⟩ ?_ ?_
  · rintro acc st' ⟨ha, hal, rfl⟩
    rw [List.length_map] at ha hal
    rw [List.take_length] at ha
    have hal' : (0 : Int) < acc.length ↔ ¬ ∀ p ∈ rs, okR p := by
      rw [← ha, ← List.length_eq_zero_iff]; omega
    by_cases h1 : ∀ p ∈ rs, okR p
    · have hA : ¬ (0 : Int) < acc.length := fun h => hal'.mp h h1
      by_cases h2 : rs.length ≤ 6
      · have hB : ¬ (6 : Int) < rs.length := by omega
        by_cases h3 : ts.length ≤ 1000
        · have hC : ¬ (1000 : Int) < ts.length := by omega
          have hok : okRs rs := ⟨h2, h1⟩
          have hrd := hrd hok h3
          have hcl : (codeF rs 0 0 ts).length ≤ 34000 := by
            have := code_len (G := 6) (rs := rs) (ts := ts) (k := 0) (p := 0) fun w hw => by have := (hrd w hw).2; omega
            omega
          rw [er]
          simp! only [line,Int.reduceSub,Int.reduceAdd,Int.reduceMul,Int.reduceMod,Int.reduceDiv,List.length_map,List.length_append,and_self,hA,hB,hC]
          rw [← er]
          refine ⟨by omega, by omega, ?_⟩
          refine fl_idx (I := duI rs ts (.lst acc) st') ⟨[], _, _, _, _, _, _, rfl, rfl, fun t ht => (nomatch ht), rfl⟩ ?_ ?_
          · rintro ρ st ⟨F, s2, s5, s6, s7, s8, s9, rfl, hF, hw, rfl⟩
            rw [rngD_len, Int.toNat_natCast] at hF hw
            rw [List.drop_length] at hF
            rw [List.take_length] at hw
            have hF : F = codeF rs 0 0 ts := by rw [← hF]; simp [codeF]
            subst hF
            simp! only [line,Int.reduceSub,Int.reduceAdd,Int.reduceMul,Int.reduceMod,Int.reduceDiv,List.length_map,List.length_append,and_self]
            split
            · rename_i h4
              have : dueR rs ts = none := if_neg fun q => by have := q.2.2.2; omega
              rw [this] at hP
              exact hP
            · rename_i h4
              have : dueR rs ts = some (progW rs ts) := if_pos ⟨hok, h3, hw, by omega⟩
              rw [this] at hP
              refine ⟨by omega, ?_⟩
              have hP' : P (.tup ((codeF rs 0 0 ts ++ [Ins.stop]).map Ins.d), st) := hP
              rw [List.map_append] at hP'
              exact hP'
          · rintro i x ρ st hx ⟨F, s2, s5, s6, s7, s8, s9, rfl, hF, hw, rfl⟩
            obtain ⟨hi, rfl⟩ := rng_at hx
            have hti : ts[i]? = some ts[i] := List.getElem?_eq_getElem hi
            generalize ts[i] = t at hti
            have hm := List.mem_of_getElem? hti
            obtain ⟨hft, hft2⟩ := hrd t hm
            rw [drop_get hti, codeF] at hF
            simp! only [line,Int.reduceSub,Int.reduceAdd,Int.reduceMul,Int.reduceMod,Int.reduceDiv,List.length_map,List.length_append,and_self,getI_nat,List.getElem?_map,hti]
            refine c__law_sums (n + 1) hft hft2 ?_
            have hFl : F.length ≤ 34000 := by
              have := congrArg List.length hF
              rw [List.length_append] at this
              omega
            have hSl := sumsL_len (row := t.row) (rs := rs) (us := usedL t.row) (i := (usedL t.row).length)
            have hul := used_len (row := t.row)
            have hSe : ((((sumsL t.row rs (usedL t.row) (usedL t.row).length).length : Nat) : Int) - 1) = (((usedL t.row).length : Nat) : Int) := by omega
            have et : testD t = .tup [.tup (t.row.map .int), .int t.rest] := rfl
            rw [et]
            simp! only [line,Int.reduceSub,Int.reduceAdd,Int.reduceMul,Int.reduceMod,Int.reduceDiv,List.length_map,List.length_append,and_self,hSe,getI_nat,sums_get,pairD]
            by_cases hmr : mayR t rs
            · have hmr2 : t.rest < (sumTo t.row rs (usedL t.row)).2 := hmr
              rw [if_pos hmr] at hF
              rw [er]
              simp! only [hmr2,line,Int.reduceSub,Int.reduceAdd,Int.reduceMul,Int.reduceMod,Int.reduceDiv,List.length_map,List.length_append,and_self]
              refine ⟨by omega, ?_⟩
              refine ll_idx (I := puI t rs st) ⟨rfl, rfl⟩ ?_ ?_
              · rintro acc2 st2 ⟨rfl, rfl⟩
                rw [rngD_len, Int.toNat_natCast]
                have eu : usUp t.row rs.length = usedL t.row := by unfold usUp usedL; rw [hft2]
                rw [eu]
                simp! only [line,Int.reduceSub,Int.reduceAdd,Int.reduceMul,Int.reduceMod,Int.reduceDiv,List.length_map,List.length_append,and_self,getI_nat,List.getElem?_map,hti]
                rw [et]
                simp! only [line,Int.reduceSub,Int.reduceAdd,Int.reduceMul,Int.reduceMod,Int.reduceDiv,List.length_map,List.length_append,and_self]
                refine ⟨by omega, by omega, ?_⟩
                refine ll_idx (I := aaI t st2) ⟨rfl, rfl⟩ ?_ ?_
                · rintro acc3 st3 ⟨rfl, rfl⟩
                  have etk : t.row.take (t.row.map D.int).length = t.row := by rw [List.length_map, List.take_length]
                  rw [etk]
                  have eL : (usedL t.row).map (fun g => pairD (prodG t rs g)) ++ (sumsL t.row rs (usedL t.row) (usedL t.row).length).map pairD ++ (t.row.map fun a => pairD (a, a)) = (dueL t rs).map pairD := by
                    unfold dueL
                    simp only [List.map_append,List.map_map]
                    rfl
                  have hdl : (dueL t rs).length ≤ 100 := by
                    unfold dueL
                    simp only [List.length_append,List.length_map,hSl]
                    omega
                  simp! only [line,Int.reduceSub,Int.reduceAdd,Int.reduceMul,Int.reduceMod,Int.reduceDiv,List.length_map,List.length_append,and_self,eL,List.length_map]
                  refine ⟨by omega, by omega, ?_⟩
                  refine ll_idx (I := pwI (dueL t rs) st3) ⟨by simp, Nat.le_refl _, rfl⟩ ?_ ?_
                  · rintro acc4 st4 ⟨hc, hcl4, rfl⟩
                    rw [List.length_map] at hc hcl4
                    rw [List.take_length] at hc
                    have hc2 := hc.trans due_worded
                    have hc3 : (0 : Int) < acc4.length ↔ ¬ Worded t rs := by
                      rw [← hc2, ← List.length_eq_zero_iff]; omega
                    refine ⟨by omega, ?_⟩
                    by_cases hwd : Worded t rs
                    · rw [if_neg fun h => hc3.mp h hwd, ← et, ← er]
                      refine c__law_code n hft hft2 ?_
                      have hlen : F.length + (testC i t rs F.length).length ≤ 34000 := by
                        have := congrArg List.length hF
                        simp only [List.length_append] at this
                        omega
                      simp! only [line,Int.reduceSub,Int.reduceAdd,Int.reduceMul,Int.reduceMod,Int.reduceDiv,List.length_map,List.length_append,and_self,List.length_map]
                      refine ⟨by omega, F ++ testC i t rs F.length, _, _, _, _, _, _, by rw [List.map_append], ?_, fun w hw2 => ?_, rfl⟩
                      · rw [List.length_append, List.append_assoc]
                        exact hF
                      · rw [take_one hti] at hw2
                        rcases List.mem_append.mp hw2 with hw2 | hw2
                        · exact hw w hw2
                        · rw [List.mem_singleton.mp hw2]; exact fun _ => hwd
                    · rw [if_pos (hc3.mpr hwd)]
                      have : dueR rs ts = none := if_neg fun q => hwd (q.2.2.1 t hm hmr)
                      rw [this] at hP
                      exact hP
                  · rintro j y acc4 st4 hy h4
                    rw [List.getElem?_map] at hy
                    obtain ⟨p, hp, rfl⟩ := Option.map_eq_some_iff.mp hy
                    have hst : st4 = st3 := h4.2.2
                    subst hst
                    unfold pairD
                    simp! only [line,Int.reduceSub,Int.reduceAdd,Int.reduceMul,Int.reduceMod,Int.reduceDiv,List.length_map,List.length_append,and_self]
                    refine lword' (n + 2) ?_
                    by_cases h5 : word p.1
                    · simp! only [h5,line,Int.reduceSub,Int.reduceAdd,Int.reduceMul,Int.reduceMod,Int.reduceDiv,List.length_map,List.length_append,and_self]
                      refine lword' (n + 2) ?_
                      by_cases h6 : word p.2
                      · simp! only [h6,line,Int.reduceSub,Int.reduceAdd,Int.reduceMul,Int.reduceMod,Int.reduceDiv,List.length_map,List.length_append,and_self]
                        exact prI_in hp ⟨h5, h6⟩ h4
                      · simp! only [h6,line,Int.reduceSub,Int.reduceAdd,Int.reduceMul,Int.reduceMod,Int.reduceDiv,List.length_map,List.length_append,and_self]
                        exact prI_out hp (fun q => h6 q.2) h4
                    · simp! only [h5,line,Int.reduceSub,Int.reduceAdd,Int.reduceMul,Int.reduceMod,Int.reduceDiv,List.length_map,List.length_append,and_self]
                      exact prI_out hp (fun q => h5 q.1) h4
                · rintro j y acc3 st3 hy ⟨rfl, rfl⟩
                  rw [List.getElem?_map] at hy
                  obtain ⟨a, ha2, rfl⟩ := Option.map_eq_some_iff.mp hy
                  simp! only [line,Int.reduceSub,Int.reduceAdd,Int.reduceMul,Int.reduceMod,Int.reduceDiv,List.length_map,List.length_append,and_self]
                  exact ⟨by rw [take_one ha2, List.map_append]; rfl, rfl⟩
              · rintro j y acc2 st2 hy ⟨rfl, rfl⟩
                obtain ⟨hj, rfl⟩ := rng_at hy
                have hjg : j < t.row.length := by omega
                have hat := hft.at hjg
                simp! only [line,Int.reduceSub,Int.reduceAdd,Int.reduceMul,Int.reduceMod,Int.reduceDiv,List.length_map,List.length_append,and_self,getI_nat,List.getElem?_map,hti]
                rw [et]
                simp! only [line,Int.reduceSub,Int.reduceAdd,Int.reduceMul,Int.reduceMod,Int.reduceDiv,List.length_map,List.length_append,and_self,getI_nat,iget hjg]
                by_cases h0 : t.row.getD j 0 = 0
                · simp! only [h0,line,Int.reduceSub,Int.reduceAdd,Int.reduceMul,Int.reduceMod,Int.reduceDiv,List.length_map,List.length_append,and_self]
                  unfold puI
                  rw [usUp_succ, if_neg (fun h => h h0), List.append_nil]
                  exact ⟨rfl, rfl⟩
                · simp! only [h0,line,Int.reduceSub,Int.reduceAdd,Int.reduceMul,Int.reduceMod,Int.reduceDiv,List.length_map,List.length_append,and_self,getI_nat,List.getElem?_map,hti]
                  rw [et]
                  have hrj : rs[j]? = some (rs.getD j (0, 0)) := by
                    rw [List.getElem?_eq_getElem hj]; simp [List.getD, List.getElem?_eq_getElem hj]
                  simp! only [line,Int.reduceSub,Int.reduceAdd,Int.reduceMul,Int.reduceMod,Int.reduceDiv,List.length_map,List.length_append,and_self,getI_nat,iget hjg,hrj]
                  refine c__law_product (n + 2) hat.1 hat.2.1 hat.2.2 ?_
                  simp! only [line,Int.reduceSub,Int.reduceAdd,Int.reduceMul,Int.reduceMod,Int.reduceDiv,List.length_map,List.length_append,and_self]
                  unfold puI
                  rw [usUp_succ, if_pos h0, List.map_append]
                  exact ⟨rfl, rfl⟩
            · have hmr2 : ¬ t.rest < (sumTo t.row rs (usedL t.row)).2 := hmr
              rw [if_neg hmr] at hF
              simp! only [hmr2,line,Int.reduceSub,Int.reduceAdd,Int.reduceMul,Int.reduceMod,Int.reduceDiv,List.length_map,List.length_append,and_self]
              refine ⟨F, _, _, _, _, _, _, rfl, hF, fun w hw2 => ?_, rfl⟩
              rw [take_one hti] at hw2
              rcases List.mem_append.mp hw2 with hw2 | hw2
              · exact hw w hw2
              · rw [List.mem_singleton.mp hw2]; exact fun h => absurd h hmr
        · have hC : (1000 : Int) < ts.length := by omega
          rw [due_none fun q => h3 q.2] at hP
          rw [er]
          simp! only [line,Int.reduceSub,Int.reduceAdd,Int.reduceMul,Int.reduceMod,Int.reduceDiv,List.length_map,List.length_append,and_self,hA,hB,hC]
          exact ⟨by omega, hP⟩
      · have hB : (6 : Int) < rs.length := by omega
        rw [due_none fun q => h2 q.1.1] at hP
        rw [er]
        simp! only [line,Int.reduceSub,Int.reduceAdd,Int.reduceMul,Int.reduceMod,Int.reduceDiv,List.length_map,List.length_append,and_self,hA,hB]
        exact ⟨by omega, hP⟩
    · have hA : (0 : Int) < acc.length := hal'.mpr h1
      rw [due_none fun q => h1 q.1.2] at hP
      rw [er]
      simp! only [line,Int.reduceSub,Int.reduceAdd,Int.reduceMul,Int.reduceMod,Int.reduceDiv,List.length_map,List.length_append,and_self,hA]
      exact ⟨by omega, hP⟩
  · rintro i x acc st' hx h
    rw [List.getElem?_map] at hx
    obtain ⟨p, hp, rfl⟩ := Option.map_eq_some_iff.mp hx
    have hst : st' = st := h.2.2
    subst hst
    unfold pairD
    simp! only [line,Int.reduceSub,Int.reduceAdd,Int.reduceMul,Int.reduceMod,Int.reduceDiv,List.length_map,List.length_append,and_self]
    by_cases h1 : p.2 < p.1
    · simp! only [h1,line,Int.reduceSub,Int.reduceAdd,Int.reduceMul,Int.reduceMod,Int.reduceDiv,List.length_map,List.length_append,and_self]
      exact prI_out hp (fun q => by have := q.2.2; omega) h
    · simp! only [h1,line,Int.reduceSub,Int.reduceAdd,Int.reduceMul,Int.reduceMod,Int.reduceDiv,List.length_map,List.length_append,and_self]
      refine lword' (n + 2) ?_
      by_cases h2 : word p.1
      · simp! only [h2,line,Int.reduceSub,Int.reduceAdd,Int.reduceMul,Int.reduceMod,Int.reduceDiv,List.length_map,List.length_append,and_self]
        refine lword' (n + 2) ?_
        by_cases h3 : word p.2
        · simp! only [h3,line,Int.reduceSub,Int.reduceAdd,Int.reduceMul,Int.reduceMod,Int.reduceDiv,List.length_map,List.length_append,and_self]
          exact prI_in hp ⟨h2, h3, by omega⟩ h
        · simp! only [h3,line,Int.reduceSub,Int.reduceAdd,Int.reduceMul,Int.reduceMod,Int.reduceDiv,List.length_map,List.length_append,and_self]
          exact prI_out hp (fun q => h3 q.2.1) h
      · simp! only [h2,line,Int.reduceSub,Int.reduceAdd,Int.reduceMul,Int.reduceMod,Int.reduceDiv,List.length_map,List.length_append,and_self]
        exact prI_out hp (fun q => h2 q.1) h
end K76
/-! MC: the program's own, or what it raises; told by the law. -/
namespace K76
open Sf
def nl (st : Cells) : Nat → Cells → Prop := fun k st' => k = 2 ∧ st' = st
def pxI (rs : List Pr) (ts : List WT) (st0 : Cells) (i : Nat) (ρ : Env) (st : Cells) : Prop := ∃ (F : List Ins) (s3 s4 : Slot), ρ = [.dat (.tup (ts.map testD)), .dat (rangesD rs), .own (F.map Ins.d), s3, s4] ∧ F ++ codeF rs i F.length (ts.drop i) = codeF rs 0 0 ts ∧ (∀ t ∈ ts.take i, mayR t rs → Worded t rs) ∧ st = st0
theorem okRs_rgs {rs : List Pr} (h : okRs rs) : Rgs rs rs.length := ⟨rfl, h.1, h.2⟩
theorem due_some {rs : List Pr} {ts : List WT} {is : List Ins} (h : dueR rs ts = some is) : okRs rs ∧ ts.length ≤ 1000 ∧ (∀ t ∈ ts, mayR t rs → Worded t rs) ∧ (codeF rs 0 0 ts).length ≤ 3999 ∧ is = progW rs ts := by
  unfold dueR at h
  split at h
  · rename_i q
    exact ⟨q.1, q.2.1, q.2.2.1, q.2.2.2, (Option.some.inj h).symm⟩
  · cases h
theorem program_of' (n : Nat) {rs : List Pr} {ts : List WT} (hrd : Ready rs ts) {is : List Ins} (h : dueR rs ts = some is) {st : Cells} {P : D × Cells → Prop} (hP : P (progD is, st)) : Ev (callN T (n + 4) i_program_of [.tup (ts.map testD), rangesD rs] st) P := by
  obtain ⟨h1, h2, h3, h4, rfl⟩ := due_some h
  refine (c_program_of n (okRs_rgs h1) h2 (fun t ht => (hrd h1 h2 t ht).1) h3 h4 st).mono fun q hq => ?_
  unfold kept at hq
  rw [hq]; exact hP
theorem x_program_of (n : Nat) {rs : List Pr} {ts : List WT} (hrl : rs.length ≤ 1000) (htl : ts.length ≤ 10000) (hrd : Ready rs ts) (h : dueR rs ts = none) (st : Cells) : Xq (callN T (n + 4)) i_program_of [.tup (ts.map testD), rangesD rs] st (nl st) := by
  refine dclX (f := f_program_of) rfl rfl ?_
  show Xv (xSs _ GV b_program_of [.dat _, .dat _, .un, .un, .un] st) _
  unfold b_program_of
  by_cases h1 : okRs rs
  · by_cases h2 : ts.length ≤ 1000
    · have hC : ¬ (1000 : Int) < ts.length := by omega
      have hrd := hrd h1 h2
      have hcl : (codeF rs 0 0 ts).length ≤ 34000 := by
        have := code_len (G := 6) (rs := rs) (ts := ts) (k := 0) (p := 0) fun w hw => by have := (hrd w hw).2; have := h1.1; omega
        omega
      refine xv_nx ?_
      simp! only [line,Int.reduceSub,Int.reduceAdd,Int.reduceMul,Int.reduceMod,Int.reduceDiv,List.length_map,List.length_append,and_self]
      refine ranges_t n hrl h1 ?_
      simp! only [line,Int.reduceSub,Int.reduceAdd,Int.reduceMul,Int.reduceMod,Int.reduceDiv,List.length_map,List.length_append,and_self,hC,seqx_nx]
      refine xv_nx ?_
      simp! only [line,Int.reduceSub,Int.reduceAdd,Int.reduceMul,Int.reduceMod,Int.reduceDiv,List.length_map,List.length_append,and_self,seqx_nx]
      by_cases h3 : ∀ t ∈ ts, mayR t rs → Worded t rs
      · have h4 : ¬ (codeF rs 0 0 ts).length ≤ 3999 := fun h4 => by
          have : dueR rs ts = some (progW rs ts) := if_pos ⟨h1, h2, h3, h4⟩
          rw [h] at this; cases this
        refine xv_nx ?_
        simp! only [line,Int.reduceSub,Int.reduceAdd,Int.reduceMul,Int.reduceMod,Int.reduceDiv,List.length_map,List.length_append,and_self]
        refine fl_idx (I := pxI rs ts st) ⟨[], _, _, rfl, rfl, fun t ht => (nomatch ht), rfl⟩ ?_ ?_
        · rintro ρ st' ⟨F, s3, s4, rfl, hF, hw, rfl⟩
          rw [enumD_len, List.length_map, List.drop_length] at hF
          have hF : F = codeF rs 0 0 ts := by rw [← hF]; simp [codeF]
          subst hF
          simp only [seqx_nx]
          refine xv_nx ?_
          simp! only [line,Int.reduceSub,Int.reduceAdd,Int.reduceMul,Int.reduceMod,Int.reduceDiv,List.length_map,List.length_append,and_self,seqx_nx]
          refine ⟨by omega, ?_⟩
          refine xv_stop (xs_iff ?_)
          have h5 : (4000 : Int) < ((codeF rs 0 0 ts).length + 1 : Nat) := by omega
          simp! only [line,Int.reduceSub,Int.reduceAdd,Int.reduceMul,Int.reduceMod,Int.reduceDiv,List.length_map,List.length_append,and_self,iffx_d]
          rw [if_pos h5]
          exact xv_stop (xs_rais ⟨rfl, rfl⟩)
        · rintro i x ρ st' hx ⟨F, s3, s4, rfl, hF, hw, rfl⟩
          rw [enumD_get, List.getElem?_map] at hx
          obtain ⟨d, hd, rfl⟩ := Option.map_eq_some_iff.mp hx
          obtain ⟨t, hti, rfl⟩ := Option.map_eq_some_iff.mp hd
          have hm := List.mem_of_getElem? hti
          have hft := (hrd t hm).1
          rw [drop_get hti, codeF] at hF
          simp! only [line,Int.reduceSub,Int.reduceAdd,Int.reduceMul,Int.reduceMod,Int.reduceDiv,List.length_map,List.length_append,and_self]
          refine (c_may_ring n hft st').mono fun q hq => ?_
          unfold kept at hq
          subst hq
          by_cases hmr : mayR t rs
          · have hmr2 : t.rest < (sumTo t.row rs (usedL t.row)).2 := hmr
            rw [if_pos hmr] at hF
            simp! only [hmr2,line,Int.reduceSub,Int.reduceAdd,Int.reduceMul,Int.reduceMod,Int.reduceDiv,List.length_map,List.length_append,and_self]
            refine (c_is_worded n hft st').mono fun q hq => ?_
            obtain ⟨b, rfl, hb⟩ := hq
            have hb : b = true := hb.mpr (h3 t hm hmr)
            subst hb
            simp! only [line,Int.reduceSub,Int.reduceAdd,Int.reduceMul,Int.reduceMod,Int.reduceDiv,List.length_map,List.length_append,and_self]
            refine (c_test_code n (k := i) (s0 := F.length) hft st').mono fun q hq => ?_
            unfold kept at hq
            subst hq
            have hlen : F.length + (testC i t rs F.length).length ≤ 34000 := by
              have := congrArg List.length hF
              simp only [List.length_append] at this
              omega
            simp! only [line,Int.reduceSub,Int.reduceAdd,Int.reduceMul,Int.reduceMod,Int.reduceDiv,List.length_map,List.length_append,and_self]
            refine ⟨by omega, F ++ testC i t rs F.length, _, _, by rw [List.map_append], ?_, fun w _ => h3 w ?_, rfl⟩
            · rw [List.length_append, List.append_assoc]
              exact hF
            · exact List.mem_of_mem_take ‹_›
          · rw [if_neg hmr] at hF
            have hmr2 : ¬ t.rest < (sumTo t.row rs (usedL t.row)).2 := hmr
            simp! only [hmr2,line,Int.reduceSub,Int.reduceAdd,Int.reduceMul,Int.reduceMod,Int.reduceDiv,List.length_map,List.length_append,and_self]
            exact ⟨F, _, _, rfl, hF, fun w hw2 => h3 w (List.mem_of_mem_take hw2), rfl⟩
      · refine xv_stop (xs_for ?_)
        simp! only [line,Int.reduceSub,Int.reduceAdd,Int.reduceMul,Int.reduceMod,Int.reduceDiv,List.length_map,List.length_append,and_self]
        refine forx_run (Inv := pxI rs ts st) ⟨[], _, _, rfl, rfl, fun t ht => (nomatch ht), rfl⟩ ?_ ?_
        · rintro i x ρ st' hx ⟨F, s3, s4, rfl, hF, hw, rfl⟩
          rw [enumD_get, List.getElem?_map] at hx
          obtain ⟨d, hd, rfl⟩ := Option.map_eq_some_iff.mp hx
          obtain ⟨t, hti, rfl⟩ := Option.map_eq_some_iff.mp hd
          have hm := List.mem_of_getElem? hti
          have hft := (hrd t hm).1
          rw [drop_get hti, codeF] at hF
          simp! only [line,Int.reduceSub,Int.reduceAdd,Int.reduceMul,Int.reduceMod,Int.reduceDiv,List.length_map,List.length_append,and_self]
          by_cases hmr : mayR t rs
          · have hmr2 : t.rest < (sumTo t.row rs (usedL t.row)).2 := hmr
            by_cases hwd : Worded t rs
            · refine .inl ?_
              rw [if_pos hmr] at hF
              refine (c_may_ring n hft st').mono fun q hq => ?_
              unfold kept at hq
              subst hq
              simp! only [hmr2,line,Int.reduceSub,Int.reduceAdd,Int.reduceMul,Int.reduceMod,Int.reduceDiv,List.length_map,List.length_append,and_self]
              refine (c_is_worded n hft st').mono fun q hq => ?_
              obtain ⟨b, rfl, hb⟩ := hq
              have hb : b = true := hb.mpr hwd
              subst hb
              simp! only [line,Int.reduceSub,Int.reduceAdd,Int.reduceMul,Int.reduceMod,Int.reduceDiv,List.length_map,List.length_append,and_self]
              refine (c_test_code n (k := i) (s0 := F.length) hft st').mono fun q hq => ?_
              unfold kept at hq
              subst hq
              have hlen : F.length + (testC i t rs F.length).length ≤ 34000 := by
                have := congrArg List.length hF
                simp only [List.length_append] at this
                omega
              simp! only [line,Int.reduceSub,Int.reduceAdd,Int.reduceMul,Int.reduceMod,Int.reduceDiv,List.length_map,List.length_append,and_self]
              refine ⟨by omega, .inl ⟨_, _, rfl, F ++ testC i t rs F.length, _, _, by rw [List.map_append], ?_, fun w hw2 => ?_, rfl⟩⟩
              · rw [List.length_append, List.append_assoc]
                exact hF
              · rw [take_one hti] at hw2
                rcases List.mem_append.mp hw2 with hw2 | hw2
                · exact hw w hw2
                · rw [List.mem_singleton.mp hw2]; exact fun _ => hwd
            · refine .inr (xv_stop (xs_iff ?_))
              simp! only [line,Int.reduceSub,Int.reduceAdd,Int.reduceMul,Int.reduceMod,Int.reduceDiv,List.length_map,List.length_append,and_self]
              refine (c_may_ring n hft st').mono fun q hq => ?_
              unfold kept at hq
              subst hq
              simp! only [hmr2,line,Int.reduceSub,Int.reduceAdd,Int.reduceMul,Int.reduceMod,Int.reduceDiv,List.length_map,List.length_append,and_self,iffx_t,iffx_d]
              refine xv_stop (xs_iff ?_)
              simp! only [line,Int.reduceSub,Int.reduceAdd,Int.reduceMul,Int.reduceMod,Int.reduceDiv,List.length_map,List.length_append,and_self]
              refine (c_is_worded n hft st').mono fun q hq => ?_
              obtain ⟨b, rfl, hb⟩ := hq
              have hb : b = false := by
                cases b with
                | false => rfl
                | true => exact absurd (hb.mp rfl) hwd
              subst hb
              simp! only [line,Int.reduceSub,Int.reduceAdd,Int.reduceMul,Int.reduceMod,Int.reduceDiv,List.length_map,List.length_append,and_self,iffx_t,iffx_d]
              exact xv_stop (xs_rais ⟨rfl, rfl⟩)
          · rw [if_neg hmr] at hF
            have hmr2 : ¬ t.rest < (sumTo t.row rs (usedL t.row)).2 := hmr
            refine .inl ?_
            refine (c_may_ring n hft st').mono fun q hq => ?_
            unfold kept at hq
            subst hq
            simp! only [hmr2,line,Int.reduceSub,Int.reduceAdd,Int.reduceMul,Int.reduceMod,Int.reduceDiv,List.length_map,List.length_append,and_self]
            refine .inl ⟨_, _, rfl, F, _, _, rfl, hF, fun w hw2 => ?_, rfl⟩
            rw [take_one hti] at hw2
            rcases List.mem_append.mp hw2 with hw2 | hw2
            · exact hw w hw2
            · rw [List.mem_singleton.mp hw2]; exact fun h => absurd h hmr
        · rintro ρ st' ⟨F, s3, s4, rfl, hF, hw, rfl⟩
          rw [enumD_len, List.length_map, List.take_length] at hw
          exact h3 hw
    · have hC : (1000 : Int) < ts.length := by omega
      refine xv_stop (xs_iff ?_)
      simp! only [line,Int.reduceSub,Int.reduceAdd,Int.reduceMul,Int.reduceMod,Int.reduceDiv,List.length_map,List.length_append,and_self]
      refine ranges_t n hrl h1 ?_
      simp! only [line,Int.reduceSub,Int.reduceAdd,Int.reduceMul,Int.reduceMod,Int.reduceDiv,List.length_map,List.length_append,and_self,hC,iffx_t,iffx_d]
      exact xv_stop (xs_rais ⟨rfl, rfl⟩)
  · refine xv_stop (xs_iff ?_)
    simp! only [line,Int.reduceSub,Int.reduceAdd,Int.reduceMul,Int.reduceMod,Int.reduceDiv,List.length_map,List.length_append,and_self]
    refine ranges_f n hrl h1 ?_
    simp! only [line,Int.reduceSub,Int.reduceAdd,Int.reduceMul,Int.reduceMod,Int.reduceDiv,List.length_map,List.length_append,and_self,iffx_t,iffx_d]
    exact xv_stop (xs_rais ⟨rfl, rfl⟩)
theorem fines_of {n : Nat} : ∀ {ds : List D}, (∀ d ∈ ds, fine n d = true) → fines n ds = true
  | [], _ => by cases n <;> rfl
  | d :: ds, h => by
    unfold fines
    rw [h d (by simp), fines_of fun e he => h e (by simp [he])]; rfl
theorem fine_tup {n : Nat} {ds : List D} (hl : ds.length ≤ 100000) (h : ∀ d ∈ ds, fine n d = true) : fine (n + 1) (.tup ds) = true := by
  show (decide (ds.length ≤ line) && fines n ds) = true
  rw [fines_of h, decide_eq_true (by have : line = 16777216 := rfl; omega)]; rfl
theorem fine_str {n : Nat} {l : List Nat} (h : (l.all fun c => decide (c < 1114112)) = true) : fine n (.str l) = true := by cases n <;> exact h
theorem fine_int {n : Nat} {i : Int} : fine n (.int i) = true := by cases n <;> rfl
theorem fine_ins {n : Nat} {i : Ins} : fine (n + 1) i.d = true := by
  cases i with
  | skip a t =>
    refine fine_tup (by simp) fun d hd => ?_
    simp only [List.mem_cons,List.not_mem_nil,or_false] at hd
    rcases hd with rfl | rfl | rfl
    · exact fine_str (by decide)
    · exact fine_int
    · exact fine_int
  | push v =>
    refine fine_tup (by simp) fun d hd => ?_
    simp only [List.mem_cons,List.not_mem_nil,or_false] at hd
    rcases hd with rfl | rfl
    · exact fine_str (by decide)
    · exact fine_int
  | reading v =>
    refine fine_tup (by simp) fun d hd => ?_
    simp only [List.mem_cons,List.not_mem_nil,or_false] at hd
    rcases hd with rfl | rfl
    · exact fine_str (by decide)
    · exact fine_int
  | ring v =>
    refine fine_tup (by simp) fun d hd => ?_
    simp only [List.mem_cons,List.not_mem_nil,or_false] at hd
    rcases hd with rfl | rfl
    · exact fine_str (by decide)
    · exact fine_int
  | _ =>
    refine fine_tup (by simp) fun d hd => ?_
    rw [List.mem_singleton.mp hd]
    exact fine_str (by decide)
theorem same' (k : Nat) {d : D} (n : Nat) {st : Cells} {P : D × Cells → Prop} (hf : fine k d = true) (h : P (.bl true, st)) : Ev (callN T (n + k + 1) i__law_same [d, d] st) P := (same_refl k d n st hf).mono fun q hq => by
  unfold sameR at hq
  rw [hq]; exact h
theorem fine_prog {n : Nat} {is : List Ins} (h : is.length ≤ 100000) : fine (n + 2) (progD is) = true := fine_tup (by rw [List.length_map]; exact h) fun d hd => by
  obtain ⟨i, _, rfl⟩ := List.mem_map.mp hd
  exact fine_ins
theorem told' (n : Nat) {rs : List Pr} {ts : List WT} (hrl : rs.length ≤ 1000) (htl : ts.length ≤ 10000) (hrd : Ready rs ts) {st : Cells} {P : D × Cells → Prop} (hP : P (.bl true, st)) : Ev (callN T (n + 5) i__law_told [.tup (ts.map testD), rangesD rs] st) P := by
  refine dcl (f := f__law_told) rfl rfl ?_
  cases hd : dueR rs ts with
  | some is =>
    obtain ⟨h1, h2, h3, h4, e⟩ := due_some hd
    simp! only [f__law_told,b__law_told,start,List.replicate,List.append_nil,List.cons_append,List.nil_append,line,Int.reduceSub,Int.reduceAdd,Int.reduceMul,Int.reduceMod,Int.reduceDiv,List.length_map,List.length_append,and_self]
    refine c__law_due n hrl htl hrd ?_
    rw [hd]
    simp! only [line,Int.reduceSub,Int.reduceAdd,Int.reduceMul,Int.reduceMod,Int.reduceDiv,List.length_map,List.length_append,and_self,dueD]
    refine st_try (exl few _) ?_
    simp! only [line,Int.reduceSub,Int.reduceAdd,Int.reduceMul,Int.reduceMod,Int.reduceDiv,List.length_map,List.length_append,and_self]
    refine program_of' n hrd hd ?_
    simp! only [line,Int.reduceSub,Int.reduceAdd,Int.reduceMul,Int.reduceMod,Int.reduceDiv,List.length_map,List.length_append,and_self]
    have hnn : (progD is).isNone = false := rfl
    simp! only [hnn,line,Int.reduceSub,Int.reduceAdd,Int.reduceMul,Int.reduceMod,Int.reduceDiv,List.length_map,List.length_append,and_self]
    refine same' 2 (n + 1) (fine_prog (by rw [e]; unfold progW; rw [List.length_append]; simp only [List.length_singleton]; omega)) ?_
    simp! only [line,Int.reduceSub,Int.reduceAdd,Int.reduceMul,Int.reduceMod,Int.reduceDiv,List.length_map,List.length_append,and_self]
    exact hP
  | none =>
    show Ev (eSs _ GV b__law_told [.dat _, .dat _, .un, .un, .un] st) _
    unfold b__law_told
    rw [ss_cons]
    simp! only [line,Int.reduceSub,Int.reduceAdd,Int.reduceMul,Int.reduceMod,Int.reduceDiv,List.length_map,List.length_append,and_self]
    refine c__law_due n hrl htl hrd ?_
    rw [hd]
    simp! only [line,Int.reduceSub,Int.reduceAdd,Int.reduceMul,Int.reduceMod,Int.reduceDiv,List.length_map,List.length_append,and_self,dueD]
    refine st_tryx (x1_set (xe_call (Ev.mono (Q := fun r => r = ([.tup (ts.map testD), rangesD rs], st)) (by simp! only [line,Int.reduceSub,Int.reduceAdd,Int.reduceMul,Int.reduceMod,Int.reduceDiv,List.length_map,List.length_append,and_self]) fun r hr => ?_)).2)
    subst hr
    refine (x_program_of n hrl htl hrd hd st).mono fun k st' hk => ?_
    obtain ⟨rfl, rfl⟩ := hk
    exact ⟨⟨rfl, by show 4 < 5; decide⟩, .bl true, rfl, hP⟩
end K76
/-! MD: many tests, wrong ranges. -/
namespace K76
open Sf
variable {row : List Int} {total : Int}
structure Small (rs : List Pr) (ts : List WT) : Prop where
  len : ∀ t ∈ ts, t.row.length = rs.length
  row : ∀ t ∈ ts, ∀ a ∈ t.row, bits a ≤ 10000
  rs : ∀ p ∈ rs, bits p.1 ≤ 10000 ∧ bits p.2 ≤ 10000
theorem Small.ready {rs : List Pr} {ts : List WT} (h : Small rs ts) : Ready rs ts := fun h1 _ t ht => ⟨⟨by rw [h.len t ht]; exact Nat.le_refl _, by have := h.len t ht; have := h1.1; omega, h.row t ht, h.rs⟩, h.len t ht⟩
theorem told_s (n : Nat) {rs : List Pr} {ts : List WT} (hrl : rs.length ≤ 1000) (htl : ts.length ≤ 10000) (h : Small rs ts) {st : Cells} {P : D × Cells → Prop} (hP : P (.bl true, st)) : Ev (callN T (n + 5) i__law_told [.tup (ts.map testD), rangesD rs] st) P := told' n hrl htl h.ready hP
theorem one_small {ts : List WT} (ht : ∀ t ∈ ts, ∃ a : Int, t.row = [a] ∧ bits a ≤ 10000) : Small [(0, 9)] ts := ⟨fun t h => by
  obtain ⟨a, e, _⟩ := ht t h
  rw [e]; rfl, fun t h x hx => by
  obtain ⟨a, e, q⟩ := ht t h
  rw [e] at hx
  rw [List.mem_singleton.mp hx]; exact q, fun p hp => by rw [List.mem_singleton.mp hp]; exact ⟨by decide, by decide⟩⟩
theorem c__law_many (n : Nat) {a : Nat} (hd : DealOk row total) (ha : a ≤ 2 ^ 52) {P : D × Cells → Prop} (hP : P (.bl true, at_ (a + 1))) : Ev (callN T (n + 6) i__law_many [deal row total] (at_ a)) P := by
  have h55 := p55
  have h52 : (2 : Nat) ^ 52 = 4503599627370496 := by decide
  refine dcl (f := f__law_many) rfl rfl ?_
  simp! only [f__law_many,b__law_many,start,List.replicate,List.append_nil,List.cons_append,List.nil_append,line,Int.reduceSub,Int.reduceAdd,Int.reduceMul,Int.reduceMod,Int.reduceDiv,List.length_map,List.length_append,and_self]
  refine take' (n + 4) hd (by omega) (by decide) fun r r0 r1 => ?_
  obtain ⟨k, rfl⟩ := Int.eq_ofNat_of_zero_le r0
  have e9 : rangesD [(0, 9)] = .tup [.tup [.int 0, .int 9]] := rfl
  by_cases h2 : (k : Int) < 2
  · simp! only [h2,line,Int.reduceSub,Int.reduceAdd,Int.reduceMul,Int.reduceMod,Int.reduceDiv,List.length_map,List.length_append,and_self]
    have e1 : (List.replicate (1000 + (k : Int)).toNat [D.tup [D.tup [D.int 1], D.int 9]]).flatten = (List.replicate (1000 + (k : Int)).toNat (WT.mk [1] 9)).map testD := by
      rw [rep1, List.map_replicate]; rfl
    rw [e1, ← e9]
    refine ⟨by omega, ?_⟩
    refine told_s n (by simp) (by rw [List.length_replicate]; omega) (one_small fun t ht => ⟨1, by rw [List.eq_of_mem_replicate ht], by decide⟩) ?_
    exact hP
  · simp! only [h2,line,Int.reduceSub,Int.reduceAdd,Int.reduceMul,Int.reduceMod,Int.reduceDiv,List.length_map,List.length_append,and_self]
    have e1 : (List.replicate (571 - (k : Int)).toNat [D.tup [D.tup [D.int 1], D.int 0]]).flatten = (List.replicate (571 - (k : Int)).toNat (WT.mk [1] 0)).map testD := by
      rw [rep1, List.map_replicate]; rfl
    have e2 : (List.replicate (2 * (k : Int)).toNat [D.tup [D.tup [D.int 0], D.int (-1)]]).flatten = (List.replicate (2 * (k : Int)).toNat (WT.mk [0] (-1))).map testD := by
      rw [rep1, List.map_replicate]; rfl
    have bk : bits (k : Int) ≤ 31 := bits_word (by unfold word; omega)
    have b2 : bits 2 = 1 := by decide
    rw [e1, e2, ← e9, ← List.map_append]
    refine ⟨by omega, by omega, by omega, by simp only [List.length_map,List.length_replicate]; omega, ?_⟩
    refine told_s n (by simp) (by rw [List.length_append, List.length_replicate, List.length_replicate]; omega) (one_small fun t ht => ?_) ?_
    · rcases List.mem_append.mp ht with ht | ht
      · exact ⟨1, by rw [List.eq_of_mem_replicate ht], by decide⟩
      · exact ⟨0, by rw [List.eq_of_mem_replicate ht], by decide⟩
    · exact hP
def wnI (rs : List Pr) (ts : List WT) (st0 : Cells) (_ : Nat) (ρ : Env) (st : Cells) : Prop := ∃ s2 s3 s4 s5 : Slot, ρ = [.dat (.tup (ts.map testD)), .dat (rangesD rs), s2, s3, s4, s5] ∧ st = st0
def wnJ (rs : List Pr) (ts : List WT) (k : Nat) (st0 : Cells) (_ : Nat) (ρ : Env) (st : Cells) : Prop := ∃ s3 s4 s5 : Slot, ρ = [.dat (.tup (ts.map testD)), .dat (rangesD rs), .dat (.int k), s3, s4, s5] ∧ st = st0
def wide (m : Nat) (t : WT) : WT := ⟨t.row ++ List.replicate m 0, t.rest⟩
def wsvI (m : Nat) (ts : List WT) (st0 : Cells) (i : Nat) (acc : List D) (st : Cells) : Prop := acc = (ts.take i).map (fun t => testD (wide m t)) ∧ st = st0
theorem Small.set {rs : List Pr} {ts : List WT} (h : Small rs ts) {k : Nat} {p : Pr} (h1 : bits p.1 ≤ 10000) (h2 : bits p.2 ≤ 10000) : Small (rs.set k p) ts := ⟨fun t ht => by rw [List.length_set]; exact h.len t ht, h.row, fun q hq => by
  rcases List.mem_or_eq_of_mem_set hq with hq | rfl
  · exact h.rs q hq
  · exact ⟨h1, h2⟩⟩
theorem Small.wide {rs : List Pr} {ts : List WT} (h : Small rs ts) {m : Nat} : Small (rs ++ List.replicate m (0, 1)) (ts.map (wide m)) := ⟨fun t ht => by
  obtain ⟨u, hu, rfl⟩ := List.mem_map.mp ht
  show (u.row ++ List.replicate m 0).length = _
  rw [List.length_append, List.length_append, List.length_replicate, List.length_replicate, h.len u hu], fun t ht a ha => by
  obtain ⟨u, hu, rfl⟩ := List.mem_map.mp ht
  rcases List.mem_append.mp ha with ha | ha
  · exact h.row u hu a ha
  · rw [List.eq_of_mem_replicate ha]; decide, fun p hp => by
  rcases List.mem_append.mp hp with hp | hp
  · exact h.rs p hp
  · rw [List.eq_of_mem_replicate hp]; exact ⟨by decide, by decide⟩⟩
theorem c__law_wrong_ranges (n : Nat) {rs : List Pr} {ts : List WT} {g : Nat} (hr : Rgs rs g) (htl : ts.length ≤ 100) (hs : Small rs ts) {st : Cells} {P : D × Cells → Prop} (hP : P (.bl true, st)) : Ev (callN T (n + 6) i__law_wrong_ranges [.tup (ts.map testD), rangesD rs] st) P := by
  have h1 := hr.len
  have h2 := hr.most
  have er : rangesD rs = .tup (rs.map pairD) := rfl
  refine dcl (f := f__law_wrong_ranges) rfl rfl ?_
  rw [er]
  simp! only [f__law_wrong_ranges,b__law_wrong_ranges,start,List.replicate,List.append_nil,List.cons_append,List.nil_append,line,Int.reduceSub,Int.reduceAdd,Int.reduceMul,Int.reduceMod,Int.reduceDiv,List.length_map,List.length_append,and_self]
  rw [← er]
  refine ⟨by omega, ?_⟩
  refine fl_idx (I := wnI rs ts st) ⟨_, _, _, _, rfl, rfl⟩ ?_ ?_
  · rintro ρ st' ⟨s2, s3, s4, s5, rfl, rfl⟩
    simp! only [line,Int.reduceSub,Int.reduceAdd,Int.reduceMul,Int.reduceMod,Int.reduceDiv,List.length_map,List.length_append,and_self]
    refine ll_idx (I := wsvI (7 - rs.length) ts st') ⟨rfl, rfl⟩ ?_ ?_
    · rintro acc st2 ⟨rfl, rfl⟩
      have etk : ts.take (ts.map testD).length = ts := by rw [List.length_map, List.take_length]
      rw [etk, er]
      simp! only [line,Int.reduceSub,Int.reduceAdd,Int.reduceMul,Int.reduceMod,Int.reduceDiv,List.length_map,List.length_append,and_self]
      have em : (7 - (rs.length : Int)).toNat = 7 - rs.length := by omega
      have e1 : rs.map pairD ++ (List.replicate (7 - rs.length) [D.tup [D.int 0, D.int 1]]).flatten = (rs ++ List.replicate (7 - rs.length) (0, 1)).map pairD := by
        rw [rep1, List.map_append, List.map_replicate]; rfl
      have e2 : ts.map (fun t => testD (wide (7 - rs.length) t)) = (ts.map (wide (7 - rs.length))).map testD := by rw [List.map_map]; rfl
      rw [em, e1, e2]
      refine ⟨by omega, by omega, by rw [rep1, List.length_replicate]; omega, ?_⟩
      refine told_s n (by rw [List.length_append, List.length_replicate]; omega) (by rw [List.length_map]; omega) hs.wide ?_
      exact hP
    · rintro i x acc st2 hx ⟨rfl, rfl⟩
      rw [List.getElem?_map] at hx
      obtain ⟨t, ht, rfl⟩ := Option.map_eq_some_iff.mp hx
      have et : testD t = .tup [.tup (t.row.map .int), .int t.rest] := rfl
      have hl := hs.len t (List.mem_of_getElem? ht)
      rw [er, et]
      simp! only [line,Int.reduceSub,Int.reduceAdd,Int.reduceMul,Int.reduceMod,Int.reduceDiv,List.length_map,List.length_append,and_self]
      have em : (7 - (rs.length : Int)).toNat = 7 - rs.length := by omega
      have e1 : t.row.map D.int ++ (List.replicate (7 - rs.length) [D.int 0]).flatten = (wide (7 - rs.length) t).row.map D.int := by
        unfold wide
        rw [rep1, List.map_append, List.map_replicate]
      rw [em, e1]
      refine ⟨by omega, by rw [rep1, List.length_replicate]; omega, ?_⟩
      unfold wsvI
      rw [take_one ht, List.map_append]
      exact ⟨rfl, rfl⟩
  · rintro i x ρ st' hx ⟨s2, s3, s4, s5, rfl, rfl⟩
    obtain ⟨hi, rfl⟩ := rng_at hx
    have hri : rs[i]? = some rs[i] := List.getElem?_eq_getElem hi
    have hok := hr.ok _ (List.getElem_mem hi)
    have hsm := hs.rs _ (List.getElem_mem hi)
    generalize rs[i] = p at hri hok hsm
    have hw := bits_word hok.1
    rw [er]
    simp! only [line,Int.reduceSub,Int.reduceAdd,Int.reduceMul,Int.reduceMod,Int.reduceDiv,List.length_map,List.length_append,and_self,getI_nat,List.getElem?_map,hri,pairD]
    rw [← er]
    have one : ∀ q : Pr, bits q.1 ≤ 10000 → bits q.2 ≤ 10000 → ∀ {K : D × Cells → Prop}, K (.bl true, st') → Ev (callN T (n + 5) i__law_with [rangesD rs, .int i, pairD q] st') fun w => Ev (callN T (n + 5) i__law_told [.tup (ts.map testD), w.1] w.2) K := fun q h1 h2 K hK => by
      refine with' (n + 4) (by rw [List.length_map]; exact hi) (by rw [List.length_map]; omega) ?_
      have e : (rs.map pairD).set i (pairD q) = (rs.set i q).map pairD := by rw [List.map_set]
      rw [e]
      exact told_s n (by rw [List.length_set]; omega) (by omega) (hs.set h1 h2) hK
    have b3 : bits 2147483648 ≤ 100 := by decide
    have b4 : bits (-2147483649) ≤ 100 := by decide
    have b5 : bits (p.1 - 1) ≤ 100 := by
      refine bits_lt (k := 100) ?_
      have : (2 : Nat) ^ (100 + 1) = 2535301200456458802993406410752 := by decide
      have := hok.1
      unfold word at this
      omega
    refine fl_idx (I := wnJ rs ts i st') ⟨_, _, _, rfl, rfl⟩ ?_ ?_
    · rintro ρ st ⟨s3, s4, s5, rfl, rfl⟩
      simp! only [line,Int.reduceSub,Int.reduceAdd,Int.reduceMul,Int.reduceMod,Int.reduceDiv,List.length_map,List.length_append,and_self]
      exact ⟨_, _, _, _, rfl, rfl⟩
    · rintro j y ρ st hy ⟨s3, s4, s5, rfl, rfl⟩
      have hy : ∃ q : Pr, y = pairD q ∧ bits q.1 ≤ 10000 ∧ bits q.2 ≤ 10000 := by
        have := List.mem_of_getElem? hy
        simp only [List.mem_cons,List.not_mem_nil,or_false] at this
        rcases this with rfl | rfl | rfl
        · exact ⟨(p.2, p.1 - 1), rfl, hsm.2, Nat.le_trans b5 (by decide)⟩
        · exact ⟨(p.1, 2147483648), rfl, hsm.1, Nat.le_trans b3 (by decide)⟩
        · exact ⟨(-2147483649, p.2), rfl, Nat.le_trans b4 (by decide), hsm.2⟩
      obtain ⟨q, rfl, q1, q2⟩ := hy
      simp! only [line,Int.reduceSub,Int.reduceAdd,Int.reduceMul,Int.reduceMod,Int.reduceDiv,List.length_map,List.length_append,and_self]
      refine one q q1 q2 ?_
      simp! only [line,Int.reduceSub,Int.reduceAdd,Int.reduceMul,Int.reduceMod,Int.reduceDiv,List.length_map,List.length_append,and_self]
      exact ⟨_, _, _, rfl, rfl⟩
end K76
/-! ME: tests and turns are drawn. -/
namespace K76
open Sf
variable {row : List Int} {total : Int}
def testDL (t : WT) : D := .tup [.lst (t.row.map .int), .int t.rest]
def lsLI (t : WT) (rs : List Pr) (st0 : Cells) (i : Nat) (ρ : Env) (st : Cells) : Prop := ∃ s3 s4 s5 : Slot, ρ = [.dat (testDL t), .dat (rangesD rs), .own ((sumsL t.row rs (usUp t.row i) (usUp t.row i).length).map pairD), s3, s4, s5] ∧ st = st0
theorem c__law_sumsL (n : Nat) {t : WT} {rs : List Pr} (hf : Fit t rs) (hl : t.row.length = rs.length) {st : Cells} {P : D × Cells → Prop} (hP : P (.lst ((sumsL t.row rs (usedL t.row) (usedL t.row).length).map pairD), st)) : Ev (callN T (n + 2) i__law_sums [testDL t, rangesD rs] st) P := by
  refine dcl (f := f__law_sums) rfl rfl ?_
  have hm := hf.most
  have er : rangesD rs = .tup (rs.map pairD) := rfl
  have et : testDL t = .tup [.lst (t.row.map .int), .int t.rest] := rfl
  rw [er]
  simp! only [f__law_sums,b__law_sums,start,List.replicate,List.append_nil,List.cons_append,List.nil_append,line,Int.reduceSub,Int.reduceAdd,Int.reduceMul,Int.reduceMod,Int.reduceDiv,List.length_map,List.length_append,and_self]
  rw [← er]
  refine ⟨by omega, ?_⟩
  refine fl_idx (I := lsLI t rs st) ⟨_, _, _, rfl, rfl⟩ ?_ ?_
  · rintro ρ st' ⟨s3, s4, s5, rfl, rfl⟩
    rw [rngD_len, Int.toNat_natCast]
    simp! only [line,Int.reduceSub,Int.reduceAdd,Int.reduceMul,Int.reduceMod,Int.reduceDiv,List.length_map,List.length_append,and_self]
    have : usUp t.row rs.length = usedL t.row := by unfold usUp usedL; rw [hl]
    rw [this]
    exact hP
  · rintro i x ρ st' hx ⟨s3, s4, s5, rfl, rfl⟩
    obtain ⟨hi, rfl⟩ := rng_at hx
    have hig : i < t.row.length := by omega
    have hat := hf.at hig
    have hul := usUp_len (row := t.row) (i := i)
    rw [er, et]
    simp! only [line,Int.reduceSub,Int.reduceAdd,Int.reduceMul,Int.reduceMod,Int.reduceDiv,List.length_map,List.length_append,and_self,getI_nat,iget hig]
    by_cases h0 : t.row.getD i 0 = 0
    · simp! only [h0,line,Int.reduceSub,Int.reduceAdd,Int.reduceMul,Int.reduceMod,Int.reduceDiv,List.length_map,List.length_append,and_self]
      have hS : usUp t.row (i + 1) = usUp t.row i := by rw [usUp_succ, if_neg (fun h => h h0), List.append_nil]
      unfold lsLI
      rw [hS]
      exact ⟨_, _, _, rfl, rfl⟩
    · simp! only [h0,line,Int.reduceSub,Int.reduceAdd,Int.reduceMul,Int.reduceMod,Int.reduceDiv,List.length_map,List.length_append,and_self,getI_nat,iget hig,pget (s := rs) (k := i) (by omega)]
      refine c__law_product n hat.1 hat.2.1 hat.2.2 ?_
      have hS : usUp t.row (i + 1) = usUp t.row i ++ [i] := by rw [usUp_succ, if_pos h0]
      have e1 : (((sumsL t.row rs (usUp t.row i) (usUp t.row i).length).map pairD).length : Int) - 1 = (((usUp t.row i).length : Nat) : Int) := by
        rw [List.length_map, sumsL_len]; omega
      have hsl := sumsL_len (row := t.row) (rs := rs) (us := usUp t.row i) (i := (usUp t.row i).length)
      rw [List.length_map] at e1
      simp! only [line,Int.reduceSub,Int.reduceAdd,Int.reduceMul,Int.reduceMod,Int.reduceDiv,List.length_map,List.length_append,and_self,e1,getI_nat,sums_get,pairD]
      refine ⟨by omega, ?_⟩
      unfold lsLI
      rw [hS, List.length_append, List.length_singleton, sumsL_snoc, List.map_append]
      exact ⟨_, _, _, rfl, rfl⟩
def tsI (ds : D) (gr : Bool) (rs : List Pr) (a : Nat) (i : Nat) (ρ : Env) (st : Cells) : Prop := ∃ (l : List Int) (s4 s5 s6 s7 s8 s9 : Slot) (a' : Nat), ρ = [.dat ds, .dat (rangesD rs), .dat (.bl gr), .own (l.map .int), s4, s5, s6, s7, s8, s9] ∧ l.length = i ∧ (∀ x ∈ l, -17179869184 ≤ x ∧ x ≤ 17179869184) ∧ st = at_ a' ∧ a' ≤ a + 4 * i
def tsR (g a : Nat) (q : D × Cells) : Prop := ∃ (t : WT) (a' : Nat), q = (testD t, at_ a') ∧ t.row.length = g ∧ (∀ x ∈ t.row, -17179869184 ≤ x ∧ x ≤ 17179869184) ∧ a' ≤ a + 4 * g + 2
theorem c__law_test (n : Nat) {rs : List Pr} {g a : Nat} (hd : DealOk row total) (hr : Rgs rs g) (ha : a ≤ 2 ^ 52) : Ev (callN T (n + 3) i__law_test [deal row total, rangesD rs] (at_ a)) (tsR g a) := by
  have h55 := p55
  have h52 : (2 : Nat) ^ 52 = 4503599627370496 := by decide
  have h1 := hr.len
  have h2 := hr.most
  have er : rangesD rs = .tup (rs.map pairD) := rfl
  refine dcl (f := f__law_test) rfl rfl ?_
  simp! only [f__law_test,b__law_test,start,List.replicate,List.append_nil,List.cons_append,List.nil_append,line,Int.reduceSub,Int.reduceAdd,Int.reduceMul,Int.reduceMod,Int.reduceDiv,List.length_map,List.length_append,and_self]
  refine take' (n + 1) hd (by omega) (by decide) fun r r0 r1 => ?_
  rw [er]
  simp! only [line,Int.reduceSub,Int.reduceAdd,Int.reduceMul,Int.reduceMod,Int.reduceDiv,List.length_map,List.length_append,and_self]
  rw [← er]
  have b34 : ∀ x : Int, -17179869184 ≤ x ∧ x ≤ 17179869184 → bits x ≤ 100 := fun x hx => by
    refine bits_lt (k := 100) ?_
    have : (2 : Nat) ^ (100 + 1) = 2535301200456458802993406410752 := by decide
    omega
  generalize decide (r = 0) = gr
  have b2 : bits 2 = 1 := by decide
  refine fl_idx (I := tsI (deal row total) gr rs (a + 1)) ⟨[], _, _, _, _, _, _, a + 1, rfl, rfl, fun x h => (nomatch h), rfl, by omega⟩ ?_ ?_
  · rintro ρ st ⟨l, s4, s5, s6, s7, s8, s9, a', rfl, hl, hx, rfl, ha'⟩
    rw [List.length_map] at hl ha'
    have et : D.tup [.lst (l.map .int), .int 0] = testDL ⟨l, 0⟩ := rfl
    simp! only [line,Int.reduceSub,Int.reduceAdd,Int.reduceMul,Int.reduceMod,Int.reduceDiv,List.length_map,List.length_append,and_self]
    rw [et]
    have hfit : Fit ⟨l, 0⟩ rs := ⟨by show l.length ≤ _; omega, by show l.length ≤ _; omega, fun x h => Nat.le_trans (b34 x (hx x h)) (by decide), fun p hp => by
      have h3 := hr.ok p hp
      have := bits_word h3.1
      have := bits_word h3.2.1
      omega⟩
    refine c__law_sumsL n hfit hl ?_
    have hSl := sumsL_len (row := l) (rs := rs) (us := usedL l) (i := (usedL l).length)
    have hSe : ((((sumsL l rs (usedL l) (usedL l).length).length : Nat) : Int) - 1) = (((usedL l).length : Nat) : Int) := by omega
    have hS : ((sumsL l rs (usedL l) (usedL l).length).map pairD)[(usedL l).length]? = some (pairD (sumTo l rs (usedL l))) := sums_get
    simp! only [line,Int.reduceSub,Int.reduceAdd,Int.reduceMul,Int.reduceMod,Int.reduceDiv,List.length_map,List.length_append,and_self,hSe,getI_nat,hS,pairD]
    refine ⟨by omega, ?_⟩
    refine take' (n + 1) hd (by omega) (by decide) fun r r0 r1 => ?_
    generalize sumTo l rs (usedL l) = S
    have pick : ∃ v : Int, getI [D.int (S.1 - 1), D.int S.1, D.int (S.2 - 1), D.int S.2, D.int (S.2 + 1), D.int ((S.1 + S.2).fdiv 2), D.int (S.1 - 5000000000)] r = some (.int v) := by
      have hr : r = 0 ∨ r = 1 ∨ r = 2 ∨ r = 3 ∨ r = 4 ∨ r = 5 ∨ r = 6 := by omega
      rcases hr with rfl | rfl | rfl | rfl | rfl | rfl | rfl <;> exact ⟨_, rfl⟩
    obtain ⟨v, hv⟩ := pick
    simp! only [line,Int.reduceSub,Int.reduceAdd,Int.reduceMul,Int.reduceMod,Int.reduceDiv,List.length_map,List.length_append,and_self,hv]
    exact ⟨⟨l, v⟩, a' + 1, rfl, by show l.length = g; omega, hx, by omega⟩
  · rintro i x ρ st hx ⟨l, s4, s5, s6, s7, s8, s9, a', rfl, hl, hlx, rfl, ha'⟩
    rw [List.getElem?_map] at hx
    obtain ⟨p, hp, rfl⟩ := Option.map_eq_some_iff.mp hx
    have hil := (List.getElem?_eq_some_iff.mp hp).1
    simp! only [line,Int.reduceSub,Int.reduceAdd,Int.reduceMul,Int.reduceMod,Int.reduceDiv,List.length_map,List.length_append,and_self]
    refine take' (n + 1) hd (by omega) (by decide) fun r r0 r1 => ?_
    have add : ∀ v : Int, -17179869184 ≤ v ∧ v ≤ 17179869184 → ∀ a'' : Nat, a'' ≤ a' + 4 → ∀ s4 s5 s6 s7 s8 s9 : Slot, tsI (deal row total) gr rs (a + 1) (i + 1) [.dat (deal row total), .dat (rangesD rs), .dat (.bl gr), .own (l.map .int ++ [.int v]), s4, s5, s6, s7, s8, s9] (at_ a'') := fun v hv a'' h'' s4 s5 s6 s7 s8 s9 => ⟨l ++ [v], s4, s5, s6, s7, s8, s9, a'', by rw [List.map_append]; rfl, by simp [hl], fun y hy => by
      rcases List.mem_append.mp hy with hy | hy
      · exact hlx y hy
      · rw [List.mem_singleton.mp hy]; exact hv, rfl, by omega⟩
    have fin3 : ∀ a'' : Nat, a'' ≤ a' + 2 → ∀ s4 s6 s7 s8 s9 : Slot, Ev (callN T (n + 2) i__law_take [deal row total, .int 3] (at_ a'')) fun q =>
        Ev (dCmp COp.eq (VR.dat q.fst) (VR.dat (D.int 0))) fun r_1 =>
          iteK (callN T (n + 2)) GV (ME.int 0) (ME.v 5)
            [Slot.dat (deal row total), Slot.dat (rangesD rs), Slot.dat (D.bl gr), Slot.own (List.map D.int l), s4, Slot.dat (D.int (r - 4)), s6, s7, s8, s9]
            (fun x_1 => Ev x_1.fst.data fun d => l.length < 16777216 ∧ tsI (deal row total) gr rs (a + 1) (i + 1) [Slot.dat (deal row total), Slot.dat (rangesD rs), Slot.dat (D.bl gr), Slot.own (List.map D.int l ++ [d]), s4, Slot.dat (D.int (r - 4)), s6, s7, s8, s9] x_1.snd) (r_1, q.snd) := fun a'' ha'' s4 s6 s7 s8 s9 => by
      refine take' (n + 1) hd (by omega) (by decide) fun r3 r30 r31 => ?_
      by_cases h3 : r3 = 0
      · simp! only [h3,line,Int.reduceSub,Int.reduceAdd,Int.reduceMul,Int.reduceMod,Int.reduceDiv,List.length_map,List.length_append,and_self]
        exact ⟨by omega, add 0 (by omega) _ (by omega) _ _ _ _ _ _⟩
      · simp! only [h3,line,Int.reduceSub,Int.reduceAdd,Int.reduceMul,Int.reduceMod,Int.reduceDiv,List.length_map,List.length_append,and_self]
        exact ⟨by omega, add (r - 4) (by omega) _ (by omega) _ _ _ _ _ _⟩
    cases gr with
    | false =>
      simp! only [line,Int.reduceSub,Int.reduceAdd,Int.reduceMul,Int.reduceMod,Int.reduceDiv,List.length_map,List.length_append,and_self]
      exact fin3 _ (by omega) _ _ _ _ _
    | true =>
      simp! only [line,Int.reduceSub,Int.reduceAdd,Int.reduceMul,Int.reduceMod,Int.reduceDiv,List.length_map,List.length_append,and_self]
      refine take' (n + 1) hd (by omega) (by decide) fun r2 r20 r21 => ?_
      by_cases h2 : r2 = 0
      · simp! only [h2,line,Int.reduceSub,Int.reduceAdd,Int.reduceMul,Int.reduceMod,Int.reduceDiv,List.length_map,List.length_append,and_self]
        refine take' (n + 1) hd (by omega) (by decide) fun r3 r30 r31 => ?_
        have hr : r3 = 0 ∨ r3 = 1 := by omega
        have br := b34 (r - 4) (by omega)
        have bc : bits 53687091 ≤ 100 := by decide
        have bd : bits 4294967296 ≤ 100 := by decide
        have g0 : getI [D.int 53687091, D.int 4294967296] 0 = some (.int 53687091) := rfl
        have g1 : getI [D.int 53687091, D.int 4294967296] 1 = some (.int 4294967296) := rfl
        rcases hr with rfl | rfl
        · simp! only [line,Int.reduceSub,Int.reduceAdd,Int.reduceMul,Int.reduceMod,Int.reduceDiv,List.length_map,List.length_append,and_self,g0]
          exact ⟨by omega, by omega, add _ (by omega) _ (by omega) _ _ _ _ _ _⟩
        · simp! only [line,Int.reduceSub,Int.reduceAdd,Int.reduceMul,Int.reduceMod,Int.reduceDiv,List.length_map,List.length_append,and_self,g1]
          exact ⟨by omega, by omega, add _ (by omega) _ (by omega) _ _ _ _ _ _⟩
      · simp! only [h2,line,Int.reduceSub,Int.reduceAdd,Int.reduceMul,Int.reduceMod,Int.reduceDiv,List.length_map,List.length_append,and_self]
        exact fin3 _ (by omega) _ _ _ _ _
/-- a turn within the ranges -/
def wiI (ds : D) (rs : List Pr) (a : Nat) (i : Nat) (ρ : Env) (st : Cells) : Prop := ∃ (t : List (Option Int)) (s3 s4 : Slot) (a' : Nat), ρ = [.dat ds, .dat (rangesD rs), .own (t.map optD), s3, s4] ∧ t.length = i ∧ (∀ (k : Nat) x p, (t[k]?).join = some x → rs[k]? = some p → p.1 ≤ x ∧ x ≤ p.2) ∧ st = at_ a' ∧ a' ≤ a + 3 * i
def wiR (rs : List Pr) (a : Nat) (q : D × Cells) : Prop := ∃ (t : List (Option Int)) (a' : Nat), q = (turnD t, at_ a') ∧ t.length = rs.length ∧ (∀ (k : Nat) x p, (t[k]?).join = some x → rs[k]? = some p → p.1 ≤ x ∧ x ≤ p.2) ∧ a' ≤ a + 20
theorem c__law_within (n : Nat) {rs : List Pr} {g a : Nat} (hd : DealOk row total) (hr : Rgs rs g) (ha : a ≤ 2 ^ 52) : Ev (callN T (n + 2) i__law_within [deal row total, rangesD rs] (at_ a)) (wiR rs a) := by
  have hp := p55
  have hp3 : (2 : Nat) ^ 52 = 4503599627370496 := by decide
  have hl := hr.len
  have hm := hr.most
  refine dcl (f := f__law_within) rfl rfl ?_
  have er : rangesD rs = .tup (rs.map pairD) := rfl
  rw [er]
  simp! only [f__law_within,b__law_within,start,List.replicate,List.append_nil,List.cons_append,List.nil_append,line,Int.reduceSub,Int.reduceAdd,Int.reduceMul,Int.reduceMod,Int.reduceDiv,List.length_map,List.length_append,and_self]
  rw [← er]
  refine fl_idx (I := wiI (deal row total) rs a) ⟨[], _, _, a, rfl, rfl, fun k x p h => by simp at h, rfl, by omega⟩ ?_ ?_
  · rintro ρ st ⟨t, s3, s4, a', rfl, htl, hin, rfl, ha'⟩
    rw [List.length_map] at htl ha'
    simp! only [line,Int.reduceSub,Int.reduceAdd,Int.reduceMul,Int.reduceMod,Int.reduceDiv,List.length_map,List.length_append,and_self]
    exact ⟨t, a', rfl, htl, hin, by omega⟩
  · rintro i x ρ st hx ⟨t, s3, s4, a', rfl, htl, hin, rfl, ha'⟩
    rw [List.getElem?_map] at hx
    obtain ⟨p, hpi, rfl⟩ := Option.map_eq_some_iff.mp hx
    have hil := (List.getElem?_eq_some_iff.mp hpi).1
    have hok := hr.ok p (List.mem_of_getElem? hpi)
    have hle : p.1 ≤ p.2 := hok.2.2
    have hw1 := bits_word hok.1
    have b2 : bits 2 = 1 := by decide
    rw [er]
    simp! only [pairD,line,Int.reduceSub,Int.reduceAdd,Int.reduceMul,Int.reduceMod,Int.reduceDiv,List.length_map,List.length_append,and_self]
    refine ⟨by omega, ?_⟩
    refine take' n hd (by omega) (by decide) fun r r0 r1 => ?_
    simp! only [line,Int.reduceSub,Int.reduceAdd,Int.reduceMul,Int.reduceMod,Int.reduceDiv,List.length_map,List.length_append,and_self]
    refine take' n hd (by omega) (by decide) fun r2 r20 r21 => ?_
    have dv0 : 0 ≤ (p.2 - p.1).fdiv 2 := Int.fdiv_nonneg (by omega) (by decide)
    have dv1 : (p.2 - p.1).fdiv 2 ≤ p.2 - p.1 := by
      rw [Int.fdiv_eq_ediv_of_nonneg _ (by decide)]
      omega
    have pick : ∃ v : Int, getI [D.int p.1, .int p.2, .int (p.1 + (p.2 - p.1).fdiv 2), .int (if p.1 + r < p.2 then p.1 + r else p.2)] r2 = some (.int v) ∧ p.1 ≤ v ∧ v ≤ p.2 := by
      have hr : r2 = 0 ∨ r2 = 1 ∨ r2 = 2 ∨ r2 = 3 := by omega
      rcases hr with rfl | rfl | rfl | rfl
      · exact ⟨_, rfl, by omega, by omega⟩
      · exact ⟨_, rfl, by omega, by omega⟩
      · exact ⟨_, rfl, by omega, by omega⟩
      · refine ⟨_, rfl, ?_⟩
        split <;> omega
    obtain ⟨v, e1, hv⟩ := pick
    simp! only [e1,line,Int.reduceSub,Int.reduceAdd,Int.reduceMul,Int.reduceMod,Int.reduceDiv,List.length_map,List.length_append,and_self]
    refine take' n hd (by omega) (by decide) fun r3 r30 r31 => ?_
    have fin : ∀ o : Option Int, (∀ x, o = some x → p.1 ≤ x ∧ x ≤ p.2) → ∀ s3 s4 : Slot, wiI (deal row total) rs a (i + 1) [.dat (deal row total), .dat (rangesD rs), .own (t.map optD ++ [optD o]), s3, s4] (at_ (a' + 1 + 1 + 1)) := fun o ho s3 s4 =>
      ⟨t ++ [o], s3, s4, a' + 1 + 1 + 1, by rw [List.map_append]; rfl, by simp [htl], (fun k x q hx hq => by
        by_cases hk : k < t.length
        · rw [List.getElem?_append_left hk] at hx
          exact hin k x q hx hq
        · rw [List.getElem?_append_right (by omega)] at hx
          by_cases hk2 : k = t.length
          · rw [hk2, Nat.sub_self] at hx
            have hx : o = some x := hx
            rw [hk2, htl, hpi] at hq
            cases hq
            exact ho x hx
          · rw [List.getElem?_eq_none (by simp; omega)] at hx
            cases hx), rfl, by omega⟩
    have line_ : t.length < 1000 := by omega
    by_cases h3 : r3 = 0
    · simp! only [h3,line,Int.reduceSub,Int.reduceAdd,Int.reduceMul,Int.reduceMod,Int.reduceDiv,List.length_map,List.length_append,and_self]
      exact ⟨by omega, fin none (fun x h => nomatch h) _ _⟩
    · simp! only [h3,line,Int.reduceSub,Int.reduceAdd,Int.reduceMul,Int.reduceMod,Int.reduceDiv,List.length_map,List.length_append,and_self]
      exact ⟨by omega, fin (some v) (fun x h => by cases h; exact hv) _ _⟩
theorem turn_of {rs : List Pr} {t : Turn} (hl : t.length = rs.length) (h : ∀ (k : Nat) x p, (t[k]?).join = some x → rs[k]? = some p → p.1 ≤ x ∧ x ≤ p.2) : TurnOk t rs := fun g v hv => by
  have hv : (t[g]?).join = some v := hv
  have hg : g < t.length := by
    apply Classical.byContradiction
    intro q
    rw [List.getElem?_eq_none (by omega)] at hv
    cases hv
  have hr : rs[g]? = some (rs.getD g (0, 0)) := by
    rw [List.getElem?_eq_getElem (by omega)]; simp [List.getD, List.getElem?_eq_getElem (show g < rs.length by omega)]
  exact h g v _ hv hr
theorem turn_sm {rs : List Pr} {g : Nat} {t : Turn} (hr : Rgs rs g) (h : TurnOk t rs) : TurnSm t := ⟨fun k v hv => by
  have := h k v hv
  have h1 := bits_word (x := v) (by
    have hw : okR (rs.getD k (0, 0)) ∨ rs.getD k (0, 0) = (0, 0) := by
      by_cases hk : k < rs.length
      · exact .inl (pget_ok hr.ok hk)
      · exact .inr (by simp [List.getD, List.getElem?_eq_none (show rs.length ≤ k by omega)])
    rcases hw with hw | hw
    · unfold okR word at hw
      unfold word
      omega
    · rw [hw] at this
      unfold word
      simp only at this
      omega)
  omega⟩
end K76
/-! MF: the law. -/
namespace K76
open Sf
variable {row : List Int} {total : Int}
def rgsR (g a : Nat) (q : D × Cells) : Prop := ∃ (rs : List Pr) (a' : Nat), q = (rangesD rs, at_ a') ∧ Rgs rs g ∧ a' ≤ a + 2 * g
/-- the first loop: low ends that are words, what is above them -/
def rgI (g : Nat) (ds : D) (a : Nat) (i : Nat) (ρ : Env) (st : Cells) : Prop := ∃ (rs : List Pr) (s3 s4 s5 : Slot) (a' : Nat), ρ = [.dat ds, .dat (.int g), .own (rs.map pairD), s3, s4, s5] ∧ rs.length = i ∧ (∀ p ∈ rs, word p.1 ∧ p.1 ≤ p.2) ∧ st = at_ a' ∧ a' ≤ a + 2 * i
def rgJ (rs : List Pr) (st0 : Cells) (i : Nat) (acc : List D) (st : Cells) : Prop := acc = (rs.take i).map (fun p => pairD (p.1, min p.2 2147483647)) ∧ st = st0
theorem c__law_ranges (n : Nat) {g a : Nat} (hd : DealOk row total) (hg : g ≤ 6) (ha : a ≤ 2 ^ 50) : Ev (callN T (n + 2) i__law_ranges [deal row total, .int g] (at_ a)) (rgsR g a) := by
  have hp := p55
  have hp2 : (2 : Nat) ^ 50 = 1125899906842624 := by decide
  refine dcl (f := f__law_ranges) rfl rfl ?_
  simp! only [f__law_ranges,b__law_ranges,start,List.replicate,List.append_nil,List.cons_append,List.nil_append,line,Int.reduceSub,Int.reduceAdd,Int.reduceMul,Int.reduceMod,Int.reduceDiv,List.length_map,List.length_append,and_self]
  refine ⟨by omega, ?_⟩
  refine fl_idx (I := rgI g (deal row total) a) ⟨[], _, _, _, a, rfl, rfl, fun p h => absurd h List.not_mem_nil, rfl, by omega⟩ ?_ ?_
  · rintro ρ st ⟨rs, s3, s4, s5, a', rfl, hl, hok, rfl, h⟩
    rw [rngD_len, Int.toNat_natCast] at hl h
    simp! only [line,Int.reduceSub,Int.reduceAdd,Int.reduceMul,Int.reduceMod,Int.reduceDiv,List.length_map,List.length_append,and_self]
    refine ll_idx (I := rgJ rs (at_ a')) ⟨rfl, rfl⟩ ?_ ?_
    · rintro acc st ⟨rfl, rfl⟩
      simp! only [line,Int.reduceSub,Int.reduceAdd,Int.reduceMul,Int.reduceMod,Int.reduceDiv,List.length_map,List.length_append,and_self,List.take_of_length_le (Nat.le_refl _)]
      refine ⟨by omega, rs.map (fun p => (p.1, min p.2 2147483647)), a', ?_, ⟨by simp [hl], hg, fun p hp => ?_⟩, h⟩
      · unfold rangesD
        rw [List.map_map]; rfl
      · obtain ⟨p0, h0, rfl⟩ := List.mem_map.mp hp
        obtain ⟨h1, h2⟩ := hok p0 h0
        unfold okR word at *
        simp only
        omega
    · rintro i x acc st hx ⟨rfl, rfl⟩
      rw [List.getElem?_map] at hx
      obtain ⟨p, hp, rfl⟩ := Option.map_eq_some_iff.mp hx
      unfold pairD
      simp! only [line,Int.reduceSub,Int.reduceAdd,Int.reduceMul,Int.reduceMod,Int.reduceDiv,List.length_map,List.length_append,and_self]
      refine ⟨?_, rfl⟩
      rw [take_one hp, List.map_append]
      simp only [List.map_cons,List.map_nil,pairD]
      have : (if (2147483647 : Int) < p.2 then (2147483647 : Int) else p.2) = min p.2 2147483647 := by
        split <;> omega
      simp [this]
  · rintro i x ρ st hx ⟨rs, s3, s4, s5, a', rfl, hl, hok, rfl, h⟩
    have hi : i < g := by
      rw [rngD_get] at hx
      split at hx
      · simpa using ‹_›
      · cases hx
    simp! only [line,Int.reduceSub,Int.reduceAdd,Int.reduceMul,Int.reduceMod,Int.reduceDiv,List.length_map,List.length_append,and_self]
    refine take' n hd (by omega) (by decide) fun r r0 r1 => ?_
    have low : ∃ lo : Int, (getI [D.int (-9), .int (-1), .int 0, .int 3, .int (-2147483648), .int (-70000)] r) = some (.int lo) ∧ word lo := by
      have hr : r = 0 ∨ r = 1 ∨ r = 2 ∨ r = 3 ∨ r = 4 ∨ r = 5 := by omega
      rcases hr with rfl | rfl | rfl | rfl | rfl | rfl
      · exact ⟨_, rfl, by unfold word; omega⟩
      · exact ⟨_, rfl, by unfold word; omega⟩
      · exact ⟨_, rfl, by unfold word; omega⟩
      · exact ⟨_, rfl, by unfold word; omega⟩
      · exact ⟨_, rfl, by unfold word; omega⟩
      · exact ⟨_, rfl, by unfold word; omega⟩
    obtain ⟨lo, e1, hw⟩ := low
    simp! only [e1,line,Int.reduceSub,Int.reduceAdd,Int.reduceMul,Int.reduceMod,Int.reduceDiv,List.length_map,List.length_append,and_self]
    refine take' n hd (by omega) (by decide) fun r2 r20 r21 => ?_
    have more : ∃ up : Int, (getI [D.int 0, .int 1, .int 12, .int 70000, .int 2147483647] r2) = some (.int up) ∧ 0 ≤ up := by
      have hr : r2 = 0 ∨ r2 = 1 ∨ r2 = 2 ∨ r2 = 3 ∨ r2 = 4 := by omega
      rcases hr with rfl | rfl | rfl | rfl | rfl <;> exact ⟨_, rfl, by omega⟩
    obtain ⟨up, e2, hu⟩ := more
    simp! only [e2,line,Int.reduceSub,Int.reduceAdd,Int.reduceMul,Int.reduceMod,Int.reduceDiv,List.length_map,List.length_append,and_self]
    have line_ : (rs.map pairD).length < 16777216 := by rw [List.length_map]; omega
    refine ⟨by omega, rs ++ [(lo, lo + up)], _, _, _, a' + 1 + 1, by rw [List.map_append]; rfl, by simp [hl], fun p hp => ?_, rfl, by omega⟩
    rcases List.mem_append.mp hp with hp | hp
    · exact hok p hp
    · rw [List.mem_singleton.mp hp]
      exact ⟨hw, by simp only; omega⟩
def nrI (rs : List Pr) (a : Nat) (i : Nat) (acc : List D) (st : Cells) : Prop := ∃ ps : List Pr, acc = ps.map pairD ∧ ps.length = i ∧ (∀ p ∈ ps, okR p) ∧ st = at_ a
def tvI (rs : List Pr) (g a : Nat) (i : Nat) (acc : List D) (st : Cells) : Prop := ∃ (ts : List WT) (a' : Nat), acc = ts.map testD ∧ ts.length = i ∧ (∀ t ∈ ts, t.row.length = g ∧ ∀ x ∈ t.row, -17179869184 ≤ x ∧ x ≤ 17179869184) ∧ st = at_ a' ∧ a' ≤ a + 40 * i
def runI (s0 : Slot) (d : D) (g : Nat) (rs : List Pr) (s4 : Slot) (ts : List WT) (s7 s8 : Slot) (is : List Ins) (a : Nat) (i : Nat) (ρ : Env) (st : Cells) : Prop := ∃ (s5 s10 s11 s12 : Slot) (a' : Nat), ρ = [s0, .dat d, .dat (.int g), .dat (rangesD rs), s4, s5, .dat (.tup (ts.map testD)), s7, s8, .dat (progD is), s10, s11, s12] ∧ st = at_ a' ∧ a' ≤ a + 20 * i
def mrI (s0 : Slot) (d : D) (g : Nat) (rs : List Pr) (ts : List WT) (st0 : Cells) (_ : Nat) (ρ : Env) (st : Cells) : Prop := ∃ s7 s8 : Slot, ρ = [s0, .dat d, .dat (.int g), .dat (rangesD rs), .un, .un, .dat (.tup (ts.map testD)), s7, s8, .un, .un, .un, .un] ∧ st = st0
def tailF : MSs := match b_law with
  | .cons _ (.cons _ (.cons _ (.cons _ r))) => r
  | _ => .nil
def tailG : MSs := match tailF with
  | .cons _ (.cons _ (.cons _ (.cons _ r))) => r
  | _ => .nil
structure Ts (rs : List Pr) (g : Nat) (ts : List WT) : Prop where
  rgs : Rgs rs g
  most : ts.length ≤ 10
  small : Small rs ts
theorem law_tail2 {rs : List Pr} {ts : List WT} {g a : Nat} {s0 s4 s5 s7 s8 : Slot} (hd : DealOk row total) (h : Ts rs g ts) (ha : a ≤ 2000) : Ev (eSs (callN T 99) GV tailG [s0, .dat (deal row total), .dat (.int g), .dat (rangesD rs), s4, s5, .dat (.tup (ts.map testD)), s7, s8, .un, .un, .un, .un] (at_ a)) (defK fun q => q.1 = .bl true) := by
  have hp5 := p55
  have h50 : (2 : Nat) ^ 50 = 1125899906842624 := by decide
  have h52 : (2 : Nat) ^ 52 = 4503599627370496 := by decide
  have hgl := h.rgs.len
  have hgm := h.rgs.most
  have hml := h.most
  unfold tailG tailF b_law
  dsimp only
  simp! only [line,Int.reduceSub,Int.reduceAdd,Int.reduceMul,Int.reduceMod,Int.reduceDiv,List.length_map,List.length_append,and_self]
  refine c__law_due 95 (by omega) (by omega) h.small.ready ?_
  cases hdu : dueR rs ts with
  | none => simp! only [dueD,line,Int.reduceSub,Int.reduceAdd,Int.reduceMul,Int.reduceMod,Int.reduceDiv,List.length_map,List.length_append,and_self]
  | some is =>
    obtain ⟨h1, h2, h3, h4, e⟩ := due_some hdu
    have hnn : (progD is).isNone = false := rfl
    simp! only [dueD,hnn,line,Int.reduceSub,Int.reduceAdd,Int.reduceMul,Int.reduceMod,Int.reduceDiv,List.length_map,List.length_append,and_self]
    refine program_of' 95 h.small.ready hdu ?_
    simp! only [line,Int.reduceSub,Int.reduceAdd,Int.reduceMul,Int.reduceMod,Int.reduceDiv,List.length_map,List.length_append,and_self]
    have hrings : ∀ w ∈ ts, mayR w rs → Rings w rs := fun w hw hm => ⟨by rw [h.small.len w hw]; exact Nat.le_refl _, hm, h3 w hw hm⟩
    have hgood : Good is g := by
      rw [e]
      exact prog_good hrings (fun w hw => by rw [h.small.len w hw, hgl]; exact Nat.le_refl _) h2 h4
    obtain ⟨ch, hch⟩ := prog_chart h.rgs.ok hrings
    rw [← e] at hch
    refine (c_chart_of 94 hgood h.rgs _ hch).mono fun q hq => ?_
    unfold kept at hq
    subst hq
    simp! only [resD,line,Int.reduceSub,Int.reduceAdd,Int.reduceMul,Int.reduceMod,Int.reduceDiv,List.length_map,List.length_append,and_self]
    refine ⟨by decide, ?_⟩
    refine fl_idx (I := runI s0 (deal row total) g rs s4 ts s7 s8 is a) ⟨_, _, _, _, a, rfl, rfl, by omega⟩ ?_ ?_
    · rintro ρ st ⟨s5, s10, s11, s12, a', rfl, rfl, ha'⟩
      simp! only [line,Int.reduceSub,Int.reduceAdd,Int.reduceMul,Int.reduceMod,Int.reduceDiv,List.length_map,List.length_append,and_self]
    · rintro i x ρ st hx ⟨s5, s10, s11, s12, a', rfl, rfl, ha'⟩
      have hi : i < 5 := by
        have := (List.getElem?_eq_some_iff.mp hx).1
        rw [rngD_len] at this
        exact this
      simp! only [line,Int.reduceSub,Int.reduceAdd,Int.reduceMul,Int.reduceMod,Int.reduceDiv,List.length_map,List.length_append,and_self]
      refine (c__law_within 97 (a := a') hd h.rgs (by omega)).mono ?_
      rintro q ⟨t, a3, rfl, htl, hin, ha3⟩
      have htok := turn_of htl hin
      have htsm := turn_sm h.rgs htok
      have hg2 : Good is t.length := by rw [htl, hgl]; exact hgood
      simp! only [line,Int.reduceSub,Int.reduceAdd,Int.reduceMul,Int.reduceMod,Int.reduceDiv,List.length_map,List.length_append,and_self]
      refine (c__law_first_ring 96 (ts := ts) ⟨h2, by omega, fun w hw => by rw [h.small.len w hw, htl], h.small.row⟩ htsm _).mono ?_
      rintro q ⟨o, rfl, ho⟩
      have ho : o = firstB t 0 ts := first_eq ho firstB_first
      have hrun := prog_run h.rgs.ok htok hrings
      rw [← e, ← ho] at hrun
      cases ho2 : o with
      | none =>
        rw [ho2] at hrun
        simp! only [optN,line,Int.reduceSub,Int.reduceAdd,Int.reduceMul,Int.reduceMod,Int.reduceDiv,List.length_map,List.length_append,and_self]
        refine (c__law_trace 95 hg2 _ rfl).mono fun q hq => ?_
        unfold kept at hq
        subst hq
        have hrun : (loop is t is.length 0 [] []).2 = silent := hrun
        rw [hrun]
        simp! only [line,Int.reduceSub,Int.reduceAdd,Int.reduceMul,Int.reduceMod,Int.reduceDiv,List.length_map,List.length_append,and_self]
        have hs : D.shp 60 silent = true := rfl
        have he : D.eqb silent silent = true := by decide
        have hfi : fine 1 silent = true := rfl
        have es : D.tup [.str [115, 105, 108, 101, 110, 116]] = silent := rfl
        rw [es]
        simp! only [c_ne,VR.read,hs,he,line,Int.reduceSub,Int.reduceAdd,Int.reduceMul,Int.reduceMod,Int.reduceDiv,List.length_map,List.length_append,and_self]
        refine (c_run 94 hg2 _).mono fun q hq => ?_
        unfold kept at hq
        subst hq
        rw [hrun]
        simp! only [line,Int.reduceSub,Int.reduceAdd,Int.reduceMul,Int.reduceMod,Int.reduceDiv,List.length_map,List.length_append,and_self]
        refine same' 1 97 hfi ?_
        simp! only [line,Int.reduceSub,Int.reduceAdd,Int.reduceMul,Int.reduceMod,Int.reduceDiv,List.length_map,List.length_append,and_self]
        exact ⟨_, _, _, _, a3, rfl, rfl, by omega⟩
      | some k =>
        rw [ho2] at hrun
        have hrun : (loop is t is.length 0 [] []).2 = rings (k : Int) := hrun
        simp! only [optN,line,Int.reduceSub,Int.reduceAdd,Int.reduceMul,Int.reduceMod,Int.reduceDiv,List.length_map,List.length_append,and_self]
        refine (c__law_trace 95 hg2 _ rfl).mono fun q hq => ?_
        unfold kept at hq
        subst hq
        rw [hrun]
        simp! only [line,Int.reduceSub,Int.reduceAdd,Int.reduceMul,Int.reduceMod,Int.reduceDiv,List.length_map,List.length_append,and_self]
        have hs : D.shp 60 (rings (k : Int)) = true := rfl
        have he : D.eqb (rings (k : Int)) (rings (k : Int)) = true := by simp [rings, D.eqb, D.eqbs, eqb_str, eqb_int]
        have hfi : fine 1 (rings (k : Int)) = true := rfl
        have es : D.tup [.str [114, 105, 110, 103, 115], .int (k : Int)] = rings (k : Int) := rfl
        rw [es]
        simp! only [c_ne,VR.read,hs,he,line,Int.reduceSub,Int.reduceAdd,Int.reduceMul,Int.reduceMod,Int.reduceDiv,List.length_map,List.length_append,and_self]
        refine (c_run 94 hg2 _).mono fun q hq => ?_
        unfold kept at hq
        subst hq
        rw [hrun]
        simp! only [line,Int.reduceSub,Int.reduceAdd,Int.reduceMul,Int.reduceMod,Int.reduceDiv,List.length_map,List.length_append,and_self]
        refine same' 1 97 hfi ?_
        simp! only [line,Int.reduceSub,Int.reduceAdd,Int.reduceMul,Int.reduceMod,Int.reduceDiv,List.length_map,List.length_append,and_self]
        exact ⟨_, _, _, _, a3, rfl, rfl, by omega⟩
theorem law_tail {rs : List Pr} {g a : Nat} {s0 : Slot} (hd : DealOk row total) (hr : Rgs rs g) (ha : a ≤ 1000) : Ev (eSs (callN T 99) GV tailF [s0, .dat (deal row total), .dat (.int g), .dat (rangesD rs), .un, .un, .un, .un, .un, .un, .un, .un, .un] (at_ a)) (defK fun q => q.1 = .bl true) := by
  have hp5 := p55
  have h50 : (2 : Nat) ^ 50 = 1125899906842624 := by decide
  have h52 : (2 : Nat) ^ 52 = 4503599627370496 := by decide
  unfold tailF b_law
  dsimp only
  simp! only [line,Int.reduceSub,Int.reduceAdd,Int.reduceMul,Int.reduceMod,Int.reduceDiv,List.length_map,List.length_append,and_self]
  refine take' 98 hd (by omega) (by decide) fun r r0 r1 => ?_
  obtain ⟨m, rfl⟩ := Int.eq_ofNat_of_zero_le r0
  simp! only [line,Int.reduceSub,Int.reduceAdd,Int.reduceMul,Int.reduceMod,Int.reduceDiv,List.length_map,List.length_append,and_self]
  refine ⟨by omega, ?_⟩
  have hgl := hr.len
  have hgm := hr.most
  have b34 : ∀ x : Int, -17179869184 ≤ x ∧ x ≤ 17179869184 → bits x ≤ 10000 := fun x hx => by
    refine Nat.le_trans (bits_lt (k := 100) ?_) (by decide)
    have : (2 : Nat) ^ (100 + 1) = 2535301200456458802993406410752 := by decide
    omega
  have hrb : ∀ p ∈ rs, bits p.1 ≤ 10000 ∧ bits p.2 ≤ 10000 := fun p hp => by
    have h3 := hr.ok p hp
    have := bits_word h3.1
    have := bits_word h3.2.1
    omega
  refine ll_idx (I := tvI rs g (a + 1)) ⟨[], a + 1, rfl, rfl, fun t h => (nomatch h), rfl, by omega⟩ ?_ ?_
  · rintro acc st ⟨ts, a2, rfl, htl, hts, rfl, ha2⟩
    rw [rngD_len, Int.toNat_natCast] at htl ha2
    have hsm : Small rs ts := ⟨fun t ht => by rw [(hts t ht).1, hgl], fun t ht x hx => b34 x ((hts t ht).2 x hx), hrb⟩
    have hfit : ∀ t ∈ ts, Fit t rs ∧ t.row.length = rs.length := hsm.ready ⟨by omega, hr.ok⟩ (by omega)
    have hrd := hsm.ready
    refine ⟨by rw [rngD_len]; omega, ?_⟩
    refine fl_idx (I := mrI s0 (deal row total) g rs ts (at_ a2)) ⟨_, _, rfl, rfl⟩ ?_ ?_
    · rintro ρ st ⟨s7, s8, rfl, rfl⟩
      have rest := fun (a : Nat) (ha : a ≤ 2000) => law_tail2 (s0 := s0) (s4 := .un) (s5 := .un) (s7 := s7) (s8 := s8) (a := a) hd ⟨hr, by omega, hsm⟩ ha
      unfold tailG tailF b_law at rest
      dsimp only at rest
      simp! only [line,Int.reduceSub,Int.reduceAdd,Int.reduceMul,Int.reduceMod,Int.reduceDiv,List.length_map,List.length_append,and_self] at rest
      simp! only [line,Int.reduceSub,Int.reduceAdd,Int.reduceMul,Int.reduceMod,Int.reduceDiv,List.length_map,List.length_append,and_self]
      refine told_s 94 (by omega) (by omega) hsm ?_
      simp! only [line,Int.reduceSub,Int.reduceAdd,Int.reduceMul,Int.reduceMod,Int.reduceDiv,List.length_map,List.length_append,and_self]
      refine c__law_wrong_ranges 93 hr (by omega) hsm ?_
      simp! only [line,Int.reduceSub,Int.reduceAdd,Int.reduceMul,Int.reduceMod,Int.reduceDiv,List.length_map,List.length_append,and_self]
      refine take' 98 hd (by omega) (by decide) fun r r0 r1 => ?_
      by_cases h0 : r = 0
      · simp! only [h0,line,Int.reduceSub,Int.reduceAdd,Int.reduceMul,Int.reduceMod,Int.reduceDiv,List.length_map,List.length_append,and_self]
        refine c__law_many 93 hd (by omega) ?_
        simp! only [line,Int.reduceSub,Int.reduceAdd,Int.reduceMul,Int.reduceMod,Int.reduceDiv,List.length_map,List.length_append,and_self]
        exact rest _ (by omega)
      · simp! only [h0,line,Int.reduceSub,Int.reduceAdd,Int.reduceMul,Int.reduceMod,Int.reduceDiv,List.length_map,List.length_append,and_self]
        exact rest _ (by omega)
    · rintro i x ρ st hx ⟨s7, s8, rfl, rfl⟩
      rw [List.getElem?_map] at hx
      obtain ⟨t, ht, rfl⟩ := Option.map_eq_some_iff.mp hx
      obtain ⟨hft, hft2⟩ := hfit t (List.mem_of_getElem? ht)
      have hSl := sumsL_len (row := t.row) (rs := rs) (us := usedL t.row) (i := (usedL t.row).length)
      have hSe : ((((sumsL t.row rs (usedL t.row) (usedL t.row).length).length : Nat) : Int) - 1) = (((usedL t.row).length : Nat) : Int) := by omega
      have et : testD t = .tup [.tup (t.row.map .int), .int t.rest] := rfl
      simp! only [line,Int.reduceSub,Int.reduceAdd,Int.reduceMul,Int.reduceMod,Int.reduceDiv,List.length_map,List.length_append,and_self]
      refine c__law_sums 97 hft hft2 ?_
      simp! only [line,Int.reduceSub,Int.reduceAdd,Int.reduceMul,Int.reduceMod,Int.reduceDiv,List.length_map,List.length_append,and_self]
      refine (c_may_ring 96 hft _).mono fun q hq => ?_
      unfold kept at hq
      subst hq
      rw [et]
      simp! only [line,Int.reduceSub,Int.reduceAdd,Int.reduceMul,Int.reduceMod,Int.reduceDiv,List.length_map,List.length_append,and_self,hSe,getI_nat,sums_get,pairD]
      refine bool_s 98 ?_
      simp! only [line,Int.reduceSub,Int.reduceAdd,Int.reduceMul,Int.reduceMod,Int.reduceDiv,List.length_map,List.length_append,and_self]
      exact ⟨_, _, rfl, rfl⟩
  · rintro i x acc st hx ⟨ts, a2, rfl, htl, hts, rfl, ha2⟩
    obtain ⟨hi, rfl⟩ := rng_at hx
    simp! only [line,Int.reduceSub,Int.reduceAdd,Int.reduceMul,Int.reduceMod,Int.reduceDiv,List.length_map,List.length_append,and_self]
    refine (c__law_test 96 (a := a2) hd hr (by omega)).mono ?_
    rintro q ⟨t, a3, rfl, h1, h2, h3⟩
    simp! only [line,Int.reduceSub,Int.reduceAdd,Int.reduceMul,Int.reduceMod,Int.reduceDiv,List.length_map,List.length_append,and_self]
    exact ⟨ts ++ [t], a3, by rw [List.map_append]; rfl, by simp [htl], fun u hu => by
      rcases List.mem_append.mp hu with hu | hu
      · exact hts u hu
      · rw [List.mem_singleton.mp hu]; exact ⟨h1, h2⟩, rfl, by omega⟩
theorem plain (ns : List Int) (hn : ns.length ≤ 63) : ∃ st, callN T 100 i_law [.rol (ns.map .int)] [] = some (.bl true, st) := by
  have key : Ev (callN T 100 i_law [.rol (ns.map .int)] []) fun q => q.1 = .bl true := by
    have hp5 := p55
    have h50 : (2 : Nat) ^ 50 = 1125899906842624 := by decide
    refine dcl (f := f_law) rfl rfl ?_
    simp! only [f_law,b_law,start,List.replicate,List.append_nil,List.cons_append,List.nil_append,line,Int.reduceSub,Int.reduceAdd,Int.reduceMul,Int.reduceMod,Int.reduceDiv,List.length_map,List.length_append,and_self]
    refine (c_deal 98 hn).mono ?_
    rintro q ⟨row, total, rfl, hd⟩
    simp! only [line,Int.reduceSub,Int.reduceAdd,Int.reduceMul,Int.reduceMod,Int.reduceDiv,List.length_map,List.length_append,and_self]
    refine take' 98 hd (by omega) (by decide) fun r r0 r1 => ?_
    obtain ⟨g, rfl⟩ := Int.eq_ofNat_of_zero_le r0
    have hg6 : g ≤ 6 := by omega
    simp! only [line,Int.reduceSub,Int.reduceAdd,Int.reduceMul,Int.reduceMod,Int.reduceDiv,List.length_map,List.length_append,and_self]
    refine (c__law_ranges 97 (g := g) hd hg6 (by omega)).mono ?_
    rintro q ⟨rs0, a, rfl, hr0, ha⟩
    simp! only [line,Int.reduceSub,Int.reduceAdd,Int.reduceMul,Int.reduceMod,Int.reduceDiv,List.length_map,List.length_append,and_self]
    refine take' 98 hd (by omega) (by decide) fun r r0 r1 => ?_
    simp! only [line,Int.reduceSub,Int.reduceAdd,Int.reduceMul,Int.reduceMod,Int.reduceDiv,List.length_map,List.length_append,and_self]
    have rest := fun (rs : List Pr) (a : Nat) (hr : Rgs rs g) (ha : a ≤ 1000) => law_tail (s0 := .dat (.rol (ns.map .int))) (a := a) hd hr ha
    unfold tailF b_law at rest
    dsimp only at rest
    simp! only [line,Int.reduceSub,Int.reduceAdd,Int.reduceMul,Int.reduceMod,Int.reduceDiv,List.length_map,List.length_append,and_self] at rest
    have er : rangesD rs0 = .tup (rs0.map pairD) := rfl
    split
    · rw [er]
      simp! only [line,Int.reduceSub,Int.reduceAdd,Int.reduceMul,Int.reduceMod,Int.reduceDiv,List.length_map,List.length_append,and_self]
      refine ll_idx (I := nrI rs0 (a + 1)) ⟨[], rfl, rfl, fun p h => (nomatch h), rfl⟩ ?_ ?_
      · rintro acc st ⟨rs, rfl, hl, hok, rfl⟩
        rw [List.length_map] at hl
        refine ⟨by have := hr0.len; omega, ?_⟩
        exact rest rs (a + 1) ⟨by rw [hl]; exact hr0.len, hr0.most, hok⟩ (by omega)
      · rintro i x acc st hx ⟨ps, rfl, hl, hok, rfl⟩
        rw [List.getElem?_map] at hx
        obtain ⟨p, hp, rfl⟩ := Option.map_eq_some_iff.mp hx
        have hpo := hr0.ok p (List.mem_of_getElem? hp)
        have add : ∀ q : Pr, okR q → nrI rs0 (a + 1) (i + 1) (ps.map pairD ++ [pairD q]) (at_ (a + 1)) := fun q hq => ⟨ps ++ [q], by rw [List.map_append]; rfl, by simp [hl], fun x hx => by
          rcases List.mem_append.mp hx with hx | hx
          · exact hok x hx
          · rw [List.mem_singleton.mp hx]; exact hq, rfl⟩
        have add2 : ∀ u v : Int, okR (u, v) → nrI rs0 (a + 1) (i + 1) (ps.map (fun p => D.tup [D.int p.1, D.int p.2]) ++ [.tup [.int u, .int v]]) (at_ (a + 1)) := fun u v h => add (u, v) h
        unfold pairD
        simp! only [line,Int.reduceSub,Int.reduceAdd,Int.reduceMul,Int.reduceMod,Int.reduceDiv,List.length_map,List.length_append,and_self]
        have hpo2 := hpo.2.2
        have fin1 : okR (if -99 > p.1 then -99 else p.1, if 99 < p.2 then 99 else p.2) ∨ ¬ (p.1 < 99 ∧ -99 < p.2) := by
          by_cases h : p.1 < 99 ∧ -99 < p.2
          · left
            unfold okR word at *
            simp only
            split <;> split <;> omega
          · exact .inr h
        have fin2 : okR (-3, 3) := by unfold okR word; simp only; omega
        by_cases h1 : p.1 < 99
        · rw [if_pos (by rw [decide_eq_true h1])]
          by_cases h2 : -99 < p.2
          · rw [if_pos h2]
            exact add2 _ _ (fin1.resolve_right fun h => h ⟨h1, h2⟩)
          · rw [if_neg h2]
            exact add2 _ _ fin2
        · rw [if_neg (by rw [decide_eq_false h1]; exact Bool.false_ne_true), if_neg h1]
          exact add2 _ _ fin2
    · exact rest rs0 (a + 1) hr0 (by omega)
  obtain ⟨q, h1, h2⟩ := key
  exact ⟨q.2, by rw [h1, ← h2]⟩
end K76
open PySem PySem.W PyProof.Rows
theorem PySem.Challenge.cw_standsfast_k76_whole_programs_ring_by_te_holds : PySem.Challenge.rw_standsfast_k76_whole_programs_ring_by_te.Holds := by
  w_on; o_law
  refine HandSHeadRun.head_any (r := K76.hRow) (q := view K76.hRow.prog [74]) (H := K76.hHook) (ob := K76.hOb) (M := 12000) (loose := K76.loose) (d := HandSHeadRun.topDef K76.hRow.prog 74) (kwd := []) K76.hOb_eq
    (by kernel_rfl) (fun s => by kernel_rfl) K76.hRun (by kernel_rfl) (by kernel_rfl) (by kernel_rfl) (by rfl) (by first | assumption | decide +kernel) (by decide +kernel) ⟨rfl, rfl, rfl, rfl, rfl, by decide +kernel⟩ ?hw ?hc
  case hw => w_witness2
  case hc =>
    refine L2.walk_ofE (l := PySem.Challenge.rw_standsfast_k76_whole_programs_ring_by_te) (n := 63) (k := 100) (x := "script") (CX := L2.CX0) rfl (by decide) (by kernel_rfl) ⟨rfl, by decide, by decide⟩ ?F (fun _ _ _ _ z => z)
    intro w mg fa h Y G hmg0
    obtain ⟨K, KX, c⟩ := Y
    have hmg : mg ("law" : PySem.Str) = some (.ref fa) := by
      have e : (HandSHeadRun.topDef K76.hRow.prog 74).name = ("law" : PySem.Str) := by kernel_rfl
      rw [← e]
      exact hmg0
    obtain ⟨fd, hb, hF⟩ := K76.facts (P := (PySem.Challenge.rw_standsfast_k76_whole_programs_ring_by_te).prog) (w := w) KX G hmg c
    exact ⟨K, fd, Sf.spF K (Sf.callN K76.T 100) 44, KX, hb, fun H a ns hl hO hS => Sf.law_sp hO hS (K76.plain ns hl), hF⟩
