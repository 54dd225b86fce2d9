import PyProof.Rows.All
import Wide.All
import OpenK.AllK
import Wide.FinOn
import HandS.Comp
import HandS.Conv
import HandS.Deep
import HandS.Defaults
import HandS.EndTab
import HandS.Exc
import HandS.ExcOwn
import HandS.ForMost
import HandS.Head0
import HandS.Head1
import HandS.Head2
import HandS.HeadEnd
import HandS.HeadHook1
import HandS.HeadHook2
import HandS.Lambda
import HandS.More
import HandS.Nested
import HandS.SetFor
import HandS.SetKeys
import HandS.SortInts
import HandS.SortKw
import HandS.SortRule
import HandS.Star
import HandS.Strs
import HandS.TryOnly
import HandS.TupAny
import HandS.TupMul
import HandS.Walk
import HandS.Wide
import HandS.WordsExc
import HandS.Zip
import KE.GoesEnum
import KE.GoesMore
import KE.GoesZip
import KE.KDictZip
import KE.KStateDown
import KE.SortKeyHeap
import Open.Row
import PyProof.ExcBaseAll.ValueError
import PyProof.ReprRoads
import PyProof.Rows.SetFrom
import PySem.Challenge.RW_enoughlooks_k55_shapes_and_their_points
section
set_option Elab.async false
set_option linter.all false
set_option maxRecDepth 100000
/-! N1: a small language of data and its plain meaning; no program in sight. -/
namespace Net
open PySem L2

/-- data: what a Python value is, the heap left out; loc n: the n-th object that may change -/
inductive D where
  | non
  | bl (b : Bool)
  | int (i : Int)
  | str (x : Str)
  | tup (ds : List D)
  | lst (ds : List D)
  | dic (kvs : List (Key × D))
  | scr (ns : List Int)
  | loc (n : Nat)
  deriving Inhabited

/-- an object that may change -/
inductive Cell where
  | lst (ds : List D)
  | dic (kvs : List (Key × D))

abbrev Mem := List Cell
abbrev Fr := List (Option D)

def Cell.frz : Cell → D
  | .lst ds => .lst ds
  | .dic kvs => .dic kvs

inductive Rs (α : Type) where
  | ok (a : α) (M : Mem)
  | exc (c : Nat) (fs : List (Str × D)) (M : Mem)
  | bad

def Rs.bind {α β : Type} : Rs α → (α → Mem → Rs β) → Rs β
  | .ok a M, f => f a M
  | .exc c fs M, _ => .exc c fs M
  | .bad, _ => .bad
/-- exceptions are not carried out of it -/
def Rs.calm {α : Type} : Rs α → Rs α
  | .ok a M => .ok a M
  | _ => .bad
def Rs.of {α : Type} (M : Mem) : Option α → Rs α
  | some a => .ok a M
  | none => .bad

/-! ### what an object holds -/
def D.seq (M : Mem) : D → Option (List D)
  | .lst ds => some ds
  | .loc n => match M[n]? with
    | some (.lst ds) => some ds
    | _ => none
  | _ => none
def D.items (M : Mem) : D → Option (List D)
  | .tup ds => some ds
  | d => d.seq M
def D.dict (M : Mem) : D → Option (List (Key × D))
  | .dic kvs => some kvs
  | .loc n => match M[n]? with
    | some (.dic kvs) => some kvs
    | _ => none
  | _ => none
def D.key : D → Option Key
  | .int i => some (.inl i)
  | .str x => some (.inr x)
  | _ => none
def kD : Key → D
  | .inl i => .int i
  | .inr x => .str x
def kget (kvs : List (Key × D)) (k : Key) : Option D := (kvs.find? fun kv => decide (kv.1 = k)).map (·.2)
def kput (kvs : List (Key × D)) (k : Key) (v : D) : List (Key × D) :=
  if kvs.any (fun kv => decide (kv.1 = k)) then kvs.map fun kv => if kv.1 = k then (kv.1, v) else kv else kvs ++ [(k, v)]
/-! the locs in it are below n -/
mutual
def D.under (n : Nat) : D → Bool
  | .loc m => decide (m < n)
  | .tup ds => D.underL n ds
  | .lst ds => D.underL n ds
  | .dic kvs => D.underK n kvs
  | _ => true
def D.underL (n : Nat) : List D → Bool
  | [] => true
  | d :: ds => d.under n && D.underL n ds
def D.underK (n : Nat) : List (Key × D) → Bool
  | [] => true
  | (_, d) :: ds => d.under n && D.underK n ds
end

/-! ### plain data -/
mutual
def D.pd0 : D → Option PyData
  | .non => some .none
  | .bl b => some (.bool b)
  | .int i => some (.int i)
  | .str x => some (.str x)
  | .tup ds => (D.pdL ds).map .tuple
  | .lst ds => (D.pdL ds).map .list
  | _ => none
def D.pdL : List D → Option (List PyData)
  | [] => some []
  | d :: ds => match d.pd0, D.pdL ds with
    | some p, some ps => some (p :: ps)
    | _, _ => none
end
def D.pd (M : Mem) : D → Option PyData
  | .loc n => match M[n]? with
    | some (.lst ds) => (D.pdL ds).map .list
    | _ => none
  | d => d.pd0
def D.flat : D → Bool
  | .non => true
  | .bl _ => true
  | .int _ => true
  | .str _ => true
  | _ => false

/-! ### operators -/
inductive BOp where
  | add | sub | mul | fdiv | mod | pow
  deriving DecidableEq
inductive COp where
  | eq | ne | lt | le | gt | ge | isin | notin | isN | notN
  deriving DecidableEq

def cat (a b : List D) : Option (List D) := if a.length + b.length ≤ sizeLine then some (a ++ b) else none
def bInt : BOp → Int → Int → Option Int
  | .add, i, j => some (i + j)
  | .sub, i, j => some (i - j)
  | .mul, i, j => if i.natAbs.log2 + j.natAbs.log2 < 1000000 ∨ i.natAbs < 2 ^ 64 ∨ j.natAbs < 2 ^ 64 then some (i * j) else none
  | .fdiv, i, j => if 0 < j ∧ j.natAbs.log2 < 9000 then some (i / j) else none
  | .mod, i, j => if 0 < j then some (i % j) else none
  | .pow, i, j => if 0 ≤ j ∧ j ≤ 1000000 ∧ i.natAbs < 2 ^ 64 then some (i ^ j.toNat) else none
def bSeq (M : Mem) : BOp → D → D → Option D
  | .add, x, y => match x.seq M, y.seq M with
    | some a, some b => (cat a b).map .lst
    | _, _ => none
  | _, _, _ => none
def bTup : BOp → List D → List D → Option D
  | .add, a, b => (cat a b).map .tup
  | _, _, _ => none
def bStr : BOp → Str → Str → Option D
  | .add, x, y => if x.length + y.length ≤ sizeLine then some (.str (x ++ y)) else none
  | _, _, _ => none
def bRep : BOp → List D → Int → Option D
  | .mul, a, k => if a ≠ [] ∧ 1 ≤ k ∧ k ≤ 1000 ∧ a.length ≤ 1000 then some (.tup (List.replicate k.toNat a).flatten) else none
  | _, _, _ => none
def bop (M : Mem) (op : BOp) : D → D → Option D
  | .int i, .int j => (bInt op i j).map .int
  | .str x, .str y => bStr op x y
  | .tup a, .tup b => bTup op a b
  | .tup a, .int k => bRep op a k
  | x, y => bSeq M op x y
def eqLen (M : Mem) (x y : D) : Option Bool := match x.seq M, y.seq M with
  | some ds, some es => if ds.length = es.length then none else some false
  | _, _ => none
def eqStr : D → D → Option Bool
  | .str a, .str b => some (decide (a = b))
  | _, _ => none
def eqD (M : Mem) (x y : D) : Option Bool := match x.pd M, y.pd M with
  | some p, some q => if SeqAt.shaped p = true ∧ SeqAt.shaped q = true then some (PyData.eqv p q) else eqStr x y
  | _, _ => eqLen M x y
def inD (M : Mem) (x y : D) : Option Bool := match y with
  | .tup ds => match x.pd0, D.pdL ds with
    | some p, some ps => if x.flat && ds.all D.flat then some (ps.any fun z => PyData.eqv z p) else none
    | _, _ => none
  | y => match y.dict M with
    | some kvs => x.key.map fun k => (kget kvs k).isSome
    | none => match x.pd M, y.pd M with
      | some p, some (.list qs) => if SeqAt.shaped p = true ∧ SeqAt.shaped (.list qs) = true then some (qs.any fun z => PyData.eqv z p) else none
      | _, _ => none
def isNon : D → Bool
  | .non => true
  | _ => false
def two (f : Int → Int → Bool) : D → D → Option Bool
  | .int i, .int j => some (f i j)
  | _, _ => none
def cop (M : Mem) (op : COp) (x y : D) : Option Bool := match op with
  | .eq => eqD M x y
  | .ne => (eqD M x y).map (!·)
  | .lt => two (fun i j => decide (i < j)) x y
  | .le => two (fun i j => decide (i ≤ j)) x y
  | .gt => two (fun i j => decide (j < i)) x y
  | .ge => two (fun i j => decide (j ≤ i)) x y
  | .isin => inD M x y
  | .notin => (inD M x y).map (!·)
  | .isN => if isNon y then some (isNon x) else none
  | .notN => if isNon y then some (!isNon x) else none
def cutL {α : Type} (xs : List α) (lo hi : Option Int) : List α := (xs.drop (HT.sIx xs.length 0 lo)).take (HT.sIx xs.length xs.length hi - HT.sIx xs.length 0 lo)
def ixD (M : Mem) (x i : D) : Option D := match x.dict M with
  | some kvs => i.key.bind fun k => kget kvs k
  | none => match x.items M, i with
    | some ds, .int j => atI ds j
    | _, _ => none
def slV (M : Mem) (x : D) (l h : Option Int) : Option D := match x with
  | .tup ds => some (.tup (cutL ds l h))
  | .scr ns => some (.lst ((cutL ns l h).map .int))
  | .str x => if x.length ≤ sizeLine then some (.str (cutS x l h)) else none
  | x => (x.seq M).map fun ds => .lst (cutL ds l h)
/-! ### sorting -/
def intsOf : List D → Option (List Int)
  | [] => some []
  | .int i :: ds => (intsOf ds).map (i :: ·)
  | _ => none
def boolsOf : List D → Option (List Bool)
  | [] => some []
  | .bl b :: ds => (boolsOf ds).map (b :: ·)
  | _ => none

/-! ### built-in functions of one value -/
inductive B1 where
  | len | abs | int | sum | all | any | tuple | repr
  deriving DecidableEq
def lenD (M : Mem) (d : D) : Option D := match d.items M with
  | some ds => some (.int ds.length)
  | none => match d.dict M with
    | some kvs => some (.int kvs.length)
    | none => match d with
      | .str x => if x.length ≤ sizeLine then some (.int x.length) else none
      | _ => none
def b1 (M : Mem) (f : B1) (d : D) : Option D := match f with
  | .len => lenD M d
  | .abs => match d with
    | .int i => some (.int (if i < 0 then -i else i))
    | _ => none
  | .int => match d with
    | .int i => some (.int i)
    | .bl b => some (.int (if b then 1 else 0))
    | _ => none
  | .sum => (d.seq M).bind fun ds => (intsOf ds).map fun ns => .int ns.sum
  | .all => (d.seq M).bind fun ds => (boolsOf ds).map fun bs => .bl (bs.all id)
  | .any => (d.seq M).bind fun ds => (boolsOf ds).map fun bs => .bl (bs.any id)
  | .tuple => (d.items M).map .tup
  | .repr => (d.pd M).bind fun p => if p.showable = true ∧ p.depth ≤ 64 ∧ p.shown.length ≤ sizeLine then some (.str p.shown) else none

/-! ### the order that sorted goes by -/
def cmpI (i j : Int) : Ordering := if i < j then .lt else if j < i then .gt else .eq
def cmpS (x y : Str) : Ordering := if x.cps.toList < y.cps.toList then .lt else if y.cps.toList < x.cps.toList then .gt else .eq
def D.rank : D → Nat
  | .int _ => 0
  | .str _ => 1
  | .tup _ => 2
  | _ => 3
mutual
def cmpD : D → D → Ordering
  | .int i, .int j => cmpI i j
  | .str x, .str y => cmpS x y
  | .tup a, .tup b => cmpDs a b
  | x, y => compare x.rank y.rank
def cmpDs : List D → List D → Ordering
  | [], [] => .eq
  | [], _ :: _ => .lt
  | _ :: _, [] => .gt
  | x :: xs, y :: ys => (cmpD x y).then (cmpDs xs ys)
end
def leD (x y : D) : Bool := (cmpD x y).isLE
/-- the kinds that sorted takes: ints, texts, tuples of as many of these -/
inductive Kd where
  | int | str | other
  deriving DecidableEq
def D.kd : D → Kd
  | .int _ => .int
  | .str _ => .str
  | _ => .other
/-- of one kind -/
def D.like : D → D → Bool
  | .int _, .int _ => true
  | .str _, .str _ => true
  | .tup a, .tup b => a ≠ [] && (a.map D.kd).all (fun k => decide (k ≠ .other)) && decide (a.map D.kd = b.map D.kd)
  | _, _ => false
def sortD (ds : List D) : Option (List D) := match ds with
  | [] => some []
  | d :: r => if (d :: r).all (fun x => d.like x) then some ((d :: r).mergeSort leD) else none
/-- each once -/
def dedupI : List Int → List Int
  | [] => []
  | n :: ns => if n ∈ dedupI ns then dedupI ns else n :: dedupI ns
def keysD (kvs : List (Key × D)) : List D := kvs.map fun kv => kD kv.1

/-! ### expressions -/
inductive T where
  | nm (i : Nat)
  | tp (ts : List T)
mutual
inductive E where
  | var (i : Nat)
  | non
  | bl (b : Bool)
  | int (i : Int)
  | str (x : Str)
  | tup (es : Es)
  | new (c : C)
  | newM (c : C)
  | bin (op : BOp) (a b : E)
  | neg (a : E)
  | not (a : E)
  | and (es : Es)
  | or (es : Es)
  | cmp (op : COp) (a b : E)
  | cmp2 (op op2 : COp) (a b c : E)
  | ite (c a b : E)
  | ix (a i : E)
  | sl (a : E) (lo hi : Po)
  | call (f : Nat) (es : Es)
  | b1 (f : B1) (a : E)
  | index (a x : E)
  | get (a k : E)
  | setdef (a k v : E)
  | append (a x : E)
  | extend (a x : E)
  | insert (a i x : E)
inductive Es where
  | nil
  | cons (e : E) (es : Es)
  | star (e : E) (es : Es)
inductive C where
  | lst (es : Es)
  | dic0
  | comp (t : T) (it : I) (c : E) (e : E) (own : List Nat)
  | comp2 (t : T) (it : I) (c : E) (t2 : T) (it2 : I) (c2 : E) (e : E) (own own2 : List Nat)
  | cat (a b : E)
  | sl (a : E) (lo hi : Po)
  | list (it : I)
  | sorted (a : E)
  | sortedSet (a : E)
  | sortedBy (a : E) (js : List Nat) (k : E)
  | dict (it : I)
inductive Po where
  | no
  | at (e : E)
inductive I where
  | seq (e : E)
  | rng1 (a : E)
  | rng2 (a b : E)
  | enum (a : E)
  | zip (a b : E)
end
/-- the locs that an iterable leans on -/
def D.deps : D → List Nat
  | .loc n => [n]
  | _ => []
def rngD (a b : Int) : List D := (List.range (b - a).toNat).map fun i => .int (a + (i : Nat))
def rngOk (a b : Int) : Bool := decide (-(2 ^ 62) ≤ a ∧ a < 2 ^ 62 ∧ -(2 ^ 62) ≤ b ∧ b < 2 ^ 62 ∧ (b - a).toNat ≤ sizeLine)
def pairsD (ds : List D) : Option (List (Key × D)) := match ds with
  | [] => some []
  | .tup [k, v] :: r => match k.key, pairsD r with
    | some k, some ps => some ((k, v) :: ps)
    | _, _ => none
  | _ => none
def mergeD (kvs more : List (Key × D)) : List (Key × D) := more.foldl (fun acc kv => kput acc kv.1 kv.2) kvs
mutual
def asg : T → D → Fr → Option Fr
  | .nm i, d, ρ => if i < ρ.length then some (ρ.set i (some d)) else none
  | .tp ts, .tup ds, ρ => asgs ts ds ρ
  | _, _, _ => none
def asgs : List T → List D → Fr → Option Fr
  | [], [], ρ => some ρ
  | t :: ts, d :: ds, ρ => match asg t d ρ with
    | some ρ => asgs ts ds ρ
    | none => none
  | _, _, _ => none
end
def wipeD (ρ : Fr) : List Nat → Fr
  | [] => ρ
  | v :: vs => (wipeD ρ vs).set v none
/-- the objects that are walked over stand still -/
def Still (g : List Nat) (M M' : Mem) : Prop := ∀ n ∈ g, M'[n]? = M[n]?
open Classical in
/-- a comprehension's turns: step gives what is added -/
noncomputable def compL (g : List Nat) (M0 : Mem) (step : D → Mem → Rs (Option D)) : List D → List D → Mem → Rs (List D)
  | [], acc, M => .ok acc M
  | d :: ds, acc, M => match step d M with
    | .ok o M' => if Still g M0 M' then compL g M0 step ds (acc ++ o.toList) M' else .bad
    | _ => .bad
open Classical in
noncomputable def compLL (g : List Nat) (M0 : Mem) (step : D → List D → Mem → Rs (List D)) : List D → List D → Mem → Rs (List D)
  | [], acc, M => .ok acc M
  | d :: ds, acc, M => match step d acc M with
    | .ok acc' M' => if Still g M0 M' then compLL g M0 step ds acc' M' else .bad
    | _ => .bad
/-- the slot's value -/
def slotD (ρ : Fr) (j : Nat) : Option D := match ρ[j]? with
  | some o => o
  | none => none
/-- the keys, from the left; no exception is carried out of them -/
def keysL (step : D → Mem → Rs D) : List D → List Int → Mem → Rs (List Int)
  | [], acc, M => .ok acc M
  | d :: ds, acc, M => match step d M with
    | .ok (.int n) M' => keysL step ds (acc ++ [n]) M'
    | _ => .bad
def sortBy {α : Type} (ns : List Int) (ds : List α) : List α := ((ns.zip ds).mergeSort fun p q => decide (p.1 ≤ q.1)).map (·.2)
def dbl (α : Type) (d : D) (M : Mem) (f : Bool → Rs α) : Rs α := match d with
  | .bl b => f b
  | _ => .bad
/-- n is of this frame, or what is written leans on what was there ahead of n alone -/
def mayPut (base n : Nat) (d : D) : Bool := decide (base ≤ n) || d.under n
def setM (M : Mem) (n : Nat) (c : Cell) : Mem := M.set n c
section
variable (F : Nat → List D → Mem → Rs D) (base : Nat)
mutual
noncomputable def ev : E → Fr → Mem → Rs D
  | .var i, ρ, M => match ρ[i]? with
    | some (some d) => .ok d M
    | _ => .bad
  | .non, _, M => .ok .non M
  | .bl b, _, M => .ok (.bl b) M
  | .int i, _, M => .ok (.int i) M
  | .str x, _, M => .ok (.str x) M
  | .tup es, ρ, M => (evs es ρ M).bind fun ds M => if ds.length ≤ sizeLine then .ok (.tup ds) M else .bad
  | .new c, ρ, M => (evC c ρ M).bind fun c M => .ok c.frz M
  | .newM c, ρ, M => (evC c ρ M).bind fun c M => .ok (.loc M.length) (M ++ [c])
  | .bin op a b, ρ, M => (ev a ρ M).bind fun x M => (ev b ρ M).bind fun y M => .of M (bop M op x y)
  | .neg a, ρ, M => (ev a ρ M).bind fun x M => match x with
    | .int i => .ok (.int (-i)) M
    | _ => .bad
  | .not a, ρ, M => (ev a ρ M).bind fun x M => match x with
    | .bl b => .ok (.bl (!b)) M
    | _ => .bad
  | .and es, ρ, M => evAnd es ρ M
  | .or es, ρ, M => evOr es ρ M
  | .cmp op a b, ρ, M => (ev a ρ M).bind fun x M => (ev b ρ M).bind fun y M => .of M ((cop M op x y).map .bl)
  | .cmp2 op op2 a b c, ρ, M => (ev a ρ M).bind fun x M => (ev b ρ M).bind fun y M => match cop M op x y with
    | some true => (ev c ρ M).bind fun z M => .of M ((cop M op2 y z).map .bl)
    | some false => .ok (.bl false) M
    | none => .bad
  | .ite c a b, ρ, M => (ev c ρ M).bind fun x M => match x with
    | .bl true => ev a ρ M
    | .bl false => ev b ρ M
    | _ => .bad
  | .ix a i, ρ, M => (ev a ρ M).bind fun x M => (ev i ρ M).bind fun y M => .of M (ixD M x y)
  | .sl a lo hi, ρ, M => (ev a ρ M).bind fun x M => (evP lo ρ M).bind fun l M => (evP hi ρ M).bind fun h M => .of M (slV M x l h)
  | .call f es, ρ, M => (evs es ρ M).bind fun ds M => F f ds M
  | .b1 f a, ρ, M => (ev a ρ M).bind fun x M => .of M (b1 M f x)
  | .index a x, ρ, M => (ev a ρ M).bind fun o M => if (o.items M).isSome = false then .bad else (ev x ρ M).bind fun y M => match o.items M, y with
    | some ds, .str z => match ds.findIdx? (fun d => match d with | .str w => decide (w = z) | _ => false) with
      | some j => if ds.all (fun d => match d with | .str _ => true | _ => false) then .ok (.int j) M else .bad
      | none => .bad
    | _, _ => .bad
  | .get a k, ρ, M => (ev a ρ M).bind fun o M => if (o.dict M).isSome = false then .bad else (ev k ρ M).bind fun y M => match o.dict M, y.key with
    | some kvs, some k => .ok ((kget kvs k).getD .non) M
    | _, _ => .bad
  | .setdef a k v, ρ, M => (ev a ρ M).bind fun o M => if (o.dict M).isSome = false then .bad else (ev k ρ M).bind fun y M => (ev v ρ M).bind fun z M => match o, y.key with
    | .loc n, some k => match M[n]? with
      | some (.dic kvs) => if kvs.length < sizeLine then match kget kvs k with
          | some d => .ok d M
          | none => if mayPut base n z then .ok z (setM M n (.dic (kvs ++ [(k, z)]))) else .bad
        else .bad
      | _ => .bad
    | _, _ => .bad
  | .append a x, ρ, M => (ev a ρ M).bind fun o M => if (o.seq M).isSome = false then .bad else (ev x ρ M).bind fun y M => match o with
    | .loc n => match M[n]? with
      | some (.lst ds) => if mayPut base n y && decide (ds.length < sizeLine) then .ok .non (setM M n (.lst (ds ++ [y]))) else .bad
      | _ => .bad
    | _ => .bad
  | .extend a x, ρ, M => (ev a ρ M).bind fun o M => if (o.seq M).isSome = false then .bad else (ev x ρ M).bind fun y M => match o, y.seq M with
    | .loc n, some zs => match M[n]? with
      | some (.lst ds) => if (decide (base ≤ n) || D.underL n zs) && decide (ds.length + zs.length ≤ sizeLine) then .ok .non (setM M n (.lst (ds ++ zs))) else .bad
      | _ => .bad
    | _, _ => .bad
  | .insert a i x, ρ, M => (ev a ρ M).bind fun o M => if (o.seq M).isSome = false then .bad else (ev i ρ M).bind fun j M => (ev x ρ M).bind fun y M => match o, j with
    | .loc n, .int i => match M[n]? with
      | some (.lst ds) => if mayPut base n y && decide (ds.length < sizeLine ∧ 0 ≤ i ∧ i < 2 ^ 63) then .ok .non (setM M n (.lst (ds.take i.toNat ++ y :: ds.drop i.toNat))) else .bad
      | _ => .bad
    | _, _ => .bad
noncomputable def evs : Es → Fr → Mem → Rs (List D)
  | .nil, _, M => .ok [] M
  | .cons e es, ρ, M => (ev e ρ M).bind fun d M => (evs es ρ M).bind fun ds M => .ok (d :: ds) M
  | .star e es, ρ, M => (ev e ρ M).bind fun d M => match d.items M with
    | some xs => (evs es ρ M).bind fun ds M => .ok (xs ++ ds) M
    | none => .bad
noncomputable def evAnd : Es → Fr → Mem → Rs D
  | .cons e .nil, ρ, M => ev e ρ M
  | .cons e es, ρ, M => (ev e ρ M).bind fun d M => match d with
    | .bl true => evAnd es ρ M
    | .bl false => .ok (.bl false) M
    | _ => .bad
  | _, _, _ => .bad
noncomputable def evOr : Es → Fr → Mem → Rs D
  | .cons e .nil, ρ, M => ev e ρ M
  | .cons e es, ρ, M => (ev e ρ M).bind fun d M => match d with
    | .bl false => evOr es ρ M
    | .bl true => .ok (.bl true) M
    | _ => .bad
  | _, _, _ => .bad
noncomputable def evC : C → Fr → Mem → Rs Cell
  | .lst es, ρ, M => (evs es ρ M).bind fun ds M => if ds.length ≤ sizeLine then .ok (.lst ds) M else .bad
  | .dic0, _, M => .ok (.dic []) M
  | .comp t it c e own, ρ, M => (evI it ρ M).bind fun z M0 =>
      (compL z.2 M0 (fun d M => match asg t d (wipeD ρ own) with
        | none => .bad
        | some ρ' => (ev c ρ' M).bind fun k M => match k with
          | .bl true => (ev e ρ' M).bind fun y M => .ok (some y) M
          | .bl false => .ok none M
          | _ => .bad) z.1 [] M0).bind fun ds M => .ok (.lst ds) M
  | .comp2 t it c t2 it2 c2 e own own2, ρ, M => (evI it ρ M).bind fun z M0 =>
      (compLL z.2 M0 (fun d acc M => match asg t d (wipeD ρ own) with
        | none => .bad
        | some ρ1 => (ev c ρ1 M).bind fun k M => match k with
          | .bl false => .ok acc M
          | .bl true => (evI it2 ρ1 M).bind fun z2 M1 => compLL z2.2 M1 (fun d2 acc M => match asg t2 d2 (wipeD ρ1 own2) with
            | none => .bad
            | some ρ2 => (ev c2 ρ2 M).bind fun k M => match k with
              | .bl true => (ev e ρ2 M).bind fun y M => if acc.length < sizeLine then .ok (acc ++ [y]) M else .bad
              | .bl false => .ok acc M
              | _ => .bad) z2.1 acc M1
          | _ => .bad) z.1 [] M0).bind fun ds M => .ok (.lst ds) M
  | .cat a b, ρ, M => (ev a ρ M).bind fun x M => (ev b ρ M).bind fun y M => match x.seq M, y.seq M with
    | some a, some b => .of M ((cat a b).map .lst)
    | _, _ => .bad
  | .sl a lo hi, ρ, M => (ev a ρ M).bind fun x M => (evP lo ρ M).bind fun l M => (evP hi ρ M).bind fun h M => match x.seq M with
    | some ds => .ok (.lst (cutL ds l h)) M
    | none => .bad
  | .list it, ρ, M => (evI it ρ M).bind fun z M => .ok (.lst z.1) M
  | .sorted a, ρ, M => (ev a ρ M).bind fun x M => match x.seq M with
    | some ds => .of M ((sortD ds).map .lst)
    | none => match x.dict M with
      | some kvs => match intsOf (keysD kvs) with
        | some ns => if ns.length < 64 then .of M ((sortD (ns.map .int)).map .lst) else .bad
        | none => .bad
      | none => .bad
  | .sortedSet a, ρ, M => (ev a ρ M).bind fun x M => match x.seq M with
    | some ds => match intsOf ds with
      | some ns => if ns.length < 4000 ∧ (dedupI ns).length < 64 then .of M ((sortD ((dedupI ns).map .int)).map .lst) else .bad
      | none => .bad
    | none => .bad
  | .sortedBy a js k, ρ, M => (ev a ρ M).bind fun x M => match x.seq M with
    | some ds => (keysL (fun d M => ev k (some d :: js.map (slotD ρ)) M) ds [] M).bind fun ns M => .ok (.lst (sortBy ns ds)) M
    | none => .bad
  | .dict it, ρ, M => (evI it ρ M).bind fun z M => match pairsD z.1 with
    | some ps => .ok (.dic (mergeD [] ps)) M
    | none => .bad
noncomputable def evP : Po → Fr → Mem → Rs (Option Int)
  | .no, _, M => .ok none M
  | .at e, ρ, M => (ev e ρ M).bind fun d M => match d with
    | .int i => .ok (some i) M
    | _ => .bad
noncomputable def evI : I → Fr → Mem → Rs (List D × List Nat)
  | .seq e, ρ, M => (ev e ρ M).bind fun d M => match d.items M with
    | some ds => .ok (ds, d.deps) M
    | none => .bad
  | .rng1 a, ρ, M => (ev a ρ M).bind fun x M => match x with
    | .int j => if rngOk 0 j then .ok (rngD 0 j, []) M else .bad
    | _ => .bad
  | .rng2 a b, ρ, M => (ev a ρ M).bind fun x M => (ev b ρ M).bind fun y M => match x, y with
    | .int i, .int j => if rngOk i j then .ok (rngD i j, []) M else .bad
    | _, _ => .bad
  | .enum a, ρ, M => (ev a ρ M).bind fun d M => match d.items M with
    | some ds => .ok (ds.zipIdx.map fun p => .tup [.int p.2, p.1], d.deps) M
    | none => .bad
  | .zip a b, ρ, M => (ev a ρ M).bind fun d M => (ev b ρ M).bind fun e M => match d.items M, e.items M with
    | some xs, some ys => .ok ((xs.zip ys).map fun p => .tup [p.1, p.2], d.deps ++ e.deps) M
    | _, _ => .bad
end
end

/-! ### statements -/
inductive Rt where
  | next (ρ : Fr) (M : Mem)
  | ret (d : D) (M : Mem)
  | brk (ρ : Fr) (M : Mem)
  | cont (ρ : Fr) (M : Mem)
  | exc (c : Nat) (fs : List (Str × D)) (ρ : Fr) (M : Mem)
  | bad
mutual
inductive S where
  | expr (e : E)
  | set (t : T) (e : E)
  | par (i j : Nat) (a b : E)
  | setIx (o i e : E)
  | augIx (o i e : E)
  | aug (i : Nat) (sub : Bool) (e : E)
  | ret (e : E)
  | ite (c : E) (a b : Ss)
  | loop (t : T) (it : I) (body : Ss)
  | while (c : E) (body : Ss)
  | raise (c : Nat)
  | try (body : Ss) (c : Nat) (h : Ss)
  | pass | brk | cont
inductive Ss where
  | nil
  | cons (s : S) (ss : Ss)
end
def Rs.st {α : Type} (ρ : Fr) : Rs α → (α → Mem → Rt) → Rt
  | .ok a M, f => f a M
  | .exc c fs M, _ => .exc c fs ρ M
  | .bad, _ => .bad
def Rt.calm : Rt → Rt
  | .exc _ _ _ _ => .bad
  | r => r
def Rt.seq : Rt → (Fr → Mem → Rt) → Rt
  | .next ρ M, f => f ρ M
  | r, _ => r
open Classical in
noncomputable def loopL (g : List Nat) (M0 : Mem) (step : D → Fr → Mem → Rt) : List D → Fr → Mem → Rt
  | [], ρ, M => .next ρ M
  | d :: ds, ρ, M => match step d ρ M with
    | .next ρ' M' => if Still g M0 M' then loopL g M0 step ds ρ' M' else .bad
    | .cont ρ' M' => if Still g M0 M' then loopL g M0 step ds ρ' M' else .bad
    | .brk ρ' M' => .next ρ' M'
    | r => r
def whileL (test : Fr → Mem → Rs D) (step : Fr → Mem → Rt) : Nat → Fr → Mem → Rt
  | 0, _, _ => .bad
  | n + 1, ρ, M => (test ρ M).st ρ fun b M => match b with
    | .bl true => match step ρ M with
      | .next ρ' M' => whileL test step n ρ' M'
      | .cont ρ' M' => whileL test step n ρ' M'
      | .brk ρ' M' => .next ρ' M'
      | r => r
    | .bl false => .next ρ M
    | _ => .bad
section
variable (F : Nat → List D → Mem → Rs D) (base W : Nat)
mutual
noncomputable def ex : S → Fr → Mem → Rt
  | .expr e, ρ, M => (ev F base e ρ M).st ρ fun _ M => .next ρ M
  | .set t e, ρ, M => (ev F base e ρ M).st ρ fun d M => match asg t d ρ with
    | some ρ' => .next ρ' M
    | none => .bad
  | .par i j a b, ρ, M => (ev F base a ρ M).st ρ fun x M => (ev F base b ρ M).st ρ fun y M => if i < ρ.length ∧ j < ρ.length then .next ((ρ.set i (some x)).set j (some y)) M else .bad
  | .setIx o i e, ρ, M => (ev F base e ρ M).st ρ fun z M => (ev F base o ρ M).st ρ fun x M => (ev F base i ρ M).st ρ fun y M => match x with
    | .loc n => match M[n]? with
      | some (.lst ds) => match y with
        | .int k => match ixN ds.length k with
          | some j => if mayPut base n z then .next ρ (setM M n (.lst (ds.set j z))) else .bad
          | none => .bad
        | _ => .bad
      | some (.dic kvs) => match y.key with
        | some k => if mayPut base n z && decide (kvs.length < sizeLine) then .next ρ (setM M n (.dic (kput kvs k z))) else .bad
        | none => .bad
      | none => .bad
    | _ => .bad
  | .augIx o i e, ρ, M => (ev F base o ρ M).st ρ fun x M => (ev F base i ρ M).st ρ fun y M => match x, y with
    | .loc n, .int k => match M[n]? with
      | some (.lst ds) => if 0 ≤ k then match ds[k.toNat]? with
          | some (.int a) => (ev F base e ρ M).st ρ fun z M => match z, M[n]? with
            | .int b, some (.lst ds) => if k.toNat < ds.length then .next ρ (setM M n (.lst (ds.set k.toNat (.int (a + b))))) else .bad
            | _, _ => .bad
          | _ => .bad
        else .bad
      | _ => .bad
    | _, _ => .bad
  | .aug i sub e, ρ, M => match ρ[i]? with
    | some (some (.int a)) => (ev F base e ρ M).st ρ fun z M => match z with
      | .int b => .next (ρ.set i (some (.int (if sub then a - b else a + b)))) M
      | _ => .bad
    | _ => .bad
  | .ret e, ρ, M => (ev F base e ρ M).st ρ fun d M => .ret d M
  | .ite c a b, ρ, M => (ev F base c ρ M).st ρ fun x M => match x with
    | .bl true => exs a ρ M
    | .bl false => exs b ρ M
    | _ => .bad
  | .loop t it body, ρ, M => (evI F base it ρ M).st ρ fun z M => loopL z.2 M (fun d ρ M => match asg t d ρ with
    | some ρ' => exs body ρ' M
    | none => .bad) z.1 ρ M
  | .while c body, ρ, M => whileL (fun ρ M => ev F base c ρ M) (fun ρ M => exs body ρ M) W ρ M
  | .raise c, ρ, M => .exc c [] ρ M
  | .try body c h, ρ, M => match exs body ρ M with
    | .exc c' fs ρ' M' => if c' = c then (exs h ρ' M').calm else .exc c' fs ρ' M'
    | r => r
  | .pass, ρ, M => .next ρ M
  | .brk, ρ, M => .brk ρ M
  | .cont, ρ, M => .cont ρ M
noncomputable def exs : Ss → Fr → Mem → Rt
  | .nil, ρ, M => .next ρ M
  | .cons s ss, ρ, M => match ex s ρ M with
    | .next ρ' M' => exs ss ρ' M'
    | r => r
end
end

/-! ### functions -/
structure FI where
  nm : Str
  ps : Nat
  sz : Nat
  keep : Bool
  body : Ss
/-- what leaves a call: the objects made in it (from n on) stand still from then on -/
def mapO {α β : Type} (f : α → Option β) : List α → Option (List β)
  | [] => some []
  | a :: r => match f a, mapO f r with
    | some b, some bs => some (b :: bs)
    | _, _ => none
def frz (M : Mem) (n : Nat) : Nat → D → Option D
  | 0, d => if d.under n then some d else none
  | k + 1, d => if d.under n then some d else match d with
    | .tup ds => (mapO (frz M n k) ds).map .tup
    | .lst ds => (mapO (frz M n k) ds).map .lst
    | .dic kvs => (mapO (fun kv : Key × D => (frz M n k kv.2).map fun d => (kv.1, d)) kvs).map .dic
    | .loc m => match M[m]? with
      | some (.lst ds) => (mapO (frz M n k) ds).map .lst
      | some (.dic kvs) => (mapO (fun kv : Key × D => (frz M n k kv.2).map fun d => (kv.1, d)) kvs).map .dic
      | none => none
    | d => some d
def frzFs (M : Mem) (n : Nat) (fs : List (Str × D)) : Option (List (Str × D)) := mapO (fun kv : Str × D => (frz M n 8 kv.2).map fun d => (kv.1, d)) fs
def startD (sz : Nat) (ds : List D) : Fr := ds.map some ++ List.replicate (sz - ds.length) none
/-- a call's end -/
def leave (keep : Bool) (n : Nat) : Rt → Rs D
  | .ret d M => if keep then .ok d M else match frz M n 8 d with
    | some d => .ok d (M.take n)
    | none => .bad
  | .next _ M => .ok .non (if keep then M else M.take n)
  | .exc c fs _ M => if keep then .bad else match frzFs M n fs with
    | some fs => .exc c fs (M.take n)
    | none => .bad
  | _ => .bad
section
variable (tb : Nat → Option FI) (W : Nat)
noncomputable def callF : Nat → Nat → List D → Mem → Rs D
  | 0, _, _, _ => .bad
  | k + 1, f, ds, M => match tb f with
    | some fi => if ds.length = fi.ps then leave fi.keep M.length (exs (callF k) M.length W fi.body (startD fi.sz ds) M) else .bad
    | none => .bad
end
end Net
end

section
set_option Elab.async false
set_option linter.all false
/-! M1: a strict order in which the uppers of each stand in a row, as a forest. -/
namespace Fo
variable {α : Type} [DecidableEq α]

inductive Fo (α : Type) where
  | nil
  | cons (c : α) (kids rest : Fo α)
def Fo.pre : Fo α → List α
  | .nil => []
  | .cons c k r => c :: (k.pre ++ r.pre)
def Fo.heads : Fo α → List α
  | .nil => []
  | .cons c _ r => c :: r.heads
def Fo.depth : Fo α → Nat
  | .nil => 0
  | .cons _ k r => max (k.depth + 1) r.depth
/-- its columns' children are those of f -/
def Fo.Fits (f : α → List α) : Fo α → Prop
  | .nil => True
  | .cons c k r => f c = k.heads ∧ k.Fits f ∧ r.Fits f

structure Abv (cols : List α) (ab : α → α → Bool) : Prop where
  nd : cols.Nodup
  irr : ∀ x, x ∈ cols → ab x x = false
  tr : ∀ x y z, x ∈ cols → y ∈ cols → z ∈ cols → ab x y = true → ab y z = true → ab x z = true
  ch : ∀ x y z, x ∈ cols → y ∈ cols → z ∈ cols → ab x z = true → ab y z = true → x = y ∨ ab x y = true ∨ ab y x = true

def up (cols : List α) (ab : α → α → Bool) (c : α) : List α := cols.filter fun x => ab x c
def rk (cols : List α) (ab : α → α → Bool) (c : α) : Nat := (up cols ab c).length
def par (cols : List α) (ab : α → α → Bool) (c : α) : Option α := (up cols ab c).find? fun p => rk cols ab p + 1 == rk cols ab c
def pth (cols : List α) (ab : α → α → Bool) : Nat → α → List α
  | 0, _ => []
  | n + 1, c => match par cols ab c with
    | none => []
    | some p => pth cols ab n p ++ [p]
def kids (cols : List α) (ab : α → α → Bool) (p : α) : List α := cols.filter fun c => decide (par cols ab c = some p)
def roots (cols : List α) (ab : α → α → Bool) : List α := cols.filter fun c => decide (par cols ab c = none)

theorem eq_of_perm_lt {f : α → Nat} : ∀ {l1 l2 : List α}, l1.Perm l2 → l1.Pairwise (fun a b => f a < f b) → l2.Pairwise (fun a b => f a < f b) → l1 = l2
  | [], l2, p, _, _ => p.nil_eq
  | a :: l1, [], p, _, _ => by simpa using p.length_eq
  | a :: l1, b :: l2, p, h1, h2 => by
    obtain ⟨a1, a2⟩ := List.pairwise_cons.mp h1
    obtain ⟨b1, b2⟩ := List.pairwise_cons.mp h2
    have e : a = b := by
      apply Classical.byContradiction
      intro ne
      have m1 : a ∈ l2 := by
        rcases List.mem_cons.mp (p.mem_iff.mp List.mem_cons_self) with z | z
        · exact absurd z ne
        · exact z
      have m2 : b ∈ l1 := by
        rcases List.mem_cons.mp (p.mem_iff.mpr List.mem_cons_self) with z | z
        · exact absurd z.symm ne
        · exact z
      have := a1 _ m2
      have := b1 _ m1
      omega
    subst e
    rw [eq_of_perm_lt (p.cons_inv) a2 b2]

theorem perm_of_nodup {l1 l2 : List α} (h1 : l1.Nodup) (h2 : l2.Nodup) (h : ∀ x, x ∈ l1 ↔ x ∈ l2) : l1.Perm l2 := by
  rw [List.perm_iff_count]
  intro a
  rw [List.Nodup.count h1, List.Nodup.count h2]
  simp only [h]

theorem len_le_of_sub : ∀ {l1 l2 : List α}, l1.Nodup → (∀ x, x ∈ l1 → x ∈ l2) → l1.length ≤ l2.length
  | [], _, _, _ => Nat.zero_le _
  | a :: l1, l2, nd, h => by
    obtain ⟨n1, n2⟩ := List.nodup_cons.mp nd
    have ha := h a List.mem_cons_self
    have := len_le_of_sub (l2 := l2.erase a) n2 fun x hx => (List.mem_erase_of_ne (fun e : x = a => n1 (by rw [← e]; exact hx))).mpr (h x (List.mem_cons_of_mem _ hx))
    rw [List.length_erase_of_mem ha] at this
    have : 0 < l2.length := List.length_pos_of_mem ha
    rw [List.length_cons]
    omega
section
variable {cols : List α} {ab : α → α → Bool} (A : Abv cols ab)
include A
theorem mem_up {x c : α} : x ∈ up cols ab c ↔ x ∈ cols ∧ ab x c = true := by
  unfold up; rw [List.mem_filter]
theorem up_nd (c : α) : (up cols ab c).Nodup := A.nd.filter _
theorem up_self {c : α} (h : c ∈ cols) : c ∉ up cols ab c := fun z => by
  have := (mem_up A).mp z
  rw [A.irr c h] at this
  exact Bool.false_ne_true this.2
theorem up_sub {p c : α} (hp : p ∈ cols) (hc : c ∈ cols) (h : ab p c = true) {x : α} (hx : x ∈ up cols ab p) : x ∈ up cols ab c := by
  obtain ⟨h1, h2⟩ := (mem_up A).mp hx
  exact (mem_up A).mpr ⟨h1, A.tr x p c h1 hp hc h2 h⟩
theorem rk_lt {p c : α} (hp : p ∈ cols) (hc : c ∈ cols) (h : ab p c = true) : rk cols ab p < rk cols ab c := by
  have s : (p :: up cols ab p).length ≤ (up cols ab c).length := by
    refine len_le_of_sub (List.nodup_cons.mpr ⟨up_self A hp, up_nd A p⟩) fun x hx => ?_
    rcases List.mem_cons.mp hx with rfl | hx
    · exact (mem_up A).mpr ⟨hp, h⟩
    · exact up_sub A hp hc h hx
  unfold rk
  rw [List.length_cons] at s
  exact s
theorem rk_len {c : α} (hc : c ∈ cols) : rk cols ab c < cols.length := by
  have s : (c :: up cols ab c).length ≤ cols.length := by
    refine len_le_of_sub (List.nodup_cons.mpr ⟨up_self A hc, up_nd A c⟩) fun x hx => ?_
    rcases List.mem_cons.mp hx with rfl | hx
    · exact hc
    · exact ((mem_up A).mp hx).1
  unfold rk
  rw [List.length_cons] at s
  exact s
theorem rk_inj {x y c : α} (hc : c ∈ cols) (hx : x ∈ up cols ab c) (hy : y ∈ up cols ab c) (e : rk cols ab x = rk cols ab y) : x = y := by
  obtain ⟨x1, x2⟩ := (mem_up A).mp hx
  obtain ⟨y1, y2⟩ := (mem_up A).mp hy
  rcases A.ch x y c x1 y1 hc x2 y2 with h | h | h
  · exact h
  · have := rk_lt A x1 y1 h; omega
  · have := rk_lt A y1 x1 h; omega
/-- one of the greatest rank -/
theorem max_rk : ∀ (l : List α), l ≠ [] → ∃ p, p ∈ l ∧ ∀ x, x ∈ l → rk cols ab x ≤ rk cols ab p
  | [], h => absurd rfl h
  | [a], _ => ⟨a, List.mem_cons_self, fun x hx => by rw [List.mem_singleton.mp hx]; exact Nat.le_refl _⟩
  | a :: b :: r, _ => by
    obtain ⟨p, hp, h⟩ := max_rk (b :: r) (by simp)
    by_cases c : rk cols ab a ≤ rk cols ab p
    · refine ⟨p, List.mem_cons_of_mem _ hp, fun x hx => ?_⟩
      rcases List.mem_cons.mp hx with rfl | hx
      · exact c
      · exact h x hx
    · refine ⟨a, List.mem_cons_self, fun x hx => ?_⟩
      rcases List.mem_cons.mp hx with rfl | hx
      · exact Nat.le_refl _
      · have := h x hx; omega
/-- the last of the uppers -/
theorem top_up {c : α} (hc : c ∈ cols) (h : up cols ab c ≠ []) : ∃ p, p ∈ cols ∧ ab p c = true ∧ (up cols ab c).Perm (p :: up cols ab p) ∧ rk cols ab c = rk cols ab p + 1 := by
  obtain ⟨p, hp, mx⟩ := max_rk A _ h
  obtain ⟨p1, p2⟩ := (mem_up A).mp hp
  have pm : (up cols ab c).Perm (p :: up cols ab p) := by
    refine perm_of_nodup (up_nd A c) (List.nodup_cons.mpr ⟨up_self A p1, up_nd A p⟩) fun x => ⟨fun hx => ?_, fun hx => ?_⟩
    · obtain ⟨x1, x2⟩ := (mem_up A).mp hx
      rcases A.ch x p c x1 p1 hc x2 p2 with h | h | h
      · rw [h]; exact List.mem_cons_self
      · exact List.mem_cons_of_mem _ ((mem_up A).mpr ⟨x1, h⟩)
      · have := rk_lt A p1 x1 h
        have := mx x hx
        omega
    · rcases List.mem_cons.mp hx with rfl | hx
      · exact hp
      · exact up_sub A p1 hc p2 hx
  refine ⟨p, p1, p2, pm, ?_⟩
  have := pm.length_eq
  unfold rk
  simpa using this
theorem par_some {c p : α} (hc : c ∈ cols) (h : par cols ab c = some p) : p ∈ cols ∧ ab p c = true ∧ (up cols ab c).Perm (p :: up cols ab p) ∧ rk cols ab c = rk cols ab p + 1 := by
  unfold par at h
  have m := List.mem_of_find?_eq_some h
  have e := List.find?_some h
  obtain ⟨q, q1, q2, q3, q4⟩ := top_up A hc (fun z => by rw [z] at m; cases m)
  have : p = q := rk_inj A hc m ((mem_up A).mpr ⟨q1, q2⟩) (by
    have e := beq_iff_eq.mp e
    omega)
  subst this
  exact ⟨q1, q2, q3, q4⟩
theorem par_none {c : α} (hc : c ∈ cols) (h : par cols ab c = none) : up cols ab c = [] := by
  apply Classical.byContradiction
  intro z
  obtain ⟨q, q1, q2, q3, q4⟩ := top_up A hc z
  unfold par at h
  have := List.find?_eq_none.mp h q ((mem_up A).mpr ⟨q1, q2⟩)
  exact this (beq_iff_eq.mpr q4.symm)
theorem par_none_of {c : α} (h : up cols ab c = []) : par cols ab c = none := by
  unfold par; rw [h]; rfl
theorem pth_ok : ∀ (n : Nat) (c : α), c ∈ cols → rk cols ab c ≤ n → (pth cols ab n c).Perm (up cols ab c) ∧ (pth cols ab n c).Pairwise fun a b => rk cols ab a < rk cols ab b
  | 0, c, hc, h => by
    have e : up cols ab c = [] := List.eq_nil_of_length_eq_zero (Nat.le_zero.mp h)
    rw [e]
    exact ⟨.refl _, .nil⟩
  | n + 1, c, hc, h => by
    unfold pth
    cases q : par cols ab c with
    | none => rw [par_none A hc q]; exact ⟨.refl _, .nil⟩
    | some p =>
      obtain ⟨p1, p2, p3, p4⟩ := par_some A hc q
      obtain ⟨i1, i2⟩ := pth_ok n p p1 (by omega)
      refine ⟨((i1.append_right [p]).trans (List.perm_append_comm)).trans p3.symm, ?_⟩
      rw [List.pairwise_append]
      refine ⟨i2, List.pairwise_singleton _ _, fun a ha b hb => ?_⟩
      rw [List.mem_singleton.mp hb]
      obtain ⟨a1, a2⟩ := (mem_up A).mp (i1.mem_iff.mp ha)
      exact rk_lt A a1 p1 a2
/-- the uppers in order: any arrangement by rank is this one -/
theorem pth_uniq {c : α} {n : Nat} {l : List α} (hc : c ∈ cols) (hn : rk cols ab c ≤ n) (h1 : l.Perm (up cols ab c)) (h2 : l.Pairwise fun a b => rk cols ab a ≤ rk cols ab b) : l = pth cols ab n c := by
  obtain ⟨i1, i2⟩ := pth_ok A n c hc hn
  refine eq_of_perm_lt (f := rk cols ab) (h1.trans i1.symm) ?_ i2
  have nd : l.Nodup := h1.nodup_iff.mpr (up_nd A c)
  refine (List.pairwise_and_iff.mpr ⟨h2, nd⟩).imp_of_mem fun {a b} ha hb ⟨k1, k2⟩ => ?_
  rcases Nat.lt_or_eq_of_le k1 with z | z
  · exact z
  · exact absurd (rk_inj A hc (h1.mem_iff.mp ha) (h1.mem_iff.mp hb) z) k2
theorem pth_last {c : α} {n : Nat} (hc : c ∈ cols) (hn : rk cols ab c ≤ n) : (pth cols ab n c).getLast? = par cols ab c := by
  cases n with
  | zero =>
    have e : up cols ab c = [] := List.eq_nil_of_length_eq_zero (Nat.le_zero.mp hn)
    rw [par_none_of A e]; rfl
  | succ n =>
    unfold pth
    cases q : par cols ab c with
    | none => rfl
    | some p => simp
theorem mem_kids {p c : α} : c ∈ kids cols ab p ↔ c ∈ cols ∧ par cols ab c = some p := by
  unfold kids; rw [List.mem_filter, decide_eq_true_eq]
theorem mem_roots {c : α} : c ∈ roots cols ab ↔ c ∈ cols ∧ par cols ab c = none := by
  unfold roots; rw [List.mem_filter, decide_eq_true_eq]
end

def grow (f : α → List α) : Nat → List α → Fo α
  | 0, _ => .nil
  | n + 1, cs => cs.foldr (fun c r => .cons c (grow f n (f c)) r) .nil
theorem grow_nil (f : α → List α) (n : Nat) : grow f n [] = .nil := by cases n <;> rfl
theorem grow_cons (f : α → List α) (n : Nat) (c : α) (cs : List α) : grow f (n + 1) (c :: cs) = .cons c (grow f n (f c)) (grow f (n + 1) cs) := rfl
theorem grow_depth (f : α → List α) : ∀ (n : Nat) (cs : List α), (grow f n cs).depth ≤ n
  | 0, cs => Nat.le_refl _
  | n + 1, [] => Nat.zero_le _
  | n + 1, c :: cs => by
    have h1 := grow_depth f n (f c)
    have h2 := grow_depth f (n + 1) cs
    rw [grow_cons]
    unfold Fo.depth
    omega
section
variable {cols : List α} {ab : α → α → Bool} (A : Abv cols ab)
include A
theorem grow_heads {n : Nat} {cs : List α} (h : ∀ c, c ∈ cs → c ∈ cols ∧ cols.length ≤ rk cols ab c + n) : (grow (kids cols ab) n cs).heads = cs := by
  cases n with
  | zero =>
    cases cs with
    | nil => rfl
    | cons c r =>
      obtain ⟨h1, h2⟩ := h c List.mem_cons_self
      have := rk_len A h1
      omega
  | succ n =>
    clear h
    induction cs with
    | nil => rfl
    | cons c r ih =>
      rw [grow_cons]
      unfold Fo.heads
      rw [ih]
theorem kids_deep {n : Nat} {c : α} (h : c ∈ cols) (h2 : cols.length ≤ rk cols ab c + (n + 1)) : ∀ x, x ∈ kids cols ab c → x ∈ cols ∧ cols.length ≤ rk cols ab x + n := fun x hx => by
  obtain ⟨x1, x2⟩ := (mem_kids A).mp hx
  obtain ⟨_, _, _, e⟩ := par_some A x1 x2
  exact ⟨x1, by omega⟩
theorem grow_fits : ∀ (n : Nat) (cs : List α), (∀ c, c ∈ cs → c ∈ cols ∧ cols.length ≤ rk cols ab c + n) → (grow (kids cols ab) n cs).Fits (kids cols ab)
  | 0, cs, h => trivial
  | n + 1, [], h => trivial
  | n + 1, c :: cs, h => by
    rw [grow_cons]
    obtain ⟨h1, h2⟩ := h c List.mem_cons_self
    have kd := kids_deep A h1 h2
    exact ⟨(grow_heads A kd).symm, grow_fits n _ kd, grow_fits (n + 1) cs fun x hx => h x (List.mem_cons_of_mem _ hx)⟩
theorem grow_mem : ∀ (n : Nat) (cs : List α), (∀ c, c ∈ cs → c ∈ cols ∧ cols.length ≤ rk cols ab c + n) → ∀ x, x ∈ (grow (kids cols ab) n cs).pre ↔ x ∈ cols ∧ ∃ c, c ∈ cs ∧ (x = c ∨ ab c x = true)
  | 0, cs, h, x => by
    cases cs with
    | nil => simp [grow, Fo.pre]
    | cons c r =>
      obtain ⟨h1, h2⟩ := h c List.mem_cons_self
      have := rk_len A h1
      omega
  | n + 1, [], h, x => by simp [grow_nil, Fo.pre]
  | n + 1, c :: cs, h, x => by
    obtain ⟨h1, h2⟩ := h c List.mem_cons_self
    have kd := kids_deep A h1 h2
    rw [grow_cons]
    unfold Fo.pre
    rw [List.mem_cons, List.mem_append, grow_mem n _ kd, grow_mem (n + 1) cs fun x hx => h x (List.mem_cons_of_mem _ hx)]
    constructor
    · rintro (rfl | ⟨x1, k, hk, q⟩ | ⟨x1, d, hd, q⟩)
      · exact ⟨h1, x, List.mem_cons_self, .inl rfl⟩
      · obtain ⟨k1, k2⟩ := (mem_kids A).mp hk
        obtain ⟨_, a, _, _⟩ := par_some A k1 k2
        refine ⟨x1, c, List.mem_cons_self, .inr ?_⟩
        rcases q with rfl | q
        · exact a
        · exact A.tr c k x h1 k1 x1 a q
      · exact ⟨x1, d, List.mem_cons_of_mem _ hd, q⟩
    · rintro ⟨x1, d, hd, q⟩
      rcases List.mem_cons.mp hd with rfl | hd
      · rcases q with rfl | q
        · exact .inl rfl
        · refine .inr (.inl ⟨x1, ?_⟩)
          -- the child of d on the way to x
          have : ∀ (m : Nat) (x : α), rk cols ab x ≤ m → x ∈ cols → ab d x = true → ∃ k, k ∈ kids cols ab d ∧ (x = k ∨ ab k x = true) := by
            intro m
            induction m with
            | zero =>
              intro x hm hx hq
              have := rk_lt A h1 hx hq
              omega
            | succ m ih =>
              intro x hm hx hq
              cases z : par cols ab x with
              | none =>
                have := par_none A hx z
                have m2 : d ∈ up cols ab x := (mem_up A).mpr ⟨h1, hq⟩
                rw [this] at m2; cases m2
              | some p =>
                obtain ⟨p1, p2, p3, p4⟩ := par_some A hx z
                have m2 : d ∈ up cols ab x := (mem_up A).mpr ⟨h1, hq⟩
                rcases List.mem_cons.mp (p3.mem_iff.mp m2) with rfl | m3
                · exact ⟨x, (mem_kids A).mpr ⟨hx, z⟩, .inl rfl⟩
                · obtain ⟨k, k1, k2⟩ := ih p (by omega) p1 ((mem_up A).mp m3).2
                  refine ⟨k, k1, .inr ?_⟩
                  rcases k2 with rfl | k2
                  · exact p2
                  · exact A.tr k p x ((mem_kids A).mp k1).1 p1 hx k2 p2
          exact this _ x (Nat.le_refl _) x1 q
      · exact .inr (.inr ⟨x1, d, hd, q⟩)
/-- of equal rank, unlike: nothing is below both -/
theorem apart_rk {c d x : α} (hc : c ∈ cols) (hd : d ∈ cols) (hx : x ∈ cols) (e : rk cols ab c = rk cols ab d) (n : c ≠ d) (h1 : x = c ∨ ab c x = true) (h2 : x = d ∨ ab d x = true) : False := by
  rcases h1 with rfl | h1
  · rcases h2 with rfl | h2
    · exact n rfl
    · have := rk_lt A hd hx h2; omega
  · rcases h2 with rfl | h2
    · have := rk_lt A hc hx h1; omega
    · exact n (rk_inj A hx ((mem_up A).mpr ⟨hc, h1⟩) ((mem_up A).mpr ⟨hd, h2⟩) e)
theorem grow_nd : ∀ (n : Nat) (cs : List α), cs.Nodup → (∀ c, c ∈ cs → ∀ d, d ∈ cs → rk cols ab c = rk cols ab d) → (∀ c, c ∈ cs → c ∈ cols ∧ cols.length ≤ rk cols ab c + n) → (grow (kids cols ab) n cs).pre.Nodup
  | 0, cs, _, _, h => List.nodup_nil
  | n + 1, [], _, _, h => List.nodup_nil
  | n + 1, c :: cs, nd, eq, h => by
    obtain ⟨h1, h2⟩ := h c List.mem_cons_self
    have kd := kids_deep A h1 h2
    obtain ⟨n1, n2⟩ := List.nodup_cons.mp nd
    have hr : ∀ x, x ∈ cs → x ∈ cols ∧ cols.length ≤ rk cols ab x + (n + 1) := fun x hx => h x (List.mem_cons_of_mem _ hx)
    have below : ∀ x, x ∈ (grow (kids cols ab) n (kids cols ab c)).pre → x ∈ cols ∧ ab c x = true := fun x hx => by
      obtain ⟨x1, k, hk, q⟩ := (grow_mem A n _ kd x).mp hx
      obtain ⟨k1, k2⟩ := (mem_kids A).mp hk
      obtain ⟨_, a, _, _⟩ := par_some A k1 k2
      refine ⟨x1, ?_⟩
      rcases q with rfl | q
      · exact a
      · exact A.tr c k x h1 k1 x1 a q
    rw [grow_cons]
    unfold Fo.pre
    rw [List.nodup_cons, List.mem_append, List.nodup_append]
    refine ⟨?_, ?_, ?_, ?_⟩
    · rintro (z | z)
      · have := (below c z).2
        rw [A.irr c h1] at this; cases this
      · obtain ⟨_, d, hd, q⟩ := (grow_mem A (n + 1) cs hr c).mp z
        have e := eq c List.mem_cons_self d (List.mem_cons_of_mem _ hd)
        exact apart_rk A h1 (hr d hd).1 h1 e (fun z => n1 (z ▸ hd)) (.inl rfl) q
    · refine grow_nd n _ (A.nd.filter _) (fun x hx y hy => ?_) kd
      obtain ⟨x1, x2⟩ := (mem_kids A).mp hx
      obtain ⟨y1, y2⟩ := (mem_kids A).mp hy
      obtain ⟨_, _, _, e1⟩ := par_some A x1 x2
      obtain ⟨_, _, _, e2⟩ := par_some A y1 y2
      omega
    · exact grow_nd (n + 1) cs n2 (fun x hx y hy => eq x (List.mem_cons_of_mem _ hx) y (List.mem_cons_of_mem _ hy)) hr
    · intro x hx y hy z
      subst z
      obtain ⟨x1, x2⟩ := below x hx
      obtain ⟨_, d, hd, q⟩ := (grow_mem A (n + 1) cs hr x).mp hy
      exact apart_rk A h1 (hr d hd).1 x1 (eq c List.mem_cons_self d (List.mem_cons_of_mem _ hd)) (fun z => n1 (z ▸ hd)) (.inr x2) q
theorem rk_root {c : α} (h : c ∈ roots cols ab) : rk cols ab c = 0 := by
  obtain ⟨h1, h2⟩ := (mem_roots A).mp h
  unfold rk; rw [par_none A h1 h2]; rfl
/-- the forest -/
theorem forest : ∃ F : Fo α, F.heads = roots cols ab ∧ F.Fits (kids cols ab) ∧ F.pre.Perm cols ∧ F.depth ≤ cols.length := by
  have hr : ∀ c, c ∈ roots cols ab → c ∈ cols ∧ cols.length ≤ rk cols ab c + cols.length := fun c hc => ⟨((mem_roots A).mp hc).1, Nat.le_add_left _ _⟩
  refine ⟨grow (kids cols ab) cols.length (roots cols ab), grow_heads A hr, grow_fits A _ _ hr, perm_of_nodup (grow_nd A _ _ (A.nd.filter _) (fun c hc d hd => by rw [rk_root A hc, rk_root A hd]) hr) A.nd fun x => ?_, grow_depth _ _ _⟩
  rw [grow_mem A _ _ hr]
  refine ⟨fun h => h.1, fun hx => ⟨hx, ?_⟩⟩
  have : ∀ (m : Nat) (x : α), rk cols ab x ≤ m → x ∈ cols → ∃ c, c ∈ roots cols ab ∧ (x = c ∨ ab c x = true) := by
    intro m
    induction m with
    | zero =>
      intro x hm hx
      exact ⟨x, (mem_roots A).mpr ⟨hx, par_none_of A (List.eq_nil_of_length_eq_zero (Nat.le_zero.mp hm))⟩, .inl rfl⟩
    | succ m ih =>
      intro x hm hx
      cases z : par cols ab x with
      | none => exact ⟨x, (mem_roots A).mpr ⟨hx, z⟩, .inl rfl⟩
      | some p =>
        obtain ⟨p1, p2, p3, p4⟩ := par_some A hx z
        obtain ⟨c, c1, c2⟩ := ih p (by omega) p1
        refine ⟨c, c1, .inr ?_⟩
        rcases c2 with rfl | c2
        · exact p2
        · exact A.tr c p x ((mem_roots A).mp c1).1 p1 hx c2 p2
  exact this _ x (Nat.le_refl _) hx
end
end Fo
end

section
set_option Elab.async false
set_option linter.all false
set_option maxRecDepth 100000
/-! N2: what stands in the heap for data; how a piece of syntax keeps it. -/
namespace Net
open PySem PySem.Spec PyProof.Rows L2

/-- the tables of code objects that may grow, each with the name that stands in it -/
class TabL where
  T : List (Addr × Str)
variable [TabL]
/-- no such table -/
def NoTb (o : HO) : Prop := ∀ ps, o ≠ .tbl ps
theorem noLst {vs : List V} : NoTb (.lst vs) := fun _ z => by cases z
theorem noDK {vs : List (Key × V)} : NoTb (.dK vs) := fun _ z => by cases z
theorem noFrz {o : Obj} {u : HO} : NoTb (.frz o u) := fun _ z => by cases z
/-- a list, a dict -/
def Boxy (o : HO) : Prop := (∃ vs, o = .lst vs) ∨ ∃ ws, o = .dK ws
theorem boxL {vs : List V} : Boxy (.lst vs) := .inl ⟨vs, rfl⟩
theorem boxD {ws : List (Key × V)} : Boxy (.dK ws) := .inr ⟨ws, rfl⟩
theorem Boxy.nt {o : HO} (b : Boxy o) : NoTb o := by
  rcases b with ⟨_, rfl⟩ | ⟨_, rfl⟩
  · exact noLst
  · exact noDK
theorem Boxy.nc {o : HO} (b : Boxy o) {c : Addr} {q : Str} : o ≠ LamX.CodeO c q := by
  unfold LamX.CodeO
  rcases b with ⟨_, rfl⟩ | ⟨_, rfl⟩
  · exact fun z => by cases z
  · exact fun z => by cases z

/-! ### data in the heap. io: the addresses of what may change; R: addresses that nothing leans on -/
/-- a tuple, told with its record: it has no dict of its own -/
def TupAt (H : Hp) (a : Addr) (vs : List V) : Prop := ∃ o, H a = some (.frz o (.tup vs)) ∧ o.dict = none
section
variable (K : PySem.W.Frag) (io R : List Addr) (H : Hp)
mutual
inductive Rp : D → V → Prop
  | non : Rp .non .non
  | bl {b} : Rp (.bl b) (.bl b)
  | int {i} : Rp (.int i) (.int i)
  | str {x} : Rp (.str x) (.str x)
  | tup {a ds vs} : a ∉ io → a ∉ R → TupAt H a vs → RpL ds vs → Rp (.tup ds) (.ref a)
  | lst {a ds vs} : a ∉ io → a ∉ R → H a = some (.lst vs) → RpL ds vs → Rp (.lst ds) (.ref a)
  | dic {a kvs ws} : a ∉ io → a ∉ R → H a = some (.dK ws) → RpK kvs ws → Rp (.dic kvs) (.ref a)
  | scr {a ns} : (SqL K (fun _ => none) a (ns.map V.int) ∨ (a ∉ io ∧ a ∉ R ∧ Rd H a (.lst (ns.map V.int)))) → Rp (.scr ns) (.ref a)
  | loc {n a} : io[n]? = some a → Rp (.loc n) (.ref a)
inductive RpL : List D → List V → Prop
  | nil : RpL [] []
  | cons {d v ds vs} : Rp d v → RpL ds vs → RpL (d :: ds) (v :: vs)
inductive RpK : List (Key × D) → List (Key × V) → Prop
  | nil : RpK [] []
  | cons {k d v ds vs} : Rp d v → RpK ds vs → RpK ((k, d) :: ds) ((k, v) :: vs)
end
def CellRp : Cell → Option HO → Prop
  | .lst ds, o => ∃ vs, o = some (.lst vs) ∧ RpL K io R H ds vs
  | .dic kvs, o => ∃ ws, o = some (.dK ws) ∧ RpK K io R H kvs ws
end
def Cell.under (n : Nat) : Cell → Bool
  | .lst ds => D.underL n ds
  | .dic kvs => D.underK n kvs

/-- the store in the heap -/
structure St8 (K : PySem.W.Frag) (io R : List Addr) (Bs : List Nat) (M : Mem) (H : Hp) : Prop where
  len : io.length = M.length
  nd : io.Nodup
  cell : ∀ (n : Nat) (c : Cell) (a : Addr), M[n]? = some c → io[n]? = some a → CellRp K io R H c (H a)
  rs : ∀ a ∈ R, a ∉ io ∧ ∃ o, H a = some o ∧ Boxy o
  bl : ∀ b ∈ Bs, b ≤ M.length
  old : ∀ b ∈ Bs, ∀ (n : Nat) (c : Cell), n < b → M[n]? = some c → c.under b = true
  tabs : LamX.Tabs TabL.T H
structure Ext (io : List Addr) (H : Hp) (io' : List Addr) (H' : Hp) : Prop where
  pre : io <+: io'
  keep : ∀ a o, a ∉ io → NoTb o → H a = some o → H' a = some o
  dom : ∀ a o, a ∉ io → H a = some o → ∃ o', H' a = some o'
  new : ∀ a, a ∈ io' → a ∈ io ∨ H a = none

variable {K : PySem.W.Frag} {io io' io2 R R' : List Addr} {H H' H2 : Hp} {Bs : List Nat} {M M' M2 : Mem}
theorem Ext.refl : Ext io H io H := ⟨List.prefix_rfl, fun _ _ _ _ h => h, fun _ o _ h => ⟨o, h⟩, fun _ h => .inl h⟩
theorem Ext.out (x : Ext io H io' H') {a : Addr} {o : HO} (h : a ∉ io) (e : H a = some o) : a ∉ io' := fun z => by
  rcases x.new a z with z | z
  · exact h z
  · rw [e] at z; cases z
theorem not_head {a p : Addr} {R : List Addr} (h : a ∉ p :: R) : a ≠ p := fun z => h (by rw [z]; exact List.mem_cons_self)
theorem Ext.trans (x : Ext io H io' H') (y : Ext io' H' io2 H2) : Ext io H io2 H2 :=
  ⟨x.pre.trans y.pre, fun a o h n e => y.keep a o (x.out h e) n (x.keep a o h n e), fun a o h e => let ⟨o', e'⟩ := x.dom a o h e; y.dom a o' (x.out h e) e', fun a h => by
    rcases y.new a h with h | h
    · exact x.new a h
    · by_cases z : a ∈ io
      · exact .inl z
      · refine .inr ?_
        cases q : H a with
        | none => rfl
        | some o => obtain ⟨o', e⟩ := x.dom a o z q; rw [e] at h; cases h⟩
/-- frozen things stand -/
theorem Ext.same (h : ∀ a o, H a = some o → H' a = some o) : Ext io H io H' := ⟨List.prefix_rfl, fun a o _ _ e => h a o e, fun a o _ e => ⟨o, h a o e⟩, fun _ h => .inl h⟩
theorem Ext.upd {p : Addr} {o : HO} (h : H p = none) : Ext io H io (upd H p o) := .same fun a u e => by rw [upd_ne (ne_of_none e h)]; exact e
theorem rd_ext (x : Ext io H io' H') {a : Addr} {u : HO} (n : NoTb u) (h : a ∉ io) (e : Rd H a u) : a ∉ io' ∧ Rd H' a u := by
  rcases e with e | ⟨o, e⟩
  · exact ⟨x.out h e, .inl (x.keep _ _ h n e)⟩
  · exact ⟨x.out h e, .inr ⟨o, x.keep _ _ h noFrz e⟩⟩
theorem pre_get (x : io <+: io') {n : Nat} {a : Addr} (h : io[n]? = some a) : io'[n]? = some a := by
  obtain ⟨t, rfl⟩ := x
  rw [List.getElem?_append_left (List.getElem?_eq_some_iff.mp h).1]; exact h
/-- what is leaned on stands -/
structure Tr (io R : List Addr) (H : Hp) (io' R' : List Addr) (H' : Hp) : Prop where
  pre : io <+: io'
  keep : ∀ a o, a ∉ io → a ∉ R → NoTb o → H a = some o → a ∉ io' ∧ a ∉ R' ∧ H' a = some o
theorem Tr.rd (x : Tr io R H io' R' H') {a : Addr} {u : HO} (n : NoTb u) (h : a ∉ io) (h2 : a ∉ R) (e : Rd H a u) : a ∉ io' ∧ a ∉ R' ∧ Rd H' a u := by
  rcases e with e | ⟨o, e⟩
  · obtain ⟨q1, q2, q3⟩ := x.keep _ _ h h2 n e; exact ⟨q1, q2, .inl q3⟩
  · obtain ⟨q1, q2, q3⟩ := x.keep _ _ h h2 noFrz e; exact ⟨q1, q2, .inr ⟨o, q3⟩⟩
theorem Tr.tup (x : Tr io R H io' R' H') {a : Addr} {vs : List V} (h : a ∉ io) (h2 : a ∉ R) (e : TupAt H a vs) : a ∉ io' ∧ a ∉ R' ∧ TupAt H' a vs := by
  obtain ⟨o, e, hd⟩ := e
  obtain ⟨q1, q2, q3⟩ := x.keep _ _ h h2 noFrz e
  exact ⟨q1, q2, o, q3, hd⟩
mutual
theorem Rp.tr (x : Tr io R H io' R' H') : ∀ {d : D} {v : V}, Rp K io R H d v → Rp K io' R' H' d v
  | _, _, .non => .non
  | _, _, .bl => .bl
  | _, _, .int => .int
  | _, _, .str => .str
  | _, _, .tup h1 h2 h3 h4 => let ⟨q1, q2, q3⟩ := x.tup h1 h2 h3; .tup q1 q2 q3 (RpL.tr x h4)
  | _, _, .lst h1 h2 h3 h4 => let ⟨q1, q2, q3⟩ := x.keep _ _ h1 h2 noLst h3; .lst q1 q2 q3 (RpL.tr x h4)
  | _, _, .dic h1 h2 h3 h4 => let ⟨q1, q2, q3⟩ := x.keep _ _ h1 h2 noDK h3; .dic q1 q2 q3 (RpK.tr x h4)
  | _, _, .scr h => .scr (h.imp_right fun ⟨h1, h2, h3⟩ => x.rd noLst h1 h2 h3)
  | _, _, .loc h => .loc (pre_get x.pre h)
theorem RpL.tr (x : Tr io R H io' R' H') : ∀ {ds : List D} {vs : List V}, RpL K io R H ds vs → RpL K io' R' H' ds vs
  | _, _, .nil => .nil
  | _, _, .cons h1 h2 => .cons (Rp.tr x h1) (RpL.tr x h2)
theorem RpK.tr (x : Tr io R H io' R' H') : ∀ {ds : List (Key × D)} {vs : List (Key × V)}, RpK K io R H ds vs → RpK K io' R' H' ds vs
  | _, _, .nil => .nil
  | _, _, .cons h1 h2 => .cons (Rp.tr x h1) (RpK.tr x h2)
end
theorem Ext.tr (x : Ext io H io' H') : Tr io R H io' R H' := ⟨x.pre, fun a o h h2 n e => ⟨x.out h e, h2, x.keep a o h n e⟩⟩
theorem tr_more {p : Addr} (h : H p = none) : Tr io R H io (p :: R) H :=
  ⟨List.prefix_rfl, fun a o h1 h2 _ e => ⟨h1, fun z => (List.mem_cons.mp z).elim (ne_of_none e h) h2, e⟩⟩
/-- the object at p, on which nothing leans, stands still from now on -/
theorem tr_less {p : Addr} {o : HO} : Tr io (p :: R) H io R (upd H p o) :=
  ⟨List.prefix_rfl, fun a u h1 h2 _ e => ⟨h1, fun z => h2 (List.mem_cons_of_mem _ z), by rw [upd_ne (not_head h2)]; exact e⟩⟩
theorem tr_less0 {p : Addr} : Tr io (p :: R) H io R H :=
  ⟨List.prefix_rfl, fun a u h1 h2 _ e => ⟨h1, fun z => h2 (List.mem_cons_of_mem _ z), e⟩⟩
/-- .. may change from now on -/
theorem tr_loc {p : Addr} : Tr io (p :: R) H (io ++ [p]) R H :=
  ⟨List.prefix_append _ _, fun a u h1 h2 _ e => ⟨fun z => (List.mem_append.mp z).elim h1 fun z => h2 (by simp [List.mem_singleton.mp z]), fun z => h2 (List.mem_cons_of_mem _ z), e⟩⟩
theorem CellRp.tr (x : Tr io R H io' R' H') {c : Cell} {o : Option HO} (h : CellRp K io R H c o) : CellRp K io' R' H' c o := by
  cases c with
  | lst ds => obtain ⟨vs, e, h⟩ := h; exact ⟨vs, e, RpL.tr x h⟩
  | dic ds => obtain ⟨vs, e, h⟩ := h; exact ⟨vs, e, RpK.tr x h⟩
/-- the store over a heap that has grown -/
theorem St8.grow (s : St8 K io R Bs M H) (h : ∀ a o, H a = some o → H' a = some o) : St8 K io R Bs M H' := by
  refine ⟨s.len, s.nd, fun n c a e1 e2 => ?_, fun a ha => ⟨(s.rs a ha).1, ?_⟩, s.bl, s.old, s.tabs.ext h⟩
  · have q := (s.cell n c a e1 e2).tr (Ext.tr (Ext.same h))
    have hc : ∃ o, H a = some o := by
      cases c with
      | lst ds => obtain ⟨vs, e, _⟩ := s.cell n _ a e1 e2; exact ⟨_, e⟩
      | dic ds => obtain ⟨vs, e, _⟩ := s.cell n _ a e1 e2; exact ⟨_, e⟩
    obtain ⟨o, ho⟩ := hc
    rw [ho] at q
    rw [h _ _ ho]; exact q
  · obtain ⟨o, e, bx⟩ := (s.rs a ha).2
    exact ⟨o, h _ _ e, bx⟩
theorem St8.upd {p : Addr} {o : HO} (s : St8 K io R Bs M H) (h : H p = none) : St8 K io R Bs M (upd H p o) := s.grow fun a u e => by rw [upd_ne (ne_of_none e h)]; exact e
theorem St8.at_ (s : St8 K io R Bs M H) {n : Nat} {c : Cell} (e : M[n]? = some c) : ∃ a, io[n]? = some a ∧ CellRp K io R H c (H a) := by
  have h : n < io.length := by rw [s.len]; exact (List.getElem?_eq_some_iff.mp e).1
  exact ⟨io[n], List.getElem?_eq_getElem h, s.cell n c _ e (List.getElem?_eq_getElem h)⟩
theorem St8.nope (s : St8 K io R Bs M H) {p : Addr} (h : H p = none) : p ∉ io ∧ p ∉ R := by
  refine ⟨fun z => ?_, fun z => ?_⟩
  · obtain ⟨n, hn, e⟩ := List.getElem_of_mem z
    have hm : n < M.length := by rw [← s.len]; exact hn
    have q := s.cell n M[n] p (List.getElem?_eq_getElem hm) (by rw [List.getElem?_eq_getElem hn, e])
    revert q
    cases M[n] with
    | lst ds => rintro ⟨_, q, _⟩; rw [h] at q; cases q
    | dic ds => rintro ⟨_, q, _⟩; rw [h] at q; cases q
  · obtain ⟨_, o, e, _⟩ := s.rs p z
    rw [h] at e; cases e
/-- an address more that nothing leans on -/
theorem St8.more {p : Addr} {o : HO} (s : St8 K io R Bs M H) (h : H p = none) (bx : Boxy o) : St8 K io (p :: R) Bs M (L2.upd H p o) := by
  have hp := s.nope h
  refine ⟨s.len, s.nd, fun n c a e1 e2 => ?_, fun a ha => ?_, s.bl, s.old, (s.upd (o := o) h).tabs⟩
  · have s' := s.upd (o := o) h
    have q := s.cell n c a e1 e2
    have na : a ≠ p := fun z => hp.1 (z ▸ List.mem_of_getElem? e2)
    rw [upd_ne na]
    exact (q.tr (tr_more h)).tr (Ext.tr (Ext.upd h))
  · rcases List.mem_cons.mp ha with rfl | ha
    · exact ⟨hp.1, o, upd_same, bx⟩
    · have z := (s.upd (o := o) h).rs a ha
      exact z
/-- the heap at an address that nothing leans on -/
theorem tabs_box {T : List (Addr × Str)} {p : Addr} {o u : HO} (t : LamX.Tabs T H) (e : H p = some u) (bx : Boxy u) : LamX.Tabs T (L2.upd H p o) := fun z hz => by
  obtain ⟨ps, h1, h2, h3⟩ := t z hz
  have ne : z.1 ≠ p := fun w => by rw [w, e] at h1; exact bx.nt _ (Option.some.inj h1)
  refine ⟨ps, by rw [upd_ne ne]; exact h1, h2, fun pos cv hc => ?_⟩
  obtain ⟨c, e1, e2⟩ := h3 pos cv hc
  have ne2 : c ≠ p := fun w => by rw [w, e] at e2; exact bx.nc (Option.some.inj e2)
  exact ⟨c, e1, by rw [upd_ne ne2]; exact e2⟩
theorem St8.free {p : Addr} {o : HO} (bx : Boxy o) (s : St8 K io (p :: R) Bs M H) : St8 K io (p :: R) Bs M (L2.upd H p o) := by
  have hp := (s.rs p List.mem_cons_self).1
  refine ⟨s.len, s.nd, fun n c a e1 e2 => ?_, fun a ha => ⟨(s.rs a ha).1, ?_⟩, s.bl, s.old, let ⟨_, e, b⟩ := (s.rs p List.mem_cons_self).2; tabs_box s.tabs e b⟩
  · have na : a ≠ p := fun z => hp (z ▸ List.mem_of_getElem? e2)
    rw [upd_ne na]
    refine (s.cell n c a e1 e2).tr ⟨List.prefix_rfl, fun b u h1 h2 _ e => ⟨h1, h2, ?_⟩⟩
    rw [upd_ne (not_head h2)]; exact e
  · by_cases z : a = p
    · subst z; exact ⟨_, upd_same, bx⟩
    · rw [upd_ne z]; exact (s.rs a ha).2
/-- it stands still from now on -/
theorem St8.less {p : Addr} (s : St8 K io (p :: R) Bs M H) : St8 K io R Bs M H :=
  ⟨s.len, s.nd, fun n c a e1 e2 => (s.cell n c a e1 e2).tr tr_less0, fun a ha => s.rs a (List.mem_cons_of_mem _ ha), s.bl, s.old, s.tabs⟩
/-- it may change from now on -/
theorem St8.loc {p : Addr} {c : Cell} (s : St8 K io (p :: R) Bs M H) (hR : p ∉ R) (hc : CellRp K io (p :: R) H c (H p)) : St8 K (io ++ [p]) R Bs (M ++ [c]) H := by
  have hp := (s.rs p List.mem_cons_self).1
  refine ⟨by simp [s.len], ?_, fun n c' a e1 e2 => ?_, fun a ha => ?_, fun b hb => Nat.le_trans (s.bl b hb) (by simp), fun b hb n c' hn e => ?_, s.tabs⟩
  · rw [List.nodup_append]
    refine ⟨s.nd, by simp, fun a ha b hb => ?_⟩
    rw [List.mem_singleton.mp hb]
    exact fun z => hp (z ▸ ha)
  · by_cases h : n < M.length
    · rw [List.getElem?_append_left h] at e1
      rw [List.getElem?_append_left (by rw [s.len]; exact h)] at e2
      exact (s.cell n c' a e1 e2).tr tr_loc
    · have hl := s.len
      rw [List.getElem?_append_right (by omega)] at e1 e2
      rw [s.len] at e2
      cases q : n - M.length with
      | zero =>
        rw [q] at e1 e2
        cases e1; cases e2
        exact hc.tr tr_loc
      | succ k => rw [q] at e1; cases e1
  · obtain ⟨h1, h2⟩ := s.rs a (List.mem_cons_of_mem _ ha)
    refine ⟨fun z => (List.mem_append.mp z).elim h1 fun z => ?_, h2⟩
    rw [List.mem_singleton.mp z] at ha
    exact hR ha
  · rw [List.getElem?_append_left (Nat.lt_of_lt_of_le hn (s.bl b hb))] at e
    exact s.old b hb n c' hn e
end Net
end

section
set_option Elab.async false
set_option linter.all false
set_option maxRecDepth 100000
/-! N3: the readings of the small language. -/
namespace Net
open PySem PySem.Spec PyProof.Rows L2
variable [TabL]

structure Ct where
  K : PySem.W.Frag
  F : Nat → List D → Mem → Rs D
  fu : Nat
  cl : Nat → Option Value
  W : WX
abbrev Wish := Value → Option Addr → Hp → Prop
def XRp (cl : Nat → Option Value) (k : Nat) (fs : List (Str × D)) (cls : Value) (dx : Option Addr) : Prop := cl k = some cls ∧ dx = none ∧ fs = []

section
variable (cl : Nat → Option Value) (K : PySem.W.Frag) (R : List Addr) (Bs : List Nat)
/-- what is wanted behind something that gives an a, which the program has as a b -/
def Post {α β : Type} (io : List Addr) (H : Hp) (rp : List Addr → Mem → Hp → α → β → Prop) (Wx : Wish) (Q : β → Hp → Prop) : Rs α → Prop
  | .ok a M => ∀ io' H' b, Ext io H io' H' → rp io' M H' a b → Q b H'
  | .exc k fs M => ∀ io' H' cls dx, Ext io H io' H' → St8 K io' R Bs M H' → XRp cl k fs cls dx → Wx cls dx H'
  | .bad => False
def rpE (io : List Addr) (M : Mem) (H : Hp) (d : D) (v : V) : Prop := St8 K io R Bs M H ∧ Rp K io R H d v
def rpA (io : List Addr) (M : Mem) (H : Hp) (ds : List D) (vs : List V) : Prop := St8 K io R Bs M H ∧ RpL K io R H ds vs
def rpB (io : List Addr) (M : Mem) (H : Hp) (d : D) (b : Bool) : Prop := St8 K io R Bs M H ∧ d = .bl b
/-- a new object -/
def rpC (H0 : Hp) (io : List Addr) (M : Mem) (H : Hp) (c : Cell) (v : V) : Prop := ∃ p, v = .ref p ∧ H0 p = none ∧ p ∉ R ∧ St8 K io (p :: R) Bs M H ∧ CellRp K io (p :: R) H c (H p)
end
section
variable {cl : Nat → Option Value} {K : PySem.W.Frag} {R : List Addr} {Bs : List Nat} {α β γ δ : Type} {io io1 : List Addr} {H H1 : Hp} {Wx : Wish}
theorem Post.ext {rp : List Addr → Mem → Hp → α → β → Prop} {Q : β → Hp → Prop} {r : Rs α} (h : Post cl K R Bs io H rp Wx Q r) (x : Ext io H io1 H1) : Post cl K R Bs io1 H1 rp Wx Q r := by
  cases r with
  | ok a M => exact fun io' H' b y q => h io' H' b (x.trans y) q
  | exc k fs M => exact fun io' H' cls dx y q => h io' H' cls dx (x.trans y) q
  | bad => exact h
theorem Post.imp {rp : List Addr → Mem → Hp → α → β → Prop} {Q Q' : β → Hp → Prop} {r : Rs α} (h : Post cl K R Bs io H rp Wx Q r) (q : ∀ b H', Q b H' → Q' b H') : Post cl K R Bs io H rp Wx Q' r := by
  cases r with
  | ok a M => exact fun io' H' b y z => q _ _ (h io' H' b y z)
  | exc k fs M => exact h
  | bad => exact h
theorem Post.bind {rp : List Addr → Mem → Hp → α → β → Prop} {rp2 : List Addr → Mem → Hp → γ → δ → Prop} {Q : δ → Hp → Prop} {r : Rs α} {f : α → Mem → Rs γ} (h : Post cl K R Bs io H rp2 Wx Q (r.bind f)) :
    Post cl K R Bs io H rp Wx (fun b H1 => ∃ io1 M1 a, Ext io H io1 H1 ∧ rp io1 M1 H1 a b ∧ Post cl K R Bs io1 H1 rp2 Wx Q (f a M1)) r := by
  cases r with
  | ok a M => exact fun io' H' b y z => ⟨io', M, a, y, z, Post.ext h y⟩
  | exc k fs M => exact h
  | bad => exact h
/-- an answer that is there -/
theorem Post.of {rp : List Addr → Mem → Hp → α → β → Prop} {Q : β → Hp → Prop} {o : Option α} {M : Mem} (h : Post cl K R Bs io H rp Wx Q (Rs.of M o)) : ∃ a, o = some a ∧ ∀ io' H' b, Ext io H io' H' → rp io' M H' a b → Q b H' := by
  cases o with
  | some a => exact ⟨a, rfl, h⟩
  | none => exact h.elim
end

/-- the frame's values -/
def FrRp (K : PySem.W.Frag) (io R : List Addr) (H : Hp) (ρ : Fr) (σ : L2.St) : Prop := ρ.length = σ.length ∧ ∀ (i : Nat) (d : D), ρ[i]? = some (some d) → ∃ v, σ[i]? = some (some v) ∧ Rp K io R H d v
structure At (K : PySem.W.Frag) (io R : List Addr) (Bs : List Nat) (base : Nat) (ρ : Fr) (M : Mem) (σ : L2.St) (H : Hp) : Prop where
  st : St8 K io R Bs M H
  fr : FrRp K io R H ρ σ
  bs : ∀ b ∈ Bs, b ≤ base
section
variable {K : PySem.W.Frag} {io io' R R' : List Addr} {Bs : List Nat} {base : Nat} {ρ : Fr} {M M' : Mem} {σ : L2.St} {H H' : Hp}
theorem FrRp.tr (x : Tr io R H io' R' H') (f : FrRp K io R H ρ σ) : FrRp K io' R' H' ρ σ := ⟨f.1, fun i d e => let ⟨v, e', r⟩ := f.2 i d e; ⟨v, e', r.tr x⟩⟩
theorem At.to (a : At K io R Bs base ρ M σ H) (x : Ext io H io' H') (s : St8 K io' R Bs M' H') : At K io' R Bs base ρ M' σ H' := ⟨s, a.fr.tr x.tr, a.bs⟩
theorem FrRp.set {i : Nat} {d : D} {v : V} (f : FrRp K io R H ρ σ) (r : Rp K io R H d v) : FrRp K io R H (ρ.set i (some d)) (σ.set i (some v)) := by
  refine ⟨by simp [f.1], fun j e q => ?_⟩
  by_cases hj : i = j
  · subst hj
    have hl : i < ρ.length := by
      have := (List.getElem?_eq_some_iff.mp q).1
      simpa using this
    rw [List.getElem?_set_self hl] at q
    cases q
    exact ⟨v, by rw [List.getElem?_set_self (by rw [← f.1]; exact hl)], r⟩
  · rw [List.getElem?_set_ne hj] at q ⊢
    exact f.2 j e q
theorem FrRp.drop {i : Nat} (f : FrRp K io R H ρ σ) : FrRp K io R H (ρ.set i none) (σ.set i none) := by
  refine ⟨by simp [f.1], fun j e q => ?_⟩
  by_cases hj : i = j
  · subst hj
    by_cases hl : i < ρ.length
    · rw [List.getElem?_set_self hl] at q; cases q
    · rw [List.getElem?_eq_none (by simpa using hl)] at q; cases q
  · rw [List.getElem?_set_ne hj] at q ⊢
    exact f.2 j e q
theorem FrRp.wipe (f : FrRp K io R H ρ σ) : ∀ vs : List Nat, FrRp K io R H (wipeD ρ vs) (wipe σ vs)
  | [] => f
  | v :: vs => (FrRp.wipe f vs).drop
end

section
variable (c : Ct)
def tE (e : E) : TE := fun σ H Q => ∃ base io R Bs ρ M, At c.K io R Bs base ρ M σ H ∧ Post c.cl c.K R Bs io H (rpE c.K R Bs) (fun k dx H => c.W k dx σ H) Q (ev c.F base e ρ M)
def tT (e : E) : TT := fun σ H Q => ∃ base io R Bs ρ M, At c.K io R Bs base ρ M σ H ∧ Post c.cl c.K R Bs io H (rpE c.K R Bs) (fun k dx H => c.W k dx σ H) (fun v H => ∃ b, v = .bl b ∧ Q b H) (ev c.F base e ρ M)
def tA (es : Es) : TA := fun σ H Q => ∃ base io R Bs ρ M, At c.K io R Bs base ρ M σ H ∧ Post c.cl c.K R Bs io H (rpA c.K R Bs) (fun k dx H => c.W k dx σ H) Q (evs c.F base es ρ M)
def tCe (e : C) : TE := fun σ H Q => ∃ base io R Bs ρ M, At c.K io R Bs base ρ M σ H ∧ Post c.cl c.K R Bs io H (rpC c.K R Bs H) (fun k dx H => c.W k dx σ H) Q (evC c.F base e ρ M)
/-- what walks: each turn gives the next of ds, as long as what is walked over stands still -/
def Walks (K : PySem.W.Frag) (R : List Addr) (Bs : List Nat) (J : It) (io : List Addr) (M : Mem) (H : Hp) (ds : List D) (g : List Nat) : Prop :=
  ds.length ≤ sizeLine ∧ ∀ io2 M2 H2 R2, Tr io R H io2 R2 H2 → St8 K io2 R2 Bs M2 H2 → Still g M M2 →
    J.stop ds.length H2 ∧ ∀ (i : Nat) (d : D), ds[i]? = some d → J.go i H2 ∧ ∀ x H3, J.yld i H2 x H3 → (∀ a o, H2 a = some o → H3 a = some o) ∧ Rp K io2 R2 H3 d x
def rpI (K : PySem.W.Frag) (R : List Addr) (Bs : List Nat) (io : List Addr) (M : Mem) (H : Hp) (z : List D × List Nat) (J : It) : Prop := St8 K io R Bs M H ∧ Walks K R Bs J io M H z.1 z.2
def tI (i : I) : TI := fun σ H Q => ∃ base io R Bs ρ M, At c.K io R Bs base ρ M σ H ∧ Post c.cl c.K R Bs io H (rpI c.K R Bs) (fun k dx H => c.W k dx σ H) Q (evI c.F base i ρ M)
def PostS (R : List Addr) (Bs : List Nat) (base : Nat) (io : List Addr) (H : Hp) (D : Ends) : Rt → Prop
  | .next ρ M => ∀ io' σ' H', Ext io H io' H' → At c.K io' R Bs base ρ M σ' H' → D.nx σ' H'
  | .brk ρ M => ∀ io' σ' H', Ext io H io' H' → At c.K io' R Bs base ρ M σ' H' → D.bk σ' H'
  | .cont ρ M => ∀ io' σ' H', Ext io H io' H' → At c.K io' R Bs base ρ M σ' H' → D.ct σ' H'
  | .ret d M => ∀ io' H' v, Ext io H io' H' → St8 c.K io' R Bs M H' → Rp c.K io' R H' d v → D.rt v H'
  | .exc k fs ρ M => ∀ io' σ' H' cls dx, Ext io H io' H' → At c.K io' R Bs base ρ M σ' H' → XRp c.cl k fs cls dx → c.W cls dx σ' H'
  | .bad => False
def tS (s : S) : TS := fun D σ H => ∃ base io R Bs ρ M, At c.K io R Bs base ρ M σ H ∧ PostS c R Bs base io H D (ex c.F base c.fu s ρ M)
def tSs (s : Ss) : TS := fun D σ H => ∃ base io R Bs ρ M, At c.K io R Bs base ρ M σ H ∧ PostS c R Bs base io H D (exs c.F base c.fu s ρ M)
end
theorem PostS.ext {c : Ct} {R : List Addr} {Bs : List Nat} {base : Nat} {io io1 : List Addr} {H H1 : Hp} {D : Ends} {r : Rt} (h : PostS c R Bs base io H D r) (x : Ext io H io1 H1) : PostS c R Bs base io1 H1 D r := by
  cases r with
  | next ρ M => exact fun io' σ' H' y q => h io' σ' H' (x.trans y) q
  | brk ρ M => exact fun io' σ' H' y q => h io' σ' H' (x.trans y) q
  | cont ρ M => exact fun io' σ' H' y q => h io' σ' H' (x.trans y) q
  | ret d M => exact fun io' H' v y q => h io' H' v (x.trans y) q
  | exc k fs ρ M => exact fun io' σ' H' cls dx y q => h io' σ' H' cls dx (x.trans y) q
  | bad => exact h

theorem PE_imp {X : Cx} {e : Expr} {t t' : TE} (h : PE X e t) (q : ∀ σ H Q, t' σ H Q → t σ H Q) : PE X e t' := ⟨fun pins s σ H Q I z => h.run pins s σ H Q I (q σ H Q z)⟩
theorem PT_imp {X : Cx} {e : Expr} {t t' : TT} (h : PT X e t) (q : ∀ σ H Q, t' σ H Q → t σ H Q) : PT X e t' := ⟨fun pins s σ H Q I z => h.run pins s σ H Q I (q σ H Q z)⟩
theorem PA_imp {X : Cx} {e : List Expr} {t t' : TA} (h : PA X e t) (q : ∀ σ H Q, t' σ H Q → t σ H Q) : PA X e t' := ⟨fun pos pins s σ H Q I z => h.run pos pins s σ H Q I (q σ H Q z)⟩
theorem PI_imp {X : Cx} {tg e : Expr} {t t' : TI} (h : PI X tg e t) (q : ∀ σ H Q, t' σ H Q → t σ H Q) : PI X tg e t' := ⟨fun pins s σ H Q I z => h.run pins s σ H Q I (q σ H Q z)⟩
theorem PS_imp {X : Cx} {e : Stmt} {t t' : TS} (h : PS X e t) (q : ∀ σ H Q, t' σ H Q → t σ H Q) : PS X e t' := ⟨fun pins s σ H Q I z => h.run pins s σ H Q I (q Q σ H z)⟩
theorem PSs_imp {X : Cx} {e : List Stmt} {t t' : TS} (h : PSs X e t) (q : ∀ σ H Q, t' σ H Q → t σ H Q) : PSs X e t' := ⟨fun pins s σ H Q I z => h.run pins s σ H Q I (q Q σ H z)⟩
end Net
end

section
set_option Elab.async false
set_option linter.all false
set_option maxRecDepth 100000
/-! N4: expressions keep the plain meaning. -/
namespace Net
open PySem PySem.Spec PyProof.Rows L2
variable [TabL]

structure COk (c : Ct) (X : Cx) : Prop where
  K : X.K = c.K
  nd : X.N.Nodup
  calm : X.calm = true
  tk : Takes X c.W
  ps : PassesOwn (model X.prog X.w) X.A X.env X.xe
  un : X.A.units + 200 < cLine
  gd : X.A.guards = some []

section
variable {c : Ct} {base : Nat} {io R : List Addr} {Bs : List Nat} {ρ : Fr} {M : Mem} {σ : L2.St} {H : Hp} {γ δ : Type} {rp2 : List Addr → Mem → Hp → γ → δ → Prop} {Q : δ → Hp → Prop}

theorem tE_bind {e : E} {f : D → Mem → Rs γ} (a : At c.K io R Bs base ρ M σ H) (h : Post c.cl c.K R Bs io H rp2 (fun k dx H => c.W k dx σ H) Q ((ev c.F base e ρ M).bind f)) {Q' : VK}
    (q : ∀ v H1 io1 M1 d, Ext io H io1 H1 → At c.K io1 R Bs base ρ M1 σ H1 → Rp c.K io1 R H1 d v → Post c.cl c.K R Bs io1 H1 rp2 (fun k dx H => c.W k dx σ H) Q (f d M1) → Q' v H1) : tE c e σ H Q' :=
  ⟨base, io, R, Bs, ρ, M, a, Post.imp (Post.bind (rp := rpE c.K R Bs) h) fun v H1 ⟨io1, M1, d, x, ⟨s, r⟩, p⟩ => q v H1 io1 M1 d x (a.to x s) r p⟩
theorem tT_bind {e : E} {f : D → Mem → Rs γ} (a : At c.K io R Bs base ρ M σ H) (h : Post c.cl c.K R Bs io H rp2 (fun k dx H => c.W k dx σ H) Q ((ev c.F base e ρ M).bind f)) {Q' : Bool → Hp → Prop}
    (nb : ∀ d M, (∀ b, d ≠ .bl b) → f d M = .bad)
    (q : ∀ b H1 io1 M1, Ext io H io1 H1 → At c.K io1 R Bs base ρ M1 σ H1 → Post c.cl c.K R Bs io1 H1 rp2 (fun k dx H => c.W k dx σ H) Q (f (.bl b) M1) → Q' b H1) : tT c e σ H Q' :=
  ⟨base, io, R, Bs, ρ, M, a, Post.imp (Post.bind (rp := rpE c.K R Bs) h) fun v H1 ⟨io1, M1, d, x, ⟨s, r⟩, p⟩ => by
    cases d with
    | bl b => cases r; exact ⟨b, rfl, q b H1 io1 M1 x (a.to x s) p⟩
    | _ => rw [nb _ _ (by intro b z; cases z)] at p; exact p.elim⟩
theorem tA_bind {e : Es} {f : List D → Mem → Rs γ} (a : At c.K io R Bs base ρ M σ H) (h : Post c.cl c.K R Bs io H rp2 (fun k dx H => c.W k dx σ H) Q ((evs c.F base e ρ M).bind f)) {Q' : List V → Hp → Prop}
    (q : ∀ v H1 io1 M1 d, Ext io H io1 H1 → At c.K io1 R Bs base ρ M1 σ H1 → RpL c.K io1 R H1 d v → Post c.cl c.K R Bs io1 H1 rp2 (fun k dx H => c.W k dx σ H) Q (f d M1) → Q' v H1) : tA c e σ H Q' :=
  ⟨base, io, R, Bs, ρ, M, a, Post.imp (Post.bind (rp := rpA c.K R Bs) h) fun v H1 ⟨io1, M1, d, x, ⟨s, r⟩, p⟩ => q v H1 io1 M1 d x (a.to x s) r p⟩
theorem tC_bind {e : C} {f : Cell → Mem → Rs γ} (a : At c.K io R Bs base ρ M σ H) (h : Post c.cl c.K R Bs io H rp2 (fun k dx H => c.W k dx σ H) Q ((evC c.F base e ρ M).bind f)) {Q' : VK}
    (q : ∀ p H1 io1 M1 d, Ext io H io1 H1 → H p = none → p ∉ R → St8 c.K io1 (p :: R) Bs M1 H1 → CellRp c.K io1 (p :: R) H1 d (H1 p) → Post c.cl c.K R Bs io1 H1 rp2 (fun k dx H => c.W k dx σ H) Q (f d M1) → Q' (.ref p) H1) : tCe c e σ H Q' :=
  ⟨base, io, R, Bs, ρ, M, a, Post.imp (Post.bind (rp := rpC c.K R Bs H) h) fun v H1 ⟨io1, M1, d, x, ⟨p, e1, e2, e3, e4, e5⟩, z⟩ => by
    subst e1; exact q p H1 io1 M1 d x e2 e3 e4 e5 z⟩
/-- the end: what is wanted of the answer -/
theorem Post.fin {α β : Type} {cl : Nat → Option Value} {K : PySem.W.Frag} {rp : List Addr → Mem → Hp → α → β → Prop} {Wx : Wish} {Q : β → Hp → Prop} {x : α} {M : Mem} (h : Post cl K R Bs io H rp Wx Q (.ok x M)) {b : β} (r : rp io M H x b) : Q b H := h io H b .refl r
/-- .. a new object is made at the end -/
theorem Post.fin2 {α β : Type} {cl : Nat → Option Value} {K : PySem.W.Frag} {rp : List Addr → Mem → Hp → α → β → Prop} {Wx : Wish} {Q : β → Hp → Prop} {x : α} {M : Mem} (h : Post cl K R Bs io H rp Wx Q (.ok x M)) {p : Addr} {o : HO} (np : H p = none) {b : β} (r : rp io M (upd H p o) x b) : Q b (upd H p o) := h io _ b (.upd np) r
end

section
variable {c : Ct} {X : Cx} {a b e : Expr} {ea eb ee : E} {pos : Pos}

theorem se_var {i : Nat} {x : Str} (hN : X.N[i]? = some x) (hv : Vis X.env.scope x) (hd : (x == ("__debug__" : Str)) = false) (hcd : (x == ("__classdict__" : Str)) = false) : PE X (.Name x pos) (tE c (.var i)) :=
  PE_imp (pe_var hN hv hd hcd) fun σ H Q ⟨base, io, R, Bs, ρ, M, a, h⟩ => by
    unfold ev at h
    split at h
    · rename_i d e
      obtain ⟨v, e', r⟩ := a.fr.2 i d e
      exact ⟨v, e', h.fin ⟨a.st, r⟩⟩
    · exact h.elim
theorem se_non {j : Nat} : PE X (.Constant .none j pos) (tE c .non) := PE_imp pe_non fun σ H Q ⟨base, io, R, Bs, ρ, M, a, h⟩ => by
  unfold ev at h; exact h.fin ⟨a.st, .non⟩
theorem se_bl {j : Nat} {k : Bool} : PE X (.Constant (.bool k) j pos) (tE c (.bl k)) := PE_imp pe_bl fun σ H Q ⟨base, io, R, Bs, ρ, M, a, h⟩ => by
  unfold ev at h; exact h.fin ⟨a.st, .bl⟩
theorem se_int {j : Nat} {k : Int} : PE X (.Constant (.int k) j pos) (tE c (.int k)) := PE_imp pe_int fun σ H Q ⟨base, io, R, Bs, ρ, M, a, h⟩ => by
  unfold ev at h; exact h.fin ⟨a.st, .int⟩
theorem se_str {j : Nat} {k : Str} : PE X (.Constant (.str k) j pos) (tE c (.str k)) := PE_imp pe_str fun σ H Q ⟨base, io, R, Bs, ρ, M, a, h⟩ => by
  unfold ev at h; exact h.fin ⟨a.st, .str⟩

/-! ### argument lists -/
theorem sa_nil : PA X [] (tA c .nil) := PA_imp pa_nil fun σ H Q ⟨base, io, R, Bs, ρ, M, a, h⟩ => by
  unfold evs at h; exact h.fin ⟨a.st, .nil⟩
theorem sa_cons {es : List Expr} {ees : Es} (ha : PE X e (tE c ee)) (hr : PA X es (tA c ees)) (hs : starEach (e :: es) X.env = (false, eval e X.env) :: starEach es X.env) : PA X (e :: es) (tA c (.cons ee ees)) :=
  PA_imp (pa_cons ha hr hs) fun σ H Q ⟨base, io, R, Bs, ρ, M, a, h⟩ => by
    unfold evs at h
    refine tE_bind a h fun v H1 io1 M1 d x a1 r h1 => ?_
    refine tA_bind a1 h1 fun vs H2 io2 M2 ds x2 a2 r2 h2 => ?_
    exact h2.fin ⟨a2.st, .cons (r.tr x2.tr) r2⟩
theorem RpL.length {K : PySem.W.Frag} {io R : List Addr} {H : Hp} : ∀ {ds : List D} {vs : List V}, RpL K io R H ds vs → ds.length = vs.length
  | _, _, .nil => rfl
  | _, _, .cons _ t => by simp [RpL.length t]
theorem RpK.length {K : PySem.W.Frag} {io R : List Addr} {H : Hp} : ∀ {ds : List (Key × D)} {vs : List (Key × V)}, RpK K io R H ds vs → ds.length = vs.length
  | _, _, .nil => rfl
  | _, _, .cons _ t => by simp [RpK.length t]
/-- a new thing that stands still -/
theorem Rp.newTup {K : PySem.W.Frag} {io R : List Addr} {Bs : List Nat} {M : Mem} {H : Hp} {p : Addr} {o : Obj} {ds : List D} {vs : List V} (s : St8 K io R Bs M H) (np : H p = none) (hd : o.dict = none) (r : RpL K io R H ds vs) : rpE K R Bs io M (upd H p (.frz o (.tup vs))) (.tup ds) (.ref p) :=
  ⟨s.upd np, .tup (s.nope np).1 (s.nope np).2 ⟨o, upd_same, hd⟩ (r.tr (Ext.tr (.upd np)))⟩
theorem TupAt.sq {K : PySem.W.Frag} {H : Hp} {a : Addr} {vs : List V} (h : TupAt H a vs) : SqT K H a vs := let ⟨o, e, _⟩ := h; .inl (.inr ⟨o, e⟩)
/-- a new tuple, tracked with its record -/
theorem newT {X : Cx} {pins : List (Addr × Obj)} {σ : L2.St} {H : Hp} {s : Shared} {xs : List V} {its : List Value} {t' : Nat} {Q : VK} (I : Inv X pins σ H s) (hz : xs.length ≤ sizeLine) (rv : Vals xs its)
    (q : ∀ p o, H p = none → o.dict = none → Q (.ref p) (upd H p (.frz o (.tup xs)))) : EP X pins σ Q (.ref s.heap.objs.size) { s with heap := s.heap.push { cls := .type "tuple", data := .seq its.toArray }, toks := t' } := by
  have hf : H s.heap.objs.size = none := I.hok.fresh (Nat.le_refl _)
  exact ⟨.ref s.heap.objs.size, _, I.laid (o := .frz { cls := .type "tuple", data := .seq its.toArray } (.tup xs)) (fun b u e => Heap.get?_push_of_some _ e) (Nat.le_refl _) ⟨Heap.get?_push_size _ rfl, hz, its, rv, ⟨_, Heap.get?_push_size _ rfl, rfl, _, rfl⟩⟩, rfl, q _ _ hf rfl⟩
theorem pe_tupN {X : Cx} {es : List Expr} {t : TA} {k : Nat} {pos : Pos} (h : PA X es t) : PE X (.Tuple es k pos) (fun σ H Q => t σ H fun xs H1 => xs.length ≤ sizeLine ∧ ∀ p o, H1 p = none → o.dict = none → Q (.ref p) (upd H1 p (.frz o (.tup xs)))) :=
  ⟨fun pins s σ H Q I hq => wpAny_Tuple_spliced (thn (h.run pos pins s σ H _ I hq) fun us s1 ⟨xs, H1, I1, r, z, q⟩ => ⟨by rw [← r.length]; exact z, newT I1 z r q⟩)⟩
theorem Rp.newLst {K : PySem.W.Frag} {io R : List Addr} {Bs : List Nat} {M : Mem} {H : Hp} {p : Addr} {ds : List D} {vs : List V} (s : St8 K io R Bs M H) (np : H p = none) (r : RpL K io R H ds vs) : rpE K R Bs io M (upd H p (.lst vs)) (.lst ds) (.ref p) :=
  ⟨s.upd np, .lst (s.nope np).1 (s.nope np).2 upd_same (r.tr (Ext.tr (.upd np)))⟩
/-- a new list, a new dict, of which nothing leans on itself -/
theorem newLstC {K : PySem.W.Frag} {io R : List Addr} {Bs : List Nat} {M : Mem} {H H0 : Hp} {p : Addr} {ds : List D} {vs : List V} (s : St8 K io R Bs M H) (np : H p = none) (n0 : H0 p = none) (r : RpL K io R H ds vs) : rpC K R Bs H0 io M (upd H p (.lst vs)) (.lst ds) (.ref p) :=
  ⟨p, rfl, n0, (s.nope np).2, s.more np boxL, vs, upd_same, r.tr (tr_more np) |>.tr (Ext.tr (.upd np))⟩
theorem newDicC {K : PySem.W.Frag} {io R : List Addr} {Bs : List Nat} {M : Mem} {H H0 : Hp} {p : Addr} {ds : List (Key × D)} {vs : List (Key × V)} (s : St8 K io R Bs M H) (np : H p = none) (n0 : H0 p = none) (r : RpK K io R H ds vs) : rpC K R Bs H0 io M (upd H p (.dK vs)) (.dic ds) (.ref p) :=
  ⟨p, rfl, n0, (s.nope np).2, s.more np boxD, vs, upd_same, r.tr (tr_more np) |>.tr (Ext.tr (.upd np))⟩
/-- what is new now was not there ahead of it -/
theorem Ext.none {io io' : List Addr} {R : List Addr} {Bs : List Nat} {K : PySem.W.Frag} {M' : Mem} {H H' : Hp} {p : Addr} (x : Ext io H io' H') (s' : St8 K io' R Bs M' H') (h : H' p = none) : H p = none := by
  cases q : H p with
  | none => rfl
  | some o =>
    by_cases z : p ∈ io
    · exact absurd (x.pre.subset z) (s'.nope h).1
    · obtain ⟨o', e⟩ := x.dom p o z q
      rw [e] at h; cases h

theorem se_tup {es : List Expr} {ees : Es} {k : Nat} (h : PA X es (tA c ees)) : PE X (.Tuple es k pos) (tE c (.tup ees)) :=
  PE_imp (pe_tupN h) fun σ H Q ⟨base, io, R, Bs, ρ, M, a, h⟩ => by
    unfold ev at h
    refine tA_bind a h fun vs H1 io1 M1 ds x a1 r h1 => ?_
    split at h1
    · rename_i hl
      exact ⟨by rw [← r.length]; exact hl, fun p o np hd => h1.fin2 np (Rp.newTup a1.st np hd r)⟩
    · exact h1.elim
theorem sc_lst {es : List Expr} {ees : Es} (h : PA X es (tA c ees)) : PE X (.List es pos) (tCe c (.lst ees)) :=
  PE_imp (pe_lst h) fun σ H Q ⟨base, io, R, Bs, ρ, M, a, h⟩ => by
    unfold evC at h
    refine tA_bind a h fun vs H1 io1 M1 ds x a1 r h1 => ?_
    split at h1
    · rename_i hl
      exact ⟨by rw [← r.length]; exact hl, fun p np => h1.fin2 np (newLstC a1.st np (x.none a1.st np) r)⟩
    · exact h1.elim
theorem sc_dic0 : PE X (.Dict [] [] pos) (tCe c .dic0) :=
  PE_imp pe_dnewK fun σ H Q ⟨base, io, R, Bs, ρ, M, a, h⟩ => by
    unfold evC at h
    exact fun p np => h.fin2 np (newDicC a.st np np .nil)
/-- made, and still from then on -/
theorem new_in {c : Ct} {ce : C} {σ : L2.St} {H : Hp} {Q : VK} : tE c (.new ce) σ H Q → tCe c ce σ H Q := fun ⟨base, io, R, Bs, ρ, M, a, h⟩ => by
    unfold ev at h
    refine tC_bind a h fun p H1 io1 M1 d x np nR s hc h1 => ?_
    refine h1.fin ⟨s.less, ?_⟩
    have hp := (s.rs p List.mem_cons_self).1
    cases d with
    | lst ds => obtain ⟨vs, e, r⟩ := hc; exact .lst hp nR e (r.tr tr_less0)
    | dic ds => obtain ⟨vs, e, r⟩ := hc; exact .dic hp nR e (r.tr tr_less0)
theorem se_new {ce : C} (h : PE X e (tCe c ce)) : PE X e (tE c (.new ce)) := PE_imp h fun _ _ _ => new_in
/-- made, and may change -/
theorem newM_in {c : Ct} {ce : C} {σ : L2.St} {H : Hp} {Q : VK} : tE c (.newM ce) σ H Q → tCe c ce σ H Q := fun ⟨base, io, R, Bs, ρ, M, a, h⟩ => by
    unfold ev at h
    refine ⟨base, io, R, Bs, ρ, M, a, ?_⟩
    cases q : evC c.F base ce ρ M with
    | ok d M1 =>
      rw [q] at h
      rintro io1 H1 v x ⟨p, rfl, np, nR, s, hc⟩
      refine h (io1 ++ [p]) H1 (.ref p) ⟨x.pre.trans (List.prefix_append _ _), x.keep, x.dom, fun a ha => ?_⟩ ⟨s.loc nR hc, .loc ?_⟩
      · rcases List.mem_append.mp ha with ha | ha
        · exact x.new a ha
        · rw [List.mem_singleton.mp ha]; exact .inr np
      · rw [← s.len]; simp
    | exc k fs M1 => rw [q] at h; exact h
    | bad => rw [q] at h; exact h
theorem se_newM {ce : C} (h : PE X e (tCe c ce)) : PE X e (tE c (.newM ce)) := PE_imp h fun _ _ _ => newM_in
end
end Net
end

section
set_option Elab.async false
set_option linter.all false
set_option maxRecDepth 100000
/-! N5: operators, comparisons, subscripts, built-in functions. -/
namespace Net
open PySem PySem.Spec PyProof.Rows L2
variable [TabL]

section
variable {K : PySem.W.Frag} {io R : List Addr} {Bs : List Nat} {M : Mem} {H : Hp}
theorem seq_rp (s : St8 K io R Bs M H) {d : D} {v : V} {ds : List D} (r : Rp K io R H d v) (e : d.seq M = some ds) : ∃ a vs, v = .ref a ∧ H a = some (.lst vs) ∧ RpL K io R H ds vs := by
  cases r with
  | lst h1 h2 h3 h4 => unfold D.seq at e; cases e; exact ⟨_, _, rfl, h3, h4⟩
  | loc h =>
    rename_i n a
    unfold D.seq at e
    simp only at e
    split at e
    · rename_i ds' hm
      cases e
      obtain ⟨vs, q, r⟩ := s.cell n _ a hm h
      exact ⟨a, vs, rfl, q, r⟩
    · cases e
  | _ => cases e
theorem items_rp (s : St8 K io R Bs M H) {d : D} {v : V} {ds : List D} (r : Rp K io R H d v) (e : d.items M = some ds) :
    ∃ a vs, v = .ref a ∧ (H a = some (.lst vs) ∨ TupAt H a vs) ∧ RpL K io R H ds vs := by
  cases r with
  | tup h1 h2 h3 h4 => unfold D.items at e; cases e; exact ⟨_, _, rfl, .inr h3, h4⟩
  | lst h1 h2 h3 h4 => obtain ⟨a, vs, e1, e2, e3⟩ := seq_rp s (.lst h1 h2 h3 h4) (show D.seq M _ = some ds from e); exact ⟨a, vs, e1, .inl e2, e3⟩
  | loc h => obtain ⟨a, vs, e1, e2, e3⟩ := seq_rp s (.loc h) (show D.seq M _ = some ds from e); exact ⟨a, vs, e1, .inl e2, e3⟩
  | _ => cases e
theorem dict_rp (s : St8 K io R Bs M H) {d : D} {v : V} {ds : List (Key × D)} (r : Rp K io R H d v) (e : d.dict M = some ds) : ∃ a vs, v = .ref a ∧ H a = some (.dK vs) ∧ RpK K io R H ds vs := by
  cases r with
  | dic h1 h2 h3 h4 => unfold D.dict at e; cases e; exact ⟨_, _, rfl, h3, h4⟩
  | loc h =>
    rename_i n a
    unfold D.dict at e
    simp only at e
    split at e
    · rename_i ds' hm
      cases e
      obtain ⟨vs, q, r⟩ := s.cell n _ a hm h
      exact ⟨a, vs, rfl, q, r⟩
    · cases e
  | _ => cases e
theorem RpL.get : ∀ {ds : List D} {vs : List V} {i : Nat} {d : D}, RpL K io R H ds vs → ds[i]? = some d → ∃ v, vs[i]? = some v ∧ Rp K io R H d v
  | _, _, _, _, .nil, e => by simp at e
  | _, _, 0, _, .cons r _, e => by simp at e; subst e; exact ⟨_, rfl, r⟩
  | _, _, i + 1, d, .cons _ t, e => by
    obtain ⟨v, h1, h2⟩ := RpL.get (i := i) (d := d) t (by simpa using e)
    exact ⟨v, by simpa using h1, h2⟩
theorem RpL.append : ∀ {as bs : List D} {vs ws : List V}, RpL K io R H as vs → RpL K io R H bs ws → RpL K io R H (as ++ bs) (vs ++ ws)
  | _, _, _, _, .nil, s => s
  | _, _, _, _, .cons r t, s => .cons r (RpL.append t s)
theorem RpL.take : ∀ {ds : List D} {vs : List V} (n : Nat), RpL K io R H ds vs → RpL K io R H (ds.take n) (vs.take n)
  | _, _, 0, _ => .nil
  | _, _, _ + 1, .nil => .nil
  | _, _, n + 1, .cons r t => .cons r (RpL.take n t)
theorem RpL.drop : ∀ {ds : List D} {vs : List V} (n : Nat), RpL K io R H ds vs → RpL K io R H (ds.drop n) (vs.drop n)
  | _, _, 0, r => r
  | _, _, _ + 1, .nil => .nil
  | _, _, n + 1, .cons _ t => RpL.drop n t
theorem RpL.set {d : D} {v : V} (r : Rp K io R H d v) : ∀ {ds : List D} {vs : List V} (i : Nat), RpL K io R H ds vs → RpL K io R H (ds.set i d) (vs.set i v)
  | _, _, _, .nil => .nil
  | _, _, 0, .cons _ t => .cons r t
  | _, _, i + 1, .cons q t => .cons q (RpL.set r i t)
theorem RpL.ints : ∀ {ds : List D} {vs : List V} {ns : List Int}, RpL K io R H ds vs → intsOf ds = some ns → vs = ns.map V.int
  | _, _, _, .nil, e => by cases e; rfl
  | _, _, _, .cons r t, e => by
    cases r with
    | int =>
      unfold intsOf at e
      cases q : intsOf _ with
      | none => rw [q] at e; cases e
      | some ms => rw [q] at e; cases e; rw [RpL.ints t q]; rfl
    | _ => cases e
theorem RpL.bools : ∀ {ds : List D} {vs : List V} {ns : List Bool}, RpL K io R H ds vs → boolsOf ds = some ns → vs = ns.map V.bl
  | _, _, _, .nil, e => by cases e; rfl
  | _, _, _, .cons r t, e => by
    cases r with
    | bl =>
      unfold boolsOf at e
      cases q : boolsOf _ with
      | none => rw [q] at e; cases e
      | some ms => rw [q] at e; cases e; rw [RpL.bools t q]; rfl
    | _ => cases e
theorem key_rp {d : D} {v : V} {k : Key} (r : Rp K io R H d v) (e : d.key = some k) : v = kV k := by
  cases r <;> first | (cases e; rfl) | cases e
theorem kget_rp {k : Key} : ∀ {ds : List (Key × D)} {vs : List (Key × V)}, RpK K io R H ds vs → (kget ds k = none ∧ valV vs k = none) ∨ ∃ d v, kget ds k = some d ∧ valV vs k = some v ∧ Rp K io R H d v
  | _, _, .nil => .inl ⟨rfl, rfl⟩
  | _, _, .cons (k := j) (d := d) (v := v) r t => by
    by_cases e : j = k
    · subst e
      exact .inr ⟨d, v, by simp [kget, List.find?_cons], valV_pos rfl, r⟩
    · have h1 : ∀ ds, kget ((j, d) :: ds) k = kget ds k := fun ds => by simp [kget, List.find?_cons, e]
      rw [h1, valV_neg e]
      exact kget_rp t
theorem Dp.rp0 : True := trivial
mutual
theorem pd0_rp : ∀ {d : D} {v : V} {p : PyData}, Rp K io R H d v → d.pd0 = some p → Dp K H v p
  | _, _, _, .non, e => by cases e; exact .non
  | _, _, _, .bl, e => by cases e; exact .bl _
  | _, _, _, .int, e => by cases e; exact .int _
  | _, _, _, .str, e => by cases e; exact .str _
  | _, _, _, .tup (ds := ds) h1 h2 h3 h4, e => by
    unfold D.pd0 at e
    cases q : D.pdL ds with
    | none => rw [q] at e; cases e
    | some ps => rw [q] at e; cases e; exact .tup (h3.sq) (pdL_rp h4 q)
  | _, _, _, .lst (ds := ds) h1 h2 h3 h4, e => by
    unfold D.pd0 at e
    cases q : D.pdL ds with
    | none => rw [q] at e; cases e
    | some ps => rw [q] at e; cases e; exact .lst (SqL.of h3) (pdL_rp h4 q)
  | _, _, _, .dic h1 h2 h3 h4, e => by cases e
  | _, _, _, .scr h, e => by cases e
  | _, _, _, .loc h, e => by cases e
theorem pdL_rp : ∀ {ds : List D} {vs : List V} {ps : List PyData}, RpL K io R H ds vs → D.pdL ds = some ps → DpAll K H vs ps
  | _, _, _, .nil, e => by cases e; exact .nil
  | _, _, _, .cons (d := d) (ds := ds) r t, e => by
    unfold D.pdL at e
    cases q : d.pd0 with
    | none => rw [q] at e; cases e
    | some p =>
      cases q2 : D.pdL ds with
      | none => rw [q, q2] at e; cases e
      | some ps => rw [q, q2] at e; cases e; exact .cons (pd0_rp r q) (pdL_rp t q2)
end
theorem pd_rp (s : St8 K io R Bs M H) {d : D} {v : V} {p : PyData} (r : Rp K io R H d v) (e : d.pd M = some p) : Dp K H v p := by
  cases r with
  | loc h =>
    rename_i n a
    unfold D.pd at e
    simp only at e
    split at e
    · rename_i ds hm
      obtain ⟨vs, q, r⟩ := s.cell n _ a hm h
      cases q2 : D.pdL ds with
      | none => rw [q2] at e; cases e
      | some ps => rw [q2] at e; cases e; exact .lst (SqL.of q) (pdL_rp r q2)
    · cases e
  | non => exact pd0_rp (io := io) (R := R) .non e
  | bl => exact pd0_rp (io := io) (R := R) .bl e
  | int => exact pd0_rp (io := io) (R := R) .int e
  | str => exact pd0_rp (io := io) (R := R) .str e
  | tup h1 h2 h3 h4 => exact pd0_rp (.tup h1 h2 h3 h4) e
  | lst h1 h2 h3 h4 => exact pd0_rp (.lst h1 h2 h3 h4) e
  | dic h1 h2 h3 h4 => cases e
  | scr h => cases e
theorem cut_eq (vs : List V) (lo hi : Option Int) : cutV vs lo hi = cutL vs lo hi := rfl
theorem RpL.cut {ds : List D} {vs : List V} (r : RpL K io R H ds vs) (lo hi : Option Int) : RpL K io R H (cutL ds lo hi) (cutL vs lo hi) := by
  unfold cutL; rw [r.length]; exact (r.drop _).take _
theorem whole_eq {α : Type} {xs : List α} {lo hi : Option Int} (h : HT.sIx xs.length 0 lo = 0 ∧ HT.sIx xs.length xs.length hi = xs.length) : cutL xs lo hi = xs := by
  unfold cutL; rw [h.1, h.2]; simp
theorem atI_rp {ds : List D} {vs : List V} {i : Int} {d : D} (r : RpL K io R H ds vs) (e : atI ds i = some d) : ∃ v, atI vs i = some v ∧ Rp K io R H d v := by
  unfold atI at e ⊢
  rw [r.length] at e
  cases q : ixN vs.length i with
  | none => rw [q] at e; cases e
  | some j => rw [q] at e; exact r.get e
end

/-! ### binary operators -/
def BOp.py : BOp → Operator
  | .add => .Add | .sub => .Sub | .mul => .Mult | .fdiv => .FloorDiv | .mod => .Mod | .pow => .Pow
/-- two values that stand for data, and what is wanted of an answer d -/
def rB (K : PySem.W.Frag) (g : Mem → D → D → Option D) : R2 := fun x y H Q => ∃ io R Bs M dx dy d, St8 K io R Bs M H ∧ Rp K io R H dx x ∧ Rp K io R H dy y ∧ g M dx dy = some d ∧
  ∀ H' v, (∀ a o, H a = some o → H' a = some o) → rpE K R Bs io M H' d v → Q v H'
section
variable {X : Cx}
theorem upd_same' {H : Hp} {p : Addr} {o : HO} (np : H p = none) : ∀ a u, H a = some u → upd H p o a = some u := fun a u e => by rw [upd_ne (ne_of_none e np)]; exact e
theorem bint_ok (op : BOp) {pins : List (Addr × Obj)} {s : Shared} {σ : L2.St} {H : Hp} {i j k : Int} {v u : Value} {Q : VK} (I : Inv X pins σ H s) (rx : RelV (.int i) v) (ry : RelV (.int j) u) (e : bInt op i j = some k) (q : Q (.int k) H) :
    wpAny (model X.prog X.w) X.A (binaryOp op.py v u) (EP X pins σ Q) X.xe s := by
  cases op with
  | add => cases e; exact op_add pins s σ H _ _ v u Q I rx ry ⟨_, _, rfl, rfl, q⟩
  | sub => cases e; exact op_sub pins s σ H _ _ v u Q I rx ry ⟨_, _, rfl, rfl, q⟩
  | mul =>
    unfold bInt at e
    simp only at e
    split at e
    · rename_i h; cases e
      rcases h with h | h
      · exact op_mulW pins s σ H _ _ v u Q I rx ry ⟨_, _, rfl, rfl, h, q⟩
      · exact op_mul pins s σ H _ _ v u Q I rx ry ⟨_, _, rfl, rfl, by unfold CMul; rcases h with h | h; (left; omega); (right; omega), q⟩
    · cases e
  | fdiv =>
    unfold bInt at e
    simp only at e
    split at e
    · rename_i h; cases e; exact op_fdivW pins s σ H _ _ v u Q I rx ry ⟨_, _, rfl, rfl, h, q⟩
    · cases e
  | mod =>
    unfold bInt at e
    simp only at e
    split at e
    · rename_i h; cases e; exact op_mod pins s σ H _ _ v u Q I rx ry ⟨_, _, rfl, rfl, h, q⟩
    · cases e
  | pow =>
    unfold bInt at e
    simp only at e
    split at e
    · rename_i h; cases e; exact op_pow pins s σ H _ _ v u Q I rx ry ⟨_, _, rfl, rfl, h, q⟩
    · cases e
theorem tuple_mul1 (l : Addr) (items : Array Value) (n : Nat) (dd : Option Addr) (sl : Array (Option Value)) (x : Int) (u : Tok) (c0 : (decide (x < -(2 ^ 63)) || decide (x ≥ 2 ^ 63)) = false) (c1 : (items.isEmpty || x == 1) = true) :
    Meets (Builtin.«tuple.__mul__» ⟨[.ref l, .int x u], []⟩) (fun _ R s => s.heap.get? l = some { cls := .type "tuple", dict := dd, data := .seq items n, slots := sl } ∧
      R (.ok (.ret (Value.ref l))) s) :=
  .of_wp fun prog w A R s h => by
    obtain ⟨hp, g, d, tk, os⟩ := s
    obtain ⟨hl, h⟩ := h
    have f1 := AutoSeq1.idx_int
    wp_walk using wpAny_loadPart' hl
    repeat (first
      | (refine wpAny_ite_false (decide_eq_false (by rw [c0]; exact Bool.false_ne_true)) ?_; wp_walk using wpAny_loadPart' hl)
      | (refine wpAny_ite_true (decide_eq_true c1) ?_; wp_walk using wpAny_loadPart' hl))
    exact ⟨_, rfl, h⟩
/-- t * 1 is t itself -/
theorem op_repT1 {pins : List (Addr × Obj)} {s : Shared} {σ : L2.St} {H : Hp} {l : Addr} {xs : List V} {v u : Value} {Q : VK} (I : Inv X pins σ H s) (rx : RelV (.ref l) v) (ry : RelV (.int 1) u) (hT : SqT X.K H l xs) (q : Q (.ref l) H) :
    wpAny (model X.prog X.w) X.A (binaryOp .Mult v u) (EP X pins σ Q) X.xe s := by
  cases rx
  obtain ⟨t, rfl⟩ := ry
  obtain ⟨its, r, ⟨⟨cls, dd, data, sl⟩, ho, hc, n, hd⟩, hs⟩ := I.tuple hT
  simp only at hc hd
  subst hc hd
  exact wpAny_binaryOp_repeat_ref (T := "tuple") (U := "int") (by decide) ⟨_, ho, rfl⟩ (fun s' => typeIs_int s' 1 t) noFill_tuple_mul F.fills_int_mul F.slot_int_rmul repeat_tuple F.slot_int_index.lookup
    (call_meets F.slot_int_rmul (typeIs_int s 1 t) F.entry_int_rmul (F.args_int_rmul_2 _ _) (int_rmul_tuple 1 t l its.toArray n dd sl)
      ⟨ho, rfl, ⟨_, ho, rfl⟩, call_meets F.slot_tuple_mul ⟨_, ho, rfl⟩ F.entry_tuple_mul (F.args_tuple_mul_2 _ _) (tuple_mul1 l its.toArray n dd sl 1 t (by decide) (by simp)) ⟨ho, .ref l, H, I, rfl, q⟩⟩)
theorem RpL.rep {K : PySem.W.Frag} {io R : List Addr} {H : Hp} {ds : List D} {vs : List V} (r : RpL K io R H ds vs) : ∀ k : Nat, RpL K io R H (List.replicate k ds).flatten (List.replicate k vs).flatten
  | 0 => .nil
  | k + 1 => by rw [List.replicate_succ, List.replicate_succ, List.flatten_cons, List.flatten_cons]; exact r.append (RpL.rep r k)
/-- t + u -/
theorem op_catN {pins : List (Addr × Obj)} {s : Shared} {σ : L2.St} {H : Hp} {a b : Addr} {xs ys : List V} {v u : Value} {Q : VK} (I : Inv X pins σ H s) (rx : RelV (.ref a) v) (ry : RelV (.ref b) u) (ha : SqT X.K H a xs) (hb : SqT X.K H b ys) (hz : xs.length + ys.length ≤ sizeLine)
    (q0 : xs = [] → Q (.ref b) H) (q1 : xs ≠ [] → ys = [] → Q (.ref a) H) (q2 : xs ≠ [] → ys ≠ [] → ∀ p o, H p = none → o.dict = none → Q (.ref p) (upd H p (.frz o (.tup (xs ++ ys))))) : wpAny (model X.prog X.w) X.A (binaryOp .Add v u) (EP X pins σ Q) X.xe s := by
  obtain rfl : v = .ref a := rx
  obtain rfl : u = .ref b := ry
  obtain ⟨ia, va, ta, _⟩ := I.tuple ha
  obtain ⟨ib, vb, tb, _⟩ := I.tuple hb
  by_cases e : xs = []
  · subst e
    cases va
    exact cat_tup0 ta tb ⟨.ref b, H, I, rfl, q0 rfl⟩
  · exact HT.cat_tup ta tb (fun z => e (va.nil_iff.mp z)) (fun z => ⟨.ref a, H, I, rfl, q1 e (vb.nil_iff.mp z)⟩)
      (fun z => newT I (by rw [List.length_append]; exact hz) (va.append vb) (q2 e fun w => z (vb.nil_iff.mpr w))) (by rw [← va.length, ← vb.length]; exact hz)
/-- t * k, 2 or more times -/
theorem op_repN {pins : List (Addr × Obj)} {s : Shared} {σ : L2.St} {H : Hp} {l : Addr} {k : Int} {xs : List V} {v u : Value} {Q : VK} (I : Inv X pins σ H s) (rx : RelV (.ref l) v) (ry : RelV (.int k) u) (hT : SqT X.K H l xs) (hne : xs ≠ []) (h1 : 2 ≤ k) (h2 : k ≤ 1000) (hz : xs.length ≤ 1000)
    (q : ∀ p o, H p = none → o.dict = none → Q (.ref p) (upd H p (.frz o (.tup (List.replicate k.toNat xs).flatten)))) : wpAny (model X.prog X.w) X.A (binaryOp .Mult v u) (EP X pins σ Q) X.xe s := by
  obtain rfl : v = .ref l := rx
  obtain ⟨tk, rfl⟩ := ry
  obtain ⟨us, rv, ⟨⟨cls, dd, dat, sl⟩, ho, hc, n, hd⟩, _⟩ := I.tuple hT
  simp only at hc hd
  subst hc hd
  have el := rv.length
  have ne : us ≠ [] := fun e => hne (rv.nil_iff.mp e)
  have emp : us.toArray.isEmpty = false := by cases us with | nil => exact absurd rfl ne | cons => rfl
  have big : k.toNat * xs.length ≤ 1000 * 1000 := Nat.mul_le_mul (by omega) hz
  have e1 : (((us.toArray.size : Nat) : Int) * k) ≤ 1000000 := by
    have : ((us.toArray.size : Nat) : Int) * k ≤ 1000 * k := Int.mul_le_mul_of_nonneg_right (by rw [List.size_toArray]; omega) (by omega)
    omega
  have e2 : (List.replicate k.toNat us).flatten.length ≤ sizeLine := by rw [PyProof.Rows.lm_len_rep_flat, ← el, sizeLine_eq]; omega
  have e3 : (List.replicate k.toNat xs).flatten.length ≤ sizeLine := by rw [PyProof.Rows.lm_len_rep_flat, sizeLine_eq]; omega
  refine wpAny_binaryOp_repeat_ref (T := "tuple") (U := "int") (by decide) ⟨_, ho, rfl⟩ (fun s' => typeIs_int s' k tk) noFill_tuple_mul F.fills_int_mul F.slot_int_rmul repeat_tuple F.slot_int_index.lookup
    (call_meets F.slot_int_rmul (typeIs_int s k tk) F.entry_int_rmul (F.args_int_rmul_2 _ _) (int_rmul_tuple k tk l us.toArray n dd sl)
      ⟨ho, rfl, ⟨_, ho, rfl⟩, call_meets F.slot_tuple_mul ⟨_, ho, rfl⟩ F.entry_tuple_mul (F.args_tuple_mul_2 _ _)
        (tuple_mulW l us.toArray n dd sl k tk (by rw [decide_eq_false (by omega), decide_eq_false (by omega)]; rfl) (by rw [emp, Bool.false_or]; exact beq_eq_false_iff_ne.mpr (by omega)) (by rw [emp, Bool.or_false]; exact decide_eq_false (by omega)) (by omega)
          (by unfold Builtin.Tuple.tupleTooMany; rw [sizeLine_eq]; exact decide_eq_false (by omega)) (by rw [size_rep, List.size_toArray]; exact e2)) ⟨ho, ?_⟩⟩)
  rw [size_rep]
  exact newT I e3 (rv.rep k.toNat) q
theorem op_bop (op : BOp) : OpR X (binaryOp op.py) (rB X.K fun M => bop M op) := by
  rintro pins s σ H x y v u Q I rx ry ⟨io, R, Bs, M, dx, dy, d, st, hx, hy, e, q⟩
  have e : bop M op dx dy = some d := e
  have fin : ∀ w, Rp X.K io R H d w → Q w H := fun w r => q H w (fun _ _ h => h) ⟨st, r⟩
  have seqs : bSeq M op dx dy = some d → wpAny (model X.prog X.w) X.A (binaryOp op.py v u) (EP X pins σ Q) X.xe s := by
    intro e
    cases op with
    | add =>
      unfold bSeq at e
      simp only at e
      split at e
      · rename_i ds es e1 e2
        obtain ⟨a, vs, rfl, ha, ra⟩ := seq_rp st hx e1
        obtain ⟨b, ws, rfl, hb, rb⟩ := seq_rp st hy e2
        unfold cat at e
        split at e
        · rename_i hl
          cases e
          refine op_cat pins s σ H _ _ v u Q I rx ry ⟨a, b, vs, ws, rfl, rfl, ha, hb, by rw [← ra.length, ← rb.length]; exact hl, fun p np => ?_⟩
          exact q _ _ (upd_same' np) (Rp.newLst st np (ra.append rb))
        · cases e
      · cases e
    | _ => cases e
  unfold bop at e
  split at e
  · cases hx; cases hy
    cases b : bInt op _ _ with
    | none => rw [b] at e; cases e
    | some k => rw [b] at e; cases e; exact bint_ok op I rx ry b (fin _ .int)
  · cases hx; cases hy
    cases op with
    | add =>
      unfold bStr at e
      simp only at e
      split at e
      · rename_i hl
        cases e
        exact op_add_str pins s σ H _ _ v u Q I rx ry ⟨_, _, rfl, rfl, hl, fin _ .str⟩
      · cases e
    | _ => cases e
  · cases hx with
    | tup h1 h2 h3 h4 => cases hy with
      | tup k1 k2 k3 k4 =>
        cases op with
        | add =>
          unfold bTup cat at e
          simp only at e
          split at e
          · rename_i hl
            cases e
            refine op_catN I rx ry h3.sq k3.sq (by rw [← h4.length, ← k4.length]; exact hl) (fun z => ?_) (fun z1 z2 => ?_) (fun z1 z2 p o np hd => ?_)
            · subst z; cases h4; exact fin _ (.tup k1 k2 k3 (by simpa using k4))
            · subst z2; cases k4; exact fin _ (.tup h1 h2 h3 (by simpa using h4))
            · exact q _ _ (upd_same' np) (Rp.newTup st np hd (h4.append k4))
          · cases e
        | _ => cases e
  · rename_i a0 k0 _
    cases hx with
    | tup h1 h2 h3 h4 => cases hy with
      | int =>
        cases op with
        | mul =>
          unfold bRep at e
          simp only at e
          split at e
          · rename_i hk
            cases e
            by_cases k1 : k0 = (1 : Int)
            · subst k1
              exact op_repT1 I rx ry (h3.sq) (fin _ (.tup h1 h2 h3 (by simpa using h4)))
            · refine op_repN I rx ry h3.sq ?_ (by omega) hk.2.2.1 (by rw [← h4.length]; exact hk.2.2.2) fun p o np hd => ?_
              · intro z; subst z; cases h4; exact hk.1 rfl
              · exact q _ _ (upd_same' np) (Rp.newTup st np hd (h4.rep _))
          · cases e
        | _ => cases e
  · exact seqs e

/-! ### comparisons -/
def COp.py : COp → CmpOp
  | .eq => .Eq | .ne => .NotEq | .lt => .Lt | .le => .LtE | .gt => .Gt | .ge => .GtE | .isin => .In | .notin => .NotIn | .isN => .Is | .notN => .IsNot
def rC (K : PySem.W.Frag) (op : COp) : R2 := fun x y H Q => ∃ io R Bs M dx dy b, St8 K io R Bs M H ∧ Rp K io R H dx x ∧ Rp K io R H dy y ∧ cop M op dx dy = some b ∧ Q (.bl b) H
theorem rp_non {K : PySem.W.Frag} {io R : List Addr} {H : Hp} {d : D} {v : V} (r : Rp K io R H d v) : decide (v = .non) = isNon d := by
  cases r <;> rfl
theorem flat_pd {d : D} (h : d.flat = true) {K : PySem.W.Frag} {io R : List Addr} {H : Hp} {v : V} (r : Rp K io R H d v) : flatV v = true := by
  cases r <;> first | rfl | cases h
theorem eqV_eqv {K : PySem.W.Frag} {io R : List Addr} {H : Hp} {d e : D} {v w : V} {p q : PyData} (r : Rp K io R H d v) (r2 : Rp K io R H e w) (f1 : d.flat = true) (f2 : e.flat = true) (h1 : d.pd0 = some p) (h2 : e.pd0 = some q) : eqV v w = PyData.eqv p q := by
  cases r <;> first | exact (Bool.false_ne_true f1).elim | (cases r2 <;> first | exact (Bool.false_ne_true f2).elim | (cases h1; cases h2; rfl))
theorem any_eqV {K : PySem.W.Frag} {io R : List Addr} {H : Hp} {e : D} {w : V} {q : PyData} (r2 : Rp K io R H e w) (f2 : e.flat = true) (h2 : e.pd0 = some q) : ∀ {ds : List D} {vs : List V} {ps : List PyData}, RpL K io R H ds vs → ds.all D.flat = true → D.pdL ds = some ps →
    vs.all flatV = true ∧ (vs.any fun y => eqV y w) = ps.any fun z => PyData.eqv z q
  | _, _, _, .nil, _, e => by cases e; exact ⟨rfl, rfl⟩
  | _, _, _, .cons (d := d) (ds := ds) r t, f, e => by
    rw [List.all_cons, Bool.and_eq_true] at f
    unfold D.pdL at e
    cases q1 : d.pd0 with
    | none => rw [q1] at e; cases e
    | some p =>
      cases q2 : D.pdL ds with
      | none => rw [q1, q2] at e; cases e
      | some ps =>
        rw [q1, q2] at e; cases e
        obtain ⟨a1, a2⟩ := any_eqV r2 f2 h2 t f.2 q2
        exact ⟨by rw [List.all_cons, flat_pd f.1 r, a1]; rfl, by rw [List.any_cons, List.any_cons, a2, eqV_eqv r r2 f.1 f2 q1 h2]⟩
theorem eq_ok {pins : List (Addr × Obj)} {s : Shared} {σ : L2.St} {H : Hp} {x y : V} {v u : Value} {Q : VK} {io R : List Addr} {Bs : List Nat} {M : Mem} {dx dy : D} {b : Bool} (hu : X.A.units + 64 < cLine) (I : Inv X pins σ H s) (rx : RelV x v) (ry : RelV y u)
    (st : St8 X.K io R Bs M H) (hx : Rp X.K io R H dx x) (hy : Rp X.K io R H dy y) (e : eqD M dx dy = some b) :
    (Q (.bl b) H → wpAny (model X.prog X.w) X.A (compareOp .Eq v u) (EP X pins σ Q) X.xe s) ∧ (Q (.bl (!b)) H → wpAny (model X.prog X.w) X.A (compareOp .NotEq v u) (EP X pins σ Q) X.xe s) := by
  unfold eqD at e
  split at e
  · rename_i p q e1 e2
    split at e
    · rename_i h
      cases e
      exact ⟨fun z => op_eqD hu pins s σ H _ _ v u Q I rx ry ⟨p, q, pd_rp st hx e1, pd_rp st hy e2, h.1, h.2, z⟩, fun z => op_neD hu pins s σ H _ _ v u Q I rx ry ⟨p, q, pd_rp st hx e1, pd_rp st hy e2, h.1, h.2, z⟩⟩
    · unfold eqStr at e
      split at e
      · rename_i a b
        cases e
        cases hx
        cases hy
        have hd : decide (V.str a = V.str b) = decide (a = b) := by rw [decide_eq_decide]; simp
        exact ⟨fun z => op_eq pins s σ H _ _ v u Q I rx ry ⟨rfl, by rw [hd]; exact z⟩, fun z => op_ne pins s σ H _ _ v u Q I rx ry ⟨rfl, by rw [hd]; exact z⟩⟩
      · cases e
  · unfold eqLen at e
    split at e
    · rename_i ds es e1 e2
      split at e
      · cases e
      · rename_i hl
        cases e
        obtain ⟨a, vs, rfl, ha, ra⟩ := seq_rp st hx e1
        obtain ⟨b, ws, rfl, hb, rb⟩ := seq_rp st hy e2
        cases rx
        cases ry
        obtain ⟨z, its, n, r, hl1, h1⟩ := I.lstM ha
        obtain ⟨z2, its2, n2, r2, hl2, h2⟩ := I.lstM hb
        have ne : (its.toArray.size != its2.toArray.size) = true := by
          rw [List.size_toArray, List.size_toArray, bne_iff_ne, ← r.length, ← r2.length, ← ra.length, ← rb.length]
          exact hl
        exact ⟨fun z => SeqAt.eq_list_lengthsAt ⟨_, h1, rfl, _, rfl⟩ ⟨_, h2, rfl, _, rfl⟩ ne (by omega) ⟨.bl _, H, I, rfl, z⟩, fun z => SeqAt.RcNeAt.lists_lengths ⟨_, h1, rfl, _, rfl⟩ ⟨_, h2, rfl, _, rfl⟩ ne (by omega) _ _ _ _ ⟨.bl _, H, I, rfl, z⟩⟩
    · cases e
theorem in_ok {pins : List (Addr × Obj)} {s : Shared} {σ : L2.St} {H : Hp} {x y : V} {v u : Value} {Q : VK} {io R : List Addr} {Bs : List Nat} {M : Mem} {dx dy : D} {b : Bool} (hu : X.A.units + 100 < cLine) (I : Inv X pins σ H s) (rx : RelV x v) (ry : RelV y u)
    (st : St8 X.K io R Bs M H) (hx : Rp X.K io R H dx x) (hy : Rp X.K io R H dy y) (e : inD M dx dy = some b) :
    (Q (.bl b) H → wpAny (model X.prog X.w) X.A (compareOp .In v u) (EP X pins σ Q) X.xe s) ∧ (Q (.bl (!b)) H → wpAny (model X.prog X.w) X.A (compareOp .NotIn v u) (EP X pins σ Q) X.xe s) := by
  unfold inD at e
  split at e
  · rename_i ds
    split at e
    · rename_i p ps e1 e2
      split at e
      · rename_i h
        rw [Bool.and_eq_true] at h
        cases e
        cases hy with
        | tup h1 h2 h3 h4 =>
          obtain ⟨a1, a2⟩ := any_eqV hx h.1 e1 h4 h.2 e2
          exact ⟨fun z => op_in_seq pins s σ H _ _ v u Q I rx ry ⟨_, _, rfl, .inr (h3.sq), flat_pd h.1 hx, a1, by rw [if_neg (by decide)]; unfold inV; rw [a2]; exact z⟩,
            fun z => op_notIn_seq pins s σ H _ _ v u Q I rx ry ⟨_, _, rfl, .inr (h3.sq), flat_pd h.1 hx, a1, by rw [if_pos rfl]; unfold inV; rw [a2]; exact z⟩⟩
      · cases e
    · cases e
  · rename_i hd
    split at e
    · rename_i kvs e1
      obtain ⟨a, ws, rfl, ha, ra⟩ := dict_rp st hy e1
      cases q : dx.key with
      | none => rw [q] at e; cases e
      | some k =>
        rw [q] at e; cases e
        have ek := key_rp hx q
        subst ek
        cases ry
        have g : DGet H a (kV k) (valV ws k) := DGet.k ha
        have eo : (valV ws k).isSome = (kget kvs k).isSome := by
          rcases kget_rp (k := k) ra with ⟨z1, z2⟩ | ⟨_, _, z1, z2, _⟩ <;> rw [z1, z2] <;> rfl
        exact ⟨fun z => d_in (by omega) I g rx fun s' I' => ⟨.bl _, H, I', rfl, by rw [eo]; exact z⟩, fun z => d_notIn (by omega) I g rx fun s' I' => ⟨.bl _, H, I', rfl, by rw [eo]; exact z⟩⟩
    · split at e
      · rename_i p qs e1 e2
        split at e
        · rename_i h
          cases e
          exact ⟨fun z => op_inD (by omega) pins s σ H _ _ v u Q I rx ry ⟨p, qs, pd_rp st hx e1, pd_rp st hy e2, h.1, h.2, z⟩, fun z => op_notInD (by omega) pins s σ H _ _ v u Q I rx ry ⟨p, qs, pd_rp st hx e1, pd_rp st hy e2, h.1, h.2, z⟩⟩
        · cases e
      · cases e
theorem two_ok {K : PySem.W.Frag} {io R : List Addr} {H : Hp} {d e : D} {v w : V} {f : Int → Int → Bool} {b : Bool} (r : Rp K io R H d v) (r2 : Rp K io R H e w) (h : two f d e = some b) : ∃ i j, v = .int i ∧ w = .int j ∧ b = f i j := by
  unfold two at h
  split at h
  · cases r; cases r2; cases h; exact ⟨_, _, rfl, rfl, rfl⟩
  · cases h
theorem op_cop (op : COp) (hu : X.A.units + 100 < cLine) : OpR X (compareOp op.py) (rC X.K op) := by
  rintro pins s σ H x y v u Q I rx ry ⟨io, R, Bs, M, dx, dy, b, st, hx, hy, e, q⟩
  cases op with
  | eq => exact (eq_ok (by omega) I rx ry st hx hy e).1 q
  | ne =>
    unfold cop at e
    simp only at e
    cases z : eqD M dx dy with
    | none => rw [z] at e; cases e
    | some k => rw [z] at e; cases e; exact (eq_ok (by omega) I rx ry st hx hy z).2 q
  | isin => exact (in_ok hu I rx ry st hx hy e).1 q
  | notin =>
    unfold cop at e
    simp only at e
    cases z : inD M dx dy with
    | none => rw [z] at e; cases e
    | some k => rw [z] at e; cases e; exact (in_ok hu I rx ry st hx hy z).2 q
  | lt => obtain ⟨i, j, rfl, rfl, rfl⟩ := two_ok hx hy e; exact op_lt pins s σ H _ _ v u Q I rx ry ⟨i, j, rfl, rfl, q⟩
  | le => obtain ⟨i, j, rfl, rfl, rfl⟩ := two_ok hx hy e; exact op_le pins s σ H _ _ v u Q I rx ry ⟨i, j, rfl, rfl, q⟩
  | gt => obtain ⟨i, j, rfl, rfl, rfl⟩ := two_ok hx hy e; exact op_gt pins s σ H _ _ v u Q I rx ry ⟨i, j, rfl, rfl, q⟩
  | ge => obtain ⟨i, j, rfl, rfl, rfl⟩ := two_ok hx hy e; exact op_ge pins s σ H _ _ v u Q I rx ry ⟨i, j, rfl, rfl, q⟩
  | isN =>
    unfold cop at e
    simp only at e
    split at e
    · rename_i h; cases e
      exact op_isN pins s σ H _ _ v u Q I rx ry ⟨of_decide_eq_true (by rw [rp_non hy]; exact h), by rw [rp_non hx]; exact q⟩
    · cases e
  | notN =>
    unfold cop at e
    simp only at e
    split at e
    · rename_i h; cases e
      exact op_notN pins s σ H _ _ v u Q I rx ry ⟨of_decide_eq_true (by rw [rp_non hy]; exact h), by rw [rp_non hx]; exact q⟩
    · cases e
end

/-! ### subscripts -/
section
variable {X : Cx}
theorem ix_dict (hu : X.A.units + 1 < cLine) : IxR X (fun x y H Q => ∃ a v, x = .ref a ∧ DGet H a y (some v) ∧ Q v H) := by
  intro value slice pins s σ H x y o i Q I rx ry h hs
  obtain ⟨a, z, rfl, g, q⟩ := h
  cases rx
  have hT := dict_typeIs I g
  unfold subscriptTail
  refine wpAny_bind ?_
  rw [getitemInPython_of_ne hT.not_modules]
  refine wpAny_bind (wpAny_specialOf hT PySem.F.slot_dict_getitem.lookup ?_)
  have fin : wpAny (model X.prog X.w) X.A (subscripted slice false (.ref a) i) (fun r s₃ => wpAny (model X.prog X.w) X.A (letTemporaryGo value (.ref a) r >>= fun _ => pure r) (EP X pins σ Q) X.xe s₃) X.xe s := by
    rw [hs]
    refine wpAny_operating (wpAny_mono (d_getItem hu I g ry fun w' s3 I3 rw' => (⟨z, H, I3, rw', q⟩ : EP X pins σ Q w' s3)) (fun r s₃ h₃ => wpAny_bind (wpAny_letTemporaryGo (wpAny_pure h₃))) fun _ _ x => x)
  first
    | exact wpAny_pure (wpAny_bind fin)
    | exact wpAny_bind (wpAny_pure (wpAny_bind fin))
    | exact wpAny_bind fin
theorem ix_D (hu : X.A.units + 1 < cLine) : IxR X (rB X.K ixD) := by
  rintro value slice pins s σ H x y v u Q I rx ry ⟨io, R, Bs, M, dx, dy, d, st, hx, hy, e, q⟩ hs
  have fin : ∀ w, Rp X.K io R H d w → Q w H := fun w r => q H w (fun _ _ h => h) ⟨st, r⟩
  unfold ixD at e
  split at e
  · rename_i kvs e1
    obtain ⟨a, ws, rfl, ha, ra⟩ := dict_rp st hx e1
    cases z : dy.key with
    | none => rw [z] at e; cases e
    | some k =>
      rw [z] at e
      have e : kget kvs k = some d := e
      have ek := key_rp hy z
      subst ek
      rcases kget_rp (k := k) ra with ⟨z1, z2⟩ | ⟨d', w, z1, z2, r⟩
      · rw [z1] at e; cases e
      · rw [z1] at e; cases e
        exact ix_dict hu value slice pins s σ H _ _ v u Q I rx ry ⟨a, w, rfl, z2 ▸ DGet.k ha, fin _ r⟩ hs
  · split at e
    · rename_i ds j e1
      obtain ⟨a, vs, rfl, ha, ra⟩ := items_rp st hx e1
      cases hy
      obtain ⟨w, z, r⟩ := atI_rp ra e
      rcases ha with ha | ha
      · exact ix_list value slice pins s σ H _ _ v u Q I rx ry ⟨a, vs, _, w, rfl, rfl, SqL.of ha, z, fin _ r⟩ hs
      · exact ix_tup value slice pins s σ H _ _ v u Q I rx ry ⟨a, vs, _, w, rfl, rfl, ha.sq, z, fin _ r⟩ hs
    · cases e

/-! ### slices -/
theorem cutL_map {α β : Type} (f : α → β) (xs : List α) (lo hi : Option Int) : cutL (xs.map f) lo hi = (cutL xs lo hi).map f := by
  unfold cutL; rw [List.length_map, List.map_take, List.map_drop]
theorem RpL.ofInts {K : PySem.W.Frag} {io R : List Addr} {H : Hp} : ∀ ns : List Int, RpL K io R H (ns.map D.int) (ns.map V.int)
  | [] => .nil
  | _ :: ns => .cons .int (RpL.ofInts ns)
def rSl (K : PySem.W.Frag) : V → Option Int → Option Int → Hp → VK → Prop := fun x lo hi H Q => ∃ io R Bs M dx d, St8 K io R Bs M H ∧ Rp K io R H dx x ∧ slV M dx lo hi = some d ∧
  ∀ H' v, (∀ a o, H a = some o → H' a = some o) → rpE K R Bs io M H' d v → Q v H'
theorem sl_D : SlR X (rSl X.K) := by
  rintro pins s σ H x v vl vu lo hi sl Q I rx hs pl pu ⟨io, R, Bs, M, dx, d, st, hx, e, q⟩
  have fin : ∀ w, Rp X.K io R H d w → Q w H := fun w r => q H w (fun _ _ h => h) ⟨st, r⟩
  unfold slV at e
  split at e
  · cases hx with
    | tup h1 h2 h3 h4 =>
      cases e
      rename_i p ws
      by_cases hw : HT.sIx ws.length 0 lo = 0 ∧ HT.sIx ws.length ws.length hi = ws.length
      · refine sl_tupA pins s σ H _ v vl vu lo hi sl Q I rx hs pl pu ⟨_, _, rfl, h3.sq, fun hw => fin _ ?_, fun hw' => absurd hw hw'⟩
        rw [← h4.length] at hw
        rw [whole_eq hw]; exact .tup h1 h2 h3 h4
      · obtain ⟨us, rv, ht, hz⟩ := I.tuple (h3.sq (K := X.K))
        have el : us.toArray.size = ws.length := by rw [List.size_toArray]; exact rv.length.symm
        obtain rfl : v = .ref p := rx
        refine ⟨"tuple", _, PyProof.Rows.slot_tuple_getitem.lookup, ht.typeIs, HT.getItem_tuple_cut ht hs pl pu (by rw [el]; exact hw) ?_ (by rw [el]; exact hz)⟩
        rw [el]
        exact newT I (Nat.le_trans (cutV_length ws lo hi) hz) ((rv.drop _).take _) fun r o np hd => q _ _ (upd_same' np) (Rp.newTup st np hd (h4.cut lo hi))
  · cases hx with
    | scr h =>
      cases e
      rename_i ns a
      have hq : SqL X.K H a (ns.map V.int) := by
        rcases h with h | ⟨_, _, h⟩
        · rcases h with h | h
          · rcases h with h | ⟨o, h⟩ <;> cases h
          · exact .inr h
        · exact .inl h
      refine sl_list pins s σ H _ v vl vu lo hi sl Q I rx hs pl pu ⟨_, _, rfl, hq, fun p np => ?_⟩
      rw [cut_eq, cutL_map]
      exact q _ _ (upd_same' np) (Rp.newLst st np (RpL.ofInts _))
  · cases hx
    split at e
    · rename_i hl; cases e
      exact sl_str pins s σ H _ v vl vu lo hi sl Q I rx hs pl pu ⟨_, rfl, hl, fin _ .str⟩
    · cases e
  · cases z : D.seq M dx with
    | none => rw [z] at e; cases e
    | some ds =>
      rw [z] at e; cases e
      obtain ⟨a, vs, rfl, ha, ra⟩ := seq_rp st hx z
      refine sl_list pins s σ H _ v vl vu lo hi sl Q I rx hs pl pu ⟨_, _, rfl, SqL.of ha, fun p np => ?_⟩
      exact q _ _ (upd_same' np) (Rp.newLst st np (ra.cut lo hi))
end
end Net
end

section
set_option Elab.async false
set_option linter.all false
set_option maxRecDepth 100000
/-! N6: built-in functions of one value. -/
namespace Net
open PySem PySem.Spec PyProof.Rows L2
variable [TabL]

def B1.nm : B1 → Str
  | .len => "len" | .abs => "abs" | .int => "int" | .sum => "sum" | .all => "all" | .any => "any" | .tuple => "tuple" | .repr => "repr"
def B1.fn : B1 → Value
  | .len => .builtin "len" | .abs => .builtin "abs" | .int => .type "int" | .sum => .builtin "sum" | .all => .builtin "all" | .any => .builtin "any" | .tuple => .type "tuple" | .repr => .builtin "repr"

def rB1 (K : PySem.W.Frag) (g : Mem → D → Option D) : List V → Hp → VK → Prop := fun xs H Q => ∃ io R Bs M dx x d, xs = [x] ∧ St8 K io R Bs M H ∧ Rp K io R H dx x ∧ g M dx = some d ∧
  ∀ H' v, (∀ a o, H a = some o → H' a = some o) → rpE K R Bs io M H' d v → Q v H'
section
variable {X : Cx}
mutual
theorem pd0_noDict : ∀ {d : D} {p : PyData}, d.pd0 = some p → p.hasDict = false
  | .non, _, e => by cases e; rfl
  | .bl _, _, e => by cases e; rfl
  | .int _, _, e => by cases e; rfl
  | .str _, _, e => by cases e; rfl
  | .tup ds, _, e => by
    unfold D.pd0 at e
    cases q : D.pdL ds with
    | none => rw [q] at e; cases e
    | some ps => rw [q] at e; cases e; simp only [PyData.hasDict]; exact pdL_noDict q
  | .lst ds, _, e => by
    unfold D.pd0 at e
    cases q : D.pdL ds with
    | none => rw [q] at e; cases e
    | some ps => rw [q] at e; cases e; simp only [PyData.hasDict]; exact pdL_noDict q
  | .dic _, _, e => by cases e
  | .scr _, _, e => by cases e
  | .loc _, _, e => by cases e
theorem pdL_noDict : ∀ {ds : List D} {ps : List PyData}, D.pdL ds = some ps → PyData.hasDictAll ps = false
  | [], _, e => by cases e; rfl
  | d :: ds, _, e => by
    unfold D.pdL at e
    cases q : d.pd0 with
    | none => rw [q] at e; cases e
    | some p =>
      cases q2 : D.pdL ds with
      | none => rw [q, q2] at e; cases e
      | some ps => rw [q, q2] at e; cases e; simp only [PyData.hasDictAll, pd0_noDict q, pdL_noDict q2]; rfl
end
theorem pd_noDict {M : Mem} {d : D} {p : PyData} (e : d.pd M = some p) : p.hasDict = false := by
  cases d with
  | loc n =>
    unfold D.pd at e
    simp only at e
    split at e
    · rename_i ds hm
      cases q2 : D.pdL ds with
      | none => rw [q2] at e; cases e
      | some ps => rw [q2] at e; cases e; simp only [PyData.hasDict]; exact pdL_noDict q2
    · cases e
  | _ => exact pd0_noDict e
theorem repr_ok {pins : List (Addr × Obj)} {s : Shared} {σ : L2.St} {H : Hp} {v : V} {u : Value} {p : PyData} {Q : VK} (hg : X.A.guards = some []) (hu : X.A.units + 100 < cLine) (I : Inv X pins σ H s) (r : RelV v u) (h : Dp X.K H v p) (nd : p.hasDict = false) (hs : p.showable = true) (hd : p.depth ≤ 64) (hz : p.shown.length ≤ sizeLine)
    (q : Q (.str p.shown) H) : wpAny (model X.prog X.w) X.A (call (.builtin "repr") [u]) (EP X pins σ Q) X.xe s := by
  obtain ⟨as, rd⟩ := Dp.reads I p v u h r
  have fin : ∀ t, EP X pins σ Q (.str p.shown t) { s with toks := s.toks + 1 } := fun t => ⟨.str p.shown, H, I.tok _, ⟨t, rfl⟩, q⟩
  cases h with
  | non => cases r; exact PySem.P.repr_of_none (fin _)
  | bl b => cases r; refine PySem.P.repr_of_bool ?_; have := fin s.toks; simpa only [PyData.shown, apply_ite] using this
  | int i => obtain ⟨t, rfl⟩ := r; exact PySem.P.repr_of_int (by simpa [PyData.showable] using hs) (fin _)
  | str x => obtain ⟨t, rfl⟩ := r; exact PySem.P.repr_of_str (fin _) (by simpa only [PyData.shown] using hz)
  | lst _ _ => cases r; exact repr_of_reads' rd hs (PyData.noDict_hsm nd) hg (by omega) (fun _ _ e => e) (fun h' t tk k => ⟨.str _, H, I.kept (t' := tk) k, ⟨t, rfl⟩, q⟩) hz
  | tup _ _ => cases r; exact repr_of_reads' rd hs (PyData.noDict_hsm nd) hg (by omega) (fun _ _ e => e) (fun h' t tk k => ⟨.str _, H, I.kept (t' := tk) k, ⟨t, rfl⟩, q⟩) hz
/-- tuple(list) -/
theorem call_tupN {pins : List (Addr × Obj)} {s : Shared} {σ : L2.St} {H : Hp} {a : Addr} {xs : List V} {Q : VK} (I : Inv X pins σ H s) (ha : SqL X.K H a xs) (q : ∀ p o, H p = none → o.dict = none → Q (.ref p) (upd H p (.frz o (.tup xs)))) :
    wpAny (model X.prog X.w) X.A (call (.type "tuple") [.ref a]) (EP X pins σ Q) X.xe s := by
  obtain ⟨us, rv, pl, hz⟩ := I.list ha
  exact call_tuple_list pl.isList (fun h' kp => newT (I.kept (h' := h') (t' := s.toks) kp) hz rv q) (by rw [List.size_toArray, ← rv.length]; exact hz)
theorem call_b1 (hc : X.calm = true) (hg : X.A.guards = some []) (hu : X.A.units + 100 < cLine) (f : B1) : CallR X f.fn (rB1 X.K fun M => b1 M f) := by
  rintro pins s σ H xs us Q I rv ⟨io, R, Bs, M, dx, x, d, rfl, st, hx, e, q⟩
  have e : b1 M f dx = some d := e
  have fin : ∀ w, Rp X.K io R H d w → Q w H := fun w r => q H w (fun _ _ h => h) ⟨st, r⟩
  unfold b1 at e
  cases f with
  | len =>
    simp only at e
    unfold lenD at e
    split at e
    · rename_i ds e1
      cases e
      obtain ⟨a, vs, rfl, ha, ra⟩ := items_rp st hx e1
      refine call_len_seq pins s σ H _ us Q I rv ⟨a, vs, rfl, ha.imp SqL.of TupAt.sq, ?_⟩
      rw [← ra.length]; exact fin _ .int
    · split at e
      · rename_i kvs e1
        cases e
        obtain ⟨a, vs, rfl, ha, ra⟩ := dict_rp st hx e1
        refine call_lenD pins s σ H _ us Q I rv ⟨a, vs, rfl, ha, ?_⟩
        rw [← ra.length]; exact fin _ .int
      · split at e
        · cases hx
          split at e
          · rename_i hl; cases e
            exact call_len_str pins s σ H _ us Q I rv ⟨_, rfl, hl, fin _ .int⟩
          · cases e
        · cases e
  | abs =>
    simp only at e
    split at e
    · cases hx; cases e; exact call_abs pins s σ H _ us Q I rv ⟨_, rfl, fin _ .int⟩
    · cases e
  | int =>
    simp only at e
    split at e
    · cases hx; cases e; exact call_int1 pins s σ H _ us Q I rv (.inl ⟨_, rfl, fin _ .int⟩)
    · cases hx; cases e; exact call_int1 pins s σ H _ us Q I rv (.inr ⟨_, rfl, fin _ .int⟩)
    · cases e
  | sum =>
    simp only at e
    cases z : D.seq M dx with
    | none => rw [z] at e; cases e
    | some ds =>
      rw [z] at e
      have e : (intsOf ds).map (fun ns => D.int ns.sum) = some d := e
      cases z2 : intsOf ds with
      | none => rw [z2] at e; cases e
      | some ns =>
        rw [z2] at e; cases e
        obtain ⟨a, vs, rfl, ha, ra⟩ := seq_rp st hx z
        have ev := ra.ints z2
        subst ev
        exact cr_sum hc pins s σ H _ us Q I rv ⟨a, ns, rfl, SqL.of ha, fin _ .int⟩
  | all =>
    simp only at e
    cases z : D.seq M dx with
    | none => rw [z] at e; cases e
    | some ds =>
      rw [z] at e
      have e : (boolsOf ds).map (fun ns => D.bl (ns.all id)) = some d := e
      cases z2 : boolsOf ds with
      | none => rw [z2] at e; cases e
      | some ns =>
        rw [z2] at e; cases e
        obtain ⟨a, vs, rfl, ha, ra⟩ := seq_rp st hx z
        have ev := ra.bools z2
        subst ev
        exact cr_all hc pins s σ H _ us Q I rv ⟨a, ns, rfl, SqL.of ha, fin _ .bl⟩
  | any =>
    simp only at e
    cases z : D.seq M dx with
    | none => rw [z] at e; cases e
    | some ds =>
      rw [z] at e
      have e : (boolsOf ds).map (fun ns => D.bl (ns.any id)) = some d := e
      cases z2 : boolsOf ds with
      | none => rw [z2] at e; cases e
      | some ns =>
        rw [z2] at e; cases e
        obtain ⟨a, vs, rfl, ha, ra⟩ := seq_rp st hx z
        have ev := ra.bools z2
        subst ev
        exact cr_any hc pins s σ H _ us Q I rv ⟨a, ns, rfl, SqL.of ha, fin _ .bl⟩
  | tuple =>
    simp only at e
    cases z : D.items M dx with
    | none => rw [z] at e; cases e
    | some ds =>
      rw [z] at e; cases e
      obtain ⟨a, vs, rfl, ha, ra⟩ := items_rp st hx z
      cases hx with
      | tup h1 h2 h3 h4 =>
        cases z
        exact call_tuple_of pins s σ H _ us Q I rv ⟨_, _, rfl, .inr ⟨h3.sq, fin _ (.tup h1 h2 h3 h4)⟩⟩
      | lst h1 h2 h3 h4 =>
        obtain ⟨a', vs', e1, e2, e3⟩ := seq_rp st (.lst h1 h2 h3 h4) (show D.seq M _ = some ds from z)
        cases e1
        rw [Vals.ref1 rv]; exact call_tupN I (SqL.of e2) fun p o np hd => q _ _ (upd_same' np) (Rp.newTup st np hd e3)
      | loc h =>
        obtain ⟨a', vs', e1, e2, e3⟩ := seq_rp st (.loc h) (show D.seq M _ = some ds from z)
        cases e1
        rw [Vals.ref1 rv]; exact call_tupN I (SqL.of e2) fun p o np hd => q _ _ (upd_same' np) (Rp.newTup st np hd e3)
      | _ => cases z
  | repr =>
    simp only at e
    cases z : D.pd M dx with
    | none => rw [z] at e; cases e
    | some p =>
      rw [z] at e
      have e : (if p.showable = true ∧ p.depth ≤ 64 ∧ p.shown.length ≤ sizeLine then some (D.str p.shown) else none) = some d := e
      split at e
      · rename_i hh
        cases e
        obtain ⟨u, rfl, ru⟩ := Vals.one rv
        exact repr_ok hg hu I ru (pd_rp st hx z) (pd_noDict z) hh.1 hh.2.1 hh.2.2 (fin _ .str)
      · cases e
end
end Net
end

section
set_option Elab.async false
set_option linter.all false
set_option maxRecDepth 100000
/-! N7: expressions of parts. -/
namespace Net
open PySem PySem.Spec PyProof.Rows L2
variable [TabL]

section
variable {c : Ct} {X : Cx} {a b e : Expr} {ea eb ee ec : E} {pos : Pos}

/-! ### values -/
theorem se_bin (ok : COk c X) (op : BOp) (ha : PE X a (tE c ea)) (hb : PE X b (tE c eb)) : PE X (.BinOp a op.py b pos) (tE c (.bin op ea eb)) :=
  PE_imp (pe_op (op_bop op) ha hb) fun σ H Q ⟨base, io, R, Bs, ρ, M, a, h⟩ => by
    unfold ev at h
    refine tE_bind a h fun x H1 io1 M1 dx x1 a1 r1 h1 => ?_
    refine tE_bind a1 h1 fun y H2 io2 M2 dy x2 a2 r2 h2 => ?_
    obtain ⟨d, e, q⟩ := h2.of
    rw [ok.K]
    exact ⟨io2, R, Bs, M2, dx, dy, d, a2.st, r1.tr x2.tr, r2, e, fun H' v g r => q io2 H' v (.same g) r⟩
theorem se_neg (ha : PE X a (tE c ea)) : PE X (.UnaryOp .USub a pos) (tE c (.neg ea)) :=
  PE_imp (pe_un un_neg ha) fun σ H Q ⟨base, io, R, Bs, ρ, M, a, h⟩ => by
    unfold ev at h
    refine tE_bind a h fun x H1 io1 M1 dx x1 a1 r1 h1 => ?_
    split at h1
    · cases r1; exact ⟨_, rfl, h1.fin ⟨a1.st, .int⟩⟩
    · exact h1.elim
theorem se_not (ha : PE X a (tE c ea)) : PE X (.UnaryOp .Not a pos) (tE c (.not ea)) :=
  PE_imp (pe_not ha) fun σ H Q ⟨base, io, R, Bs, ρ, M, a, h⟩ => by
    unfold ev at h
    refine tE_bind a h fun x H1 io1 M1 dx x1 a1 r1 h1 => ?_
    split at h1
    · cases r1; exact ⟨_, rfl, h1.fin ⟨a1.st, .bl⟩⟩
    · exact h1.elim
theorem se_cmp (ok : COk c X) (op : COp) (ha : PE X a (tE c ea)) (hb : PE X b (tE c eb)) (hm : behindInMarks op.py b = false) : PE X (.Compare a [op.py] [b] pos) (tE c (.cmp op ea eb)) :=
  PE_imp (pe_cmpR (op_cop op (by have := ok.un; omega)) ha hb hm) fun σ H Q ⟨base, io, R, Bs, ρ, M, a, h⟩ => by
    unfold ev at h
    refine tE_bind a h fun x H1 io1 M1 dx x1 a1 r1 h1 => ?_
    refine tE_bind a1 h1 fun y H2 io2 M2 dy x2 a2 r2 h2 => ?_
    obtain ⟨d, e, q⟩ := h2.of
    cases z : cop M2 op dx dy with
    | none => rw [z] at e; cases e
    | some k =>
      rw [z] at e; cases e
      rw [ok.K]
      exact ⟨io2, R, Bs, M2, dx, dy, k, a2.st, r1.tr x2.tr, r2, z, q io2 _ _ .refl ⟨a2.st, .bl⟩⟩
theorem se_ix (ok : COk c X) (ha : PE X a (tE c ea)) (hb : PE X b (tE c eb)) (hs : PlainIx b) : PE X (.Subscript a b pos) (tE c (.ix ea eb)) :=
  PE_imp (pe_ix (ix_D (by have := ok.un; omega)) ha hb hs) fun σ H Q ⟨base, io, R, Bs, ρ, M, a, h⟩ => by
    unfold ev at h
    refine tE_bind a h fun x H1 io1 M1 dx x1 a1 r1 h1 => ?_
    refine tE_bind a1 h1 fun y H2 io2 M2 dy x2 a2 r2 h2 => ?_
    obtain ⟨d, e, q⟩ := h2.of
    rw [ok.K]
    exact ⟨io2, R, Bs, M2, dx, dy, d, a2.st, r1.tr x2.tr, r2, e, fun H' v g r => q io2 H' v (.same g) r⟩
/-- a slice's part: nothing, or an int -/
def tPo (c : Ct) (e : Po) : TO := fun σ H Q => ∃ base io R Bs ρ M, At c.K io R Bs base ρ M σ H ∧ Post c.cl c.K R Bs io H (fun io M H o o' => St8 c.K io R Bs M H ∧ o' = o) (fun k dx H => c.W k dx σ H) Q (evP c.F base e ρ M)
theorem PO_imp {X : Cx} {e : Option Expr} {t t' : TO} (h : PO X e t) (q : ∀ σ H Q, t' σ H Q → t σ H Q) : PO X e t' := ⟨fun pins s σ H Q I z => h.run pins s σ H Q I (q σ H Q z)⟩
theorem sp_no : PO X none (tPo c .no) := PO_imp po_none fun σ H Q ⟨base, io, R, Bs, ρ, M, a, h⟩ => by
  unfold evP at h; exact h.fin ⟨a.st, rfl⟩
theorem sp_at (hb : PE X b (tE c eb)) : PO X (some b) (tPo c (.at eb)) := PO_imp (po_some hb) fun σ H Q ⟨base, io, R, Bs, ρ, M, a, h⟩ => by
  unfold evP at h
  refine tE_bind a h fun x H1 io1 M1 dx x1 a1 r1 h1 => ?_
  split at h1
  · cases r1; exact ⟨_, rfl, h1.fin ⟨a1.st, rfl⟩⟩
  · exact h1.elim
theorem tP_bind {base : Nat} {io R : List Addr} {Bs : List Nat} {ρ : Fr} {M : Mem} {σ : L2.St} {H : Hp} {γ δ : Type} {rp2 : List Addr → Mem → Hp → γ → δ → Prop} {Q : δ → Hp → Prop} {e : Po} {f : Option Int → Mem → Rs γ}
    (a : At c.K io R Bs base ρ M σ H) (h : Post c.cl c.K R Bs io H rp2 (fun k dx H => c.W k dx σ H) Q ((evP c.F base e ρ M).bind f)) {Q' : Option Int → Hp → Prop}
    (q : ∀ o H1 io1 M1, Ext io H io1 H1 → At c.K io1 R Bs base ρ M1 σ H1 → Post c.cl c.K R Bs io1 H1 rp2 (fun k dx H => c.W k dx σ H) Q (f o M1) → Q' o H1) : tPo c e σ H Q' :=
  ⟨base, io, R, Bs, ρ, M, a, Post.imp (Post.bind (rp := fun io M H o o' => St8 c.K io R Bs M H ∧ o' = o) h) fun v H1 ⟨io1, M1, d, x, ⟨s, r⟩, p⟩ => by subst r; exact q v H1 io1 M1 x (a.to x s) p⟩
theorem se_sl {lo hi : Option Expr} {elo ehi : Po} {p2 : Pos} (ok : COk c X) (ha : PE X a (tE c ea)) (hl : PO X lo (tPo c elo)) (hh : PO X hi (tPo c ehi)) : PE X (.Subscript a (.Slice lo hi none p2) pos) (tE c (.sl ea elo ehi)) :=
  PE_imp (pe_slice sl_D ha hl hh) fun σ H Q ⟨base, io, R, Bs, ρ, M, a, h⟩ => by
    unfold ev at h
    refine tE_bind a h fun x H1 io1 M1 dx x1 a1 r1 h1 => ?_
    refine tP_bind a1 h1 fun l H2 io2 M2 x2 a2 h2 => ?_
    refine tP_bind a2 h2 fun l H3 io3 M3 x3 a3 h3 => ?_
    obtain ⟨d, e, q⟩ := h3.of
    rw [ok.K]
    exact ⟨io3, R, Bs, M3, dx, d, a3.st, (r1.tr x2.tr).tr x3.tr, e, fun H' v g r => q io3 H' v (.same g) r⟩
theorem sc_sl {lo hi : Option Expr} {elo ehi : Po} {p2 : Pos} (ok : COk c X) (ha : PE X a (tE c ea)) (hl : PO X lo (tPo c elo)) (hh : PO X hi (tPo c ehi)) : PE X (.Subscript a (.Slice lo hi none p2) pos) (tCe c (.sl ea elo ehi)) :=
  PE_imp (pe_slice sl_list ha hl hh) fun σ H Q ⟨base, io, R, Bs, ρ, M, a, h⟩ => by
    unfold evC at h
    refine tE_bind a h fun x H1 io1 M1 dx x1 a1 r1 h1 => ?_
    refine tP_bind a1 h1 fun l H2 io2 M2 x2 a2 h2 => ?_
    refine tP_bind a2 h2 fun l H3 io3 M3 x3 a3 h3 => ?_
    split at h3
    · rename_i ds e
      obtain ⟨p, vs, rfl, hp, rp⟩ := seq_rp a3.st ((r1.tr x2.tr).tr x3.tr) e
      rw [ok.K]
      exact ⟨p, vs, rfl, SqL.of hp, fun q nq => h3.fin2 nq (newLstC a3.st nq (((x1.trans x2).trans x3).none a3.st nq) (rp.cut _ _))⟩
    · exact h3.elim
theorem sc_cat (ha : PE X a (tE c ea)) (hb : PE X b (tE c eb)) : PE X (.BinOp a .Add b pos) (tCe c (.cat ea eb)) :=
  PE_imp (pe_op op_cat ha hb) fun σ H Q ⟨base, io, R, Bs, ρ, M, a, h⟩ => by
    unfold evC at h
    refine tE_bind a h fun x H1 io1 M1 dx x1 a1 r1 h1 => ?_
    refine tE_bind a1 h1 fun y H2 io2 M2 dy x2 a2 r2 h2 => ?_
    split at h2
    · rename_i ds es e1 e2
      obtain ⟨p, vs, rfl, hp, rp⟩ := seq_rp a2.st (r1.tr x2.tr) e1
      obtain ⟨p', vs', rfl, hp', rp'⟩ := seq_rp a2.st r2 e2
      obtain ⟨d, e, q⟩ := h2.of
      unfold cat at e
      split at e
      · rename_i hl
        cases e
        exact ⟨p, p', vs, vs', rfl, rfl, hp, hp', by rw [← rp.length, ← rp'.length]; exact hl, fun u nu => q io2 _ _ (.upd nu) (newLstC a2.st nu ((x1.trans x2).none a2.st nu) (rp.append rp'))⟩
      · cases e
    · exact h2.elim

/-! ### tests -/
theorem st_val (ha : PE X a (tE c ea)) (he : ∀ whole, isTrue a X.env whole = (do let v ← whole; standAt a.pos; holding [v] (truthy v))) : PT X a (tT c ea) :=
  PT_imp (pt_val ha he) fun σ H Q ⟨base, io, R, Bs, ρ, M, a, h⟩ => ⟨base, io, R, Bs, ρ, M, a, h⟩
theorem st_not (ha : PT X a (tT c ea)) : PT X (.UnaryOp .Not a pos) (tT c (.not ea)) :=
  PT_imp (pt_not ha) fun σ H Q ⟨base, io, R, Bs, ρ, M, a, h⟩ => by
    unfold ev at h
    refine tT_bind a h (fun d M hn => ?_) fun b H1 io1 M1 x1 a1 h1 => ?_
    · split
      · exact absurd rfl (hn _)
      · rfl
    · obtain ⟨b', e, q⟩ := h1.fin (b := .bl (!b)) ⟨a1.st, .bl⟩
      cases e; exact q
theorem st_cmp (ok : COk c X) (op : COp) (ha : PE X a (tE c ea)) (hb : PE X b (tE c eb)) (hm : behindInMarks op.py b = false) : PT X (.Compare a [op.py] [b] pos) (tT c (.cmp op ea eb)) :=
  PT_imp (pt_cmpR (op_cop op (by have := ok.un; omega)) ha hb hm) fun σ H Q ⟨base, io, R, Bs, ρ, M, a, h⟩ => by
    unfold ev at h
    refine tE_bind a h fun x H1 io1 M1 dx x1 a1 r1 h1 => ?_
    refine tE_bind a1 h1 fun y H2 io2 M2 dy x2 a2 r2 h2 => ?_
    obtain ⟨d, e, q⟩ := h2.of
    cases z : cop M2 op dx dy with
    | none => rw [z] at e; cases e
    | some k =>
      rw [z] at e; cases e
      rw [ok.K]
      exact ⟨io2, R, Bs, M2, dx, dy, k, a2.st, r1.tr x2.tr, r2, z, q io2 _ _ .refl ⟨a2.st, .bl⟩⟩
/-- a < b < c: both comparisons over one store -/
theorem chain_in {base : Nat} {io R : List Addr} {Bs : List Nat} {ρ : Fr} {M : Mem} {σ : L2.St} {H : Hp} (ok : COk c X) (op op2 : COp) {Q : VK} (a : At c.K io R Bs base ρ M σ H)
    (h : Post c.cl c.K R Bs io H (rpE c.K R Bs) (fun k dx H => c.W k dx σ H) Q (ev c.F base (.cmp2 op op2 ea eb ec) ρ M)) :
    tChain (rC X.K op) (rC X.K op2) (tE c ea) (tE c eb) (tE c ec) σ H Q := by
  unfold ev at h
  refine tE_bind a h fun x H1 io1 M1 dx x1 a1 r1 h1 => ?_
  refine tE_bind a1 h1 fun y H2 io2 M2 dy x2 a2 r2 h2 => ?_
  rw [ok.K]
  split at h2
  · rename_i z
    refine ⟨io2, R, Bs, M2, dx, dy, true, a2.st, r1.tr x2.tr, r2, z, true, rfl, iteT ?_⟩
    refine tE_bind a2 h2 fun w H3 io3 M3 dz x3 a3 r3 h3 => ?_
    obtain ⟨d, e, q⟩ := h3.of
    cases z2 : cop M3 op2 dy dz with
    | none => rw [z2] at e; cases e
    | some k =>
      rw [z2] at e; cases e
      exact ⟨io3, R, Bs, M3, dy, dz, k, a3.st, r2.tr x3.tr, r3, z2, q io3 _ _ .refl ⟨a3.st, .bl⟩⟩
  · rename_i z
    exact ⟨io2, R, Bs, M2, dx, dy, false, a2.st, r1.tr x2.tr, r2, z, false, rfl, iteF (h2.fin ⟨a2.st, .bl⟩)⟩
  · exact h2.elim
theorem se_cmp2 {d : Expr} (ok : COk c X) (op op2 : COp) (ha : PE X a (tE c ea)) (hb : PE X b (tE c eb)) (hc : PE X d (tE c ec)) (hm : lastMarks [op.py, op2.py] [b, d] = false) : PE X (.Compare a [op.py, op2.py] [b, d] pos) (tE c (.cmp2 op op2 ea eb ec)) :=
  PE_imp (pe_chain (op_cop op (by have := ok.un; omega)) (op_cop op2 (by have := ok.un; omega)) ha hb hc hm) fun σ H Q ⟨base, io, R, Bs, ρ, M, a, h⟩ => chain_in ok op op2 a h
theorem st_cmp2 {d : Expr} (ok : COk c X) (op op2 : COp) (ha : PE X a (tE c ea)) (hb : PE X b (tE c eb)) (hc : PE X d (tE c ec)) (hm : lastMarks [op.py, op2.py] [b, d] = false) : PT X (.Compare a [op.py, op2.py] [b, d] pos) (tT c (.cmp2 op op2 ea eb ec)) :=
  PT_imp (pt_chain (op_cop op (by have := ok.un; omega)) (op_cop op2 (by have := ok.un; omega)) ha hb hc hm) fun σ H Q ⟨base, io, R, Bs, ρ, M, a, h⟩ => chain_in ok op op2 a h

/-! ### and, or, if -/
def tAn (c : Ct) (es : Es) : TE := fun σ H Q => ∃ base io R Bs ρ M, At c.K io R Bs base ρ M σ H ∧ Post c.cl c.K R Bs io H (rpE c.K R Bs) (fun k dx H => c.W k dx σ H) Q (evAnd c.F base es ρ M)
def tOn (c : Ct) (es : Es) : TE := fun σ H Q => ∃ base io R Bs ρ M, At c.K io R Bs base ρ M σ H ∧ Post c.cl c.K R Bs io H (rpE c.K R Bs) (fun k dx H => c.W k dx σ H) Q (evOr c.F base es ρ M)
def tAnT (c : Ct) (es : Es) : TT := fun σ H Q => tAn c es σ H fun v H => ∃ b, v = .bl b ∧ Q b H
def tOnT (c : Ct) (es : Es) : TT := fun σ H Q => tOn c es σ H fun v H => ∃ b, v = .bl b ∧ Q b H
section
variable {rest : List Expr} {ees : Es} {e1 : E}
theorem evAnd_one {F : Nat → List D → Mem → Rs D} {base : Nat} {ρ : Fr} {M : Mem} : evAnd F base (.cons e1 .nil) ρ M = ev F base e1 ρ M := by rw [evAnd]
theorem evOr_one {F : Nat → List D → Mem → Rs D} {base : Nat} {ρ : Fr} {M : Mem} : evOr F base (.cons e1 .nil) ρ M = ev F base e1 ρ M := by rw [evOr]
theorem evAnd_more {F : Nat → List D → Mem → Rs D} {base : Nat} {ρ : Fr} {M : Mem} : evAnd F base (.cons ea (.cons eb ees)) ρ M = (ev F base ea ρ M).bind fun d M => match d with
    | .bl true => evAnd F base (.cons eb ees) ρ M
    | .bl false => .ok (.bl false) M
    | _ => .bad := by rw [evAnd] <;> first | rfl | (intro h; cases h)
theorem evOr_more {F : Nat → List D → Mem → Rs D} {base : Nat} {ρ : Fr} {M : Mem} : evOr F base (.cons ea (.cons eb ees)) ρ M = (ev F base ea ρ M).bind fun d M => match d with
    | .bl false => evOr F base (.cons eb ees) ρ M
    | .bl true => .ok (.bl true) M
    | _ => .bad := by rw [evOr] <;> first | rfl | (intro h; cases h)
theorem sv_and1 (ha : PE X a (tE c ea)) : PE X (.BoolOp .And [a] pos) (tAn c (.cons ea .nil)) := PE_imp (pe_one ha) fun σ H Q ⟨base, io, R, Bs, ρ, M, a, h⟩ => by
  rw [evAnd_one] at h; exact ⟨base, io, R, Bs, ρ, M, a, h⟩
theorem sv_or1 (ha : PE X a (tE c ea)) : PE X (.BoolOp .Or [a] pos) (tOn c (.cons ea .nil)) := PE_imp (pe_one ha) fun σ H Q ⟨base, io, R, Bs, ρ, M, a, h⟩ => by
  rw [evOr_one] at h; exact ⟨base, io, R, Bs, ρ, M, a, h⟩
theorem sv_and (ha : PE X a (tE c ea)) (hb : PE X (.BoolOp .And (b :: rest) pos) (tAn c (.cons eb ees))) : PE X (.BoolOp .And (a :: b :: rest) pos) (tAn c (.cons ea (.cons eb ees))) :=
  PE_imp (pe_and ha hb) fun σ H Q ⟨base, io, R, Bs, ρ, M, a, h⟩ => by
    rw [evAnd_more] at h
    refine tE_bind a h fun x H1 io1 M1 dx x1 a1 r1 h1 => ?_
    split at h1
    · cases r1; exact ⟨true, rfl, iteT ⟨base, io1, R, Bs, ρ, M1, a1, h1⟩⟩
    · cases r1; exact ⟨false, rfl, iteF (h1.fin ⟨a1.st, .bl⟩)⟩
    · exact h1.elim
theorem sv_or (ha : PE X a (tE c ea)) (hb : PE X (.BoolOp .Or (b :: rest) pos) (tOn c (.cons eb ees))) : PE X (.BoolOp .Or (a :: b :: rest) pos) (tOn c (.cons ea (.cons eb ees))) :=
  PE_imp (pe_or ha hb) fun σ H Q ⟨base, io, R, Bs, ρ, M, a, h⟩ => by
    rw [evOr_more] at h
    refine tE_bind a h fun x H1 io1 M1 dx x1 a1 r1 h1 => ?_
    split at h1
    · cases r1; exact ⟨false, rfl, iteF ⟨base, io1, R, Bs, ρ, M1, a1, h1⟩⟩
    · cases r1; exact ⟨true, rfl, iteT (h1.fin ⟨a1.st, .bl⟩)⟩
    · exact h1.elim
theorem sw_and1 (ha : PT X a (tT c ea)) : PW X (.BoolOp .And [a] pos) (tAnT c (.cons ea .nil)) := ⟨fun wh pins s σ H Q I ⟨base, io, R, Bs, ρ, M, a, h⟩ => by
  rw [evAnd_one] at h; exact (pw_and1 ha).run wh pins s σ H Q I ⟨base, io, R, Bs, ρ, M, a, h⟩⟩
theorem sw_or1 (ha : PT X a (tT c ea)) : PW X (.BoolOp .Or [a] pos) (tOnT c (.cons ea .nil)) := ⟨fun wh pins s σ H Q I ⟨base, io, R, Bs, ρ, M, a, h⟩ => by
  rw [evOr_one] at h; exact (pw_or1 ha).run wh pins s σ H Q I ⟨base, io, R, Bs, ρ, M, a, h⟩⟩
theorem sw_and (ha : PT X a (tT c ea)) (hb : PW X (.BoolOp .And (b :: rest) pos) (tAnT c (.cons eb ees))) : PW X (.BoolOp .And (a :: b :: rest) pos) (tAnT c (.cons ea (.cons eb ees))) :=
  ⟨fun wh pins s σ H Q I ⟨base, io, R, Bs, ρ, M, a, h⟩ => (pw_and ha hb).run wh pins s σ H Q I (by
    rw [evAnd_more] at h
    refine tT_bind a h (fun d M hn => ?_) fun k H1 io1 M1 x1 a1 h1 => ?_
    · split
      · exact absurd rfl (hn _)
      · exact absurd rfl (hn _)
      · rfl
    · cases k with
      | true => exact iteT ⟨base, io1, R, Bs, ρ, M1, a1, h1⟩
      | false =>
        obtain ⟨b', e, q⟩ := h1.fin (b := .bl false) ⟨a1.st, .bl⟩
        cases e; exact iteF q)⟩
theorem sw_or (ha : PT X a (tT c ea)) (hb : PW X (.BoolOp .Or (b :: rest) pos) (tOnT c (.cons eb ees))) : PW X (.BoolOp .Or (a :: b :: rest) pos) (tOnT c (.cons ea (.cons eb ees))) :=
  ⟨fun wh pins s σ H Q I ⟨base, io, R, Bs, ρ, M, a, h⟩ => (pw_or ha hb).run wh pins s σ H Q I (by
    rw [evOr_more] at h
    refine tT_bind a h (fun d M hn => ?_) fun k H1 io1 M1 x1 a1 h1 => ?_
    · split
      · exact absurd rfl (hn _)
      · exact absurd rfl (hn _)
      · rfl
    · cases k with
      | false => exact iteF ⟨base, io1, R, Bs, ρ, M1, a1, h1⟩
      | true =>
        obtain ⟨b', e, q⟩ := h1.fin (b := .bl true) ⟨a1.st, .bl⟩
        cases e; exact iteT q)⟩
theorem se_and {vs : List Expr} (h : PE X (.BoolOp .And vs pos) (tAn c ees)) : PE X (.BoolOp .And vs pos) (tE c (.and ees)) := PE_imp h fun σ H Q ⟨base, io, R, Bs, ρ, M, a, h⟩ => by
  unfold ev at h; exact ⟨base, io, R, Bs, ρ, M, a, h⟩
theorem se_or {vs : List Expr} (h : PE X (.BoolOp .Or vs pos) (tOn c ees)) : PE X (.BoolOp .Or vs pos) (tE c (.or ees)) := PE_imp h fun σ H Q ⟨base, io, R, Bs, ρ, M, a, h⟩ => by
  unfold ev at h; exact ⟨base, io, R, Bs, ρ, M, a, h⟩
theorem st_and {vs : List Expr} (h : PW X (.BoolOp .And vs pos) (tAnT c ees)) : PT X (.BoolOp .And vs pos) (tT c (.and ees)) := PT_imp h.pt fun σ H Q ⟨base, io, R, Bs, ρ, M, a, h⟩ => by
  unfold ev at h; exact ⟨base, io, R, Bs, ρ, M, a, h⟩
theorem st_or {vs : List Expr} (h : PW X (.BoolOp .Or vs pos) (tOnT c ees)) : PT X (.BoolOp .Or vs pos) (tT c (.or ees)) := PT_imp h.pt fun σ H Q ⟨base, io, R, Bs, ρ, M, a, h⟩ => by
  unfold ev at h; exact ⟨base, io, R, Bs, ρ, M, a, h⟩
end
theorem se_ite {d : Expr} (hc : PT X d (tT c ec)) (ha : PE X a (tE c ea)) (hb : PE X b (tE c eb)) : PE X (.IfExp d a b pos) (tE c (.ite ec ea eb)) :=
  PE_imp (pe_ifExp hc ha hb) fun σ H Q ⟨base, io, R, Bs, ρ, M, a, h⟩ => by
    unfold ev at h
    refine tT_bind a h (fun d M hn => ?_) fun k H1 io1 M1 x1 a1 h1 => ?_
    · split
      · exact absurd rfl (hn _)
      · exact absurd rfl (hn _)
      · rfl
    · cases k with
      | true => exact iteT ⟨base, io1, R, Bs, ρ, M1, a1, h1⟩
      | false => exact iteF ⟨base, io1, R, Bs, ρ, M1, a1, h1⟩

/-! ### built-in functions of one value -/
theorem se_b1 {x : Str} {p : Pos} (ok : COk c X) (gd : X.A.guards = some []) (f : B1) (hx : x = f.nm) (hg : Gl X x) (hm : X.mg x = none) (hv : bootBuiltins x = some f.fn) (ha : PE X a (tE c ea)) (hn : x ≠ "__name__") (hdb : (x == ("__debug__" : Str)) = false)
    (hs : starEach (a :: []) X.env = (false, eval a X.env) :: starEach [] X.env) : PE X (.Call (.Name x p) [a] [] pos) (tE c (.b1 f ea)) := by
  have key : ∀ {r}, PE X (.Call (.Name x p) [a] [] pos) (tCB r (tCons (tE c ea) tNil)) → r = rB1 X.K (fun M => b1 M f) → PE X (.Call (.Name x p) [a] [] pos) (tE c (.b1 f ea)) := fun {r} h er => PE_imp h fun σ H Q ⟨base, io, R, Bs, ρ, M, a, h⟩ => by
    unfold ev at h
    refine tE_bind a h fun x H1 io1 M1 dx x1 a1 r1 h1 => ?_
    obtain ⟨d, e, q⟩ := h1.of
    rw [er, ok.K]
    exact ⟨io1, R, Bs, M1, dx, x, d, rfl, a1.st, r1, e, fun H' v g r => q io1 H' v (.same g) r⟩
  have hc := call_b1 (X := X) ok.calm gd (by have := ok.un; omega) f
  cases f
  case int => exact key (pe_callTy hc hg hm hv (pa_cons ha pa_nil hs) hn hdb hs) rfl
  case tuple => exact key (pe_callTy hc hg hm hv (pa_cons ha pa_nil hs) hn hdb hs) rfl
  all_goals exact key (pe_callB hc hg hm hv (pa_cons ha pa_nil hs) hn hdb hs) rfl
end
end Net
end

section
set_option Elab.async false
set_option linter.all false
set_option maxRecDepth 100000
/-! N8: what is walked: lists and tuples alike, enumerate of a tuple, zip of any two of these. -/
namespace Net
open PySem PySem.Spec PyProof.Rows L2
variable [TabL]
open AutoSeq1 (wpAny_loadPart')

/-! ### enumerate(tuple) -/
theorem meets_enumT (l : Addr) (items : Array Value) (n : Nat) (dct : Option Addr) (sl : Array (Option Value)) :
    Meets (Builtin.«enumerate.__new__» ⟨[.type "enumerate", .ref l], []⟩) (fun _ R s => s.heap.get? l = some { cls := .type "tuple", dict := dct, data := .seq items n, slots := sl } ∧
      R (.ok (.ret (.ref (s.heap.push { cls := .type "tuple_iterator", data := .fields #[.ref l, .int 0 0] }).objs.size)))
        { s with heap := (s.heap.push { cls := .type "tuple_iterator", data := .fields #[.ref l, .int 0 0] }).push { cls := .type "enumerate", data := .fields #[.none, .bool false, .ref s.heap.objs.size, rawInt 0, .none, .none] } }) :=
  .of_wp fun prog w A R s hyp => by
    obtain ⟨h0, g0, d0, t0, o0⟩ := s; obtain ⟨hl, hyp⟩ := hyp
    have hsub := sub_enumerate
    have isT : Heap.IsTuple (Shared.heap ⟨h0, g0, d0, t0, o0⟩) l items := ⟨_, hl, rfl, n, rfl⟩
    wp_walk using wpAny_loadPart' hl
    refine wpAny_stack_any fun st => wpAny_pure ?_
    split
    · rename_i cc _ _ _ _ _
      cases (cc == Value.type "enumerate") <;> (wp_walk using wpAny_loadPart' hl, wpAny_pyIter_tuple isT; exact ⟨_, rfl, hyp⟩)
    · (wp_walk using wpAny_loadPart' hl, wpAny_pyIter_tuple isT; exact ⟨_, rfl, hyp⟩)
section
variable {prog : Program} {w : World} {A : Around} {E : Value → Shared → Prop} {s : Shared}
theorem call_enumT {l : Addr} {items : Array Value} {Q : Value → Shared → Prop} (hL : IsTup s.heap l items)
    (h : ∀ h', IsEnum h' (s.heap.objs.size + 1) s.heap.objs.size 0 .none → h'.IsTupleIter s.heap.objs.size l 0 → (∀ b o, s.heap.get? b = some o → h'.get? b = some o) → Q (.ref (s.heap.objs.size + 1)) { s with heap := h' }) :
    wpAny (model prog w) A (call (.type "enumerate") [.ref l]) Q E s := by
  obtain ⟨⟨c0, dct, dt, sl⟩, hl, hc0, n, hd0⟩ := hL
  replace hc0 : c0 = .type "tuple" := hc0
  replace hd0 : dt = .seq items n := hd0
  subst hc0 hd0
  refine callType_new F.called_enumerate (by decide) (F.typeCall_enumerate_1 _) (F.newCall_enumerate_1 _) (fun obj => F.args_object_init_2 obj _) F.entry_enumerate_new (meets_enumT l items n dct sl) ⟨hl, ?_⟩
  generalize ho1 : ({ cls := .type "tuple_iterator", data := .fields #[.ref l, .int 0 0] } : Obj) = o1
  have f1 : o1.isFreed = false := by rw [← ho1]; rfl
  have hz : (s.heap.push o1).objs.size = s.heap.objs.size + 1 := Heap.size_push ..
  show _ ∧ _
  rw [hz]
  generalize ho2 : ({ cls := .type "enumerate", data := .fields #[.none, .bool false, .ref s.heap.objs.size, rawInt 0, .none, .none] } : Obj) = o2
  have he : ((s.heap.push o1).push o2).get? (s.heap.objs.size + 1) = some o2 := by rw [← hz]; exact Heap.get?_push_size _ (by rw [← ho2]; rfl)
  have he' : IsEnum ((s.heap.push o1).push o2) (s.heap.objs.size + 1) s.heap.objs.size 0 .none := by rw [← ho2] at he ⊢; exact he
  exact ⟨⟨_, he, by rw [← ho2]⟩, h _ he' ⟨_, Heap.get?_push_of_some _ (Heap.get?_push_size _ f1), by rw [← ho1], by rw [← ho1]; rfl⟩ fun b o x => Heap.get?_push_of_some _ (Heap.get?_push_of_some _ x)⟩
end
/-- true: a tuple; false: a list -/
def SqB (K : PySem.W.Frag) (H : Hp) (a : Addr) (xs : List V) : Bool → Prop
  | true => SqT K H a xs
  | false => SqL K H a xs
def HeapIs (h : Heap) (a : Addr) (its : Array Value) : Bool → Prop
  | true => h.IsTuple a its
  | false => h.IsList a its
def IterIs (h : Heap) (it a : Addr) (i : Nat) : Bool → Prop
  | true => h.IsTupleIter it a i
  | false => h.IsListIter it a i
def iterO (a : Addr) : Bool → Obj
  | true => { cls := .type "tuple_iterator", data := .fields #[.ref a, .int 0 0] }
  | false => { cls := .type "list_iterator", data := .fields #[.ref a, .int 0 0] }
section
variable {X : Cx} {pins : List (Addr × Obj)} {σ : L2.St} {H : Hp} {s : Shared} {a : Addr} {xs ys : List V}
theorem side_inv (I : Inv X pins σ H s) : ∀ {t : Bool}, SqB X.K H a xs t → ∃ its : List Value, Vals xs its ∧ HeapIs s.heap a its.toArray t ∧ a < s.heap.objs.size
  | true, h => by
    obtain ⟨its, rv, p, _⟩ := I.tuple (show SqT X.K H a xs from h)
    have hl := p.lt
    exact ⟨its, rv, p, hl⟩
  | false, h => by
    obtain ⟨its, rv, p, _⟩ := I.list (show SqL X.K H a xs from h)
    exact ⟨its, rv, p.isList, p.lt⟩
theorem side_inj (I : Inv X pins σ H s) : ∀ {t : Bool}, SqB X.K H a xs t → SqB X.K H a ys t → xs = ys
  | true, h, h' => I.tuple_inj h h'
  | false, h, h' => I.list_inj h h'
end
theorem side_draws {prog : Program} {w : World} {A : Around} (hh : A.handled = none) (it a : Addr) (hne : a ≠ it) (items : Array Value) : ∀ t : Bool,
    Draws prog w A it [it, a] items.size (fun i v => items[i]? = some v) (fun i h => IterIs h it a i t ∧ HeapIs h a items t)
  | true => .tuple hh it a hne items
  | false => .list hh it a hne items
theorem side_begins (a : Addr) (items : Array Value) : ∀ t : Bool, Begins (.ref a) (iterO a t) fun h => HeapIs h a items t
  | true => begins_tuple a items
  | false => begins_list a items
theorem iter_obj {h : Heap} {it a : Addr} {i : Nat} : ∀ {t : Bool}, IterIs h it a i t → ∃ o, h.get? it = some o ∧ ∀ v, o.data ≠ .cell v
  | true, ⟨o, e, _, d⟩ => ⟨o, e, fun v q => by rw [d] at q; cases q⟩
  | false, ⟨o, e, _, d⟩ => ⟨o, e, fun v q => by rw [d] at q; cases q⟩
theorem iter_keep {h h' : Heap} {it a : Addr} {i : Nat} (k : ∀ o, h.get? it = some o → h'.get? it = some o) : ∀ {t : Bool}, IterIs h it a i t → IterIs h' it a i t
  | true, q => Heap.IsTupleIter.at q k
  | false, q => Heap.IsListIter.at q k
theorem iter_new {h : Heap} {it a : Addr} : ∀ {t : Bool}, h.get? it = some (iterO a t) → IterIs h it a 0 t
  | true, e => ⟨_, e, rfl, rfl⟩
  | false, e => ⟨_, e, rfl, rfl⟩

/-- a new pair -/
def YPairN (xs ys : Nat → Option V) : Nat → Hp → V → Hp → Prop := fun i H v H' => ∃ T x y o, v = .ref T ∧ H T = none ∧ o.dict = none ∧ H' = upd H T (.frz o (.tup [x, y])) ∧ xs i = some x ∧ ys i = some y
theorem pair_new {X : Cx} {pins : List (Addr × Obj)} {σ : L2.St} {H : Hp} {s : Shared} {h' : Heap} {t' : Nat} {ch : List Addr} {x y : V} {u v : Value} (I : Inv X pins σ H s) (k : ∀ b o, b ∉ ch → s.heap.get? b = some o → h'.get? b = some o) (hf : ∀ b ∈ ch, FpOk X pins H b)
    (rx : RelV x u) (ry : RelV y v) (e : h'.get? s.heap.objs.size = some { cls := .type "tuple", data := .seq #[u, v] }) :
    Inv X pins σ (upd H s.heap.objs.size (.frz { cls := .type "tuple", data := .seq #[u, v] } (.tup [x, y]))) { s with heap := h', toks := t' } :=
  I.turnedNew k hf (Nat.le_refl _) ⟨e, by show 2 ≤ sizeLine; decide, [u, v], .cons rx (.cons ry .nil), ⟨_, e, rfl, _, rfl⟩⟩
def IteB (K : PySem.W.Frag) (a : Addr) (t : Bool) : It :=
  ⟨fun i H => ∃ xs x, SqB K H a xs t ∧ xs[i]? = some x, fun i H v H' => ∃ T x o, v = .ref T ∧ H T = none ∧ o.dict = none ∧ H' = upd H T (.frz o (.tup [.int (i : Nat), x])) ∧ ∀ xs, SqB K H a xs t → xs[i]? = some x, fun i H => ∃ xs, SqB K H a xs t ∧ i = xs.length⟩
theorem walk_enumB {K : PySem.W.Frag} {a : Addr} {t : Bool} {xs : List V} : Walk (IteB K a t) xs.length (fun H => SqB K H a xs t) (YPairN (fun i => some (.int (i : Nat))) (fun i => xs[i]?)) :=
  ⟨fun i _ hi q => ⟨xs, xs[i], q, by simp⟩, fun _ q => ⟨xs, q, rfl⟩, fun i H v H' _ q y => let ⟨T, x, o, h1, h2, h3, h4, h5⟩ := y; ⟨T, .int (i : Nat), x, o, h1, h2, h3, h4, rfl, h5 xs q⟩⟩
theorem turn_enumB {P : Program} {w : World} {K : PySem.W.Frag} {elts : List Expr} {kk : Nat} {tpos : Pos} {t : Bool} (a e it : Addr) :
    Turn P w K (.Tuple elts kk tpos) (IteB K a t) [e, it] e (fun i h => (∃ old, IsEnum h e it ((i : Nat) : Int) old) ∧ IterIs h it a i t ∧ e ≠ it ∧ a ≠ it ∧ a ≠ e) where
  mem := by simp
  obj := fun i h st b hb => by
    obtain ⟨⟨old, he⟩, hi, _⟩ := st
    simp only [List.mem_cons, List.not_mem_nil, or_false] at hb
    rcases hb with rfl | rfl
    · exact ⟨_, he, fun v q => nomatch q⟩
    · exact iter_obj hi
  keep := fun i h h' st k => let ⟨⟨old, he⟩, hi, r⟩ := st; ⟨⟨old, k e (by simp) _ he⟩, iter_keep (fun o q => k it (by simp) o q) hi, r⟩
  item := by
    intro X hP hw hK hc i pins s σ H E I hf st hg
    subst hP hw hK
    obtain ⟨⟨old, he⟩, hit, hne, hai, hae⟩ := st
    obtain ⟨xs, x, hq, hx⟩ := hg
    obtain ⟨its, rv, p, _⟩ := side_inv I hq
    obtain ⟨u, hu, ru⟩ := rv.get hx
    have hel := Heap.lt_size he
    have hil : it < s.heap.objs.size := by obtain ⟨_, q, _⟩ := iter_obj hit; exact Heap.lt_size q
    have hlt : i < its.toArray.size := by simpa using (List.getElem?_eq_some_iff.mp hu).1
    refine wpAny_pyNext_enum_itemD (side_draws (A := X.A.in1) (I.ok.hd hc) it a hai its.toArray t) he ⟨hit, p⟩ hlt hne (by simp [hne, Ne.symm hae]) fun y h' tk hy ho hst hT hsz hk => ?_
    have ey : y = u := by
      have : its[i]? = some y := by simpa using hy
      rw [hu] at this; exact (Option.some.inj this).symm
    subst ey
    refine ⟨_, rfl, wpAny_letOwnedTupleGo_enum (s := { s with heap := h', toks := tk + 1 }) ho fun h2 he2 sb => ?_⟩
    have hT2 := (sb.2 _ (Nat.ne_of_gt hel)).trans hT
    have I1 := pair_new (t' := tk + 1) (ch := [e, it]) (x := .int (i : Nat)) (y := x) I (fun b ob hb q => (sb.2 b (fun z => hb (by simp [z]))).trans (hk b ob (fun z => hb (by simp [z])) (fun z => hb (by simp [z])) q)) hf ⟨_, rfl⟩ ru hT2
    refine ⟨.ref s.heap.objs.size, _, I1, rfl, ⟨_, x, _, rfl, I.hok.fresh (Nat.le_refl _), rfl, rfl, fun l hl => by rw [side_inj I hl hq]; exact hx⟩, ⟨⟨y, ?_⟩, iter_keep (fun o q => (sb.2 it (Ne.symm hne)).trans q) hst.1, hne, hai, hae⟩, fun b hb => ?_⟩
    · rw [show ((i + 1 : Nat) : Int) = (i : Int) + 1 by omega]; exact he2
    · have hb' : b < s.heap.objs.size := by
        rcases List.mem_cons.mp hb with z | z
        · rw [z]; exact hel
        · rw [List.mem_singleton.mp z]; exact hil
      rw [upd_ne (Nat.ne_of_lt hb')]
      exact (hf b hb).1
  done := by
    intro X hP hw hK hc i pins s σ H E I hf st hg
    subst hP hw hK
    obtain ⟨⟨old, he⟩, hit, hne, hai, hae⟩ := st
    obtain ⟨xs, hq, hx⟩ := hg
    obtain ⟨its, rv, p, _⟩ := side_inv I hq
    obtain ⟨f0, f1, f2, f3, f4, f5⟩ := hf it (by simp)
    have hl := rv.length
    have hit' : IterIs s.heap it a its.toArray.size t := by rw [List.size_toArray, ← hl, ← hx]; exact hit
    exact wpAny_pyNext_enum_endD (side_draws (A := X.A.in1) (I.ok.hd hc) it a hai its.toArray t) he ⟨hit', p⟩ fun h' eb => ⟨rfl, I.turned (t' := s.toks) (fun b o hb q => eb b o hb q) f0 f1 f3 f4 f5⟩
  self := fun A i s Q E st h => let ⟨⟨_, he⟩, _⟩ := st; wpAny_pyIter_enum he h
end Net
end

section
set_option Elab.async false
set_option linter.all false
set_option maxRecDepth 100000
/-! N9: iterables. -/
namespace Net
open PySem PySem.Spec PyProof.Rows L2
variable [TabL]

section
variable {c : Ct} {X : Cx} {tg a b e : Expr} {ea eb ee : E} {pos : Pos}
/-- what is tracked is not too long -/
def Lens (H : Hp) : Prop := (∀ a vs, H a = some (.lst vs) → vs.length ≤ sizeLine) ∧ (∀ a vs, TupAt H a vs → vs.length ≤ sizeLine) ∧ ∀ a vs, H a = some (.dK vs) → vs.length ≤ sizeLine
theorem lens_of {pins : List (Addr × Obj)} {σ : L2.St} {H : Hp} {s : Shared} (I : Inv X pins σ H s) : Lens H := ⟨fun a vs e => (I.hok a _ e).1, fun a vs ⟨o, e, _⟩ => (I.hok a _ e).2.1, fun a vs e => (I.hok a _ e).1⟩
theorem PI_lens {wi : TI} (h : PI X tg e wi) : PI X tg e (fun σ H R => wi σ H fun J H1 => Lens H1 → R J H1) := ⟨fun pins s σ H R I q => by
  refine thn (h.run pins s σ H _ I q) fun v s1 q1 => thn q1 fun itv s2 q2 => ?_
  obtain ⟨it, fp, tn, J, H', e, I', T, st, f, r⟩ := q2
  exact ⟨it, fp, tn, J, H', e, I', T, st, f, r (lens_of I')⟩⟩
/-- a list or a tuple -/
theorem pi_any {l : Expr} {tl : TE} (hl : PE X l tl) : PI X tg l (fun σ H R => tl σ H fun x H1 => ∃ a xs, x = .ref a ∧ ((SqL X.K H1 a xs ∧ R (Itl X.K a) H1) ∨ (SqT X.K H1 a xs ∧ R (Itt X.K a) H1))) := ⟨fun pins s σ H R I q => by
  refine thn (hl.run pins s σ H _ I q) fun v s1 ⟨x, H1, I1, r1, a, xs, ex, q1⟩ => ?_
  subst ex
  cases r1
  have new : ∀ {o : Obj} (hp : ∀ b u, s1.heap.get? b = some u → (s1.heap.push o).get? b = some u), Inv X pins σ H1 { s1 with heap := s1.heap.push o } := fun hp => I1.kept (t' := s1.toks) hp
  have fpo : ∀ b ∈ [s1.heap.objs.size], FpOk X pins H1 b := fun b hb => by
    rw [List.mem_singleton.mp hb]; exact I1.fpOk (Nat.le_refl _) (I1.hok.fresh (Nat.le_refl _))
  rcases q1 with ⟨hq, q1⟩ | ⟨hq, q1⟩
  · obtain ⟨its, rv, pl, _⟩ := I1.list hq
    exact wpAny_pyIter_list pl.isList ⟨_, _, _, _, H1, rfl, new fun b u e => Heap.get?_push_of_some _ e, turn_list a _, ⟨_, Heap.get?_push_size _ rfl, rfl, rfl⟩, fpo, q1⟩
  · obtain ⟨its, rv, pl, _⟩ := I1.tuple hq
    exact wpAny_pyIter_tuple (show s1.heap.IsTuple a its.toArray from pl) ⟨_, _, _, _, H1, rfl, new fun b u e => Heap.get?_push_of_some _ e, turn_tuple a _, ⟨_, Heap.get?_push_size _ rfl, rfl, rfl⟩, fpo, q1⟩⟩
/-- enumerate of a list or a tuple -/
theorem pi_enumA {ta : TA} {p tpos : Pos} {elts : List Expr} {kk : Nat} (hg : Gl X "enumerate") (hm : X.mg "enumerate" = none) (ha : PA X [a] ta) (hs : starEach [a] X.env = [(false, eval a X.env)]) :
    PI X (.Tuple elts kk tpos) (.Call (.Name "enumerate" p) [a] [] pos) (fun σ H R => ta σ H fun vs H1 => ∃ a xs t, vs = [.ref a] ∧ SqB X.K H1 a xs t ∧ R (IteB X.K a t) H1) := ⟨fun pins s σ H R I q => by
  refine Call_ (ld_blt I hg hm boot_enumerate (PyProof.Rows.callWith_type1 (thn (ha.run pos pins s σ H _ I q) fun us s1 ⟨vs, H1, I1, r1, a, xs, t, ex, hq, q1⟩ => ?_) hs rfl))
  subst ex
  have eu := Vals.ref1 r1
  subst eu
  have kept : ∀ {h' : Heap}, (∀ b o, s1.heap.get? b = some o → h'.get? b = some o) → Inv X pins σ H1 { s1 with heap := h' } := fun hk => I1.kept (t' := s1.toks) hk
  have fpo : ∀ b ∈ [s1.heap.objs.size + 1, s1.heap.objs.size], FpOk X pins H1 b := fun b hb => by
    have hle : s1.heap.objs.size ≤ b := by
      rcases List.mem_cons.mp hb with z | z
      · omega
      · rw [List.mem_singleton.mp z]; exact Nat.le_refl _
    exact I1.fpOk hle (I1.hok.fresh hle)
  obtain ⟨its, rv, pl, hl⟩ := side_inv I1 hq
  have apart : s1.heap.objs.size + 1 ≠ s1.heap.objs.size ∧ a ≠ s1.heap.objs.size ∧ a ≠ s1.heap.objs.size + 1 := ⟨Nat.succ_ne_self _, Nat.ne_of_lt hl, Nat.ne_of_lt (Nat.lt_succ_of_lt hl)⟩
  cases t with
  | false => exact call_enumerate_list pl fun h' he hit hsz hk => wpAny_pyIter_enum he ⟨_, _, _, _, H1, rfl, kept hk, turn_enumB (t := false) a _ _, ⟨⟨.none, he⟩, hit, apart⟩, fpo, q1⟩
  | true => exact call_enumT pl fun h' he hit hk => wpAny_pyIter_enum he ⟨_, _, _, _, H1, rfl, kept hk, turn_enumB (t := true) a _ _, ⟨⟨.none, he⟩, hit, apart⟩, fpo, q1⟩⟩

/-! ### what they walk -/
theorem walks_of {K : PySem.W.Frag} {R : List Addr} {Bs : List Nat} {J : It} {io : List Addr} {M : Mem} {H : Hp} {ds : List D} {g : List Nat} (hz : ds.length ≤ sizeLine)
    (h : ∀ io2 M2 H2 R2, Tr io R H io2 R2 H2 → St8 K io2 R2 Bs M2 H2 → Still g M M2 → ∃ G Y, Walk J ds.length G Y ∧ G H2 ∧ ∀ i d x H3, ds[i]? = some d → Y i H2 x H3 → (∀ a o, H2 a = some o → H3 a = some o) ∧ Rp K io2 R2 H3 d x) : Walks K R Bs J io M H ds g :=
  ⟨hz, fun io2 M2 H2 R2 tr s st => by
    obtain ⟨G, Y, w, g, y⟩ := h io2 M2 H2 R2 tr s st
    refine ⟨w.stops H2 g, fun i d e => ?_⟩
    have hi := (List.getElem?_eq_some_iff.mp e).1
    exact ⟨w.goes i H2 hi g, fun x H3 q => y i d x H3 e (w.yields i H2 x H3 hi g q)⟩⟩
/-- later: the values of a list or tuple are there still -/
theorem items_later {K : PySem.W.Frag} {R R2 : List Addr} {Bs : List Nat} {io io2 : List Addr} {M M2 : Mem} {H H2 : Hp} {d : D} {v : V} {ds : List D} (s : St8 K io R Bs M H) (r : Rp K io R H d v) (e : d.items M = some ds)
    (s2 : St8 K io2 R2 Bs M2 H2) (tr : Tr io R H io2 R2 H2) (st : Still d.deps M M2) : ∃ a vs vs2, v = .ref a ∧ ((H a = some (.lst vs) ∧ H2 a = some (.lst vs2)) ∨ (TupAt H a vs ∧ TupAt H2 a vs2)) ∧ vs.length = ds.length ∧ vs2.length = ds.length ∧ RpL K io2 R2 H2 ds vs2 := by
  cases r with
  | tup h1 h2 h3 h4 => cases e; exact ⟨_, _, _, rfl, .inr ⟨h3, (tr.tup h1 h2 h3).2.2⟩, h4.length.symm, h4.length.symm, h4.tr tr⟩
  | lst h1 h2 h3 h4 =>
    have e : some _ = some ds := e
    cases e
    exact ⟨_, _, _, rfl, .inl ⟨h3, (tr.keep _ _ h1 h2 noLst h3).2.2⟩, h4.length.symm, h4.length.symm, h4.tr tr⟩
  | loc h =>
    rename_i n a
    have e : D.seq M (.loc n) = some ds := e
    unfold D.seq at e
    simp only at e
    split at e
    · rename_i ds' hm
      cases e
      obtain ⟨vs, q, rr⟩ := s.cell n _ a hm h
      have hm2 : M2[n]? = some (.lst ds) := (st n List.mem_cons_self).trans hm
      obtain ⟨vs2, q2, rr2⟩ := s2.cell n _ a hm2 (pre_get tr.pre h)
      exact ⟨a, vs, vs2, rfl, .inl ⟨q, q2⟩, rr.length.symm, rr2.length.symm, rr2⟩
    · cases e
  | _ => cases e
theorem len_items {K : PySem.W.Frag} {R : List Addr} {Bs : List Nat} {io : List Addr} {M : Mem} {H : Hp} {d : D} {v : V} {ds : List D} (s : St8 K io R Bs M H) (r : Rp K io R H d v) (e : d.items M = some ds) (L : Lens H) : ds.length ≤ sizeLine := by
  obtain ⟨a, vs, _, ha, ra⟩ := items_rp s r e
  rw [ra.length]
  rcases ha with ha | ha
  · exact L.1 _ _ ha
  · exact L.2.1 _ _ ha

theorem at_yld {K : PySem.W.Frag} {R : List Addr} {io : List Addr} {H : Hp} {ds : List D} {vs : List V} (rr : RpL K io R H ds vs) : ∀ i d x H3, ds[i]? = some d → YAt vs i H x H3 → (∀ a o, H a = some o → H3 a = some o) ∧ Rp K io R H3 d x := by
  rintro i d x H3 ei ⟨rfl, e⟩
  obtain ⟨v, q1, q2⟩ := rr.get ei
  rw [q1] at e; cases e
  exact ⟨fun _ _ z => z, q2⟩
/-- the kind that it has is its kind later -/
theorem side_later {K : PySem.W.Frag} {R : List Addr} {Bs : List Nat} {io : List Addr} {M : Mem} {H : Hp} {d : D} {v : V} {ds : List D} (s : St8 K io R Bs M H) (r : Rp K io R H d v) (e : d.items M = some ds) :
    ∃ a vs t, v = .ref a ∧ SqB K H a vs t ∧ (t = true ↔ ∃ ws, d = .tup ws) ∧ ∀ {io2 R2 M2 H2}, St8 K io2 R2 Bs M2 H2 → Tr io R H io2 R2 H2 → Still d.deps M M2 → ∃ vs2, SqB K H2 a vs2 t ∧ vs2.length = ds.length ∧ RpL K io2 R2 H2 ds vs2 := by
  have nt : ∀ {a : Addr} {vs ws : List V}, H a = some (.lst vs) → TupAt H a ws → False := fun h ⟨o, q, _⟩ => by rw [h] at q; cases q
  cases r with
  | tup h1 h2 h3 h4 =>
    cases e
    exact ⟨_, _, true, rfl, h3.sq, ⟨fun _ => ⟨_, rfl⟩, fun _ => rfl⟩, fun {io2 R2 M2 H2} s2 tr st => ⟨_, (tr.tup h1 h2 h3).2.2.sq, h4.length.symm, h4.tr tr⟩⟩
  | lst h1 h2 h3 h4 =>
    have e : some _ = some ds := e
    cases e
    exact ⟨_, _, false, rfl, SqL.of h3, ⟨fun h => (by cases h), fun ⟨_, h⟩ => (by cases h)⟩, fun {io2 R2 M2 H2} s2 tr st => ⟨_, SqL.of (tr.keep _ _ h1 h2 noLst h3).2.2, h4.length.symm, h4.tr tr⟩⟩
  | loc h =>
    rename_i n a
    obtain ⟨a', vs, e1, hp, rp⟩ := seq_rp s (.loc h) (show D.seq M _ = some ds from e)
    cases e1
    refine ⟨a, vs, false, rfl, SqL.of hp, ⟨fun h => (by cases h), fun ⟨_, h⟩ => (by cases h)⟩, fun {io2 R2 M2 H2} s2 tr st => ?_⟩
    obtain ⟨p', vs', vs2, ep, hh, _, hl2, rr⟩ := items_later s (.loc h) e s2 tr st
    cases ep
    rcases hh with ⟨_, hh⟩ | ⟨hh, _⟩
    · exact ⟨vs2, SqL.of hh, hl2, rr⟩
    · exact (nt hp hh).elim
  | _ => cases e
theorem si_seq {l : Expr} {el : E} (ok : COk c X) (hl : PE X l (tE c el)) : PI X tg l (tI c (.seq el)) :=
  PI_imp (PI_lens (pi_any hl)) fun σ H Q ⟨base, io, R, Bs, ρ, M, a, h⟩ => by
    unfold evI at h
    refine tE_bind a h fun x H1 io1 M1 dx x1 a1 r1 h1 => ?_
    split at h1
    · rename_i ds e
      obtain ⟨p, vs, t, rfl, hq, _, later⟩ := side_later a1.st r1 e
      rw [ok.K]
      refine ⟨p, vs, rfl, ?_⟩
      cases t with
      | false => exact .inl ⟨hq, fun L => h1.fin ⟨a1.st, walks_of (len_items a1.st r1 e L) fun io2 M2 H2 R2 tr s2 st => let ⟨vs2, q2, l2, rr⟩ := later s2 tr st; ⟨_, _, l2 ▸ walk_list (K := c.K) (a := p) (xs := vs2), q2, at_yld rr⟩⟩⟩
      | true => exact .inr ⟨hq, fun L => h1.fin ⟨a1.st, walks_of (len_items a1.st r1 e L) fun io2 M2 H2 R2 tr s2 st => let ⟨vs2, q2, l2, rr⟩ := later s2 tr st; ⟨_, _, l2 ▸ walk_tup (K := c.K) (a := p) (xs := vs2), q2, at_yld rr⟩⟩⟩
    · exact h1.elim
theorem pair_yld {K : PySem.W.Frag} {R : List Addr} {io : List Addr} {Bs : List Nat} {M : Mem} {H H3 : Hp} {T : Addr} {o : Obj} {d e : D} {x y : V} (s : St8 K io R Bs M H) (hT : H T = none) (hd : o.dict = none) (rx : Rp K io R H d x) (ry : Rp K io R H e y) (eH : H3 = upd H T (.frz o (.tup [x, y]))) :
    (∀ a o, H a = some o → H3 a = some o) ∧ Rp K io R H3 (.tup [d, e]) (.ref T) := by
  subst eH
  exact ⟨upd_same' hT, (Rp.newTup s hT hd (.cons rx (.cons ry .nil))).2⟩
theorem small62 {j : Int} {i : Int} (h : rngOk i j = true) : -(2 ^ 62) ≤ i ∧ i < 2 ^ 62 ∧ -(2 ^ 62) ≤ j ∧ j < 2 ^ 62 ∧ (j - i).toNat ≤ sizeLine := of_decide_eq_true h
theorem rng_walks {K : PySem.W.Frag} {R : List Addr} {Bs : List Nat} {io : List Addr} {M : Mem} {H : Hp} {i j : Int} (h : rngOk i j = true) : Walks K R Bs (Itr i (j - i).toNat) io M H (rngD i j) [] := by
  have hl : (rngD i j).length = (j - i).toNat := by unfold rngD; simp
  refine walks_of (by rw [hl]; exact (small62 h).2.2.2.2) fun io2 M2 H2 R2 tr s st => ⟨fun _ => True, YFn fun k => .int (i + (k : Nat)), by rw [hl]; exact walk_range, trivial, ?_⟩
  rintro k d x H3 e ⟨rfl, rfl⟩
  unfold rngD at e
  rw [List.getElem?_map] at e
  cases q : (List.range (j - i).toNat)[k]? with
  | none => rw [q] at e; cases e
  | some m =>
    rw [q] at e; cases e
    obtain ⟨hk, e2⟩ := List.getElem?_eq_some_iff.mp q
    rw [List.getElem_range] at e2
    subst e2
    exact ⟨fun _ _ z => z, .int⟩
theorem si_rng1 {p : Pos} (ok : COk c X) (hg : Gl X "range") (hm : X.mg "range" = none) (ha : PE X a (tE c ea)) (hs : starEach [a] X.env = [(false, eval a X.env)]) : PI X tg (.Call (.Name "range" p) [a] [] pos) (tI c (.rng1 ea)) :=
  PI_imp (pi_range1 hg hm (pa_cons ha pa_nil hs) hs) fun σ H Q ⟨base, io, R, Bs, ρ, M, a, h⟩ => by
    unfold evI at h
    refine tE_bind a h fun x H1 io1 M1 dx x1 a1 r1 h1 => ?_
    split at h1
    · split at h1
      · rename_i j hr
        cases r1
        have b := small62 hr
        have w := rng_walks (K := c.K) (R := R) (Bs := Bs) (io := io1) (M := M1) (H := H1) hr
        rw [show (j - 0).toNat = j.toNat by simp] at w
        exact ⟨j, rfl, b.2.2.1, b.2.2.2.1, h1.fin ⟨a1.st, w⟩⟩
      · exact h1.elim
    · exact h1.elim
theorem si_rng2 {p : Pos} (ok : COk c X) (hg : Gl X "range") (hm : X.mg "range" = none) (ha : PE X a (tE c ea)) (hb : PE X b (tE c eb)) (hs : starEach [a, b] X.env = [(false, eval a X.env), (false, eval b X.env)]) (hs2 : starEach [b] X.env = [(false, eval b X.env)]) :
    PI X tg (.Call (.Name "range" p) [a, b] [] pos) (tI c (.rng2 ea eb)) :=
  PI_imp (pi_range2 hg hm (pa_cons ha (pa_cons hb pa_nil hs2) (by rw [hs, hs2])) hs hs2) fun σ H Q ⟨base, io, R, Bs, ρ, M, a, h⟩ => by
    unfold evI at h
    refine tE_bind a h fun x H1 io1 M1 dx x1 a1 r1 h1 => ?_
    refine tE_bind a1 h1 fun y H2 io2 M2 dy x2 a2 r2 h2 => ?_
    split at h2
    · split at h2
      · rename_i i j hr
        cases r1; cases r2
        have b := small62 hr
        exact ⟨i, j, rfl, ⟨b.1, b.2.1, b.2.2.1, b.2.2.2.1⟩, h2.fin ⟨a2.st, rng_walks hr⟩⟩
      · exact h2.elim
    · exact h2.elim
theorem zipIdx_get {ds : List D} {i : Nat} {d : D} (e : (ds.zipIdx.map fun p => D.tup [.int p.2, p.1])[i]? = some d) : ∃ x, ds[i]? = some x ∧ d = .tup [.int (i : Nat), x] := by
  rw [List.getElem?_map, List.getElem?_zipIdx] at e
  cases q : ds[i]? with
  | none => rw [q] at e; cases e
  | some x => rw [q] at e; cases e; exact ⟨x, rfl, by simp⟩
theorem si_enum {p tpos : Pos} {elts : List Expr} {kk : Nat} (ok : COk c X) (hg : Gl X "enumerate") (hm : X.mg "enumerate" = none) (ha : PE X a (tE c ea)) (hs : starEach [a] X.env = [(false, eval a X.env)]) :
    PI X (.Tuple elts kk tpos) (.Call (.Name "enumerate" p) [a] [] pos) (tI c (.enum ea)) :=
  PI_imp (PI_lens (pi_enumA hg hm (pa_cons ha pa_nil hs) hs)) fun σ H Q ⟨base, io, R, Bs, ρ, M, a, h⟩ => by
    unfold evI at h
    refine tE_bind a h fun x H1 io1 M1 dx x1 a1 r1 h1 => ?_
    split at h1
    · rename_i ds e
      obtain ⟨p, vs, t, rfl, hq, _, later⟩ := side_later a1.st r1 e
      rw [ok.K]
      have hlen : (ds.zipIdx.map fun p => D.tup [.int p.2, p.1]).length = ds.length := by simp
      refine ⟨p, vs, t, rfl, hq, fun L => h1.fin ⟨a1.st, walks_of (by rw [hlen]; exact len_items a1.st r1 e L) fun io2 M2 H2 R2 tr s2 st => ?_⟩⟩
      obtain ⟨vs2, q2, l2, rr⟩ := later s2 tr st
      refine ⟨_, _, (hlen.trans l2.symm) ▸ walk_enumB (K := c.K) (a := p) (t := t) (xs := vs2), q2, ?_⟩
      rintro i d x H3 ei ⟨T, y, z, o, rfl, hT, hd, eH, e1, e2⟩
      obtain ⟨w, ew, rfl⟩ := zipIdx_get ei
      obtain ⟨v, q1, q2⟩ := rr.get ew
      cases e1
      have e2 : vs2[i]? = some z := e2
      rw [q1] at e2; cases e2
      exact pair_yld s2 hT hd .int q2 eH
    · exact h1.elim
end
end Net
end

section
set_option Elab.async false
set_option linter.all false
set_option maxRecDepth 100000
/-! N10: zip of any two of lists and tuples. -/
namespace Net
open PySem PySem.Spec PyProof.Rows L2
variable [TabL]

def ItzB (K : PySem.W.Frag) (a b : Addr) (t u : Bool) : It :=
  ⟨fun i H => ∃ (xs ys : List V) (x y : V), SqB K H a xs t ∧ SqB K H b ys u ∧ xs[i]? = some x ∧ ys[i]? = some y,
    fun i H v H' => ∃ T x y o, v = .ref T ∧ H T = none ∧ o.dict = none ∧ H' = upd H T (.frz o (.tup [x, y])) ∧ (∀ xs, SqB K H a xs t → xs[i]? = some x) ∧ ∀ ys, SqB K H b ys u → ys[i]? = some y,
    fun i H => ∃ xs ys : List V, SqB K H a xs t ∧ SqB K H b ys u ∧ i ≤ xs.length ∧ i ≤ ys.length ∧ (i = xs.length ∨ i = ys.length)⟩
theorem turn_zipB {P : Program} {w : World} {K : PySem.W.Frag} {elts : List Expr} {kk : Nat} {tpos : Pos} {a b z TI TO i1 i2 : Addr} {t u : Bool} (D : ZipSep2 z TI TO i1 i2 [i1, a] [i2, b]) (n1 : a ≠ i1) (n2 : b ≠ i2) :
    Turn P w K (.Tuple elts kk tpos) (ItzB K a b t u) [z, TI, TO, i1, i2] z (fun i h => IsZip h z TI TO .none ∧ IsTupOf2 h TI (.ref i1) (.ref i2) ∧ (∃ x y, IsTupOf2 h TO x y) ∧ IterIs h i1 a i t ∧ IterIs h i2 b i u) where
  mem := by simp
  obj := fun i h st c hc => by
    obtain ⟨hz, hTI, ⟨x, y, hTO⟩, h1, h2⟩ := st
    simp only [List.mem_cons, List.not_mem_nil, or_false] at hc
    rcases hc with rfl | rfl | rfl | rfl | rfl
    · exact ⟨_, hz, fun v q => nomatch q⟩
    · exact ⟨_, hTI, fun v q => nomatch q⟩
    · exact ⟨_, hTO, fun v q => nomatch q⟩
    · exact iter_obj h1
    · exact iter_obj h2
  keep := fun i h h' st k => by
    obtain ⟨hz, hTI, ⟨x, y, hTO⟩, h1, h2⟩ := st
    exact ⟨k z (by simp) _ hz, k TI (by simp) _ hTI, ⟨x, y, k TO (by simp) _ hTO⟩, iter_keep (fun o q => k i1 (by simp) o q) h1, iter_keep (fun o q => k i2 (by simp) o q) h2⟩
  item := by
    intro X hP hw hK hc i pins s σ H E I hf st hg
    subst hP hw hK
    obtain ⟨hz, hTI, ⟨x0, y0, hTO⟩, h1, h2⟩ := st
    obtain ⟨xs, ys, x, y, hqx, hqy, hx, hy⟩ := hg
    obtain ⟨its, rv, p, al⟩ := side_inv I hqx
    obtain ⟨its2, rv2, p2, bl⟩ := side_inv I hqy
    obtain ⟨v1, hv1, r1⟩ := rv.get hx
    obtain ⟨v2, hv2, r2⟩ := rv2.get hy
    have hzl : z < s.heap.objs.size := Heap.lt_size hz
    have hl1 : i < its.toArray.size := by simpa using (List.getElem?_eq_some_iff.mp hv1).1
    have hl2 : i < its2.toArray.size := by simpa using (List.getElem?_eq_some_iff.mp hv2).1
    have hd := I.ok.hd hc
    refine wpAny_pyNext_zipD2_item D (side_draws (A := X.A.in1) hd i1 a n1 its.toArray t) (side_draws (A := X.A.in1) hd i2 b n2 its2.toArray u) hz hTI hTO ⟨h1, p⟩ ⟨h2, p2⟩ hl1 hl2 fun y1 y2 h' tk e1 e2 z' TO' st1 st2 hT hsz hk => ?_
    have q1 : y1 = v1 := by
      have : its[i]? = some y1 := by simpa using e1
      rw [hv1] at this; exact (Option.some.inj this).symm
    have q2 : y2 = v2 := by
      have : its2[i]? = some y2 := by simpa using e2
      rw [hv2] at this; exact (Option.some.inj this).symm
    subst q1 q2
    refine ⟨_, rfl, wpAny_letOwnedTupleGo_zip (s := { s with heap := h', toks := tk }) z' fun g z'' sb => ?_⟩
    have hT2 : g.get? s.heap.objs.size = some { cls := .type "tuple", data := .seq #[y1, y2] } := (sb.2 _ (Nat.ne_of_gt hzl)).trans hT
    have I1 := pair_new (t' := tk) (ch := [z, TI, TO, i1, i2]) I (fun c o hb q => by
      simp only [List.mem_cons, List.not_mem_nil, or_false, not_or] at hb
      exact (sb.2 c hb.1).trans (hk c o hb.1 hb.2.2.1 hb.2.2.2.1 hb.2.2.2.2 q)) hf r1 r2 hT2
    refine ⟨.ref s.heap.objs.size, _, I1, rfl, ⟨_, x, y, _, rfl, I.hok.fresh (Nat.le_refl _), rfl, rfl, fun l hl => by rw [side_inj I hl hqx]; exact hx, fun l hl => by rw [side_inj I hl hqy]; exact hy⟩, ⟨z'', ?_, ⟨y1, y2, ?_⟩, ?_, ?_⟩, fun c hcm => ?_⟩
    · exact (sb.2 _ D.TIz).trans (hk _ _ D.TIz D.TITO D.TIi1 D.TIi2 hTI)
    · exact (sb.2 _ D.TOz).trans TO'
    · exact iter_keep (fun o q => (sb.2 _ (Ne.symm D.zi1)).trans q) st1.1
    · exact iter_keep (fun o q => (sb.2 _ (Ne.symm D.zi2)).trans q) st2.1
    · have hlt : c < s.heap.objs.size := by
        simp only [List.mem_cons, List.not_mem_nil, or_false] at hcm
        rcases hcm with rfl | rfl | rfl | rfl | rfl
        · exact hzl
        · exact Heap.lt_size hTI
        · exact Heap.lt_size hTO
        · obtain ⟨_, q, _⟩ := iter_obj h1; exact Heap.lt_size q
        · obtain ⟨_, q, _⟩ := iter_obj h2; exact Heap.lt_size q
      rw [upd_ne (Nat.ne_of_lt hlt)]
      exact (hf c hcm).1
  done := by
    intro X hP hw hK hc i pins s σ H E I hf st hg
    subst hP hw hK
    obtain ⟨hz, hTI, ⟨x0, y0, hTO⟩, h1, h2⟩ := st
    obtain ⟨xs, ys, hqx, hqy, l1, l2, hend⟩ := hg
    obtain ⟨its, rv, p, _⟩ := side_inv I hqx
    obtain ⟨its2, rv2, p2, _⟩ := side_inv I hqy
    have z1 := rv.length
    have z2 := rv2.length
    have hd := I.ok.hd hc
    refine wpAny_pyNext_zipD2_end D (side_draws (A := X.A.in1) hd i1 a n1 its.toArray t) (side_draws (A := X.A.in1) hd i2 b n2 its2.toArray u) hz hTI hTO ⟨h1, p⟩ ⟨h2, p2⟩ (by simp; omega) (by simp; omega) (by simp; omega) fun h' tk hk => ⟨rfl, I.turnedL (t' := tk) (ch := [z, TI, TO, i1, i2]) (fun c o hb q => ?_) hf⟩
    simp only [List.mem_cons, List.not_mem_nil, or_false, not_or] at hb
    exact hk c o hb.1 hb.2.2.1 hb.2.2.2.1 hb.2.2.2.2 q
  self := fun A i s Q E st h => wpAny_pyIter_zip st.1 h
section
variable {X : Cx} {e e2 : Expr}
theorem pi_zipB {ta : TA} {p pos tpos : Pos} {elts : List Expr} {kk : Nat} (hg : Gl X "zip") (hm : X.mg "zip" = none) (ha : PA X [e, e2] ta)
    (hs : starEach [e, e2] X.env = (false, eval e X.env) :: starEach [e2] X.env) (hpl : (backTo pos (starEach [e2] X.env)).any (·.1) = false) :
    PI X (.Tuple elts kk tpos) (.Call (.Name "zip" p) [e, e2] [] pos) (fun σ H R => ta σ H fun vs H1 => ∃ a b xs ys t u, vs = [.ref a, .ref b] ∧ SqB X.K H1 a xs t ∧ SqB X.K H1 b ys u ∧ R (ItzB X.K a b t u) H1) := ⟨fun pins s σ H R I q => by
  refine Call_ (ld_blt I hg hm PyProof.Rows.boot_zip (PyProof.Rows.callWith_type1 (thn (ha.run pos pins s σ H _ I q) fun us s1 ⟨vs, H1, I1, r1, a, b, xs, ys, t, u, ex, qx, qy, q1⟩ => ?_) hs hpl))
  subst ex
  obtain ⟨v, vs, rfl, r, r1⟩ : ∃ v vs, us = v :: vs ∧ RelV (.ref a) v ∧ Vals [.ref b] vs := by cases r1 with | cons r r1 => exact ⟨_, _, rfl, r, r1⟩
  have eu := Vals.ref1 r1
  subst eu
  cases r
  obtain ⟨its, rv, p1, al⟩ := side_inv I1 qx
  obtain ⟨its2, rv2, p2, bl⟩ := side_inv I1 qy
  have D := zip_sep2 (N := s1.heap.objs.size) (fp1 := [a]) (fp2 := [b]) (fun c hc => by rw [List.mem_singleton.mp hc]; exact al) (fun c hc => by rw [List.mem_singleton.mp hc]; exact bl)
  refine zip_begins2 (side_begins a its.toArray t) (side_begins b its2.toArray u) p1 p2 fun h' hz hTI hTO h1 h2 hsz hk => wpAny_pyIter_zip hz ?_
  refine ⟨_, _, _, _, H1, rfl, I1.kept (t' := s1.toks) hk, turn_zipB D (Nat.ne_of_lt al) (Nat.ne_of_lt (Nat.lt_succ_of_lt bl)), ⟨hz, hTI, ⟨_, _, hTO⟩, iter_new h1, iter_new h2⟩, fun c hcm => ?_, q1⟩
  have hle : s1.heap.objs.size ≤ c := by
    simp only [List.mem_cons, List.not_mem_nil, or_false] at hcm
    rcases hcm with rfl | rfl | rfl | rfl | rfl
    · exact Nat.le_add_right _ _
    · exact Nat.le_add_right _ _
    · exact Nat.le_add_right _ _
    · exact Nat.le_refl _
    · exact Nat.le_add_right _ _
  exact I1.fpOk hle (I1.hok.fresh hle)⟩
theorem walk_zipB {K : PySem.W.Frag} {a b : Addr} {xs ys : List V} {t u : Bool} : Walk (ItzB K a b t u) (min xs.length ys.length) (fun H => SqB K H a xs t ∧ SqB K H b ys u) (YPairN (fun i => xs[i]?) (fun i => ys[i]?)) :=
  ⟨fun i _ hi q => ⟨xs, ys, xs[i]'(by omega), ys[i]'(by omega), q.1, q.2, by simp, by simp⟩, fun _ q => ⟨xs, ys, q.1, q.2, by omega, by omega, by omega⟩, fun i H v H' _ q y => by
    obtain ⟨T, x, z, o, h1, h2, h3, h4, h5, h6⟩ := y
    exact ⟨T, x, z, o, h1, h2, h3, h4, h5 xs q.1, h6 ys q.2⟩⟩
end
section
variable {c : Ct} {X : Cx} {a b : Expr} {ea eb : E} {pos : Pos}
theorem zip_get {xs ys : List D} {i : Nat} {d : D} (e : ((xs.zip ys).map fun p => D.tup [p.1, p.2])[i]? = some d) : ∃ x y, xs[i]? = some x ∧ ys[i]? = some y ∧ d = .tup [x, y] := by
  rw [List.getElem?_map] at e
  cases q : (xs.zip ys)[i]? with
  | none => rw [q] at e; cases e
  | some p =>
    rw [q] at e; cases e
    obtain ⟨h1, h2⟩ := List.getElem?_zip_eq_some.mp q
    exact ⟨p.1, p.2, h1, h2, rfl⟩
theorem si_zip {p tpos : Pos} {elts : List Expr} {kk : Nat} (ok : COk c X) (hg : Gl X "zip") (hm : X.mg "zip" = none) (ha : PE X a (tE c ea)) (hb : PE X b (tE c eb))
    (hs : starEach [a, b] X.env = (false, eval a X.env) :: starEach [b] X.env) (hs2 : starEach [b] X.env = (false, eval b X.env) :: starEach [] X.env) (hpl : (backTo pos (starEach [b] X.env)).any (·.1) = false) :
    PI X (.Tuple elts kk tpos) (.Call (.Name "zip" p) [a, b] [] pos) (tI c (.zip ea eb)) :=
  PI_imp (PI_lens (pi_zipB hg hm (pa_cons ha (pa_cons hb pa_nil hs2) hs) hs hpl)) fun σ H Q ⟨base, io, R, Bs, ρ, M, a, h⟩ => by
    unfold evI at h
    refine tE_bind a h fun x H1 io1 M1 dx x1 a1 r1 h1 => ?_
    refine tE_bind a1 h1 fun y H2 io2 M2 dy x2 a2 r2 h2 => ?_
    split at h2
    · rename_i xs ys e1 e2
      have r1 := r1.tr x2.tr
      obtain ⟨a, vs, t, rfl, q1, _, k1⟩ := side_later a2.st r1 e1
      obtain ⟨b, ws, u, rfl, q2, _, k2⟩ := side_later a2.st r2 e2
      rw [ok.K]
      refine ⟨a, b, vs, ws, t, u, rfl, q1, q2, fun L => h2.fin ⟨a2.st, walks_of ?_ fun io3 M3 H3 R3 tr s3 st => ?_⟩⟩
      · have := len_items a2.st r1 e1 L
        simp only [List.length_map, List.length_zip]
        omega
      · obtain ⟨vs2, p1, l1, rr1⟩ := k1 s3 tr (fun n hn => st n (List.mem_append_left _ hn))
        obtain ⟨ws2, p2, l2, rr2⟩ := k2 s3 tr (fun n hn => st n (List.mem_append_right _ hn))
        have el : min vs2.length ws2.length = ((xs.zip ys).map fun p => D.tup [p.1, p.2]).length := by simp [l1, l2]
        refine ⟨_, _, el ▸ walk_zipB (K := c.K) (a := a) (b := b) (t := t) (u := u) (xs := vs2) (ys := ws2), ⟨p1, p2⟩, ?_⟩
        · rintro i d x H3 ei ⟨T, y, z, o, rfl, hT, hd, eH, g1, g2⟩
          obtain ⟨dx', dy', w1, w2, rfl⟩ := zip_get ei
          obtain ⟨v, o1, o2⟩ := rr1.get w1
          obtain ⟨v', o3, o4⟩ := rr2.get w2
          have g1 : vs2[i]? = some y := g1
          have g2 : ws2[i]? = some z := g2
          rw [o1] at g1; cases g1
          rw [o3] at g2; cases g2
          exact pair_yld s3 hT hd o2 o4 eH
    · exact h2.elim
end
end Net
end

section
set_option Elab.async false
set_option linter.all false
set_option maxRecDepth 100000
/-! N11: targets; comprehensions. -/
namespace Net
open PySem PySem.Spec PyProof.Rows L2
variable [TabL]

mutual
def T.slots : T → List Nat
  | .nm i => [i]
  | .tp ts => T.slotsL ts
def T.slotsL : List T → List Nat
  | [] => []
  | t :: ts => t.slots ++ T.slotsL ts
end
theorem wipe_comm {α : Type} : ∀ (σ : List (Option α)) (i j : Nat), (σ.set i none).set j none = (σ.set j none).set i none := fun σ i j => by
  by_cases h : i = j
  · subst h; rfl
  · exact List.set_comm _ _ h
theorem wipe_set0 (σ : L2.St) (i : Nat) : ∀ vs : List Nat, wipe (σ.set i none) vs = (wipe σ vs).set i none
  | [] => rfl
  | v :: vs => by
    show (wipe (σ.set i none) vs).set v none = ((wipe σ vs).set v none).set i none
    rw [wipe_set0 σ i vs, wipe_comm]
theorem wipe_had (σ : L2.St) (i : Nat) : ∀ {vs : List Nat}, i ∈ vs → (wipe σ vs).set i none = wipe σ vs
  | v :: vs, h => by
    show ((wipe σ vs).set v none).set i none = (wipe σ vs).set v none
    rcases List.mem_cons.mp h with rfl | h
    · rw [List.set_set]
    · rw [wipe_comm, wipe_had σ i h]
theorem wipe_set (σ : L2.St) (i : Nat) (x : Option V) {vs : List Nat} (h : i ∈ vs) : wipe (σ.set i x) vs = wipe σ vs := by
  rw [← wipe_had (σ.set i x) i h, ← wipe_set0, List.set_set, wipe_set0, wipe_had σ i h]
theorem wipe_wipe (σ : L2.St) : ∀ vs ws : List Nat, (∀ i ∈ vs, i ∈ ws) → wipe (wipe σ vs) ws = wipe σ ws
  | [], ws, _ => rfl
  | v :: vs, ws, h => by
    show wipe ((wipe σ vs).set v none) ws = wipe σ ws
    rw [wipe_set _ _ _ (h v List.mem_cons_self)]
    exact wipe_wipe σ vs ws fun i hi => h i (List.mem_cons_of_mem _ hi)

section
variable (c : Ct)
def tG (t : T) : TG := fun v σ H Q => ∃ base io R Bs ρ M d ρ', At c.K io R Bs base ρ M σ H ∧ Rp c.K io R H d v ∧ asg t d ρ = some ρ' ∧
  ∀ σ' H', (∀ a o, H a = some o → H' a = some o) → At c.K io R Bs base ρ' M σ' H' → (∀ vs : List Nat, (∀ i ∈ t.slots, i ∈ vs) → wipe σ' vs = wipe σ vs) → Q σ' H'
def tGs (ts : List T) : TGs := fun vs σ H Q => ∃ base io R Bs ρ M ds ρ', At c.K io R Bs base ρ M σ H ∧ RpL c.K io R H ds vs ∧ asgs ts ds ρ = some ρ' ∧
  ∀ σ' H', (∀ a o, H a = some o → H' a = some o) → At c.K io R Bs base ρ' M σ' H' → (∀ vs : List Nat, (∀ i ∈ T.slotsL ts, i ∈ vs) → wipe σ' vs = wipe σ vs) → Q σ' H'
end
theorem PG_imp {X : Cx} {tg : Expr} {t t' : TG} (h : PG X tg t) (q : ∀ v σ H Q, t' v σ H Q → t v σ H Q) : PG X tg t' := ⟨fun pins s σ H v u Q I r z => h.run pins s σ H v u Q I r (q v σ H Q z)⟩
theorem PGs_imp {X : Cx} {tg : List Expr} {t t' : TGs} (h : PGs X tg t) (q : ∀ v σ H Q, t' v σ H Q → t v σ H Q) : PGs X tg t' := ⟨fun pins s σ H v u Q I r z => h.run pins s σ H v u Q I r (q v σ H Q z)⟩
theorem At.grow {K : PySem.W.Frag} {io R : List Addr} {Bs : List Nat} {base : Nat} {ρ : Fr} {M : Mem} {σ : L2.St} {H H' : Hp} (a : At K io R Bs base ρ M σ H) (g : ∀ a o, H a = some o → H' a = some o) : At K io R Bs base ρ M σ H' :=
  a.to (.same g) (a.st.grow g)
section
variable {c : Ct} {X : Cx} {e : Expr} {es : List Expr} {pos : Pos}
theorem sg_nm {i : Nat} {x : Str} (ok : COk c X) (hi : X.N[i]? = some x) (hx : Loc X.env.scope x) (hf : X.fn x = true ∨ X.env.scope.names.lookup x = some .local) : PG X (.Name x pos) (tG c (.nm i)) :=
  PG_imp (pg_name ok.nd hi hx hf) fun v σ H Q ⟨base, io, R, Bs, ρ, M, d, ρ', a, r, e, q⟩ => by
    unfold asg at e
    split at e
    · cases e
      exact q _ _ (fun _ _ h => h) ⟨a.st, a.fr.set r, a.bs⟩ fun vs h => wipe_set _ _ _ (h i List.mem_cons_self)
    · cases e
theorem sgs_nil : PGs X [] (tGs c []) := PGs_imp pgs_nil fun vs σ H Q ⟨base, io, R, Bs, ρ, M, ds, ρ', a, r, e, q⟩ => by
  cases ds with
  | nil => cases r; unfold asgs at e; cases e; exact ⟨rfl, q _ _ (fun _ _ h => h) a fun _ _ => rfl⟩
  | cons => unfold asgs at e; cases e
theorem sgs_cons {t : T} {ts : List T} (h1 : PG X e (tG c t)) (h2 : PGs X es (tGs c ts)) (hs : (assignEach (e :: es) X.env).map (·.2) = assign e X.env :: (assignEach es X.env).map (·.2)) : PGs X (e :: es) (tGs c (t :: ts)) :=
  PGs_imp (pgs_cons h1 h2 hs) fun vs σ H Q ⟨base, io, R, Bs, ρ, M, ds, ρ', a, r, e, q⟩ => by
    cases ds with
    | nil => unfold asgs at e; cases e
    | cons d ds =>
      unfold asgs at e
      split at e
      · rename_i ρ1 e1
        cases r with
        | cons r rr =>
          refine ⟨_, _, rfl, base, io, R, Bs, ρ, M, d, ρ1, a, r, e1, fun σ1 H1 g1 a1 w1 => ?_⟩
          refine ⟨base, io, R, Bs, ρ1, M, ds, ρ', a1, rr.tr (Ext.tr (.same g1)), e, fun σ2 H2 g2 a2 w2 => q σ2 H2 (fun b o z => g2 b o (g1 b o z)) a2 fun vs h => ?_⟩
          rw [w2 vs fun i hi => h i (List.mem_append_right _ hi), w1 vs fun i hi => h i (List.mem_append_left _ hi)]
      · cases e
theorem asgs_len : ∀ {ts : List T} {ds : List D} {ρ ρ' : Fr}, asgs ts ds ρ = some ρ' → ds.length = ts.length
  | [], [], _, _, _ => rfl
  | [], _ :: _, _, _, e => by unfold asgs at e; cases e
  | _ :: _, [], _, _, e => by unfold asgs at e; cases e
  | t :: ts, d :: ds, ρ, ρ', e => by
    unfold asgs at e
    split at e
    · simp [asgs_len e]
    · cases e
theorem sg_tp {k : Nat} {ts : List T} (ok : COk c X) (h : PGs X es (tGs c ts)) (hn : (assignEach es X.env).length = ts.length) (hst : (assignEach es X.env).findIdx? (·.1) = none) : PG X (.Tuple es k pos) (tG c (.tp ts)) :=
  PG_imp (pg_tup ok.calm h hn hst) fun v σ H Q ⟨base, io, R, Bs, ρ, M, d, ρ', a, r, e, q⟩ => by
    cases r with
    | @tup p ds vs h1 h2 h3 h4 =>
      unfold asg at e
      rw [ok.K]
      refine ⟨_, _, rfl, h3.sq, by rw [← h4.length]; exact asgs_len e, base, io, R, Bs, ρ, M, ds, ρ', a, h4, e, fun σ' H' g a' w => q σ' H' g a' fun vs h => w vs fun i hi => h i hi⟩
    | _ => unfold asg at e; cases e
end

/-! ### no exception leaves it -/
def Good {α : Type} (P : α → Mem → Prop) : Rs α → Prop
  | .ok a M => P a M
  | _ => False
theorem good_bind {α β : Type} {P : β → Mem → Prop} {r : Rs α} {f : α → Mem → Rs β} (h : Good P (r.bind f)) : Good (fun a M => Good P (f a M)) r := by
  cases r with
  | ok a M => exact h
  | exc _ _ _ => exact h.elim
  | bad => exact h.elim
theorem Good.post {α β : Type} {cl : Nat → Option Value} {K : PySem.W.Frag} {R : List Addr} {Bs : List Nat} {io : List Addr} {H : Hp} {rp : List Addr → Mem → Hp → α → β → Prop} {Wx : Wish} {P : α → Mem → Prop} {Q : β → Hp → Prop} {r : Rs α} (h : Good P r)
    (q : ∀ b H1 io1 M1 a, Ext io H io1 H1 → rp io1 M1 H1 a b → P a M1 → Q b H1) : Post cl K R Bs io H rp Wx Q r := by
  cases r with
  | ok a M => exact fun io' H' b x z => q b H' io' M a x z h
  | exc _ _ _ => exact h.elim
  | bad => exact h.elim
theorem Good.of {α : Type} {P : α → Mem → Prop} {M : Mem} {o : Option α} (h : Good P (Rs.of M o)) : ∃ a, o = some a ∧ P a M := by
  cases o with
  | some a => exact ⟨a, rfl, h⟩
  | none => exact h.elim
/-- in a block no exception is let out -/
def Ct.hush (c : Ct) : Ct := { c with W := fun _ _ _ _ => False }
theorem COk.blk {c : Ct} {X : Cx} (ok : COk c X) (s : Shared) (H : Hp) (scope : Scope) (cenv : Env) (fp : List Addr) : COk c.hush (X.blk s H scope cenv fp) :=
  ⟨ok.K, ok.nd, ok.calm, fun u s' ⟨_, _, _, _, _, _, _, _, _, _, _, _, _, _, _, _, w⟩ => w.elim, .never, ok.un, ok.gd⟩

/-! ### [e for t in it if c] -/
theorem Ext.updD {io io' : List Addr} {H H' : Hp} {p : Addr} {o : HO} (x : Ext io H io' H') (h : H p = Option.none) : Ext io H io' (L2.upd H' p o) :=
  ⟨x.pre, fun a u q n e => by rw [upd_ne (ne_of_none e h)]; exact x.keep a u q n e, fun a u q e => by rw [upd_ne (ne_of_none e h)]; exact x.dom a u q e, x.new⟩
theorem Tr.updD {io R : List Addr} {H : Hp} {p : Addr} {o : HO} : Tr io (p :: R) H io (p :: R) (L2.upd H p o) :=
  ⟨List.prefix_rfl, fun a u h1 h2 _ e => ⟨h1, h2, by rw [upd_ne (not_head h2)]; exact e⟩⟩
theorem Ext.trD {io io' R : List Addr} {H H' : Hp} {p : Addr} (x : Ext io H io' H') (h : H p = Option.none) : Tr io R H io' (p :: R) H' :=
  ⟨x.pre, fun a u h1 h2 n e => ⟨x.out h1 e, fun z => (List.mem_cons.mp z).elim (ne_of_none e h) h2, x.keep a u h1 n e⟩⟩
theorem pts_yes {c : Ct} {X : Cx} : PTs X [] (tT c (.bl true)) := ⟨fun pins s σ H Q I ⟨base, io, R, Bs, ρ, M, a, h⟩ => pts_nil.run pins s σ H Q I (by
  unfold ev at h
  obtain ⟨b, e, q⟩ := h.fin (b := .bl true) ⟨a.st, .bl⟩
  cases e; exact q)⟩
theorem still_trans {g : List Nat} {M M1 M2 : Mem} (h : Still g M M2) : Still g M M2 := h
open Classical in
theorem compL_cons {P : List D → Mem → Prop} {g : List Nat} {M0 : Mem} {step : D → Mem → Rs (Option D)} {d : D} {ds acc : List D} {M : Mem} {β γ : Type} {cl : Nat → Option Value} {K : PySem.W.Frag} {R : List Addr} {Bs : List Nat} {io : List Addr} {H : Hp} {rp : List Addr → Mem → Hp → β → γ → Prop} {Wx : Wish} {Q : γ → Hp → Prop} {f : List D → Mem → Rs β}
    (h : Post cl K R Bs io H rp Wx Q ((compL g M0 step (d :: ds) acc M).bind f)) : Good (fun o M' => Still g M0 M' ∧ Post cl K R Bs io H rp Wx Q ((compL g M0 step ds (acc ++ o.toList) M').bind f)) (step d M) := by
  unfold compL at h
  cases q : step d M with
  | ok o M' =>
    rw [q] at h
    simp only at h
    split at h
    · rename_i hs; exact ⟨hs, h⟩
    · exact h.elim
  | exc _ _ _ => rw [q] at h; exact h.elim
  | bad => rw [q] at h; exact h.elim
section
variable {c : Ct} {X : Cx} {elt tg iter : Expr} {ifs : List Expr} {scope : Scope} {own : List (Str × Nat)} {pos : Pos} {t : T} {ei : I} {ec ee : E}
theorem lc_in {σ : L2.St} {H : Hp} {Q : VK} (hsl : ∀ i ∈ t.slots, i ∈ own.map (·.2)) (h : tCe c (.comp t ei ec ee (own.map (·.2))) σ H Q) :
    tLc (tI c ei) (tG c.hush t) (tT c.hush ec) (tE c.hush ee) (own.map (·.2)) σ H Q := by
  obtain ⟨base, io, R, Bs, ρ, M, a, h⟩ := h
  unfold evC at h
  refine ⟨base, io, R, Bs, ρ, M, a, Post.imp (Post.bind (rp := rpI c.K R Bs) h) fun J H1 ⟨io1, M1, z, x1, ⟨s1, wk⟩, h1⟩ D hD => ?_⟩
  obtain ⟨ds, g⟩ := z
  obtain ⟨hz, wk⟩ := wk
  have hz : ds.length ≤ sizeLine := hz
  generalize hst : (fun (d : Net.D) (M : Mem) => match asg t d (wipeD ρ (own.map (·.2))) with
        | none => Rs.bad
        | some ρ' => (ev c.F base ec ρ' M).bind fun k M => match k with
          | .bl true => (ev c.F base ee ρ' M).bind fun y M => .ok (some y) M
          | .bl false => .ok none M
          | _ => .bad) = step at h1
  have a1 : At c.K io1 R Bs base ρ M1 σ H1 := a.to x1 s1
  have np := s1.nope hD
  refine ⟨fun i m H' => m = ds.length - i ∧ i ≤ ds.length ∧ ∃ io' M' acc vs, Ext io1 H1 io' H' ∧ St8 c.K io' (D :: R) Bs M' H' ∧ H' D = some (.lst vs) ∧ RpL c.K io' (D :: R) H' acc vs ∧ acc.length ≤ i ∧ Still g M1 M' ∧
      Post c.cl c.K R Bs io1 H1 (rpC c.K R Bs H) (fun k dx H => c.W k dx σ H) Q ((compL g M1 step (ds.drop i) acc M').bind fun ds M => .ok (.lst ds) M),
    ⟨_, rfl, Nat.zero_le _, io1, M1, [], [], .upd hD, s1.more hD boxL, upd_same, .nil, Nat.le_refl _, fun _ _ => rfl, h1⟩, ?_⟩
  rintro i m H' ⟨rfl, hi, io', M', acc, vs, x', s', eD, ra, la, st, h'⟩
  obtain ⟨w1, w2⟩ := wk io' M' H' (D :: R) (x'.trD hD) s' st
  by_cases hlt : i < ds.length
  · have hd : ds[i]? = some ds[i] := List.getElem?_eq_getElem hlt
    generalize ds[i] = d at hd
    obtain ⟨go, yl⟩ := w2 i d hd
    have edrop : ds.drop i = d :: ds.drop (i + 1) := by
      obtain ⟨_, e⟩ := List.getElem?_eq_some_iff.mp hd
      rw [← e]; exact List.drop_eq_getElem_cons hlt
    rw [edrop] at h'
    have gd := compL_cons (P := fun _ _ => True) h'
    rw [show step d M' = _ from congrFun (congrFun hst.symm d) M'] at gd
    have n1 : ∀ H'', (∃ io2 M2 o wo, Ext io1 H1 io2 H'' ∧ St8 c.K io2 (D :: R) Bs M2 H'' ∧ H'' D = some (.lst wo) ∧ RpL c.K io2 (D :: R) H'' (acc ++ Option.toList o) wo ∧ Still g M1 M2 ∧
        Post c.cl c.K R Bs io1 H1 (rpC c.K R Bs H) (fun k dx H => c.W k dx σ H) Q ((compL g M1 step (ds.drop (i + 1)) (acc ++ Option.toList o) M2).bind fun ds M => .ok (.lst ds) M)) →
        ∃ m', m' < ds.length - i ∧ m' = ds.length - (i + 1) ∧ i + 1 ≤ ds.length ∧ ∃ io' M' acc vs, Ext io1 H1 io' H'' ∧ St8 c.K io' (D :: R) Bs M' H'' ∧ H'' D = some (.lst vs) ∧ RpL c.K io' (D :: R) H'' acc vs ∧ acc.length ≤ i + 1 ∧ Still g M1 M' ∧
      Post c.cl c.K R Bs io1 H1 (rpC c.K R Bs H) (fun k dx H => c.W k dx σ H) Q ((compL g M1 step (ds.drop (i + 1)) acc M').bind fun ds M => .ok (.lst ds) M) := by
      rintro H'' ⟨io2, M2, o, wo, y1, y2, y3, y4, y5, y6⟩
      exact ⟨_, by omega, rfl, hlt, io2, M2, _, wo, y1, y2, y3, y4, by cases o <;> simp <;> omega, y5, y6⟩
    refine .inr ⟨go, _, n1, fun x H3 y => ?_⟩
    obtain ⟨g3, r3⟩ := yl x H3 y
    have s3 := s'.grow g3
    have x3 : Ext io1 H1 io' H3 := x'.trans (.same g3)
    have a3 : At c.K io' (D :: R) Bs base (wipeD ρ (own.map (·.2))) M' (wipe σ (own.map (·.2))) H3 := ⟨s3, (a1.fr.tr (x3.trD hD)).wipe _, a1.bs⟩
    cases q : asg t d (wipeD ρ (own.map (·.2))) with
    | none => rw [q] at gd; exact gd.elim
    | some ρ1 =>
      rw [q] at gd
      refine ⟨base, io', D :: R, Bs, _, M', d, ρ1, a3, r3, q, fun σ4 H4 g4 a4 w4 => ⟨(w4 _ hsl).trans (wipe_wipe _ _ _ fun _ h => h), ?_⟩⟩
      have ra4 := (ra.tr (Ext.tr (.same g3))).tr (Ext.tr (.same g4))
      have gd := good_bind gd
      refine ⟨base, io', D :: R, Bs, ρ1, M', a4, Good.post (rp := rpE c.K (D :: R) Bs) gd fun v H5 io5 M5 k x5 ⟨s5, r5⟩ p5 => ?_⟩
      have a5 := a4.to x5 s5
      have x5' : Ext io1 H1 io5 H5 := (x3.trans (.same g4)).trans x5
      have e5 : H5 D = some (.lst vs) := x5.keep _ _ (s3.rs D List.mem_cons_self).1 noLst (g4 _ _ (g3 _ _ eD))
      split at p5
      · cases r5
        refine ⟨true, rfl, iteT ?_⟩
        have p5 := good_bind p5
        refine ⟨base, io5, D :: R, Bs, ρ1, M5, a5, Good.post (rp := rpE c.K (D :: R) Bs) p5 fun v H6 io6 M6 y x6 ⟨s6, r6⟩ p6 => ?_⟩
        have e6 : H6 D = some (.lst vs) := x6.keep _ _ (s5.rs D List.mem_cons_self).1 noLst e5
        have ra6 := (ra4.tr x5.tr).tr x6.tr
        refine ⟨vs, e6, by have := ra.length; omega, io6, M6, some y, _, (x5'.trans x6).updD hD, s6.free boxL, upd_same, ?_, p6.1, p6.2⟩
        exact (ra6.append (.cons r6 .nil)).tr .updD
      · cases r5
        refine ⟨false, rfl, iteF ?_⟩
        exact ⟨io5, M5, none, vs, x5', s5, e5, by simpa using ra4.tr x5.tr, p5.1, p5.2⟩
      · exact p5.elim
  · have e : i = ds.length := by omega
    subst e
    refine .inl ⟨w1, ?_⟩
    rw [List.drop_length] at h'
    unfold compL at h'
    exact h' io' H' _ x' ⟨D, rfl, x1.none s1 hD, np.2, s', vs, eD, ra⟩
theorem sc_comp (ok : COk c X) (hi : PI X tg iter (tI c ei)) (okb : BlkOk X.N X.env.scope scope own) (hsl : ∀ i ∈ t.slots, i ∈ own.map (·.2))
    (hg : ∀ (s : Shared) (H : Hp) (C : Addr) (cl : List (Str × Addr)) (fp : List Addr), PG (X.blk s H scope (compEnvC scope cl C X.env) fp) tg (tG c.hush t)) (ht : ∀ (s : Shared) (H : Hp) (C : Addr) (cl : List (Str × Addr)) (fp : List Addr), PTs (X.blk s H scope (compEnvC scope cl C X.env) fp) ifs (tT c.hush ec))
    (he : ∀ (s : Shared) (H : Hp) (C : Addr) (cl : List (Str × Addr)) (fp : List Addr), PE (X.blk s H scope (compEnvC scope cl C X.env) fp) elt (tE c.hush ee)) (hs : ∀ x, foldedSetIterable iter X.env x = pure x) :
    PE X (.ListComp elt [⟨tg, iter, ifs, 0⟩] scope pos) (tCe c (.comp t ei ec ee (own.map (·.2)))) :=
  PE_imp (pe_lc ok.calm ok.nd hi okb hg ht he hs) fun σ H Q h => lc_in hsl h
end
end Net
end

section
set_option Elab.async false
set_option linter.all false
set_option maxRecDepth 100000
/-! N12: comprehensions of two clauses. -/
namespace Net
open PySem PySem.Spec PyProof.Rows L2
variable [TabL]
open Classical in
theorem compLL_cons {g : List Nat} {M0 : Mem} {step : D → List D → Mem → Rs (List D)} {d : D} {ds acc : List D} {M : Mem} {β γ : Type} {cl : Nat → Option Value} {K : PySem.W.Frag} {R : List Addr} {Bs : List Nat} {io : List Addr} {H : Hp} {rp : List Addr → Mem → Hp → β → γ → Prop} {Wx : Wish} {Q : γ → Hp → Prop} {f : List D → Mem → Rs β}
    (h : Post cl K R Bs io H rp Wx Q ((compLL g M0 step (d :: ds) acc M).bind f)) : Good (fun acc' M' => Still g M0 M' ∧ Post cl K R Bs io H rp Wx Q ((compLL g M0 step ds acc' M').bind f)) (step d acc M) := by
  unfold compLL at h
  cases q : step d acc M with
  | ok o M' =>
    rw [q] at h
    simp only at h
    split at h
    · rename_i hs; exact ⟨hs, h⟩
    · exact h.elim
  | exc _ _ _ => rw [q] at h; exact h.elim
  | bad => rw [q] at h; exact h.elim
theorem compLL_nil {g : List Nat} {M0 : Mem} {step : D → List D → Mem → Rs (List D)} {acc : List D} {M : Mem} : compLL g M0 step [] acc M = .ok acc M := by unfold compLL; rfl
open Classical in
theorem compLL_good {P : List D → Mem → Prop} {g : List Nat} {M0 : Mem} {step : D → List D → Mem → Rs (List D)} {d : D} {ds acc : List D} {M : Mem}
    (h : Good P (compLL g M0 step (d :: ds) acc M)) : Good (fun acc' M' => Still g M0 M' ∧ Good P (compLL g M0 step ds acc' M')) (step d acc M) := by
  unfold compLL at h
  cases q : step d acc M with
  | ok o M' =>
    rw [q] at h
    simp only at h
    split at h
    · rename_i hs; exact ⟨hs, h⟩
    · exact h.elim
  | exc _ _ _ => rw [q] at h; exact h.elim
  | bad => rw [q] at h; exact h.elim
theorem Tr.trans {io R io2 R2 io3 R3 : List Addr} {H H2 H3 : Hp} (x : Tr io R H io2 R2 H2) (y : Tr io2 R2 H2 io3 R3 H3) : Tr io R H io3 R3 H3 :=
  ⟨x.pre.trans y.pre, fun a o h1 h2 n e => let ⟨q1, q2, q3⟩ := x.keep a o h1 h2 n e; y.keep a o q1 q2 n q3⟩
section
variable {c : Ct} {X : Cx} {elt tg iter tg1 iter1 : Expr} {ifs ifs1 : List Expr} {scope : Scope} {own : List (Str × Nat)} {vs1 : List Nat} {pos : Pos} {t t1 : T} {ei ei1 : I} {ec ec1 ee : E}
theorem lc2_in {σ : L2.St} {H : Hp} {Q : VK} (hsl : ∀ i ∈ t.slots, i ∈ own.map (·.2)) (hsl1 : ∀ i ∈ t1.slots, i ∈ vs1) (h : tCe c (.comp2 t ei ec t1 ei1 ec1 ee (own.map (·.2)) vs1) σ H Q) :
    tLc2 (tI c ei) (tG c.hush t) (tT c.hush ec) (tI c.hush ei1) (tG c.hush t1) (tT c.hush ec1) (tE c.hush ee) (own.map (·.2)) vs1 σ H Q := by
  obtain ⟨base, io, R, Bs, ρ, M, a, h⟩ := h
  unfold evC at h
  refine ⟨base, io, R, Bs, ρ, M, a, Post.imp (Post.bind (rp := rpI c.K R Bs) h) fun J H1 ⟨io1, M1, z, x1, ⟨s1, wk⟩, h1⟩ D hD => ?_⟩
  obtain ⟨ds, g⟩ := z
  obtain ⟨hz, wk⟩ := wk
  generalize hst : (fun (d : Net.D) (acc : List Net.D) (M : Mem) => match asg t d (wipeD ρ (own.map (·.2))) with
        | none => Rs.bad
        | some ρ1 => (ev c.F base ec ρ1 M).bind fun k M => match k with
          | .bl false => .ok acc M
          | .bl true => (evI c.F base ei1 ρ1 M).bind fun z2 M1 => compLL z2.2 M1 (fun d2 acc M => match asg t1 d2 (wipeD ρ1 vs1) with
            | none => .bad
            | some ρ2 => (ev c.F base ec1 ρ2 M).bind fun k M => match k with
              | .bl true => (ev c.F base ee ρ2 M).bind fun y M => if acc.length < sizeLine then .ok (acc ++ [y]) M else .bad
              | .bl false => .ok acc M
              | _ => .bad) z2.1 acc M1
          | _ => .bad) = step at h1
  have a1 : At c.K io1 R Bs base ρ M1 σ H1 := a.to x1 s1
  have np := s1.nope hD
  refine ⟨fun i m H' => m = ds.length - i ∧ i ≤ ds.length ∧ ∃ io' M' acc vs, Ext io1 H1 io' H' ∧ St8 c.K io' (D :: R) Bs M' H' ∧ H' D = some (.lst vs) ∧ RpL c.K io' (D :: R) H' acc vs ∧ Still g M1 M' ∧
      Post c.cl c.K R Bs io1 H1 (rpC c.K R Bs H) (fun k dx H => c.W k dx σ H) Q ((compLL g M1 step (ds.drop i) acc M').bind fun ds M => .ok (.lst ds) M),
    ⟨_, rfl, Nat.zero_le _, io1, M1, [], [], .upd hD, s1.more hD boxL, upd_same, .nil, fun _ _ => rfl, h1⟩, ?_⟩
  rintro i m H' ⟨rfl, hi, io', M', acc, vs, x', s', eD, ra, st, h'⟩
  obtain ⟨w1, w2⟩ := wk io' M' H' (D :: R) (x'.trD hD) s' st
  by_cases hlt : i < ds.length
  · have hd : ds[i]? = some ds[i] := List.getElem?_eq_getElem hlt
    generalize ds[i] = d at hd
    obtain ⟨go, yl⟩ := w2 i d hd
    have edrop : ds.drop i = d :: ds.drop (i + 1) := by
      obtain ⟨_, e⟩ := List.getElem?_eq_some_iff.mp hd
      rw [← e]; exact List.drop_eq_getElem_cons hlt
    rw [edrop] at h'
    have gd := compLL_cons h'
    rw [show step d acc M' = _ from congrFun (congrFun (congrFun hst.symm d) acc) M'] at gd
    have n1 : ∀ H'', (∃ io2 M2 ac wo, Ext io1 H1 io2 H'' ∧ St8 c.K io2 (D :: R) Bs M2 H'' ∧ H'' D = some (.lst wo) ∧ RpL c.K io2 (D :: R) H'' ac wo ∧ Still g M1 M2 ∧
        Post c.cl c.K R Bs io1 H1 (rpC c.K R Bs H) (fun k dx H => c.W k dx σ H) Q ((compLL g M1 step (ds.drop (i + 1)) ac M2).bind fun ds M => .ok (.lst ds) M)) →
        ∃ m', m' < ds.length - i ∧ m' = ds.length - (i + 1) ∧ i + 1 ≤ ds.length ∧ ∃ io' M' acc vs, Ext io1 H1 io' H'' ∧ St8 c.K io' (D :: R) Bs M' H'' ∧ H'' D = some (.lst vs) ∧ RpL c.K io' (D :: R) H'' acc vs ∧ Still g M1 M' ∧
      Post c.cl c.K R Bs io1 H1 (rpC c.K R Bs H) (fun k dx H => c.W k dx σ H) Q ((compLL g M1 step (ds.drop (i + 1)) acc M').bind fun ds M => .ok (.lst ds) M) :=
      fun H'' q => ⟨_, by omega, rfl, hlt, q⟩
    refine .inr ⟨go, _, n1, fun x H3 y => ?_⟩
    obtain ⟨g3, r3⟩ := yl x H3 y
    have s3 := s'.grow g3
    have x3 : Ext io1 H1 io' H3 := x'.trans (.same g3)
    have a3 : At c.K io' (D :: R) Bs base (wipeD ρ (own.map (·.2))) M' (wipe σ (own.map (·.2))) H3 := ⟨s3, (a1.fr.tr (x3.trD hD)).wipe _, a1.bs⟩
    cases q : asg t d (wipeD ρ (own.map (·.2))) with
    | none => rw [q] at gd; exact gd.elim
    | some ρ1 =>
      rw [q] at gd
      refine ⟨base, io', D :: R, Bs, _, M', d, ρ1, a3, r3, q, fun σ4 H4 g4 a4 w4 => ⟨(w4 _ hsl).trans (wipe_wipe _ _ _ fun _ h => h), ?_⟩⟩
      have ra4 := (ra.tr (Ext.tr (.same g3))).tr (Ext.tr (.same g4))
      have gd := good_bind gd
      refine ⟨base, io', D :: R, Bs, ρ1, M', a4, Good.post (rp := rpE c.K (D :: R) Bs) gd fun v H5 io5 M5 k x5 ⟨s5, r5⟩ p5 => ?_⟩
      have a5 := a4.to x5 s5
      have x5' : Ext io1 H1 io5 H5 := (x3.trans (.same g4)).trans x5
      have e5 : H5 D = some (.lst vs) := x5.keep _ _ (s3.rs D List.mem_cons_self).1 noLst (g4 _ _ (g3 _ _ eD))
      have ra5 := ra4.tr x5.tr
      split at p5
      · cases r5
        refine ⟨false, rfl, iteF ?_⟩
        exact ⟨io5, M5, acc, vs, x5', s5, e5, ra5, p5.1, p5.2⟩
      · cases r5
        refine ⟨true, rfl, iteT ?_⟩
        have p5 := good_bind p5
        refine ⟨base, io5, D :: R, Bs, ρ1, M5, a5, Good.post (rp := rpI c.K (D :: R) Bs) p5 fun J1 H6 io6 M6 z2 x6 ⟨s6, wk6⟩ p6 => ?_⟩
        obtain ⟨ds2, g2⟩ := z2
        obtain ⟨hz2, wk6⟩ := wk6
        generalize hst2 : (fun (d2 : Net.D) (acc : List Net.D) (M : Mem) => match asg t1 d2 (wipeD ρ1 vs1) with
            | none => Rs.bad
            | some ρ2 => (ev c.F base ec1 ρ2 M).bind fun k M => match k with
              | .bl true => (ev c.F base ee ρ2 M).bind fun y M => if acc.length < sizeLine then .ok (acc ++ [y]) M else .bad
              | .bl false => .ok acc M
              | _ => .bad) = step2 at p6
        have x6' : Ext io1 H1 io6 H6 := x5'.trans x6
        have e6 : H6 D = some (.lst vs) := x6.keep _ _ (s5.rs D List.mem_cons_self).1 noLst e5
        have a6 := a5.to x6 s6
        refine ⟨fun j k H' => k = ds2.length - j ∧ j ≤ ds2.length ∧ ∃ io' M' acc vs, Ext io1 H1 io' H' ∧ Tr io6 (D :: R) H6 io' (D :: R) H' ∧ St8 c.K io' (D :: R) Bs M' H' ∧ H' D = some (.lst vs) ∧ RpL c.K io' (D :: R) H' acc vs ∧ Still g2 M6 M' ∧
            Good (fun acc' M' => Still g M1 M' ∧ Post c.cl c.K R Bs io1 H1 (rpC c.K R Bs H) (fun k dx H => c.W k dx σ H) Q ((compLL g M1 step (ds.drop (i + 1)) acc' M').bind fun ds M => .ok (.lst ds) M)) (compLL g2 M6 step2 (ds2.drop j) acc M'),
          ⟨_, rfl, Nat.zero_le _, io6, M6, acc, vs, x6', Ext.tr .refl, s6, e6, ra5.tr x6.tr, fun _ _ => rfl, p6⟩, ?_⟩
        rintro j k H7 ⟨rfl, hj, io7, M7, ac7, vs7, x7, tr7, s7, e7, ra7, st7, p7⟩
        obtain ⟨v1, v2⟩ := wk6 io7 M7 H7 (D :: R) tr7 s7 st7
        by_cases hlt2 : j < ds2.length
        · have hd2 : ds2[j]? = some ds2[j] := List.getElem?_eq_getElem hlt2
          generalize ds2[j] = d2 at hd2
          obtain ⟨go2, yl2⟩ := v2 j d2 hd2
          have edrop2 : ds2.drop j = d2 :: ds2.drop (j + 1) := by
            obtain ⟨_, e⟩ := List.getElem?_eq_some_iff.mp hd2
            rw [← e]; exact List.drop_eq_getElem_cons hlt2
          rw [edrop2] at p7
          have gd2 := compLL_good p7
          rw [show step2 d2 ac7 M7 = _ from congrFun (congrFun (congrFun hst2.symm d2) ac7) M7] at gd2
          have n2 : ∀ H'', (∃ io' M' acc vs, Ext io1 H1 io' H'' ∧ Tr io6 (D :: R) H6 io' (D :: R) H'' ∧ St8 c.K io' (D :: R) Bs M' H'' ∧ H'' D = some (.lst vs) ∧ RpL c.K io' (D :: R) H'' acc vs ∧ Still g2 M6 M' ∧
            Good (fun acc' M' => Still g M1 M' ∧ Post c.cl c.K R Bs io1 H1 (rpC c.K R Bs H) (fun k dx H => c.W k dx σ H) Q ((compLL g M1 step (ds.drop (i + 1)) acc' M').bind fun ds M => .ok (.lst ds) M)) (compLL g2 M6 step2 (ds2.drop (j + 1)) acc M')) →
            ∃ m', m' < ds2.length - j ∧ m' = ds2.length - (j + 1) ∧ j + 1 ≤ ds2.length ∧ ∃ io' M' acc vs, Ext io1 H1 io' H'' ∧ Tr io6 (D :: R) H6 io' (D :: R) H'' ∧ St8 c.K io' (D :: R) Bs M' H'' ∧ H'' D = some (.lst vs) ∧ RpL c.K io' (D :: R) H'' acc vs ∧ Still g2 M6 M' ∧
            Good (fun acc' M' => Still g M1 M' ∧ Post c.cl c.K R Bs io1 H1 (rpC c.K R Bs H) (fun k dx H => c.W k dx σ H) Q ((compLL g M1 step (ds.drop (i + 1)) acc' M').bind fun ds M => .ok (.lst ds) M)) (compLL g2 M6 step2 (ds2.drop (j + 1)) acc M') :=
            fun H'' q => ⟨_, by omega, rfl, hlt2, q⟩
          refine .inr ⟨go2, _, n2, fun x2 H8 y2 => ?_⟩
          obtain ⟨g8, r8⟩ := yl2 x2 H8 y2
          have s8 := s7.grow g8
          have tr8 : Tr io6 (D :: R) H6 io7 (D :: R) H8 := tr7.trans (Ext.tr (.same g8))
          have a8 : At c.K io7 (D :: R) Bs base (wipeD ρ1 vs1) M7 (wipe σ4 vs1) H8 := ⟨s8, (a6.fr.tr tr8).wipe _, a1.bs⟩
          cases q2 : asg t1 d2 (wipeD ρ1 vs1) with
          | none => rw [q2] at gd2; exact gd2.elim
          | some ρ2 =>
            rw [q2] at gd2
            refine ⟨base, io7, D :: R, Bs, _, M7, d2, ρ2, a8, r8, q2, fun σ9 H9 g9 a9 w9 => ⟨(w9 _ hsl1).trans (wipe_wipe _ _ _ fun _ h => h), ?_⟩⟩
            have tr9 := tr8.trans (Ext.tr (.same g9))
            have ra9 := (ra7.tr (Ext.tr (.same g8))).tr (Ext.tr (.same g9))
            have x9 : Ext io1 H1 io7 H9 := (x7.trans (.same g8)).trans (.same g9)
            have gd2 := good_bind gd2
            refine ⟨base, io7, D :: R, Bs, ρ2, M7, a9, Good.post (rp := rpE c.K (D :: R) Bs) gd2 fun v H10 io10 M10 k x10 ⟨s10, r10⟩ p10 => ?_⟩
            have a10 := a9.to x10 s10
            have e10 : H10 D = some (.lst vs7) := x10.keep _ _ (s8.rs D List.mem_cons_self).1 noLst (g9 _ _ (g8 _ _ e7))
            have ra10 := ra9.tr x10.tr
            have tr10 := tr9.trans x10.tr
            split at p10
            · cases r10
              refine ⟨true, rfl, iteT ?_⟩
              have p10 := good_bind p10
              refine ⟨base, io10, D :: R, Bs, ρ2, M10, a10, Good.post (rp := rpE c.K (D :: R) Bs) p10 fun v H11 io11 M11 y x11 ⟨s11, r11⟩ p11 => ?_⟩
              split at p11
              · rename_i hl11
                have e11 : H11 D = some (.lst vs7) := x11.keep _ _ (s10.rs D List.mem_cons_self).1 noLst e10
                refine ⟨vs7, e11, by rw [← ra7.length]; exact hl11, io11, M11, ac7 ++ [y], _, ((x9.trans x10).trans x11).updD hD, (tr10.trans x11.tr).trans .updD, s11.free boxL, upd_same, ?_, p11.1, p11.2⟩
                exact ((ra10.tr x11.tr).append (.cons r11 .nil)).tr .updD
              · exact p11.elim
            · cases r10
              refine ⟨false, rfl, iteF ?_⟩
              exact ⟨io10, M10, ac7, vs7, x9.trans x10, tr10, s10, e10, ra10, p10.1, p10.2⟩
            · exact p10.elim
        · have e : j = ds2.length := by omega
          subst e
          refine .inl ⟨v1, ?_⟩
          rw [List.drop_length, compLL_nil] at p7
          exact ⟨io7, M7, ac7, vs7, x7, s7, e7, ra7, p7.1, p7.2⟩
      · exact p5.elim
  · have e : i = ds.length := by omega
    subst e
    refine .inl ⟨w1, ?_⟩
    rw [List.drop_length] at h'
    unfold compLL at h'
    exact h' io' H' _ x' ⟨D, rfl, x1.none s1 hD, np.2, s', vs, eD, ra⟩
theorem sc_comp2 (ok : COk c X) (hi : PI X tg iter (tI c ei)) (okb : BlkOk X.N X.env.scope scope own) (hv : ∀ i ∈ vs1, i ∈ own.map (·.2)) (hsl : ∀ i ∈ t.slots, i ∈ own.map (·.2)) (hsl1 : ∀ i ∈ t1.slots, i ∈ vs1)
    (hg : ∀ (s : Shared) (H : Hp) (C : Addr) (cl : List (Str × Addr)) (fp : List Addr), PG (X.blk s H scope (compEnvC scope cl C X.env) fp) tg (tG c.hush t)) (ht : ∀ (s : Shared) (H : Hp) (C : Addr) (cl : List (Str × Addr)) (fp : List Addr), PTs (X.blk s H scope (compEnvC scope cl C X.env) fp) ifs (tT c.hush ec))
    (hi1 : ∀ (s : Shared) (H : Hp) (C : Addr) (cl : List (Str × Addr)) (fp : List Addr), PI (X.blk s H scope (compEnvC scope cl C X.env) fp) tg1 iter1 (tI c.hush ei1))
    (hg1 : ∀ (s : Shared) (H : Hp) (C : Addr) (cl : List (Str × Addr)) (fp : List Addr), PG (X.blk s H scope (compEnvC scope cl C X.env) fp) tg1 (tG c.hush t1)) (ht1 : ∀ (s : Shared) (H : Hp) (C : Addr) (cl : List (Str × Addr)) (fp : List Addr), PTs (X.blk s H scope (compEnvC scope cl C X.env) fp) ifs1 (tT c.hush ec1))
    (he : ∀ (s : Shared) (H : Hp) (C : Addr) (cl : List (Str × Addr)) (fp : List Addr), PE (X.blk s H scope (compEnvC scope cl C X.env) fp) elt (tE c.hush ee)) (hs : ∀ x, foldedSetIterable iter X.env x = pure x) (hs1 : ∀ env x, foldedSetIterable iter1 env x = pure x) :
    PE X (.ListComp elt [⟨tg, iter, ifs, 0⟩, ⟨tg1, iter1, ifs1, 0⟩] scope pos) (tCe c (.comp2 t ei ec t1 ei1 ec1 ee (own.map (·.2)) vs1)) :=
  PE_imp (pe_lc2 ok.calm ok.nd hi okb hv hg ht hi1 hg1 ht1 he hs hs1) fun σ H Q h => lc2_in hsl hsl1 h
end
end Net
end

section
set_option Elab.async false
set_option linter.all false
set_option maxRecDepth 100000
/-! N13: the order that sorted goes by; plain. -/
namespace Net
open PySem PySem.Spec PyProof.Rows L2

/-- what three comparisons of three things say of each other -/
def Tri (a b c : Ordering) : Prop := (a = .lt → b ≠ .gt → c = .lt) ∧ (a ≠ .gt → b = .lt → c = .lt) ∧ (a = .eq → b = .eq → c = .eq)
instance (a b c : Ordering) : Decidable (Tri a b c) := by unfold Tri; infer_instance
theorem tri_then {a b c a' b' c' : Ordering} (h : Tri a b c) (h' : Tri a' b' c') : Tri (a.then a') (b.then b') (c.then c') := by
  revert h h'
  revert a b c a' b' c'
  have : ∀ a ∈ [Ordering.lt, .eq, .gt], ∀ b ∈ [Ordering.lt, .eq, .gt], ∀ c ∈ [Ordering.lt, .eq, .gt], ∀ a' ∈ [Ordering.lt, .eq, .gt], ∀ b' ∈ [Ordering.lt, .eq, .gt], ∀ c' ∈ [Ordering.lt, .eq, .gt], Tri a b c → Tri a' b' c' → Tri (a.then a') (b.then b') (c.then c') := by decide +kernel
  intro a b c a' b' c' h h'
  have m : ∀ x : Ordering, x ∈ [Ordering.lt, .eq, .gt] := by intro x; cases x <;> decide
  exact this a (m a) b (m b) c (m c) a' (m a') b' (m b') c' (m c') h h'
theorem cmpI_tri (i j k : Int) : Tri (cmpI i j) (cmpI j k) (cmpI i k) := by
  have e : ∀ a b : Int, (cmpI a b = .lt ↔ a < b) ∧ (cmpI a b = .gt ↔ b < a) ∧ (cmpI a b = .eq ↔ a = b) := fun a b => by
    unfold cmpI
    refine ⟨?_, ?_, ?_⟩ <;> split <;> (try split) <;> simp <;> omega
  refine ⟨fun h1 h2 => ?_, fun h1 h2 => ?_, fun h1 h2 => ?_⟩
  · rw [(e i j).1] at h1; rw [Ne, (e j k).2.1] at h2; rw [(e i k).1]; omega
  · rw [Ne, (e i j).2.1] at h1; rw [(e j k).1] at h2; rw [(e i k).1]; omega
  · rw [(e i j).2.2] at h1; rw [(e j k).2.2] at h2; rw [(e i k).2.2]; omega
theorem cmpI_swap (i j : Int) : cmpI j i = (cmpI i j).swap := by
  unfold cmpI
  split <;> split <;> (try split) <;> first | rfl | omega
theorem cmpS_iff (x y : Str) : (cmpS x y = .lt ↔ x.cps.toList < y.cps.toList) ∧ (cmpS x y = .gt ↔ y.cps.toList < x.cps.toList) ∧ (cmpS x y = .eq ↔ x.cps.toList = y.cps.toList) := by
  unfold cmpS
  by_cases h1 : x.cps.toList < y.cps.toList
  · rw [if_pos h1]
    refine ⟨by simp [h1], ⟨fun z => (by cases z), fun z => absurd z (List.lt_asymm h1)⟩, ⟨fun z => (by cases z), fun z => ?_⟩⟩
    rw [z] at h1; exact absurd h1 (List.lt_irrefl _)
  · rw [if_neg h1]
    by_cases h2 : y.cps.toList < x.cps.toList
    · rw [if_pos h2]
      refine ⟨⟨fun z => (by cases z), fun z => absurd z h1⟩, by simp [h2], ⟨fun z => (by cases z), fun z => ?_⟩⟩
      rw [z] at h2; exact absurd h2 (List.lt_irrefl _)
    · rw [if_neg h2]
      exact ⟨⟨fun z => (by cases z), fun z => absurd z h1⟩, ⟨fun z => (by cases z), fun z => absurd z h2⟩, ⟨fun _ => List.le_antisymm (List.not_lt.mp h2) (List.not_lt.mp h1), fun _ => rfl⟩⟩
theorem cmpS_swap (x y : Str) : cmpS y x = (cmpS x y).swap := by
  obtain ⟨h1, h2, h3⟩ := cmpS_iff x y
  obtain ⟨k1, k2, k3⟩ := cmpS_iff y x
  cases q : cmpS x y with
  | lt => exact k2.mpr (h1.mp q)
  | gt => exact k1.mpr (h2.mp q)
  | eq => exact k3.mpr (h3.mp q).symm
theorem cmpS_tri (x y z : Str) : Tri (cmpS x y) (cmpS y z) (cmpS x z) := by
  obtain ⟨a1, a2, a3⟩ := cmpS_iff x y
  obtain ⟨b1, b2, b3⟩ := cmpS_iff y z
  obtain ⟨c1, c2, c3⟩ := cmpS_iff x z
  have key : ∀ {u v : Str}, cmpS u v ≠ .gt → u.cps.toList ≤ v.cps.toList := fun {u v} h => List.not_lt.mp fun z => h ((cmpS_iff u v).2.1.mpr z)
  refine ⟨fun h1 h2 => ?_, fun h1 h2 => ?_, fun h1 h2 => ?_⟩
  · exact c1.mpr (Decidable.byContradiction fun q => (List.not_lt.mpr (key h2)) (List.lt_of_le_of_lt (List.not_lt.mp q) (a1.mp h1)))
  · exact c1.mpr (List.lt_of_le_of_lt (key h1) (b1.mp h2))
  · exact c3.mpr ((a3.mp h1).trans (b3.mp h2))
theorem cmpR_tri (i j k : Nat) : Tri (compare i j) (compare j k) (compare i k) := by
  refine ⟨fun h1 h2 => ?_, fun h1 h2 => ?_, fun h1 h2 => ?_⟩
  · rw [Nat.compare_eq_lt] at h1 ⊢; rw [Ne, Nat.compare_eq_gt] at h2; omega
  · rw [Nat.compare_eq_lt] at h2 ⊢; rw [Ne, Nat.compare_eq_gt] at h1; omega
  · rw [Nat.compare_eq_eq] at h1 h2 ⊢; omega
theorem cmpR_swap (i j : Nat) : compare j i = (compare i j).swap := (Nat.compare_swap i j).symm
theorem cmpD_rank {x y : D} (h : x.rank ≠ y.rank) : cmpD x y = compare x.rank y.rank := by
  cases x <;> cases y <;> first | exact absurd rfl h | (unfold cmpD; rfl)
mutual
theorem cmpD_swap : ∀ x y : D, cmpD y x = (cmpD x y).swap
  | x, y => by
    by_cases h : x.rank = y.rank
    · cases x <;> cases y <;> first
        | (unfold cmpD; exact cmpI_swap _ _)
        | (unfold cmpD; exact cmpS_swap _ _)
        | (unfold cmpD; exact cmpDs_swap _ _)
        | (unfold cmpD; exact cmpR_swap _ _)
    · rw [cmpD_rank h, cmpD_rank (Ne.symm h)]; exact cmpR_swap _ _
theorem cmpDs_swap : ∀ xs ys : List D, cmpDs ys xs = (cmpDs xs ys).swap
  | [], [] => by unfold cmpDs; rfl
  | [], _ :: _ => by unfold cmpDs; rfl
  | _ :: _, [] => by unfold cmpDs; rfl
  | x :: xs, y :: ys => by
    unfold cmpDs
    rw [cmpD_swap x y, cmpDs_swap xs ys]
    cases cmpD x y <;> rfl
end
mutual
theorem cmpD_refl : ∀ x : D, cmpD x x = .eq
  | .int i => by unfold cmpD cmpI; simp
  | .str x => by unfold cmpD; exact (cmpS_iff x x).2.2.mpr rfl
  | .tup a => by unfold cmpD; exact cmpDs_refl a
  | .non => by unfold cmpD; rfl
  | .bl _ => by unfold cmpD; rfl
  | .lst _ => by unfold cmpD; rfl
  | .dic _ => by unfold cmpD; rfl
  | .scr _ => by unfold cmpD; rfl
  | .loc _ => by unfold cmpD; rfl
theorem cmpDs_refl : ∀ xs : List D, cmpDs xs xs = .eq
  | [] => by unfold cmpDs; rfl
  | x :: xs => by unfold cmpDs; rw [cmpD_refl x, cmpDs_refl xs]; rfl
end
theorem tri_rank {x y z : D} (h : ¬ (x.rank = y.rank ∧ y.rank = z.rank)) : Tri (cmpD x y) (cmpD y z) (cmpD x z) := by
  have key : ∀ u v : D, u.rank < v.rank → cmpD u v = .lt := fun u v h => by rw [cmpD_rank (by omega)]; exact Nat.compare_eq_lt.mpr h
  have key2 : ∀ u v : D, v.rank < u.rank → cmpD u v = .gt := fun u v h => by rw [cmpD_rank (by omega)]; exact Nat.compare_eq_gt.mpr h
  rcases Nat.lt_trichotomy x.rank y.rank with q | q | q <;> rcases Nat.lt_trichotomy y.rank z.rank with p | p | p
  · rw [key x y q, key y z p, key x z (by omega)]; decide
  · rw [key x y q, key x z (by omega)]; revert h; cases cmpD y z <;> intro _ <;> decide
  · rw [key x y q, key2 y z p]; refine ⟨fun _ h => absurd rfl h, fun _ h => (by cases h), fun h => (by cases h)⟩
  · rw [key y z p, key x z (by omega)]; revert h; cases cmpD x y <;> intro _ <;> decide
  · exact absurd ⟨q, p⟩ h
  · rw [key2 y z p, key2 x z (by omega)]; revert h; cases cmpD x y <;> intro _ <;> decide
  · rw [key2 x y q, key y z p]; refine ⟨fun h => (by cases h), fun h => absurd rfl h, fun h => (by cases h)⟩
  · rw [key2 x y q, key2 x z (by omega)]; revert h; cases cmpD y z <;> intro _ <;> decide
  · rw [key2 x y q, key2 y z p, key2 x z (by omega)]; decide
mutual
theorem cmpD_tri : ∀ x y z : D, Tri (cmpD x y) (cmpD y z) (cmpD x z)
  | x, y, z => by
    by_cases h : x.rank = y.rank ∧ y.rank = z.rank
    · obtain ⟨h1, h2⟩ := h
      cases x <;> cases y <;> first
        | (simp [D.rank] at h1; done)
        | (cases z <;> first
          | (simp [D.rank] at h2; done)
          | (unfold cmpD; exact cmpI_tri _ _ _)
          | (unfold cmpD; exact cmpS_tri _ _ _)
          | (unfold cmpD; exact cmpDs_tri _ _ _)
          | (unfold cmpD; exact cmpR_tri _ _ _))
    · exact tri_rank h
theorem cmpDs_tri : ∀ xs ys zs : List D, Tri (cmpDs xs ys) (cmpDs ys zs) (cmpDs xs zs)
  | [], [], [] => by unfold cmpDs; decide
  | [], [], _ :: _ => by unfold cmpDs; decide
  | [], _ :: _, [] => by unfold cmpDs; decide
  | [], y :: ys, z :: zs => by unfold cmpDs; exact ⟨fun _ _ => rfl, fun _ _ => rfl, fun h => (by cases h)⟩
  | _ :: _, [], [] => by unfold cmpDs; decide
  | _ :: _, [], _ :: _ => by unfold cmpDs; exact ⟨fun h => (by cases h), fun h => absurd rfl h, fun h => (by cases h)⟩
  | _ :: _, _ :: _, [] => by unfold cmpDs; exact ⟨fun _ h => absurd rfl h, fun _ h => (by cases h), fun _ h => (by cases h)⟩
  | x :: xs, y :: ys, z :: zs => by unfold cmpDs; exact tri_then (cmpD_tri x y z) (cmpDs_tri xs ys zs)
end
def ltD (x y : D) : Bool := decide (cmpD x y = .lt)
theorem ltD_swo {α : Type} (f : α → D) : SrtO.Swo fun u v => ltD (f u) (f v) := by
  refine ⟨fun x y h => ?_, fun x y z h1 h2 => ?_⟩
  · have h : cmpD (f x) (f y) = .lt := of_decide_eq_true h
    refine decide_eq_false ?_
    rw [cmpD_swap (f x) (f y), h]; decide
  · have h1 : ¬ cmpD (f y) (f x) = .lt := of_decide_eq_false h1
    have h2 : ¬ cmpD (f z) (f y) = .lt := of_decide_eq_false h2
    refine decide_eq_false fun h3 => ?_
    rcases q : cmpD (f y) (f z) with _ | _ | _
    · exact h1 ((cmpD_tri (f y) (f z) (f x)).1 q (by rw [h3]; decide))
    · exact h1 ((cmpD_tri (f y) (f z) (f x)).2.1 (by rw [q]; decide) h3)
    · rw [cmpD_swap (f y) (f z), q] at h2; exact h2 rfl
theorem leD_trans (a b c : D) (h1 : leD a b = true) (h2 : leD b c = true) : leD a c = true := by
  unfold leD at *
  have t := cmpD_tri a b c
  revert t h1 h2
  generalize cmpD a b = x; generalize cmpD b c = y; generalize cmpD a c = z
  have : ∀ a ∈ [Ordering.lt, .eq, .gt], ∀ b ∈ [Ordering.lt, .eq, .gt], ∀ c ∈ [Ordering.lt, .eq, .gt], a.isLE = true → b.isLE = true → Tri a b c → c.isLE = true := by decide +kernel
  have m : ∀ x : Ordering, x ∈ [Ordering.lt, .eq, .gt] := by intro x; cases x <;> decide
  exact this x (m x) y (m y) z (m z)
theorem leD_total (a b : D) : (leD a b || leD b a) = true := by
  unfold leD
  rw [cmpD_swap a b]
  cases cmpD a b <;> rfl
theorem ltD_not {a b : D} (h : leD a b = true) : ltD b a = false := by
  refine decide_eq_false fun q => ?_
  rw [cmpD_swap a b] at q
  revert h q; unfold leD
  cases cmpD a b <;> simp
/-- mergeSort is a stable sorted rearrangement -/
theorem sort_srtd (ds : List D) : SrtO.Srtd ltD (ds.mergeSort leD) := (List.pairwise_mergeSort leD_trans leD_total ds).imp fun h => ltD_not h
theorem sort_stb (ds : List D) : SrtO.Stb ltD (ds.mergeSort leD) ds := by
  refine ⟨List.mergeSort_perm _ _, fun x => ?_⟩
  have hp : (ds.filter (SrtO.eqv ltD x)).Pairwise (fun a b => leD a b = true) := by
    refine List.pairwise_iff_getElem.mpr fun i j hi hj _ => ?_
    have ha := List.getElem_mem hi
    have hb := List.getElem_mem hj
    revert ha hb
    generalize (ds.filter (SrtO.eqv ltD x))[i] = a
    generalize (ds.filter (SrtO.eqv ltD x))[j] = b
    intro ha hb
    have e1 := (SrtO.eqv_iff.mp (List.mem_filter.mp ha).2)
    have e2 := (SrtO.eqv_iff.mp (List.mem_filter.mp hb).2)
    have O : SrtO.Swo ltD := ltD_swo id
    have e3 := O.tr a x b e1.1 e2.2
    unfold leD
    have : ¬ cmpD b a = .lt := of_decide_eq_false e3
    rw [cmpD_swap a b] at this
    revert this
    cases cmpD a b <;> simp
  have s1 := List.sublist_mergeSort leD_trans leD_total hp List.filter_sublist
  have s2 := s1.filter (SrtO.eqv ltD x)
  rw [List.filter_filter] at s2
  simp only [Bool.and_self] at s2
  exact (s2.eq_of_length (by rw [((List.mergeSort_perm ds leD).filter _).length_eq])).symm
/-- there is just one -/
theorem sort_uniq {l ds : List D} (h1 : SrtO.Srtd ltD l) (h2 : SrtO.Stb ltD l ds) : l = ds.mergeSort leD := by
  have O : SrtO.Swo ltD := ltD_swo id
  exact SrtO.stb_uniq O h1 (sort_srtd ds) ⟨h2.perm.trans (sort_stb ds).perm.symm, fun x => (h2.cls x).trans ((sort_stb ds).cls x).symm⟩
end Net
end

section
set_option Elab.async false
set_option linter.all false
set_option maxRecDepth 100000
/-! N14: sorted of a list. -/
namespace Net
open PySem PySem.Spec PyProof.Rows L2
open SrtO (Swo Srtd Stb SortableO lt2)

inductive FlU : D → Value → Prop
  | int {i t} : FlU (.int i) (.int i t)
  | str {x t} : FlU (.str x) (.str x t)
inductive FlUs : List D → List Value → Prop
  | nil : FlUs [] []
  | cons {d u ds us} : FlU d u → FlUs ds us → FlUs (d :: ds) (u :: us)
theorem FlUs.length : ∀ {ds : List D} {us : List Value}, FlUs ds us → ds.length = us.length
  | _, _, .nil => rfl
  | _, _, .cons _ h => by simp [FlUs.length h]
section
variable {K : PySem.W.Frag} {io R : List Addr} {H : Hp}
theorem fl_of {d : D} {x : V} {u : Value} (r : Rp K io R H d x) (v : RelV x u) (h : d.kd ≠ .other) : FlU d u := by
  cases d <;> first | exact absurd rfl h | skip
  · cases r; obtain ⟨t, rfl⟩ := v; exact .int
  · cases r; obtain ⟨t, rfl⟩ := v; exact .str
theorem fls_of : ∀ {ds : List D} {xs : List V} {us : List Value}, RpL K io R H ds xs → Vals xs us → (∀ d ∈ ds, d.kd ≠ .other) → FlUs ds us
  | _, _, _, .nil, v, _ => by cases v; exact .nil
  | _, _, _, .cons r rr, v, h => by
    cases v with
    | cons v vv => exact .cons (fl_of r v (h _ List.mem_cons_self)) (fls_of rr vv fun d hd => h d (List.mem_cons_of_mem _ hd))
theorem FlU.inj {d d' : D} {u : Value} (h : FlU d u) (h' : FlU d' u) : d = d' := by cases h <;> cases h' <;> rfl
theorem FlUs.inj : ∀ {ds ds' : List D} {us : List Value}, FlUs ds us → FlUs ds' us → ds = ds'
  | _, _, _, .nil, h => by cases h; rfl
  | _, _, _, .cons a h, h' => by cases h' with | cons a' h' => rw [a.inj a', FlUs.inj h h']
end
/-- an int, a text, or a tuple of such, in a heap -/
inductive SrU (h : Heap) : D → Value → Prop
  | fl {d u} : FlU d u → SrU h d u
  | tup {ds a o n us} : FlUs ds us → h.get? a = some o → o.cls = .type "tuple" → o.data = .seq us.toArray n → SrU h (.tup ds) (.ref a)
theorem SrU.inj {h : Heap} {d d' : D} {u : Value} (x : SrU h d u) (y : SrU h d' u) : d = d' := by
  cases x with
  | fl x => cases y with
    | fl y => exact x.inj y
    | tup _ _ _ _ => cases x
  | tup a1 a2 a3 a4 => cases y with
    | fl y => cases y
    | tup b1 b2 b3 b4 =>
      rw [a2] at b2; cases b2
      rw [a4] at b4; injection b4 with e _
      have e := congrArg Array.toList e
      simp only at e
      subst e
      rw [a1.inj b1]
theorem SrU.keeps {h h' : Heap} {d : D} {u : Value} (x : SrU h d u) (k : ∀ b o, h.get? b = some o → o.cls = .type "tuple" → h'.get? b = some o) : SrU h' d u := by
  cases x with
  | fl x => exact .fl x
  | tup a1 a2 a3 a4 => exact .tup a1 (k _ _ a2 a3) a3 a4
/-- what sorted takes: like the first -/
def Okd : D → Bool
  | .int _ => true
  | .str _ => true
  | .tup a => a ≠ [] && (a.map D.kd).all (fun k => decide (k ≠ .other))
  | _ => false
theorem like_ok {d e : D} (h : d.like e = true) : Okd e = true := by
  unfold D.like at h
  split at h
  · rfl
  · rfl
  · rename_i a b
    simp only [Bool.and_eq_true, decide_eq_true_eq, bne_iff_ne, ne_eq] at h
    obtain ⟨⟨h1, h2⟩, h3⟩ := h
    unfold Okd
    simp only [Bool.and_eq_true, decide_eq_true_eq, bne_iff_ne, ne_eq]
    rw [← h3]
    refine ⟨fun e => ?_, h2⟩
    subst e
    simp at h3
    exact h1 h3
  · cases h
theorem okd_fl {a : List D} (h : Okd (.tup a) = true) : a ≠ [] ∧ ∀ d ∈ a, d.kd ≠ .other := by
  unfold Okd at h
  simp only [Bool.and_eq_true, decide_eq_true_eq, ne_eq, List.all_eq_true, List.mem_map, forall_exists_index, and_imp, forall_apply_eq_imp_iff₂] at h
  exact h

section
variable {prog : Program} {w : World} {A : Around} {s : Shared}
theorem one_lt {b : Bool} {d e : D} {u v : Value} (x : FlU d u) (y : FlU e v) (h : d.kd = e.kd) {Q : Bool → Shared → Prop} {E : Value → Shared → Prop} (q : Q (decide (cmpD d e = .lt)) s) : wpAny (model prog w) A (oneLt' b u v) Q E s := by
  cases x with
  | int =>
    cases y with
    | int =>
      rename_i i t j t'
      have e : decide (cmpD (.int i) (.int j) = .lt) = decide (i < j) := by
        unfold cmpD cmpI
        by_cases h1 : i < j
        · simp [h1]
        · rw [if_neg h1]; split <;> simp [h1]
      rw [e] at q
      cases b
      · exact PySem.W.kat_one _ _ (lt_int q)
      · exact oneLt_int q
    | str => cases h
  | str =>
    cases y with
    | int => cases h
    | str =>
      rename_i i t j t'
      have e : decide (cmpD (.str i) (.str j) = .lt) = decide (i.cps.toList < j.cps.toList) := by
        unfold cmpD
        exact decide_eq_decide.mpr (cmpS_iff i j).1
      rw [e] at q
      cases b
      · exact PySem.W.kat_one _ _ (lt_str q)
      · exact oneLt_str q
theorem eq_at {d e : D} {u v : Value} (x : FlU d u) (y : FlU e v) (h : d.kd = e.kd) {Q : Bool → Shared → Prop} {E : Value → Shared → Prop} (q : Q (decide (cmpD d e = .eq)) s) : wpAny (model prog w) A (eqBool u v) Q E s := by
  cases x with
  | int =>
    cases y with
    | int =>
      rename_i i t j t'
      have e : decide (cmpD (.int i) (.int j) = .eq) = (i == j) := by
        unfold cmpD cmpI
        by_cases h1 : i < j
        · rw [if_pos h1]; have : i ≠ j := by omega
          simp [this]
        · rw [if_neg h1]
          by_cases h2 : j < i
          · rw [if_pos h2]; have : i ≠ j := by omega
            simp [this]
          · rw [if_neg h2]; have : i = j := by omega
            simp [this]
      rw [e] at q
      exact SeqAt.EqAt.int_int i t j t' prog w _ _ q
    | str => cases h
  | str =>
    cases y with
    | int => cases h
    | str =>
      rename_i i t j t'
      have e : decide (cmpD (.str i) (.str j) = .eq) = (i == j) := by
        unfold cmpD
        by_cases h1 : i = j
        · subst h1; simp [(cmpS_iff i i).2.2.mpr rfl]
        · have h2 : ¬ cmpS i j = .eq := fun z => h1 (by
            have z := (cmpS_iff i j).2.2.mp z
            cases i; cases j
            simp only [Array.toList_inj] at z
            simp [z])
          rw [decide_eq_false h2]; symm; simpa using h1
      rw [e] at q
      exact SeqAt.EqAt.str_str i t j t' prog w _ _ q
theorem kat_walk {b : Bool} : ∀ {ds es : List D} {us vs : List Value} {Q : Bool → Shared → Prop} (i : Nat), FlUs ds us → FlUs es vs → ds.map D.kd = es.map D.kd → Q (decide (cmpDs ds es = .lt)) s →
    PySem.W.KatLex prog w A b false Q (us.zip vs) i s
  | _, _, _, _, Q, i, .nil, y, h, q => by
    cases y with
    | nil => unfold cmpDs at q; exact PySem.W.kat_nil q
    | cons _ _ => cases h
  | _, _, _, _, Q, i, .cons x xs, y, h, q => by
    cases y with
    | nil => cases h
    | cons y ys =>
      have h1 := (List.cons.inj h).1
      have h2 := (List.cons.inj h).2
      rename_i d u ds us e v es vs
      refine PySem.W.kat_cons (eq_at x y h1 ?_)
      refine PySem.W.kat_go (fun e1 => ?_) fun e1 => ?_
      · have e1 := of_decide_eq_true e1
        refine PySem.W.kat_yes (kat_walk (i + 1) xs ys h2 ?_)
        unfold cmpDs at q
        rw [e1] at q
        exact q
      · have e1 := of_decide_eq_false e1
        refine PySem.W.kat_no (one_lt x y h1 ?_)
        have e2 : decide (cmpD d e = .lt) = decide (cmpDs (d :: ds) (e :: es) = .lt) := by
          unfold cmpDs
          revert e1
          cases cmpD d e <;> intro e1 <;> simp_all
        rw [e2]; exact q
end
theorem like_fl {d e f : D} (h1 : d.like e = true) (h2 : d.like f = true) : (∀ i j, e = .int i → f = .int j → True) := fun _ _ _ _ => trivial
section
variable {prog : Program} {w : World} {A : Around} {s : Shared} {ds : List D} {its : List Value} {kU : Value → D}
theorem tups_of {h : Heap} : ∀ {its : List Value}, (∀ u ∈ its, ∃ d, SrU h d u ∧ ∃ a, d = .tup a ∧ a ≠ []) → ∃ fs, PySem.W.KatTups h its fs ∧ fs.length = its.length ∧ ∀ f ∈ fs, ∃ u ∈ its, ∃ e es us, SrU h (.tup (e :: es)) u ∧ FlUs (e :: es) (f :: us)
  | [], _ => ⟨[], PySem.W.KatTups.nil, rfl, fun f hf => nomatch hf⟩
  | u :: its, h1 => by
    obtain ⟨fs, k1, k2, k3⟩ := tups_of fun v hv => h1 v (List.mem_cons_of_mem _ hv)
    obtain ⟨d, sr, a, rfl, ne⟩ := h1 u List.mem_cons_self
    cases sr with
    | fl x => cases x
    | tup a1 a2 a3 a4 =>
      cases a1 with
      | nil => exact absurd rfl ne
      | cons x xs =>
        refine ⟨_ :: fs, PySem.W.KatTups.cons a2 a3 a4 (by simp; rfl) k1, by simp [k2], fun f hf => ?_⟩
        rcases List.mem_cons.mp hf with rfl | hf
        · exact ⟨_, List.mem_cons_self, _, _, _, .tup (.cons x xs) a2 a3 a4, .cons x xs⟩
        · obtain ⟨u, hu, q⟩ := k3 f hf
          exact ⟨u, List.mem_cons_of_mem _ hu, q⟩
theorem sort_able {a : Addr} (ne : 2 ≤ its.length) {d0 : D} (hk : ∀ u ∈ its, SrU s.heap (kU u) u ∧ d0.like (kU u) = true) (ha : ∀ o, s.heap.get? a = some o → o.cls ≠ .type "tuple") :
    SortableO prog w A s a its fun u v => ltD (kU u) (kU v) := by
  intro h' keep
  have hk' : ∀ u ∈ its, SrU h' (kU u) u ∧ d0.like (kU u) = true := fun u hu => ⟨(hk u hu).1.keeps fun b o e c => keep b o (fun z => by subst z; exact ha o e c) e, (hk u hu).2⟩
  cases d0 with
  | int i =>
    have hi : ∀ u ∈ its, ∃ j t, kU u = .int j ∧ u = .int j t := fun u hu => by
      obtain ⟨h1, h2⟩ := hk' u hu
      cases q : kU u with
      | int j => rw [q] at h1; cases h1 with | fl x => cases x; exact ⟨_, _, rfl, rfl⟩
      | _ => rw [q] at h2; cases h2
    refine ⟨oneType', fun Q E hq => PySem.W.kas_kind (T := .type "int") ne (fun v hv => ?_) (by rfl) (by rfl) hq, fun p q hp hq => ?_⟩
    · obtain ⟨j, t, _, rfl⟩ := hi v hv
      exact PySem.W.Looks.of_pure rfl
    · obtain ⟨j, t, e1, e2⟩ := hi _ hp
      obtain ⟨j', t', e3, e4⟩ := hi _ hq
      show wpAny (model prog w) A (keyLt' oneType' p.1 q.1) (fun r s' => s' = { s with heap := h' } ∧ r = ltD (kU p.1) (kU q.1)) (fun _ _ => False) { s with heap := h' }
      rw [keyLt'_oneType, e1, e3]
      rw [e2, e4]
      refine one_lt (d := .int j) (e := .int j') .int .int rfl ?_
      exact ⟨rfl, rfl⟩
  | str i =>
    have hi : ∀ u ∈ its, ∃ j t, kU u = .str j ∧ u = .str j t := fun u hu => by
      obtain ⟨h1, h2⟩ := hk' u hu
      cases q : kU u with
      | str j => rw [q] at h1; cases h1 with | fl x => cases x; exact ⟨_, _, rfl, rfl⟩
      | _ => rw [q] at h2; cases h2
    refine ⟨oneType', fun Q E hq => PySem.W.kas_kind (T := .type "str") ne (fun v hv => ?_) (by rfl) (by rfl) hq, fun p q hp hq => ?_⟩
    · obtain ⟨j, t, _, rfl⟩ := hi v hv
      exact PySem.W.Looks.of_pure rfl
    · obtain ⟨j, t, e1, e2⟩ := hi _ hp
      obtain ⟨j', t', e3, e4⟩ := hi _ hq
      show wpAny (model prog w) A (keyLt' oneType' p.1 q.1) (fun r s' => s' = { s with heap := h' } ∧ r = ltD (kU p.1) (kU q.1)) (fun _ _ => False) { s with heap := h' }
      rw [keyLt'_oneType, e1, e3]
      rw [e2, e4]
      refine one_lt (d := .str j) (e := .str j') .str .str rfl ?_
      exact ⟨rfl, rfl⟩
  | tup a0 =>
    have hi : ∀ u ∈ its, ∃ b, SrU h' (.tup b) u ∧ kU u = .tup b ∧ a0.map D.kd = b.map D.kd ∧ b ≠ [] := fun u hu => by
      obtain ⟨h1, h2⟩ := hk' u hu
      cases q : kU u with
      | tup b =>
        rw [q] at h1 h2
        refine ⟨b, h1, rfl, ?_, (okd_fl (like_ok h2)).1⟩
        unfold D.like at h2
        simp only [Bool.and_eq_true, decide_eq_true_eq] at h2
        exact h2.2
      | _ => rw [q] at h2; cases h2
    obtain ⟨fs, k1, k2, k3⟩ := tups_of (h := h') (its := its) fun u hu => by
      obtain ⟨b, h1, _, _, h4⟩ := hi u hu
      exact ⟨_, h1, b, rfl, h4⟩
    have first : ∃ T : Value, (T == T) = true ∧ (T != Value.type "tuple") = true ∧ ∀ f ∈ fs, PySem.W.Looks (model prog w) h' (typeOf f) T := by
      have each : ∀ f ∈ fs, ∃ e, FlU e f ∧ (a0.map D.kd)[0]? = some e.kd := fun f hf => by
        obtain ⟨u, hu, e, es, us, sr, fl⟩ := k3 f hf
        obtain ⟨b, h1, _, h3, _⟩ := hi u hu
        have := h1.inj sr
        cases this
        cases fl with
        | cons x _ => exact ⟨e, x, by rw [h3]; rfl⟩
      rcases q : (a0.map D.kd)[0]? with _ | k
      · refine ⟨.type "int", by rfl, by rfl, fun f hf => ?_⟩
        obtain ⟨e, _, h⟩ := each f hf
        rw [q] at h; cases h
      · cases k with
        | int =>
          refine ⟨.type "int", by rfl, by rfl, fun f hf => ?_⟩
          obtain ⟨e, x, h⟩ := each f hf
          rw [q] at h
          cases x with
          | int => exact PySem.W.Looks.of_pure rfl
          | str => cases h
        | str =>
          refine ⟨.type "str", by rfl, by rfl, fun f hf => ?_⟩
          obtain ⟨e, x, h⟩ := each f hf
          rw [q] at h
          cases x with
          | str => exact PySem.W.Looks.of_pure rfl
          | int => cases h
        | other =>
          refine ⟨.type "int", by rfl, by rfl, fun f hf => ?_⟩
          obtain ⟨e, x, h⟩ := each f hf
          rw [q] at h
          cases x <;> cases h
    obtain ⟨T, t1, t2, t3⟩ := first
    refine ⟨tuples' true, fun Q E hq => PySem.W.kat_kind (T := T) k1 (by omega) t3 t1 (by rw [t2]; exact hq), fun p q hp hq => ?_⟩
    obtain ⟨b, h1, h2, h3, h4⟩ := hi _ hp
    obtain ⟨b', h1', h2', h3', h4'⟩ := hi _ hq
    show wpAny (model prog w) A (keyLt' (tuples' true) p.1 q.1) (fun r s' => s' = { s with heap := h' } ∧ r = ltD (kU p.1) (kU q.1)) (fun _ _ => False) { s with heap := h' }
    rw [h2, h2']
    generalize p.1 = u at h1
    generalize q.1 = v at h1'
    cases h1 with
    | fl x => cases x
    | tup a1 a2 a3 a4 => cases h1' with
      | fl x => cases x
      | tup b1 b2 b3 b4 =>
        refine PySem.W.kat_lt a2 a4 b2 b4 ?_
        have e1 := a1.length
        have e2 := b1.length
        have e3 := congrArg List.length (h3.symm.trans h3')
        simp only [List.length_map] at e3
        simp only [List.size_toArray]
        rw [decide_eq_false (by omega)]
        refine kat_walk 0 a1 b1 (h3.symm.trans h3') ⟨rfl, ?_⟩
        unfold ltD
        rw [show cmpD (.tup b) (.tup b') = cmpDs b b' by unfold cmpD; rfl]
  | _ =>
    match its, ne, hk' with
    | u :: _, _, hk' => exact absurd (hk' u List.mem_cons_self).2 (by unfold D.like; simp)
end
end Net
end

section
set_option Elab.async false
set_option linter.all false
set_option maxRecDepth 100000
/-! N15: sorted, as a rule. -/
namespace Net
open PySem PySem.Spec PyProof.Rows L2
variable [TabL]
open SrtO (Swo Srtd Stb SortableO lt2)
section
variable {X : Cx} {pins : List (Addr × Obj)} {σ : L2.St} {H : Hp} {s : Shared} {io R : List Addr}
theorem sru_of (I : Inv X pins σ H s) {d : D} {x : V} {u : Value} (r : Rp X.K io R H d x) (v : RelV x u) (h : Okd d = true) : SrU s.heap d u := by
  cases d with
  | int i => exact .fl (fl_of r v (by simp [D.kd]))
  | str i => exact .fl (fl_of r v (by simp [D.kd]))
  | tup b =>
    cases r with
    | tup h1 h2 h3 h4 =>
      cases v
      obtain ⟨o', h3, _⟩ := h3
      obtain ⟨_, _, its, rv, o, ho, hc, n, hd⟩ := I.hok _ _ h3
      exact .tup (fls_of h4 rv (okd_fl h).2) ho hc hd
  | _ => cases h
open Classical in
noncomputable def kOf (K : PySem.W.Frag) (io R : List Addr) (H : Hp) (ds : List D) (u : Value) : D := if h : ∃ d, d ∈ ds ∧ ∃ x, RelV x u ∧ Rp K io R H d x then choose h else .non
theorem kOf_at (I : Inv X pins σ H s) {ds : List D} (ok : ∀ d ∈ ds, Okd d = true) {d : D} {x : V} {u : Value} (hd : d ∈ ds) (v : RelV x u) (r : Rp X.K io R H d x) : kOf X.K io R H ds u = d := by
  have h : ∃ d, d ∈ ds ∧ ∃ x, RelV x u ∧ Rp X.K io R H d x := ⟨d, hd, x, v, r⟩
  unfold kOf
  rw [dif_pos h]
  obtain ⟨h1, x', v', r'⟩ := Classical.choose_spec h
  exact (sru_of I r' v' (ok _ h1)).inj (sru_of I r v (ok _ hd))
theorem kOf_map (I : Inv X pins σ H s) {all : List D} (ok : ∀ d ∈ all, Okd d = true) : ∀ {ds : List D} {xs : List V} {us : List Value}, RpL X.K io R H ds xs → Vals xs us → (∀ d ∈ ds, d ∈ all) →
    us.map (kOf X.K io R H all) = ds ∧ ∀ u ∈ us, kOf X.K io R H all u ∈ all ∧ SrU s.heap (kOf X.K io R H all u) u ∧ ∃ x, RelV x u ∧ Rp X.K io R H (kOf X.K io R H all u) x
  | _, _, _, .nil, v, _ => by cases v; exact ⟨rfl, fun u hu => (nomatch hu)⟩
  | _, _, _, .cons r rr, v, hm => by
    cases v with
    | cons v vv =>
      have e := kOf_at I ok (hm _ List.mem_cons_self) v r
      obtain ⟨h1, h2⟩ := kOf_map I ok rr vv (fun d hd => hm d (List.mem_cons_of_mem _ hd))
      refine ⟨by rw [List.map_cons, e, h1], fun u hu => ?_⟩
      rcases List.mem_cons.mp hu with rfl | hu
      · rw [e]; exact ⟨hm _ List.mem_cons_self, sru_of I r v (ok _ (hm _ List.mem_cons_self)), _, v, r⟩
      · exact h2 u hu
theorem back_of {K : PySem.W.Frag} {k : Value → D} : ∀ {us : List Value}, (∀ u ∈ us, ∃ x, RelV x u ∧ Rp K io R H (k u) x) → ∃ vs, Vals vs us ∧ RpL K io R H (us.map k) vs
  | [], _ => ⟨[], .nil, .nil⟩
  | u :: us, h => by
    obtain ⟨x, v, r⟩ := h u List.mem_cons_self
    obtain ⟨vs, vv, rr⟩ := back_of fun u hu => h u (List.mem_cons_of_mem _ hu)
    exact ⟨x :: vs, .cons v vv, .cons r rr⟩
theorem sortD_ok {ds out : List D} (h : sortD ds = some out) : out = ds.mergeSort leD ∧ (∀ d ∈ ds, Okd d = true) ∧ (2 ≤ ds.length → ∃ d0 : D, ∀ d ∈ ds, d0.like d = true) := by
  cases ds with
  | nil => cases h; exact ⟨by simp, fun d hd => (nomatch hd), fun h => absurd h (by simp)⟩
  | cons d r =>
    unfold sortD at h
    simp only at h
    split at h
    · rename_i hh
      cases h
      rw [List.all_eq_true] at hh
      exact ⟨rfl, fun e he => like_ok (hh e he), fun _ => ⟨d, hh⟩⟩
    · cases h
end
def rSrt (K : PySem.W.Frag) : List V → Hp → VK → Prop := fun xs H Q => ∃ io R Bs M dx x ds out, xs = [x] ∧ St8 K io R Bs M H ∧ Rp K io R H dx x ∧ dx.seq M = some ds ∧ sortD ds = some out ∧
  ∀ p vs, H p = none → RpL K io R H out vs → Q (.ref p) (upd H p (.lst vs))
theorem cr_srt {X : Cx} : CallR X (.builtin "sorted") (rSrt X.K) := by
  rintro pins s σ H xs us Q I rv ⟨io, R, Bs, M, dx, x, ds, out, rfl, st, hx, e, es, q⟩
  obtain ⟨a, vs, rfl, ha, ra⟩ := seq_rp st hx e
  obtain ⟨its, rv2, hl, hz⟩ := I.list (SqL.of ha)
  rw [Vals.ref1 rv]
  obtain ⟨e1, ok, hd0⟩ := sortD_ok es
  obtain ⟨m1, m2⟩ := kOf_map I ok ra rv2 (fun _ h => h)
  refine SrtO.sorted_ord (ltD_swo (kOf X.K io R H ds)) hl.isList (by rw [← rv2.length]; exact hz) (fun h2 h₁ a' ha' kk => ?_) fun o h1 h2 => ?_
  · obtain ⟨d0, hd0⟩ := hd0 (by rw [ra.length, rv2.length]; exact h2)
    refine sort_able (s := { s with heap := h₁ }) h2 (d0 := d0) (fun u hu => ⟨(m2 u hu).2.1.keeps fun b o e _ => (kk b o e).2, hd0 _ (m2 u hu).1⟩) fun o e => ?_
    have e' : some o = some (seqObj "list" its.toArray 0) := e.symm.trans ha'
    cases e'
    exact fun c => absurd (Value.type.inj c) (by decide)
  · obtain ⟨ep, he'⟩ := PyProof.Rows.sortedAll_at s.heap its o.toArray
    have hb := SrtO.Stb.map (ltD_swo id) (kOf X.K io R H ds) h2
    rw [m1] at hb
    have eo : o.map (kOf X.K io R H ds) = out := by rw [e1]; exact sort_uniq (SrtO.srtd_map h1) hb
    obtain ⟨vs', vv, rr⟩ := back_of (K := X.K) (io := io) (R := R) (H := H) (k := kOf X.K io R H ds) (us := o) fun u hu => (m2 u (h2.perm.mem_iff.mp hu)).2.2
    rw [eo] at rr
    have hlen : vs'.length ≤ sizeLine := by rw [vv.length, h2.len, ← rv2.length]; exact hz
    exact ⟨.ref _, upd H (s.heap.objs.size + 1) (.lst vs'), I.laid (t' := s.toks) (fun _ _ => PyProof.Rows.sortedAll_old) (Nat.le_succ _) ⟨hlen, o, ep, vv, he'⟩, rfl, q _ _ (I.hok.fresh (Nat.le_succ _)) rr⟩
/-! ### what is known of sorted ints and texts -/
theorem sortD_ints {ns ns' : List Int} (p : ns'.Perm ns) (h : ns'.Pairwise (· ≤ ·)) : sortD (ns.map .int) = some (ns'.map .int) := by
  have e : (ns.map D.int).mergeSort leD = ns'.map .int := by
    refine (sort_uniq ?_ ?_).symm
    · refine List.pairwise_map.mpr (h.imp fun {i j} hij => decide_eq_false ?_)
      unfold cmpD cmpI
      rw [if_neg (by omega)]
      split <;> simp
    · refine ⟨p.map _, fun x => ?_⟩
      have O : SrtO.Swo ltD := ltD_swo id
      have key : ∀ l : List Int, (l.map D.int).filter (SrtO.eqv ltD x) = ((l.filter (fun i => SrtO.eqv ltD x (.int i))).map D.int) := fun l => by rw [List.filter_map]; rfl
      rw [key, key]
      have pf := p.filter (fun i => SrtO.eqv ltD x (.int i))
      have all : ∀ i ∈ ns'.filter (fun i => SrtO.eqv ltD x (.int i)), ∀ j ∈ ns'.filter (fun i => SrtO.eqv ltD x (.int i)), i = j := fun i hi j hj => by
        have e1 := SrtO.eqv_iff.mp (List.mem_filter.mp hi).2
        have e2 := SrtO.eqv_iff.mp (List.mem_filter.mp hj).2
        have e3 := of_decide_eq_false (O.tr _ _ _ e1.1 e2.2)
        have e4 := of_decide_eq_false (O.tr _ _ _ e2.1 e1.2)
        unfold cmpD cmpI at e3 e4
        by_cases h1 : i < j
        · rw [if_pos h1] at e4; exact absurd rfl e4
        · by_cases h2 : j < i
          · rw [if_pos h2] at e3; exact absurd rfl e3
          · omega
      have eq2 : ∀ (l : List Int) (n : Int), (∀ i ∈ l, i = n) → l = List.replicate l.length n := fun l n h => List.eq_replicate_iff.mpr ⟨rfl, h⟩
      cases q : ns'.filter (fun i => SrtO.eqv ltD x (.int i)) with
      | nil => rw [q] at pf; rw [pf.symm.eq_nil]
      | cons n l =>
        rw [q] at pf all
        have e1 := eq2 _ n fun i hi => all i hi n List.mem_cons_self
        have e2 := eq2 (ns.filter (fun i => SrtO.eqv ltD x (.int i))) n fun i hi => all i (pf.mem_iff.mpr hi) n List.mem_cons_self
        rw [e1, e2, pf.length_eq]
  cases q : ns.map D.int with
  | nil =>
    rw [q] at e
    rw [← e]; simp [sortD]
  | cons d r =>
    rw [← e, q]
    unfold sortD
    simp only
    rw [if_pos]
    rw [← q, List.all_eq_true]
    intro y hy
    obtain ⟨i, _, rfl⟩ := List.mem_map.mp hy
    have hd : d ∈ ns.map D.int := by rw [q]; exact List.mem_cons_self
    obtain ⟨j, _, rfl⟩ := List.mem_map.mp hd
    rfl
end Net
end

section
set_option Elab.async false
set_option linter.all false
set_option maxRecDepth 100000
/-! N16: dict of pairs. -/
namespace Net
open PySem PySem.Spec PyProof.Rows L2
variable [TabL]

/-! ### zip, while the pair it gave out is still there -/
section
variable {prog : Program} {w : World} {A : Around} {E : Value → Shared → Prop} {s : Shared} {z TI TO T i1 i2 : Addr} {f : Bool} {oT : Obj} {fa fb : List Addr} {m n i : Nat} {PA PB : Nat → Value → Prop} {SA SB : Nat → Heap → Prop}
theorem zipH_item {Q : Value → Shared → Prop} (S : ZipSep2 z TI TO i1 i2 fa fb) (DA : Draws prog w A i1 fa m PA SA) (DB : Draws prog w A i2 fb n PB SB) (hz : IsZipHeld s.heap z TI TO T f) (hT : s.heap.get? T = some oT) (hI : IsTupOf2 s.heap TI (.ref i1) (.ref i2))
    (sa : SA i s.heap) (sb : SB i s.heap) (la : i < m) (lb : i < n)
    (q : ∀ x y h' tk, PA i x → PB i y → IsZipHeld h' z TI TO T true → SA (i + 1) h' → SB (i + 1) h' → IsTupOf2 h' s.heap.objs.size x y → (∀ c o, c ≠ z → c ≠ i1 → c ≠ i2 → s.heap.get? c = some o → h'.get? c = some o) → Q (.ref s.heap.objs.size) { s with heap := h', toks := tk }) :
    wpAny (model prog w) A (Builtin.«zip.__next__» ⟨[.ref z], []⟩) (fun fin s' => ∃ v, fin = .done (.ret v) ∧ Q v s') E s := by
  obtain ⟨h0, g0, d0, t0, o0⟩ := s
  show wpAny _ _ (field (.ref z) 2 >>= _) _ _ _
  refine wpAny_bind (wpAny_field hz rfl (x := .bool false) rfl ?_)
  show wpAny _ _ (field (.ref z) 3 >>= _) _ _ _
  refine wpAny_bind (wpAny_field hz rfl (x := .ref TI) rfl (wpAny_bind (wpAny_seqItems hI rfl ?_)))
  show wpAny _ _ (Builtin.SmallTypes.ownedTupleIsFree (.ref z) >>= _) _ _ _
  refine wpAny_bind (wpAny_tupleHeld_zip hz hT fun g1 z1 e1 => ?_)
  replace e1 : Heap.SameBut z h0 g1 := e1
  simp only [Bool.false_eq_true, if_false]
  refine wpAny_bind ?_
  rw [← Array.forIn_toList]
  simp only [List.forIn_cons, List.forIn_nil]
  refine wpAny_bind (wpAny_bind (wpAny_holding ?_))
  show wpAny _ _ (Builtin.SmallTypes.nextOf (.ref i1) >>= _) _ _ ⟨g1, g0, d0, t0, o0⟩
  refine wpAny_bind (DA.item i _ _ _ la (DA.over sa e1 S.zf1) fun x g2 t2 px sa2 e2 => wpAny_pure (wpAny_pure ?_))
  replace e2 : Heap.SameBut i1 g1 g2 := e2
  refine wpAny_bind (wpAny_bind (wpAny_holding ?_))
  show wpAny _ _ (Builtin.SmallTypes.nextOf (.ref i2) >>= _) _ _ ⟨g2, g0, d0, t2, o0⟩
  refine wpAny_bind (DB.item i _ _ _ lb (DB.over (DB.over sb e1 S.zf2) e2 S.sep1_2) fun y g3 t3 py sb3 e3 => wpAny_pure (wpAny_pure (wpAny_pure ?_)))
  replace e3 : Heap.SameBut i2 g2 g3 := e3
  show wpAny _ _ (newTuple [x, y] >>= _) _ _ _
  refine wpAny_bind (wpAny_newTuple (wpAny_pure ⟨_, rfl, ?_⟩))
  show Q (.ref g3.objs.size) ⟨g3.push { cls := .type "tuple", data := .seq #[x, y] }, g0, d0, t3, o0⟩
  have hs : g3.objs.size = h0.objs.size := by rw [e3.1, e2.1, e1.1]
  have hp : IsTupOf2 (g3.push { cls := .type "tuple", data := .seq #[x, y] }) g3.objs.size x y := Heap.get?_push_size _ rfl
  have up : ∀ c o, c ≠ z → c ≠ i1 → c ≠ i2 → h0.get? c = some o → g3.get? c = some o := fun c o n1 n2 n3 e => e3.extBut c o n3 (e2.extBut c o n2 (e1.extBut c o n1 e))
  have push : ∀ {b : Addr} {o : Obj}, g3.get? b = some o → (g3.push { cls := .type "tuple", data := .seq #[x, y] }).get? b = some o := fun e => Heap.get?_push_of_some _ e
  rw [hs] at hp ⊢
  exact q x y _ t3 px py (push (e3.extBut z _ S.zi2 (e2.extBut z _ S.zi1 z1))) (DA.frame _ _ _ (DA.over sa2 e3 S.sep2_1) fun b _ o e => push e) (DB.frame _ _ _ sb3 fun b _ o e => push e) hp fun c o n1 n2 n3 e => push (up c o n1 n2 n3 e)
theorem zipH_end {Q : Fin → Shared → Prop} (S : ZipSep2 z TI TO i1 i2 fa fb) (DA : Draws prog w A i1 fa m PA SA) (DB : Draws prog w A i2 fb n PB SB) (hz : IsZipHeld s.heap z TI TO T f) (hT : s.heap.get? T = some oT) (hI : IsTupOf2 s.heap TI (.ref i1) (.ref i2))
    (sa : SA i s.heap) (sb : SB i s.heap) (la : i ≤ m) (lb : i ≤ n) (le : i = m ∨ i = n)
    (q : ∀ h' tk e, (∀ c o, c ≠ z → c ≠ i1 → c ≠ i2 → s.heap.get? c = some o → h'.get? c = some o) → (∃ o, h'.get? e = some o ∧ o.cls = .type "StopIteration") → E (.ref e) { s with heap := h', toks := tk }) :
    wpAny (model prog w) A (Builtin.«zip.__next__» ⟨[.ref z], []⟩) Q E s := by
  obtain ⟨h0, g0, d0, t0, o0⟩ := s
  show wpAny _ _ (field (.ref z) 2 >>= _) _ _ _
  refine wpAny_bind (wpAny_field hz rfl (x := .bool false) rfl ?_)
  show wpAny _ _ (field (.ref z) 3 >>= _) _ _ _
  refine wpAny_bind (wpAny_field hz rfl (x := .ref TI) rfl (wpAny_bind (wpAny_seqItems hI rfl ?_)))
  show wpAny _ _ (Builtin.SmallTypes.ownedTupleIsFree (.ref z) >>= _) _ _ _
  refine wpAny_bind (wpAny_tupleHeld_zip hz hT fun g1 z1 e1 => ?_)
  replace e1 : Heap.SameBut z h0 g1 := e1
  simp only [Bool.false_eq_true, if_false]
  refine wpAny_bind ?_
  rw [← Array.forIn_toList]
  simp only [List.forIn_cons, List.forIn_nil]
  refine wpAny_bind (wpAny_bind (wpAny_holding ?_))
  show wpAny _ _ (Builtin.SmallTypes.nextOf (.ref i1) >>= _) _ _ ⟨g1, g0, d0, t0, o0⟩
  by_cases h : i < m
  · refine wpAny_bind (DA.item i _ _ _ h (DA.over sa e1 S.zf1) fun x g2 t2 px sa2 e2 => wpAny_pure (wpAny_pure ?_))
    replace e2 : Heap.SameBut i1 g1 g2 := e2
    refine wpAny_bind (wpAny_bind (wpAny_holding ?_))
    show wpAny _ _ (Builtin.SmallTypes.nextOf (.ref i2) >>= _) _ _ ⟨g2, g0, d0, t2, o0⟩
    have en : i = n := by omega
    refine wpAny_bind (DB.done ⟨g2, g0, d0, t2, o0⟩ _ _ (by rw [← en]; exact DB.over (DB.over sb e1 S.zf2) e2 S.sep1_2) fun g3 e e3 he => ?_)
    exact q g3 t2 e (fun c o n1 n2 n3 x => e3 c o n3 (e2.extBut c o n2 (e1.extBut c o n1 x))) he
  · have em : i = m := by omega
    refine wpAny_bind (DA.done ⟨g1, g0, d0, t0, o0⟩ _ _ (by rw [← em]; exact DA.over sa e1 S.zf1) fun g2 e e2 he => ?_)
    exact q g2 t0 e (fun c o n1 n2 n3 x => e2 c o n2 (e1.extBut c o n1 x)) he
theorem zipH_next {Q : Option Value → Shared → Prop} (S : ZipSep2 z TI TO i1 i2 fa fb) (DA : Draws prog w A.in1 i1 fa m PA SA) (DB : Draws prog w A.in1 i2 fb n PB SB) (hz : IsZipHeld s.heap z TI TO T f) (hT : s.heap.get? T = some oT) (hI : IsTupOf2 s.heap TI (.ref i1) (.ref i2))
    (sa : SA i s.heap) (sb : SB i s.heap) (la : i < m) (lb : i < n)
    (q : ∀ x y h' tk, PA i x → PB i y → IsZipHeld h' z TI TO T true → SA (i + 1) h' → SB (i + 1) h' → IsTupOf2 h' s.heap.objs.size x y → (∀ c o, c ≠ z → c ≠ i1 → c ≠ i2 → s.heap.get? c = some o → h'.get? c = some o) → Q (some (.ref s.heap.objs.size)) { s with heap := h', toks := tk }) :
    wpAny (model prog w) A (pyNext (.ref z)) Q E s := by
  have ty : s.TypeIs (.ref z) "zip" := ⟨_, hz, rfl⟩
  unfold pyNext
  exact wpAny_bind (wpAny_attempt (wpAny_callSpecial?_slot (name := Str.ofString "__next__") ty F.slot_zip_next
    (wpAny_call_entry F.slot_zip_next ty F.entry_zip_next (zipH_item S DA DB hz hT hI sa sb la lb fun x y h' tk b1 b2 b3 b4 b5 b6 b7 => wpAny_pure (q x y h' tk b1 b2 b3 b4 b5 b6 b7)) (F.args_zip_next_1 _))))
theorem zipH_done {Q : Option Value → Shared → Prop} (S : ZipSep2 z TI TO i1 i2 fa fb) (DA : Draws prog w A.in1 i1 fa m PA SA) (DB : Draws prog w A.in1 i2 fb n PB SB) (hz : IsZipHeld s.heap z TI TO T f) (hT : s.heap.get? T = some oT) (hI : IsTupOf2 s.heap TI (.ref i1) (.ref i2))
    (sa : SA i s.heap) (sb : SB i s.heap) (la : i ≤ m) (lb : i ≤ n) (le : i = m ∨ i = n) (q : ∀ h' tk, (∀ c o, c ≠ z → c ≠ i1 → c ≠ i2 → s.heap.get? c = some o → h'.get? c = some o) → Q none { s with heap := h', toks := tk }) : wpAny (model prog w) A (pyNext (.ref z)) Q E s := by
  have ty : s.TypeIs (.ref z) "zip" := ⟨_, hz, rfl⟩
  unfold pyNext
  refine wpAny_bind (wpAny_attempt (wpAny_callSpecial?_slot (name := Str.ofString "__next__") ty F.slot_zip_next
    (wpAny_call_entry F.slot_zip_next ty F.entry_zip_next (zipH_end S DA DB hz hT hI sa sb la lb le fun h' tk e hk he => ?_) (F.args_zip_next_1 _))))
  obtain ⟨o, ho, hc⟩ := he
  exact wpAny_bind (wpAny_isInstance (T := "StopIteration") (b := true) ⟨o, ho, hc⟩ isSubtype_stop (wpAny_pure (q _ _ hk)))
end
def ZipAt (z TI TO i1 i2 a b : Addr) (xs ys : Array Value) (t u : Bool) (h : Heap) : Prop :=
  IsZip h z TI TO .none ∧ IsTupOf2 h TI (.ref i1) (.ref i2) ∧ (∃ x y, IsTupOf2 h TO x y) ∧ IterIs h i1 a 0 t ∧ IterIs h i2 b 0 u ∧ HeapIs h a xs t ∧ HeapIs h b ys u
theorem heap_obj {h : Heap} {a : Addr} {xs : Array Value} : ∀ {t : Bool}, HeapIs h a xs t → ∃ o, h.get? a = some o
  | true, ⟨o, e, _⟩ => ⟨o, e⟩
  | false, ⟨o, e, _⟩ => ⟨o, e⟩
theorem heap_keep {h h' : Heap} {a : Addr} {xs : Array Value} (k : ∀ o, h.get? a = some o → h'.get? a = some o) : ∀ {t : Bool}, HeapIs h a xs t → HeapIs h' a xs t
  | true, q => Heap.IsTuple.at q k
  | false, q => Heap.IsList.at q k
theorem ZipAt.keep {z TI TO i1 i2 a b : Addr} {xs ys : Array Value} {t u : Bool} {h h' : Heap} (x : ZipAt z TI TO i1 i2 a b xs ys t u h) (k : ∀ b o, h.get? b = some o → h'.get? b = some o) : ZipAt z TI TO i1 i2 a b xs ys t u h' := by
  obtain ⟨hz, hI, ⟨x, y, hO⟩, h1, h2, h3, h4⟩ := x
  exact ⟨k _ _ hz, k _ _ hI, ⟨x, y, k _ _ hO⟩, iter_keep (k _) h1, iter_keep (k _) h2, heap_keep (k _) h3, heap_keep (k _) h4⟩
theorem pairArg_zip {prog : Program} {w : World} {z TI TO i1 i2 a b : Addr} {xs ys : Array Value} {t u : Bool} (D : ZipSep2 z TI TO i1 i2 [i1, a] [i2, b]) (na : a ≠ i1) (nb : b ≠ i2) :
    PairArg prog w "zip" z [z, TI, TO, i1, i2, a, b] [z, TO, i1, i2] (min xs.size ys.size) (fun i k v => xs[i]? = some k ∧ ys[i]? = some v) (ZipAt z TI TO i1 i2 a b xs ys t u) where
  type := fun s ok => ⟨_, ok.1, rfl⟩
  notDict := by decide
  keep := fun h h' ok hk => ok.keep hk
  there := fun h ok c hc => by
    obtain ⟨hz, hI, ⟨x, y, hO⟩, h1, h2, h3, h4⟩ := ok
    obtain ⟨_, e1, _⟩ := iter_obj h1
    obtain ⟨_, e2, _⟩ := iter_obj h2
    simp only [List.mem_cons, List.not_mem_nil, or_false] at hc
    rcases hc with rfl | rfl | rfl | rfl | rfl | rfl | rfl
    · exact ⟨_, hz⟩
    · exact ⟨_, hI⟩
    · exact ⟨_, hO⟩
    · exact ⟨_, e1⟩
    · exact ⟨_, e2⟩
    · exact heap_obj h3
    · exact heap_obj h4
  sub := fun c hc => by simp only [List.mem_cons, List.not_mem_nil, or_false] at hc ⊢; rcases hc with rfl | rfl | rfl | rfl <;> simp
  noKeys := fun A s Q E hA ok h => getAttrOr_miss_zip ok.1 rfl rfl rfl zip_no_keys (by decide +kernel) hA h
  iter := fun A s d Q E hA ok hd hdf h => by
    obtain ⟨hz, hI, ⟨x, y, hO⟩, h1, h2, h3, h4⟩ := ok
    simp only [List.mem_cons, List.not_mem_nil, or_false, not_or] at hdf
    obtain ⟨dz, dI, dO, d1, d2, da, db⟩ := hdf
    have A1 := side_draws (prog := prog) (w := w) (A := A.in1) hA i1 a na xs t
    have A2 := side_draws (prog := prog) (w := w) (A := A.in1) hA i2 b nb ys u
    refine wpAny_pyIter_zip hz (h z [z, TO, i1, i2] (fun i h => IsTupOf2 h TI (.ref i1) (.ref i2) ∧ (IterIs h i1 a i t ∧ HeapIs h a xs t) ∧ (IterIs h i2 b i u ∧ HeapIs h b ys u) ∧
      ((IsZip h z TI TO .none ∧ ∃ x y, IsTupOf2 h TO x y) ∨ ∃ T f oT, IsZipHeld h z TI TO T f ∧ h.get? T = some oT ∧ T ≠ z ∧ T ≠ i1 ∧ T ≠ i2 ∧ T ≠ d)) s.heap s.toks ?_ ⟨hI, ⟨h1, h3⟩, ⟨h2, h4⟩, .inl ⟨hz, x, y, hO⟩⟩ (fun _ _ e => e) fun b hb => .inl hb)
    exact {
      off := fun hm => by
        simp only [List.mem_cons, List.not_mem_nil, or_false] at hm
        rcases hm with e | e | e | e
        · exact dz e
        · exact dO e
        · exact d1 e
        · exact d2 e
      frame := fun i g g' st hk => by
        obtain ⟨hI, ⟨h1, h3⟩, ⟨h2, h4⟩, hz⟩ := st
        refine ⟨hk _ _ (Ne.symm dI) hI, ⟨iter_keep (fun o e => hk _ o (Ne.symm d1) e) h1, heap_keep (fun o e => hk _ o (Ne.symm da) e) h3⟩, ⟨iter_keep (fun o e => hk _ o (Ne.symm d2) e) h2, heap_keep (fun o e => hk _ o (Ne.symm db) e) h4⟩, ?_⟩
        rcases hz with ⟨hz, x, y, hO⟩ | ⟨T, f, oT, hz, hT, r1, r2, r3, r4⟩
        · exact .inl ⟨hk _ _ (Ne.symm dz) hz, x, y, hk _ _ (Ne.symm dO) hO⟩
        · exact .inr ⟨T, f, oT, hk _ _ (Ne.symm dz) hz, hk _ _ r4 hT, r1, r2, r3, r4⟩
      item := fun i s1 Q1 E1 hi st hds hQ => by
        obtain ⟨hI, k1, k2, hz⟩ := st
        have lx : i < xs.size := Nat.lt_of_lt_of_le hi (Nat.min_le_left ..)
        have ly : i < ys.size := Nat.lt_of_lt_of_le hi (Nat.min_le_right ..)
        have lt : ∀ {c o}, s1.heap.get? c = some o → s1.heap.objs.size ≠ c := fun e => Nat.ne_of_gt (Heap.lt_size e)
        have n1 : s1.heap.objs.size ≠ i1 := let ⟨_, e, _⟩ := iter_obj k1.1; lt e
        have n2 : s1.heap.objs.size ≠ i2 := let ⟨_, e, _⟩ := iter_obj k2.1; lt e
        rcases hz with ⟨hz, x, y, hO⟩ | ⟨T, f, oT, hz, hT, r1, r2, r3, r4⟩
        · refine wpAny_pyNext_zipD2_item D A1 A2 hz hI hO k1 k2 lx ly fun v1 v2 h' tk e1 e2 z' O' j1 j2 hT hsz hk => ?_
          exact hQ s1.heap.objs.size v1 v2 h' tk ⟨e1, e2⟩ (.inl ⟨_, hT, rfl, _, rfl⟩) ⟨hk _ _ D.TIz D.TITO D.TIi1 D.TIi2 hI, j1, j2, .inr ⟨s1.heap.objs.size, false, _, z', hT, lt hz, n1, n2, Nat.ne_of_gt hds⟩⟩ fun c o hc e => by
            simp only [List.mem_cons, List.not_mem_nil, or_false, not_or] at hc
            exact hk c o hc.1 hc.2.1 hc.2.2.1 hc.2.2.2 e
        · refine zipH_next D A1 A2 hz hT hI k1 k2 lx ly fun v1 v2 h' tk e1 e2 z' j1 j2 hP hk => ?_
          exact hQ s1.heap.objs.size v1 v2 h' tk ⟨e1, e2⟩ (.inl ⟨_, hP, rfl, _, rfl⟩) ⟨hk _ _ D.TIz D.TIi1 D.TIi2 hI, j1, j2, .inr ⟨T, true, oT, z', hk _ _ r1 r2 r3 hT, r1, r2, r3, r4⟩⟩ fun c o hc e => by
            simp only [List.mem_cons, List.not_mem_nil, or_false, not_or] at hc
            exact hk c o hc.1 hc.2.2.1 hc.2.2.2 e
      done := fun s1 Q1 E1 st hQ => by
        obtain ⟨hI, k1, k2, hz⟩ := st
        rcases hz with ⟨hz, x, y, hO⟩ | ⟨T, f, oT, hz, hT, r1, r2, r3, r4⟩
        · refine wpAny_pyNext_zipD2_end D A1 A2 hz hI hO k1 k2 (Nat.min_le_left ..) (Nat.min_le_right ..) (by omega) fun h' tk hk => hQ h' tk fun c o hc e => ?_
          simp only [List.mem_cons, List.not_mem_nil, or_false, not_or] at hc
          exact hk c o hc.1 hc.2.1 hc.2.2.1 hc.2.2.2 e
        · refine zipH_done D A1 A2 hz hT hI k1 k2 (Nat.min_le_left ..) (Nat.min_le_right ..) (by omega) fun h' tk hk => hQ h' tk fun c o hc e => ?_
          simp only [List.mem_cons, List.not_mem_nil, or_false, not_or] at hc
          exact hk c o hc.1 hc.2.2.1 hc.2.2.2 e }
end Net
end

section
set_option Elab.async false
set_option linter.all false
set_option maxRecDepth 100000
/-! N17: dict(..), list(..), sorted(..) as new objects. -/
namespace Net
open PySem PySem.Spec PyProof.Rows L2
variable [TabL]

section
variable {K : PySem.W.Frag} {io R : List Addr} {H : Hp}
theorem RpK.put {k : Key} {d : D} {v : V} (r : Rp K io R H d v) : ∀ {ds : List (Key × D)} {ws : List (Key × V)}, RpK K io R H ds ws → RpK K io R H (kput ds k d) (putK ws k v) := by
  have any : ∀ {ds : List (Key × D)} {ws : List (Key × V)}, RpK K io R H ds ws → (ds.any fun kv => decide (kv.1 = k)) = ws.any fun kv => decide (kv.1 = k) := fun {ds ws} h => by
    induction ds generalizing ws with
    | nil => cases h; rfl
    | cons a ds ih => cases h with | cons r h => rw [List.any_cons, List.any_cons, ih h]
  have app : ∀ {ds : List (Key × D)} {ws : List (Key × V)}, RpK K io R H ds ws → RpK K io R H (ds ++ [(k, d)]) (ws ++ [(k, v)]) := fun {ds ws} h => by
    induction ds generalizing ws with
    | nil => cases h; exact .cons r .nil
    | cons a ds ih => cases h with | cons r h => exact .cons r (ih h)
  have mp : ∀ {ds : List (Key × D)} {ws : List (Key × V)}, RpK K io R H ds ws → RpK K io R H (ds.map fun kv => if kv.1 = k then (kv.1, d) else kv) (ws.map fun kv => if kv.1 = k then (kv.1, v) else kv) := fun {ds ws} h => by
    induction ds generalizing ws with
    | nil => cases h; exact .nil
    | cons a ds ih =>
      obtain ⟨k', d'⟩ := a
      cases h with
      | cons q h =>
        rw [List.map_cons, List.map_cons]
        by_cases e : k' = k
        · subst e
          simp only [if_true]
          exact .cons r (ih h)
        · simp only [if_neg e]
          exact .cons q (ih h)
  intro ds ws h
  unfold kput putK
  rw [any h]
  split
  · exact mp h
  · exact app h
theorem RpK.merge : ∀ {more : List (Key × D)} {mv : List (Key × V)} {ds : List (Key × D)} {ws : List (Key × V)}, RpK K io R H more mv → RpK K io R H ds ws → RpK K io R H (mergeD ds more) (mergeK ws mv)
  | _, _, _, _, .nil, h => h
  | _, _, _, _, .cons (k := k) (d := d) (v := v) (ds := dt) (vs := vt) r t, h => show RpK K io R H (mergeD (kput _ k d) dt) (mergeK (putK _ k v) vt) from RpK.merge t (h.put r)
/-- pairs in the heap -/
theorem pairs_rp : ∀ {ds : List D} {vs : List V} {ps : List (Key × D)}, RpL K io R H ds vs → pairsD ds = some ps →
    ∃ (Ts : List Addr) (kvs : List (Key × V)), vs = Ts.map V.ref ∧ RpK K io R H ps kvs ∧ Paired (fun p kv => SqT K H p [kV kv.1, kv.2]) Ts kvs
  | _, _, _, .nil, e => by cases e; exact ⟨[], [], rfl, .nil, .nil⟩
  | _, _, _, .cons (d := d) (ds := ds) r rr, e => by
    unfold pairsD at e
    split at e
    · rename_i he; cases he
    · rename_i d' k v rest he
      have e1 := (List.cons.inj he).1
      have e2 := (List.cons.inj he).2
      subst e1 e2
      split at e
      · rename_i k' ps' q1 q2
        cases e
        obtain ⟨Ts, kvs, h1, h2, h3⟩ := pairs_rp rr q2
        cases r with
        | tup a1 a2 a3 a4 =>
          cases a4 with
          | cons b1 b2 => cases b2 with
            | cons c1 c2 =>
              cases c2
              have ek := key_rp b1 q1
              subst ek
              exact ⟨_ :: Ts, (k', _) :: kvs, by rw [h1]; rfl, .cons c1 h2, .cons a3.sq h3⟩
      · cases e
    · cases e
end
section
variable {X : Cx} {pins : List (Addr × Obj)} {σ : L2.St} {H : Hp} {s : Shared}
theorem pairs_vals (I : Inv X pins σ H s) : ∀ {Ts : List Addr} {kvs : List (Key × V)}, Paired (fun p kv => SqT X.K H p [kV kv.1, kv.2]) Ts kvs →
    ∃ (qs : List (Value × Value)) (prs : List (Key × Value)), KV kvs prs ∧ qs.length = Ts.length ∧ prs.length = Ts.length ∧ ∀ (j : Nat) (k v : Value), qs[j]? = some (k, v) → ∃ b key, Ts[j]? = some b ∧ prs[j]? = some (key, v) ∧ IsTup s.heap b #[k, v] ∧ keyIs key k = true
  | _, _, .nil => ⟨[], [], .nil, rfl, rfl, fun j k v e => by simp at e⟩
  | _, _, .cons (a := p) (b := kv) h t => by
    obtain ⟨qs, prs, r, l1, l2, hp⟩ := pairs_vals I t
    obtain ⟨its, rv, ht, _⟩ := I.tuple h
    obtain ⟨u, y, ei, ru, ry⟩ := vals2 rv
    subst ei
    refine ⟨(u, y) :: qs, (kv.1, y) :: prs, .cons ⟨rfl, ry⟩ r, by simp [l1], by simp [l2], fun j k v e => ?_⟩
    cases j with
    | zero =>
      cases e
      exact ⟨p, kv.1, rfl, rfl, ht, kV_is (P := X.prog) (w := X.w) ru⟩
    | succ j =>
      obtain ⟨b, key, e1, e2, e3, e4⟩ := hp j k v (by simpa using e)
      exact ⟨b, key, by simpa using e1, by simpa using e2, e3, e4⟩
/-- a new dict -/
theorem new_dK {h' : Heap} {a : Addr} {kvs : List (Key × V)} {prs : List (Key × Value)} (I : Inv X pins σ H s) (hz : prs.length ≤ sizeLine) (rel : KV kvs prs) (ha : s.heap.objs.size ≤ a) (hd : h'.DictOf (mixKind X.prog X.w) a (merged [] prs)) :
    ObjOk X.prog X.w (upd H a (.dK (mergeK [] kvs))) h' a (.dK (mergeK [] kvs)) := by
  have hm : (a == sysModules) = false := beq_eq_false_iff_ne.mpr (Nat.ne_of_gt (Nat.lt_of_lt_of_le I.big ha))
  have hl : (mergeK [] kvs).length ≤ sizeLine := by
    refine Nat.le_trans (length_mergeK kvs []) ?_
    rw [List.length_nil, Nat.zero_add, rel.length]; exact hz
  exact ⟨hl, hm, merged [] prs, KV.merge rel .nil, hd⟩
end
def rDictP (K : PySem.W.Frag) : List V → Hp → VK → Prop := fun xs H Q => ∃ io R Bs M dx x ds ps, xs = [x] ∧ St8 K io R Bs M H ∧ Rp K io R H dx x ∧ dx.items M = some ds ∧ pairsD ds = some ps ∧
  ∀ p vs, H p = none → RpK K io R H (mergeD [] ps) vs → Q (.ref p) (upd H p (.dK vs))
theorem cr_dictP {X : Cx} (hc : X.calm = true) : CallR X (.type "dict") (rDictP X.K) := by
  rintro pins s σ H xs us Q I rv ⟨io, R, Bs, M, dx, x, ds, ps, rfl, st, hx, e, ep, q⟩
  obtain ⟨a, vs, rfl, ha, ra⟩ := items_rp st hx e
  obtain ⟨Ts, kvs, rfl, rk, hp⟩ := pairs_rp ra ep
  rcases ha with ha | ⟨o, ha, hd⟩
  · exact call_dictP hc pins s σ H _ us Q I rv ⟨a, Ts, kvs, rfl, SqL.of ha, hp, fun p np => q p _ np (rk.merge .nil)⟩
  · rw [Vals.ref1 rv]
    obtain ⟨ho, hz, its, rv2, o', ho', hcl, n, hdat⟩ := I.hok a _ ha
    rw [ho] at ho'; cases ho'
    have ei := refs_at rv2
    subst ei
    rw [List.length_map] at hz
    obtain ⟨qs, prs, rel, l1, l2, hq⟩ := pairs_vals I hp
    have P := PairArg.tuple (prog := X.prog) (w := X.w) a (Ts.map Value.ref).toArray (fun j => Ts.getD j 0) qs
    refine PySem.call_dict_pairs (knd := mixKind X.prog X.w) (kvs := prs) P (I.ok.hd hc) ⟨⟨o, n, ho, hcl, hd, hdat⟩, by simp [l1], fun j k v hj => ?_⟩ ⟨by rw [l2, l1], fun i k v hi => ?_⟩ (by rw [l1]; exact hz) fun h' tk hd' hk => ?_
    · obtain ⟨b, key, e1, e2, e3, e4⟩ := hq j k v hj
      have eb : Ts.getD j 0 = b := by rw [List.getD_eq_getElem?_getD, e1]; rfl
      exact ⟨by simp [e1, eb], .inl (by show s.heap.IsTuple (Ts.getD j 0) _; rw [eb]; exact e3)⟩
    · obtain ⟨b, key, e1, e2, e3, e4⟩ := hq i k v hi
      exact ⟨key, e2, e4⟩
    · exact ⟨.ref _, _, I.laid (t' := tk) (fun b u e => hk b u (fun z => nomatch z) e) (Nat.le_refl _) (new_dK I (by rw [l2]; exact hz) rel (Nat.le_refl _) hd'), rfl, q _ _ (I.hok.fresh (Nat.le_refl _)) (rk.merge .nil)⟩
section
variable {c : Ct} {X : Cx} {a b e : Expr} {ea eb ee : E} {pos p : Pos}
theorem sc_dictS (ok : COk c X) (hg : Gl X "dict") (hm : X.mg "dict" = none) (ha : PE X a (tE c ea)) (hs : starEach (a :: []) X.env = (false, eval a X.env) :: starEach [] X.env) : PE X (.Call (.Name "dict" p) [a] [] pos) (tCe c (.dict (.seq ea))) :=
  PE_imp (pe_callTy (cr_dictP ok.calm) hg hm (by rfl) (pa_cons ha pa_nil hs) (by decide) (by decide) hs) fun σ H Q ⟨base, io, R, Bs, ρ, M, a, h⟩ => by
    unfold evC evI at h
    have h2 : Post c.cl c.K R Bs io H (rpC c.K R Bs H) (fun k dx H => c.W k dx σ H) Q ((ev c.F base ea ρ M).bind fun d M => (match d.items M with
        | some ds => Rs.ok (ds, d.deps) M
        | none => .bad).bind fun z M => match pairsD z.1 with
      | some ps => .ok (.dic (mergeD [] ps)) M
      | none => .bad) := by
      revert h
      cases ev c.F base ea ρ M <;> exact id
    refine tE_bind a h2 fun x H1 io1 M1 dx x1 a1 r1 h1 => ?_
    split at h1
    · rename_i ds e1
      have h1 : Post c.cl c.K R Bs io1 H1 (rpC c.K R Bs H) (fun k dx H => c.W k dx σ H) Q (match pairsD ds with
      | some ps => Rs.ok (.dic (mergeD [] ps)) M1
      | none => .bad) := h1
      split at h1
      · rename_i ps e2
        rw [ok.K]
        exact ⟨io1, R, Bs, M1, dx, x, ds, ps, rfl, a1.st, r1, e1, e2, fun p vs np r => h1.fin2 np (newDicC a1.st np (x1.none a1.st np) r)⟩
      · exact h1.elim
    · exact h1.elim

/-! ### dict(zip(a, b)) -/
theorem zip_rp {K : PySem.W.Frag} {P : Program} {w : World} {io R : List Addr} {H : Hp} : ∀ {xs ys : List D} {vs ws : List V} {us us2 : List Value} {ps : List (Key × D)}, RpL K io R H xs vs → RpL K io R H ys ws → Vals vs us → Vals ws us2 → pairsD ((xs.zip ys).map fun p => D.tup [p.1, p.2]) = some ps →
    ∃ (kvs : List (Key × V)) (prs : List (Key × Value)), RpK K io R H ps kvs ∧ KV kvs prs ∧ prs.length = min us.length us2.length ∧ ∀ (i : Nat) (k v : Value), us[i]? = some k → us2[i]? = some v → ∃ key, prs[i]? = some (key, v) ∧ (mixKind P w).is key k = true
  | _, _, _, _, _, _, _, .nil, _, rv, _, e => by
    cases rv
    simp [pairsD] at e
    subst e
    exact ⟨[], [], .nil, .nil, by simp, fun i k v h => by simp at h⟩
  | _, _, _, _, _, _, _, .cons _ _, .nil, rv, rw', e => by
    cases rw'
    simp [pairsD] at e
    subst e
    exact ⟨[], [], .nil, .nil, by simp, fun i k v _ h => by simp at h⟩
  | _, _, _, _, _, _, _, .cons r rr, .cons q qq, rv, rw', e => by
    cases rv with
    | cons r1 rv =>
      cases rw' with
      | cons q1 rw' =>
        rw [List.zip_cons_cons, List.map_cons] at e
        unfold pairsD at e
        simp only at e
        split at e
        · rename_i k ps' e1 e2
          cases e
          obtain ⟨kvs, prs, h1, h2, h3, h4⟩ := zip_rp (P := P) (w := w) rr qq rv rw' e2
          have ek := key_rp r e1
          subst ek
          refine ⟨(k, _) :: kvs, (k, _) :: prs, .cons q h1, .cons ⟨rfl, q1⟩ h2, by simp [h3], fun i x y hx hy => ?_⟩
          cases i with
          | zero => cases hx; cases hy; exact ⟨k, rfl, kV_is r1⟩
          | succ i =>
            obtain ⟨key, g1, g2⟩ := h4 i x y (by simpa using hx) (by simpa using hy)
            exact ⟨key, by simpa using g1, g2⟩
        · cases e
/-- dict(zip(a, b)) -/
theorem pe_dictZip {ta : TA} {p2 pos2 : Pos} (hc : X.calm = true) (hg : Gl X "dict") (hm : X.mg "dict" = none) (hg2 : Gl X "zip") (hm2 : X.mg "zip" = none) (ha : PA X [a, b] ta)
    (hs : starEach [a, b] X.env = (false, eval a X.env) :: starEach [b] X.env) (hpl : (backTo pos2 (starEach [b] X.env)).any (·.1) = false)
    (hz : starEach [Expr.Call (.Name "zip" p2) [a, b] [] pos2] X.env = (false, eval (Expr.Call (.Name "zip" p2) [a, b] [] pos2) X.env) :: starEach [] X.env) :
    PE X (.Call (.Name "dict" p) [.Call (.Name "zip" p2) [a, b] [] pos2] [] pos) (fun σ H Q => ta σ H fun vs H1 => ∃ io R Bs M dx dy x y xs ys ps, vs = [x, y] ∧ St8 X.K io R Bs M H1 ∧ Rp X.K io R H1 dx x ∧ Rp X.K io R H1 dy y ∧ dx.items M = some xs ∧ dy.items M = some ys ∧
      pairsD ((xs.zip ys).map fun p => D.tup [p.1, p.2]) = some ps ∧ ∀ p ws, H1 p = none → RpK X.K io R H1 (mergeD [] ps) ws → Q (.ref p) (upd H1 p (.dK ws))) := ⟨fun pins s σ H Q I h => by
  refine Call_ (ld_blt I hg hm (show bootBuiltins "dict" = some (.type "dict") by rfl) (PyProof.Rows.callWith_type1 (args_cons (Call_ (ld_blt I hg2 hm2 PyProof.Rows.boot_zip (PyProof.Rows.callWith_type1 (thn (ha.run pos2 pins s σ H _ I h) fun us s1 ⟨vs, H1, I1, r1, q1⟩ => ?_) hs hpl))) hz) hz))
  obtain ⟨io, R, Bs, M, dx, dy, x, y, xs, ys, ps, rfl, st, hx, hy, e1, e2, ep, q⟩ := q1
  obtain ⟨v, vs, rfl, r, r1⟩ : ∃ v vs, us = v :: vs ∧ RelV x v ∧ Vals [y] vs := by cases r1 with | cons r r1 => exact ⟨_, _, rfl, r, r1⟩
  obtain ⟨v2, rfl, r2⟩ := Vals.one r1
  obtain ⟨a, vs, t, rfl, q1, _, k1⟩ := side_later st hx e1
  obtain ⟨b, ws, u, rfl, q2, _, k2⟩ := side_later st hy e2
  obtain ⟨vs', q1, _, rr1⟩ := k1 st (Ext.tr .refl) (fun _ _ => rfl)
  obtain ⟨ws', q2, _, rr2⟩ := k2 st (Ext.tr .refl) (fun _ _ => rfl)
  cases r; cases r2
  obtain ⟨its, rv, p1, al⟩ := side_inv I1 q1
  obtain ⟨its2, rv2, p2, bl⟩ := side_inv I1 q2
  obtain ⟨kvs, prs, rk, rel, pl, hp⟩ := zip_rp (P := X.prog) (w := X.w) rr1 rr2 rv rv2 ep
  have S := zip_sep2 (N := s1.heap.objs.size) (fp1 := [a]) (fp2 := [b]) (fun c hc => by rw [List.mem_singleton.mp hc]; exact al) (fun c hc => by rw [List.mem_singleton.mp hc]; exact bl)
  refine zip_begins2 (side_begins a its.toArray t) (side_begins b its2.toArray u) p1 p2 fun h' hz hTI hTO h1 h2 hsz hk => args_nil ?_
  have hz1 : vs'.length ≤ sizeLine := by
    cases t with
    | true => exact (I1.tuple (show SqT X.K H1 a vs' from q1)).choose_spec.2.2
    | false => exact (I1.list (show SqL X.K H1 a vs' from q1)).choose_spec.2.2
  have nprs : prs.length ≤ sizeLine := by rw [pl, ← rv.length]; omega
  have I2 := I1.kept (t' := s1.toks) hk
  refine PySem.call_dict_pairs (s := { s1 with heap := h' }) (knd := mixKind X.prog X.w) (kvs := prs) (pairArg_zip (xs := its.toArray) (ys := its2.toArray) (t := t) (u := u) S (Nat.ne_of_lt al) (Nat.ne_of_lt (Nat.lt_succ_of_lt bl))) (I1.ok.hd hc)
    ⟨hz, hTI, ⟨_, _, hTO⟩, iter_new h1, iter_new h2, heap_keep (fun o e => hk _ _ e) p1, heap_keep (fun o e => hk _ _ e) p2⟩ ⟨by rw [pl]; simp, fun i k v hi => ?_⟩ (by rw [← show prs.length = min its.toArray.size its2.toArray.size by rw [pl]; simp]; exact nprs) fun h2 tk hd' hk2 => ?_
  · obtain ⟨g1, g2⟩ := hi
    exact hp i k v (by simpa using g1) (by simpa using g2)
  · have fpo : ∀ c ∈ [s1.heap.objs.size + 4, s1.heap.objs.size + 3, s1.heap.objs.size, s1.heap.objs.size + 1], FpOk X pins H1 c := fun c hcm => by
      have hle : s1.heap.objs.size ≤ c := by
        simp only [List.mem_cons, List.not_mem_nil, or_false] at hcm
        rcases hcm with rfl | rfl | rfl | rfl
        · exact Nat.le_add_right _ _
        · exact Nat.le_add_right _ _
        · exact Nat.le_refl _
        · exact Nat.le_add_right _ _
      exact I1.fpOk hle (I1.hok.fresh hle)
    exact ⟨.ref _, _, I2.turnedNew (t' := tk) hk2 fpo (Nat.le_refl _) (new_dK I2 nprs rel (Nat.le_refl _) hd'), rfl, q _ _ (I2.hok.fresh (Nat.le_refl _)) (rk.merge .nil)⟩⟩
theorem sc_dictZ {p2 pos2 : Pos} (ok : COk c X) (hg : Gl X "dict") (hm : X.mg "dict" = none) (hg2 : Gl X "zip") (hm2 : X.mg "zip" = none) (ha : PE X a (tE c ea)) (hb : PE X b (tE c eb))
    (hs : starEach [a, b] X.env = (false, eval a X.env) :: starEach [b] X.env) (hs2 : starEach [b] X.env = (false, eval b X.env) :: starEach [] X.env) (hpl : (backTo pos2 (starEach [b] X.env)).any (·.1) = false)
    (hz : starEach [Expr.Call (.Name "zip" p2) [a, b] [] pos2] X.env = (false, eval (Expr.Call (.Name "zip" p2) [a, b] [] pos2) X.env) :: starEach [] X.env) :
    PE X (.Call (.Name "dict" p) [.Call (.Name "zip" p2) [a, b] [] pos2] [] pos) (tCe c (.dict (.zip ea eb))) :=
  PE_imp (pe_dictZip ok.calm hg hm hg2 hm2 (pa_cons ha (pa_cons hb pa_nil hs2) hs) hs hpl hz) fun σ H Q ⟨base, io, R, Bs, ρ, M, a, h⟩ => by
    unfold evC evI at h
    have h2 : Post c.cl c.K R Bs io H (rpC c.K R Bs H) (fun k dx H => c.W k dx σ H) Q ((ev c.F base ea ρ M).bind fun d M => (ev c.F base eb ρ M).bind fun e M => (match d.items M, e.items M with
        | some xs, some ys => Rs.ok ((xs.zip ys).map fun p : D × D => D.tup [p.1, p.2], d.deps ++ e.deps) M
        | _, _ => .bad).bind fun z M => match pairsD z.1 with
      | some ps => .ok (.dic (mergeD [] ps)) M
      | none => .bad) := by
      revert h
      cases ev c.F base ea ρ M with
      | ok d M1 => intro h; revert h; show Post _ _ _ _ _ _ _ _ _ (((ev c.F base eb ρ M1).bind _).bind _) → Post _ _ _ _ _ _ _ _ _ ((ev c.F base eb ρ M1).bind _); cases ev c.F base eb ρ M1 <;> exact id
      | exc _ _ _ => exact id
      | bad => exact id
    refine tE_bind a h2 fun x H1 io1 M1 dx x1 a1 r1 h1 => ?_
    refine tE_bind a1 h1 fun y H2 io2 M2 dy x2 a2 r2 h2 => ?_
    split at h2
    · rename_i xs ys e1 e2
      have h2 : Post c.cl c.K R Bs io2 H2 (rpC c.K R Bs H) (fun k dx H => c.W k dx σ H) Q (match pairsD ((xs.zip ys).map fun p : D × D => D.tup [p.1, p.2]) with
      | some ps => Rs.ok (.dic (mergeD [] ps)) M2
      | none => .bad) := h2
      split at h2
      · rename_i ps ep
        rw [ok.K]
        exact ⟨io2, R, Bs, M2, dx, dy, x, y, xs, ys, ps, rfl, a2.st, r1.tr x2.tr, r2, e1, e2, ep, fun p vs np r => h2.fin2 np (newDicC a2.st np ((x1.trans x2).none a2.st np) r)⟩
      · exact h2.elim
    · exact h2.elim
end
end Net
end

section
set_option Elab.async false
set_option linter.all false
set_option maxRecDepth 100000
/-! N18: sorted(set(list of ints)). -/
namespace Net
open PySem PySem.Spec PyProof.Rows L2
variable [TabL]
abbrev set0 (w : World) : Obj := { cls := .type "set", dict := none, data := .set #[] 0 (.fresh 0 0 (!w.params.followText "set-order")) }
section
variable {P : Program} {w : World} {A : Around} {E : Value → Shared → Prop} {s : Shared}
set_option maxHeartbeats 3200000 in
/-- set(l) of a list of ints (as the kit's call_set_tupI, for a list) -/
theorem call_set_lst {l : Addr} {items : Array Value} (ns : List Int) {Q : Value → Shared → Prop} (hh : A.handled = none) (hl : s.heap.IsList l items) (hit : IntsAre items.toList ns) (hb : ns.length + 1 < scanBound)
    (q : ∀ (h' : Heap) (tk c : Nat), SetR w h' s.heap.objs.size (fun j => decide (j ∈ ns)) c → (∀ b o, s.heap.get? b = some o → h'.get? b = some o) → Q (.ref s.heap.objs.size) { s with heap := h', toks := tk }) :
    wpAny (model P w) A (call (.type "set") [.ref l]) Q E s := by
  have en : items.size = ns.length := by rw [← Array.length_toList]; exact IntsAre.length hit
  obtain ⟨c0, tl, hmro⟩ := F.called_set.mro
  have hmade := F.called_set.made
  have hsub := F.called_set.sub
  refine wpAny_call (codeAny_of_tree ?_)
  show wpAny _ _ (callAny (.type "set") _) _ _ _
  refine wpAny_pure ⟨Code.quiet_builtin _ (by decide +kernel), codeAny_builtin F.entry_type_call ?_⟩
  rw [Around.under_plain (weight_type_call_type "set" [.ref l] []) rfl]
  have h1 := F.called_set.notType
  have h2 := F.called_set.canCreate
  have hct := F.typeCall_set_1 (.ref l)
  repeat (any_goals (first | assumption | wp_step))
  refine codeAny_mono (code_set_led1 (.ref l) (E := E) (Q₁ := fun obj s1 => obj = .ref s.heap.objs.size ∧ s1 = { s with heap := s.heap.push (set0 w) }) ⟨rfl, rfl⟩) fun r s1 hr => ?_
  cases r with
  | error e => exact hr
  | ok fl =>
    cases fl with
    | ret obj =>
      obtain ⟨rfl, rfl⟩ := hr
      have hS : (s.heap.push (set0 w)).get? s.heap.objs.size = some (set0 w) := Heap.get?_push_size _ rfl
      have hT : Shared.TypeIs { s with heap := s.heap.push (set0 w) } (.ref s.heap.objs.size) "set" := ⟨_, hS, rfl⟩
      have hli := F.called_set.init.lookup
      have hbi := F.called_set.init.bind (.ref s.heap.objs.size)
      repeat (any_goals (first | assumption | wp_step))
      refine codeAny_mono (codeAny_call_builtin (R := wants (fun r s2 => r = .none ∧ ∃ h' tk c, s2 = { s with heap := h', toks := tk } ∧ SetR w h' s.heap.objs.size (fun j => decide (j ∈ ns)) c ∧
          (∀ b o, s.heap.get? b = some o → h'.get? b = some o)) E) F.called_set.init.plain F.entry_set_init (check_set_init_1 hT ?_)) fun r2 s2 hr2 => ?_
      · obtain ⟨⟨ocls, odict, odata, oslots⟩, hol, hcl, nl, hdl⟩ := hl
        simp only at hcl hdl
        subst hcl; subst hdl
        have hol' : (s.heap.push (set0 w)).get? l = some { cls := .type "list", dict := odict, data := .seq items nl, slots := oslots } := Heap.get?_push_of_some _ hol
        have hsls := F.sub_list_set
        have hslf := F.sub_list_frozenset
        have hne : (Value.type "list" == Value.type "dict") = false := by decide
        have hl1 : (s.heap.push (set0 w)).IsList l items := ⟨_, hol', rfl, nl, rfl⟩
        unfold Builtin.«set.__init__» noKeywords Builtin.Frozenset.updateFrom
        generalize hPI : pyIter = PI
        wp_walk
        subst hPI
        refine wpAny_pyIter_list hl1 (wpAny_bind (wpAny_runValue ?_))
        have hlS : l < s.heap.objs.size := Heap.lt_size hol
        have hh3 : A.in1.in1.in1.handled = none := by simp [hh]
        have sz : (s.heap.push (set0 w)).objs.size = s.heap.objs.size + 1 := Heap.size_push ..
        have hneI : l ≠ (s.heap.push (set0 w)).objs.size := by rw [sz]; exact Nat.ne_of_lt (Nat.lt_succ_of_lt hlS)
        have hSf : s.heap.objs.size ∉ [(s.heap.push (set0 w)).objs.size, l] := by
          rw [sz]; simp only [List.mem_cons, List.not_mem_nil, or_false, not_or]
          exact ⟨Nat.ne_of_lt (Nat.lt_succ_self _), Nat.ne_of_gt hlS⟩
        refine set_update_ints ((Walks.list hh3 _ l hneI items).toS) s.heap.objs.size hSf ns en hb (fun i v hv => ?_) (items.size - 0) 0 _ (by omega) (Nat.zero_le _) ⟨⟨_, Heap.get?_push_size _ rfl, rfl, rfl⟩, (hl1.push _)⟩ ⟨0, Nat.le_refl 0, setR_new_at (Heap.get?_push_of_some _ hS)⟩ fun s' c' hm hc' hS' => ?_
        · have hi : i < ns.length := by rw [← en]; exact (Array.getElem?_eq_some_iff.mp hv).1
          obtain ⟨t, e⟩ := PyProof.Rows.IntsAre.int_at hit i v (by rw [Array.getElem?_toList]; exact hv)
          refine ⟨ns[i], t, List.getElem?_eq_getElem hi, ?_⟩
          rw [e, List.getD_eq_getElem?_getD, List.getElem?_eq_getElem hi] <;> rfl
        · obtain ⟨h', g2, d', tk', os'⟩ := s'
          obtain rfl : g2 = s.gens := hm.gens
          obtain rfl : d' = s.drawn := hm.drawn
          obtain rfl : os' = s.os := hm.os
          refine wpAny_pure (wpAny_pure ⟨rfl, h', tk', c', rfl, hS', fun b o e => ?_⟩)
          have lt := Heap.lt_size e
          exact hm.heap b o (by rw [sz]; simp only [List.mem_cons, List.not_mem_nil, or_false, not_or]; exact ⟨Nat.ne_of_lt lt, Nat.ne_of_lt (Nat.lt_succ_of_lt lt)⟩) (Heap.get?_push_of_some _ (Heap.get?_push_of_some _ e))
      · cases r2 with
        | error e => exact hr2
        | ok fl2 =>
          cases fl2 with
          | ret r =>
            obtain ⟨rfl, h', tk, c', rfl, hS', hk'⟩ := hr2
            repeat (any_goals (first | assumption | wp_step))
            exact q _ _ _ hS' hk'
          | _ => exact hr2.elim
    | _ => exact hr.elim
end
/-- a list without what stands in it already -/
theorem mem_dedup {k : Int} : ∀ {ns : List Int}, k ∈ dedupI ns ↔ k ∈ ns
  | [] => Iff.rfl
  | n :: ns => by
    unfold dedupI
    split
    · rename_i h
      rw [mem_dedup, List.mem_cons]
      exact ⟨.inr, fun h2 => h2.elim (fun e => e ▸ mem_dedup.mp h) id⟩
    · rw [List.mem_cons, List.mem_cons, mem_dedup]
theorem nodup_dedup : ∀ ns : List Int, (dedupI ns).Nodup
  | [] => List.nodup_nil
  | n :: ns => by
    unfold dedupI
    split
    · exact nodup_dedup ns
    · rename_i h; exact List.nodup_cons.mpr ⟨h, nodup_dedup ns⟩
theorem set_perm {ns out : List Int} (h1 : out.Pairwise (· < ·)) (h2 : ∀ k : Int, k ∈ out ↔ decide (k ∈ ns) = true) : out.Perm (dedupI ns) ∧ out.Pairwise (· ≤ ·) := by
  have n1 : out.Nodup := List.Pairwise.imp (fun {a b} (h : a < b) (e : a = b) => Int.lt_irrefl b (e ▸ h)) h1
  exact ⟨(List.perm_ext_iff_of_nodup n1 (nodup_dedup ns)).mpr fun k => by rw [h2, decide_eq_true_eq, mem_dedup], h1.imp fun h => Int.le_of_lt h⟩
def rSetSrt (K : PySem.W.Frag) : V → Hp → VK → Prop := fun x H Q => ∃ (a : Addr) (ns : List Int), x = .ref a ∧ SqL K H a (ns.map V.int) ∧ ns.length < 4000 ∧ (dedupI ns).length < 64 ∧ ∀ (out : List Int) p, sortD ((dedupI ns).map .int) = some (out.map .int) → H p = none → Q (.ref p) (upd H p (.lst (out.map V.int)))
section
variable {c : Ct} {X : Cx} {a b e : Expr} {ea eb ee : E} {pos p p2 pos2 : Pos}
theorem pe_sortSet {ta : TE} (hc : X.calm = true) (hg : Gl X "sorted") (hm : X.mg "sorted" = none) (hg2 : Gl X "set") (hm2 : X.mg "set" = none) (ha : PE X a ta) (hs : starEach [a] X.env = (false, eval a X.env) :: starEach [] X.env)
    (hz : starEach [Expr.Call (.Name "set" p2) [a] [] pos2] X.env = (false, eval (Expr.Call (.Name "set" p2) [a] [] pos2) X.env) :: starEach [] X.env) :
    PE X (.Call (.Name "sorted" p) [.Call (.Name "set" p2) [a] [] pos2] [] pos) (fun σ H Q => ta σ H fun x H1 => rSetSrt X.K x H1 Q) := ⟨fun pins s σ H Q I h => by
  refine Call_ (ld_blt I hg hm (show bootBuiltins "sorted" = some (.builtin "sorted") by rfl) (PyProof.Rows.callWith_builtin1 (args_cons (Call_ (ld_blt I hg2 hm2 PyProof.Rows.boot_set (PyProof.Rows.callWith_type1 (args_cons (thn (ha.run pins s σ H _ I h) fun v s1 ⟨x, H1, I1, r1, a, ns, ex, hq, hl, h64, q⟩ => args_nil ?_) hs) hs))) hz) hz))
  subst ex
  cases r1
  obtain ⟨its, rv, pl, hz⟩ := I1.list hq
  refine call_set_lst ns (I1.ok.hd hc) pl.isList (by simpa using rv.ints) (by unfold scanBound; omega) fun h' tk n R hk => args_nil ?_
  have I2 : Inv X pins σ H1 { s1 with heap := h', toks := tk } := I1.kept hk
  have en : n < 64 := by
    obtain ⟨o, es, ep, t, _, _, _, _, nd, hm, _, _, hn, _, _⟩ := R
    have : (es.toList.map keyOf).Perm (dedupI ns) := (List.perm_ext_iff_of_nodup nd (nodup_dedup ns)).mpr fun k => by rw [← hm k, decide_eq_true_eq, mem_dedup]
    have := this.length_eq
    rw [List.length_map, Array.length_toList] at this
    omega
  refine sorted_set R (I1.ok.hd hc) en fun s2 p out ep ms hk2 hgn hos hle hp hi h1 h2 _ => ?_
  obtain ⟨h2', g2, d2, t2, o2⟩ := s2
  obtain ⟨pm, ps⟩ := set_perm h1 h2
  have hn : H1 p = none := I2.hok.fresh hle
  have hlen : (ms.map V.int).length ≤ sizeLine := by rw [List.length_map, pm.length_eq, sizeLine_eq]; omega
  obtain rfl : g2 = s1.gens := hgn
  obtain rfl : o2 = s1.os := hos
  have J := I2.call (ch := []) (g' := s1.gens) (d' := d2) (t' := t2) (Un.laid hk2 hle hn) (I2.hok.laid hk2 hle (o := .lst (ms.map V.int)) ⟨hlen, out.toList, ep, vals_of_ints hi, hp⟩) I2.bare (fun _ z => nomatch z)
  exact ⟨.ref p, _, J, rfl, q ms p (sortD_ints pm ps) hn⟩⟩
theorem sc_sortSet (ok : COk c X) (hg : Gl X "sorted") (hm : X.mg "sorted" = none) (hg2 : Gl X "set") (hm2 : X.mg "set" = none) (ha : PE X a (tE c ea)) (hs : starEach [a] X.env = (false, eval a X.env) :: starEach [] X.env)
    (hz : starEach [Expr.Call (.Name "set" p2) [a] [] pos2] X.env = (false, eval (Expr.Call (.Name "set" p2) [a] [] pos2) X.env) :: starEach [] X.env) :
    PE X (.Call (.Name "sorted" p) [.Call (.Name "set" p2) [a] [] pos2] [] pos) (tCe c (.sortedSet ea)) :=
  PE_imp (pe_sortSet ok.calm hg hm hg2 hm2 ha hs hz) fun σ H Q ⟨base, io, R, Bs, ρ, M, a, h⟩ => by
    unfold evC at h
    refine tE_bind a h fun x H1 io1 M1 dx x1 a1 r1 h1 => ?_
    split at h1
    · rename_i ds e
      split at h1
      · rename_i ns e2
        split at h1
        · rename_i hl
          obtain ⟨p, vs, rfl, hp, rp⟩ := seq_rp a1.st r1 e
          have ev := rp.ints e2
          subst ev
          rw [ok.K]
          refine ⟨p, ns, rfl, SqL.of hp, hl.1, hl.2, fun out p e3 np => ?_⟩
          rw [e3] at h1
          exact h1.fin2 np (newLstC a1.st np (x1.none a1.st np) (RpL.ofInts out))
        · exact h1.elim
      · exact h1.elim
    · exact h1.elim
/-- sorted(list), sorted(dict) -/
theorem cr_srtAny (ok : COk c X) : CallR X (.builtin "sorted") (fun xs H Q => rSrt X.K xs H Q ∨ ∃ (a : Addr) (kvs : List (Key × V)) (ks : List Int), xs = [.ref a] ∧ Rd H a (.dK kvs) ∧ kvs.map (·.1) = ks.map Sum.inl ∧ ks.length < 64 ∧
    ∀ (ys : List Int) (p : Addr), ys.Perm ks → ys.Pairwise (· ≤ ·) → H p = none → Q (.ref p) (upd H p (.lst (ys.map V.int)))) := by
  rintro pins s σ H xs us Q I rv (h | h)
  · exact cr_srt pins s σ H xs us Q I rv h
  · exact call_sortedDI ok.calm pins s σ H xs us Q I rv h
theorem keys_ints {K : PySem.W.Frag} {io R : List Addr} {H : Hp} : ∀ {kvs : List (Key × D)} {ws : List (Key × V)} {ns : List Int}, RpK K io R H kvs ws → intsOf (keysD kvs) = some ns → ws.map (·.1) = ns.map Sum.inl
  | _, _, _, .nil, e => by cases e; rfl
  | _, _, _, .cons (k := k) (ds := ds) r rr, e => by
    cases k with
    | inl i =>
      have e : (intsOf (keysD ds)).map (i :: ·) = some _ := e
      cases q : intsOf (keysD ds) with
      | none => rw [q] at e; cases e
      | some ms => rw [q] at e; cases e; rw [List.map_cons, keys_ints rr q]; rfl
    | inr x => cases e
theorem sc_sorted (ok : COk c X) (hg : Gl X "sorted") (hm : X.mg "sorted" = none) (ha : PE X a (tE c ea)) (hs : starEach (a :: []) X.env = (false, eval a X.env) :: starEach [] X.env) : PE X (.Call (.Name "sorted" p) [a] [] pos) (tCe c (.sorted ea)) :=
  PE_imp (pe_callB (cr_srtAny ok) hg hm (by rfl) (pa_cons ha pa_nil hs) (by decide) (by decide) hs) fun σ H Q ⟨base, io, R, Bs, ρ, M, a, h⟩ => by
    unfold evC at h
    refine tE_bind a h fun x H1 io1 M1 dx x1 a1 r1 h1 => ?_
    rw [ok.K]
    split at h1
    · rename_i ds e
      obtain ⟨d, e2, q⟩ := h1.of
      cases q2 : sortD ds with
      | none => rw [q2] at e2; cases e2
      | some out =>
        rw [q2] at e2; cases e2
        exact .inl ⟨io1, R, Bs, M1, dx, x, ds, out, rfl, a1.st, r1, e, q2, fun p vs np rr => q io1 _ _ (.upd np) (newLstC a1.st np (x1.none a1.st np) rr)⟩
    · split at h1
      · rename_i kvs e
        split at h1
        · rename_i ns e2
          split at h1
          · rename_i hl
            obtain ⟨p, ws, rfl, hp, rp⟩ := dict_rp a1.st r1 e
            refine .inr ⟨p, ws, ns, rfl, .inl hp, keys_ints rp e2, hl, fun ys p pm ps np => ?_⟩
            rw [sortD_ints pm ps] at h1
            exact h1.fin2 np (newLstC a1.st np (x1.none a1.st np) (RpL.ofInts ys))
          · exact h1.elim
        · exact h1.elim
      · exact h1.elim
end
end Net
end

section
set_option Elab.async false
set_option linter.all false
set_option maxRecDepth 100000
/-! N19: dict(list(zip(a, b))). -/
namespace Net
open PySem PySem.Spec PyProof.Rows L2
variable [TabL]

theorem zip_no_len : typeLookup (.type "zip") "__len__" = pure none := am_miss_of_fast (by decide +kernel)
theorem zip_no_hint : typeLookup (.type "zip") "__length_hint__" = pure none := am_miss_of_fast (by decide +kernel)
/-- a zip in its turns; S: the list that is filled -/
def ZipSt (z TI TO i1 i2 a b S : Addr) (xs ys : Array Value) (t u : Bool) (i : Nat) (h : Heap) : Prop :=
  IsTupOf2 h TI (.ref i1) (.ref i2) ∧ (IterIs h i1 a i t ∧ HeapIs h a xs t) ∧ (IterIs h i2 b i u ∧ HeapIs h b ys u) ∧
    ((IsZip h z TI TO .none ∧ ∃ x y, IsTupOf2 h TO x y) ∨ ∃ T f oT, IsZipHeld h z TI TO T f ∧ h.get? T = some oT ∧ T ≠ z ∧ T ≠ i1 ∧ T ≠ i2 ∧ T ≠ S)
section
variable {prog : Program} {w : World} {A : Around} {E : Value → Shared → Prop} {s : Shared} {z TI TO i1 i2 a b S : Addr} {xs ys : Array Value} {t u : Bool} {i : Nat}
theorem ZipSt.off {h h' : Heap} (x : ZipSt z TI TO i1 i2 a b S xs ys t u i h) (d : S ≠ z ∧ S ≠ TI ∧ S ≠ TO ∧ S ≠ i1 ∧ S ≠ i2 ∧ S ≠ a ∧ S ≠ b) (hk : ∀ c o, c ≠ S → h.get? c = some o → h'.get? c = some o) : ZipSt z TI TO i1 i2 a b S xs ys t u i h' := by
  obtain ⟨dz, dI, dO, d1, d2, da, db⟩ := d
  obtain ⟨hI, ⟨h1, h3⟩, ⟨h2, h4⟩, hz⟩ := x
  refine ⟨hk _ _ (Ne.symm dI) hI, ⟨iter_keep (fun o e => hk _ o (Ne.symm d1) e) h1, heap_keep (fun o e => hk _ o (Ne.symm da) e) h3⟩, ⟨iter_keep (fun o e => hk _ o (Ne.symm d2) e) h2, heap_keep (fun o e => hk _ o (Ne.symm db) e) h4⟩, ?_⟩
  rcases hz with ⟨hz, x, y, hO⟩ | ⟨T, f, oT, hz, hT, r1, r2, r3, r4⟩
  · exact .inl ⟨hk _ _ (Ne.symm dz) hz, x, y, hk _ _ (Ne.symm dO) hO⟩
  · exact .inr ⟨T, f, oT, hk _ _ (Ne.symm dz) hz, hk _ _ r4 hT, r1, r2, r3, r4⟩
theorem zip_turn {Q : Option Value → Shared → Prop} (D : ZipSep2 z TI TO i1 i2 [i1, a] [i2, b]) (na : a ≠ i1) (nb : b ≠ i2) (hh : A.handled = none) (st : ZipSt z TI TO i1 i2 a b S xs ys t u i s.heap) (hS : S < s.heap.objs.size) (lx : i < xs.size) (ly : i < ys.size)
    (q : ∀ x y h' tk, xs[i]? = some x → ys[i]? = some y → ZipSt z TI TO i1 i2 a b S xs ys t u (i + 1) h' → IsTupOf2 h' s.heap.objs.size x y → (∀ c o, c ≠ z → c ≠ TO → c ≠ i1 → c ≠ i2 → s.heap.get? c = some o → h'.get? c = some o) → Q (some (.ref s.heap.objs.size)) { s with heap := h', toks := tk }) :
    wpAny (model prog w) A (pyNext (.ref z)) Q E s := by
  obtain ⟨hI, k1, k2, hz⟩ := st
  have lt : ∀ {c o}, s.heap.get? c = some o → s.heap.objs.size ≠ c := fun e => Nat.ne_of_gt (Heap.lt_size e)
  have n1 : s.heap.objs.size ≠ i1 := let ⟨_, e, _⟩ := iter_obj k1.1; lt e
  have n2 : s.heap.objs.size ≠ i2 := let ⟨_, e, _⟩ := iter_obj k2.1; lt e
  have A1 := side_draws (prog := prog) (w := w) (A := A.in1) hh i1 a na xs t
  have A2 := side_draws (prog := prog) (w := w) (A := A.in1) hh i2 b nb ys u
  rcases hz with ⟨hz, x, y, hO⟩ | ⟨T, f, oT, hz, hT, r1, r2, r3, r4⟩
  · exact wpAny_pyNext_zipD2_item D A1 A2 hz hI hO k1 k2 lx ly fun v1 v2 h' tk e1 e2 z' O' j1 j2 hT hsz hk =>
      q v1 v2 h' tk e1 e2 ⟨hk _ _ D.TIz D.TITO D.TIi1 D.TIi2 hI, j1, j2, .inr ⟨s.heap.objs.size, false, _, z', hT, lt hz, n1, n2, Nat.ne_of_gt hS⟩⟩ hT hk
  · exact zipH_next D A1 A2 hz hT hI k1 k2 lx ly fun v1 v2 h' tk e1 e2 z' j1 j2 hP hk =>
      q v1 v2 h' tk e1 e2 ⟨hk _ _ D.TIz D.TIi1 D.TIi2 hI, j1, j2, .inr ⟨T, true, oT, z', hk _ _ r1 r2 r3 hT, r1, r2, r3, r4⟩⟩ hP fun c o c1 _ c3 c4 e => hk c o c1 c3 c4 e
theorem zip_stop {Q : Option Value → Shared → Prop} (D : ZipSep2 z TI TO i1 i2 [i1, a] [i2, b]) (na : a ≠ i1) (nb : b ≠ i2) (hh : A.handled = none) (st : ZipSt z TI TO i1 i2 a b S xs ys t u (min xs.size ys.size) s.heap)
    (q : ∀ h' tk, (∀ c o, c ≠ z → c ≠ TO → c ≠ i1 → c ≠ i2 → s.heap.get? c = some o → h'.get? c = some o) → Q none { s with heap := h', toks := tk }) : wpAny (model prog w) A (pyNext (.ref z)) Q E s := by
  obtain ⟨hI, k1, k2, hz⟩ := st
  have A1 := side_draws (prog := prog) (w := w) (A := A.in1) hh i1 a na xs t
  have A2 := side_draws (prog := prog) (w := w) (A := A.in1) hh i2 b nb ys u
  rcases hz with ⟨hz, x, y, hO⟩ | ⟨T, f, oT, hz, hT, r1, r2, r3, r4⟩
  · exact wpAny_pyNext_zipD2_end D A1 A2 hz hI hO k1 k2 (Nat.min_le_left ..) (Nat.min_le_right ..) (by omega) fun h' tk hk => q h' tk hk
  · exact zipH_done D A1 A2 hz hT hI k1 k2 (Nat.min_le_left ..) (Nat.min_le_right ..) (by omega) fun h' tk hk => q h' tk fun c o c1 _ c3 c4 e => hk c o c1 c3 c4 e
end
/-- pairs that stand in the heap, apart from what turns -/
def Pairs1 (h : Heap) (lo : Addr) (xs ys : Array Value) (Ts : List Addr) : Prop := ∀ (j : Nat) (T : Addr), Ts[j]? = some T → lo ≤ T ∧ ∃ k v, xs[j]? = some k ∧ ys[j]? = some v ∧ IsTupOf2 h T k v
section
variable {prog : Program} {w : World} {A : Around} {s : Shared} {R : Result → Shared → Prop} {z TI TO i1 i2 a b S : Addr} {xs ys : Array Value} {t u : Bool}
theorem zl_loop {lo : Addr} (D : ZipSep2 z TI TO i1 i2 [i1, a] [i2, b]) (na : a ≠ i1) (nb : b ≠ i2) (hh : A.handled = none) (dS : S ≠ z ∧ S ≠ TI ∧ S ≠ TO ∧ S ≠ i1 ∧ S ≠ i2 ∧ S ≠ a ∧ S ≠ b) (hlo : z < lo ∧ TO < lo ∧ i1 < lo ∧ i2 < lo ∧ S < lo) (hn : min xs.size ys.size ≤ sizeLine) (res : Value) {h₁ : Heap}
    (hR : ∀ h' tk acc c Ts, (∀ b o, b ≠ S → b ∉ [z, TO, i1, i2] → h₁.get? b = some o → h'.get? b = some o) → h'.get? S = some { cls := .type "list", dict := none, data := .seq acc c, slots := #[] } → Ts.length = min xs.size ys.size → Pairs1 h' lo xs ys Ts → acc.toList = Ts.map Value.ref → R (.ok (.ret res)) { s with heap := h', toks := tk }) :
    ∀ (k i : Nat) (h : Heap) (tk c : Nat) (acc : Array Value) (Ts : List Addr), min xs.size ys.size - i = k → i ≤ min xs.size ys.size → ZipSt z TI TO i1 i2 a b S xs ys t u i h → (∀ b o, b ≠ S → b ∉ [z, TO, i1, i2] → h₁.get? b = some o → h.get? b = some o) →
      h.get? S = some { cls := .type "list", dict := none, data := .seq acc c, slots := #[] } → acc.toList = Ts.map Value.ref → Ts.length = i → Pairs1 h lo xs ys Ts → lo ≤ h.objs.size →
      codeAny (model prog w) A (.builtin "list.extend.loop" ⟨[.ref S, .ref z, res], []⟩) R { s with heap := h, toks := tk } := by
  have four : ∀ {c : Addr}, c ∉ [z, TO, i1, i2] → c ≠ z ∧ c ≠ TO ∧ c ≠ i1 ∧ c ≠ i2 := fun h => by simpa using h
  have high : ∀ {c : Addr}, lo ≤ c → c ≠ z ∧ c ≠ TO ∧ c ≠ i1 ∧ c ≠ i2 ∧ c ≠ S := fun {c} h => ⟨Nat.ne_of_gt (Nat.lt_of_lt_of_le hlo.1 h), Nat.ne_of_gt (Nat.lt_of_lt_of_le hlo.2.1 h), Nat.ne_of_gt (Nat.lt_of_lt_of_le hlo.2.2.1 h), Nat.ne_of_gt (Nat.lt_of_lt_of_le hlo.2.2.2.1 h), Nat.ne_of_gt (Nat.lt_of_lt_of_le hlo.2.2.2.2 h)⟩
  intro k
  induction k with
  | zero =>
    intro i h tk c acc Ts hk hi st keep hS hacc hl hP hz
    obtain rfl : i = min xs.size ys.size := by omega
    refine codeAny_builtin F.entry_extend_loop ?_
    rw [Around.under_plainId F.plain_extend_loop _]
    show wpAny _ A.in1 (pyNext (.ref z) >>= _) _ _ _
    refine wpAny_bind (zip_stop (s := { s with heap := h, toks := tk }) (A := A.in1) D na nb hh st fun h' tk' hk' => ?_)
    refine wpAny_pure (hR h' tk' acc c Ts (fun b o h1 h2 e => let ⟨a1, a2, a3, a4⟩ := four h2; hk' b o a1 a2 a3 a4 (keep b o h1 h2 e)) (hk' S _ dS.1 dS.2.2.1 dS.2.2.2.1 dS.2.2.2.2.1 hS) hl (fun j T e => ?_) hacc)
    obtain ⟨hlT, k, v, e1, e2, e3⟩ := hP j T e
    obtain ⟨a1, a2, a3, a4, _⟩ := high hlT
    exact ⟨hlT, k, v, e1, e2, hk' _ _ a1 a2 a3 a4 e3⟩
  | succ k ih =>
    intro i h tk c acc Ts hk hi st keep hS hacc hl hP hz
    have hlt : i < min xs.size ys.size := by omega
    have sz : acc.size = i := by rw [← Array.length_toList, hacc, List.length_map, hl]
    have hSl : S < h.objs.size := Heap.lt_size hS
    refine codeAny_builtin F.entry_extend_loop ?_
    rw [Around.under_plainId F.plain_extend_loop _]
    show wpAny _ A.in1 (pyNext (.ref z) >>= _) _ _ _
    refine wpAny_bind (zip_turn (s := { s with heap := h, toks := tk }) (A := A.in1) D na nb hh st hSl (by omega) (by omega) fun x y h' tk' ex ey st' hT kp => ?_)
    dsimp only at hT kp ⊢
    have hS' := kp S _ dS.1 dS.2.2.1 dS.2.2.2.1 dS.2.2.2.2.1 hS
    have up : ∀ b o, b ≠ S → h'.get? b = some o → (h'.update S (Obj.mapSeq (·.push (Value.ref h.objs.size)))).get? b = some o := fun b o hb e => (Heap.get?_update_other _ _ (Ne.symm hb)).trans e
    show wpAny _ A.in1 (updateSeq S (·.push (Value.ref h.objs.size)) >>= _) _ _ _
    refine wpAny_bind (wpAny_updateSeq hS' rfl (wpAny_pure ⟨plainId_quiet F.plain_extend_loop _, ih (i + 1) _ tk' _ (acc.push (Value.ref h.objs.size)) (Ts ++ [h.objs.size]) (by omega) hlt (st'.off dS up)
      (fun b o h1 h2 e => up b o h1 (let ⟨a1, a2, a3, a4⟩ := four h2; kp b o a1 a2 a3 a4 (keep b o h1 h2 e))) (Heap.get?_update_self _ hS' rfl) (by rw [Array.toList_push, hacc, List.map_append]; rfl) (by rw [List.length_append, hl]; rfl) (fun j T e => ?_) ?_⟩) (by rw [sz]; omega) (by show (acc.push (Value.ref h.objs.size)).size ≤ sizeLine + 1; rw [Array.size_push, sz]; omega))
    · rcases Nat.lt_trichotomy j Ts.length with h1 | h1 | h1
      · rw [List.getElem?_append_left h1] at e
        obtain ⟨hlT, k', v', e1, e2, e3⟩ := hP j T e
        obtain ⟨a1, a2, a3, a4, a5⟩ := high hlT
        exact ⟨hlT, k', v', e1, e2, up _ _ a5 (kp _ _ a1 a2 a3 a4 e3)⟩
      · subst h1
        have e' : h.objs.size = T := by simpa using e
        subst e'
        rw [hl]
        exact ⟨hz, x, y, ex, ey, up _ _ (Nat.ne_of_gt hSl) hT⟩
      · rw [List.getElem?_eq_none (by rw [List.length_append, List.length_singleton]; omega)] at e; cases e
    · exact Nat.le_trans hz (Nat.le_of_lt (Heap.lt_size (up _ _ (Nat.ne_of_gt hSl) hT)))
end
section
variable {prog : Program} {w : World} {A : Around} {E : Value → Shared → Prop} {s : Shared} {z TI TO i1 i2 a b : Addr} {xs ys : Array Value} {t u : Bool}
/-- list(z) -/
theorem call_list_zip {Q : Value → Shared → Prop} (D : ZipSep2 z TI TO i1 i2 [i1, a] [i2, b]) (na : a ≠ i1) (nb : b ≠ i2) (hh : A.handled = none) (hn : min xs.size ys.size ≤ sizeLine) (ok : ZipAt z TI TO i1 i2 a b xs ys t u s.heap)
    (q : ∀ h' tk acc c Ts, (∀ b o, b ∉ [z, TO, i1, i2] → s.heap.get? b = some o → h'.get? b = some o) → h'.get? s.heap.objs.size = some { cls := .type "list", dict := none, data := .seq acc c, slots := #[] } → Ts.length = min xs.size ys.size → Pairs1 h' (s.heap.objs.size + 1) xs ys Ts →
      acc.toList = Ts.map Value.ref → Q (.ref s.heap.objs.size) { s with heap := h', toks := tk }) :
    wpAny (model prog w) A (call (.type "list") [.ref z]) Q E s := by
  refine callType_codes (Q₁ := fun obj s₁ => obj = .ref s.heap.objs.size ∧ s₁ = { s with heap := s.heap.push { cls := .type "list", data := .seq #[] } }) F.called_list (F.typeCall_list_1 _) F.entry_list_init
    (code_list_new _ ⟨rfl, rfl⟩) fun obj s₁ h₁ => ?_
  obtain ⟨rfl, rfl⟩ := h₁
  have hS : (s.heap.push { cls := .type "list", data := .seq #[] }).get? s.heap.objs.size = some { cls := .type "list", data := .seq #[] } := Heap.get?_push_size _ rfl
  have ok1 : ZipAt z TI TO i1 i2 a b xs ys t u (s.heap.push { cls := .type "list", data := .seq #[] }) := ok.keep fun b o e => Heap.get?_push_of_some _ e
  obtain ⟨hz, hI, ⟨x, y, hO⟩, h1, h2, h3, h4⟩ := ok
  have lz : z < s.heap.objs.size := Heap.lt_size hz
  have lI : TI < s.heap.objs.size := Heap.lt_size hI
  have lO : TO < s.heap.objs.size := Heap.lt_size hO
  have l1 : i1 < s.heap.objs.size := let ⟨_, e, _⟩ := iter_obj h1; Heap.lt_size e
  have l2 : i2 < s.heap.objs.size := let ⟨_, e, _⟩ := iter_obj h2; Heap.lt_size e
  have la : a < s.heap.objs.size := let ⟨_, e⟩ := heap_obj h3; Heap.lt_size e
  have lb : b < s.heap.objs.size := let ⟨_, e⟩ := heap_obj h4; Heap.lt_size e
  have dS : s.heap.objs.size ≠ z ∧ s.heap.objs.size ≠ TI ∧ s.heap.objs.size ≠ TO ∧ s.heap.objs.size ≠ i1 ∧ s.heap.objs.size ≠ i2 ∧ s.heap.objs.size ≠ a ∧ s.heap.objs.size ≠ b :=
    ⟨Nat.ne_of_gt lz, Nat.ne_of_gt lI, Nat.ne_of_gt lO, Nat.ne_of_gt l1, Nat.ne_of_gt l2, Nat.ne_of_gt la, Nat.ne_of_gt lb⟩
  have st1 : ZipSt z TI TO i1 i2 a b s.heap.objs.size xs ys t u 0 (s.heap.push { cls := .type "list", data := .seq #[] }) := let ⟨hz, hI, ⟨x, y, hO⟩, h1, h2, h3, h4⟩ := ok1; ⟨hI, ⟨h1, h3⟩, ⟨h2, h4⟩, .inl ⟨hz, x, y, hO⟩⟩
  refine ⟨⟨_, hS, rfl⟩, F.args_list_init_2 _ _, ?_⟩
  show wpAny _ _ (do let old ← Builtin.List.listItems (.ref s.heap.objs.size); Builtin.List.listUpdate (.ref s.heap.objs.size) (fun _ => #[]); letGo old.toList.reverse; Builtin.List.listExtendWith (.ref s.heap.objs.size) (.ref z) .none) _ _ _
  refine wpAny_bind ?_
  unfold Builtin.List.listItems
  refine wpAny_bind (wpAny_seqItems hS rfl (wpAny_pure ?_))
  show wpAny _ _ (updateSeq s.heap.objs.size (fun _ => #[]) >>= fun _ => letGo (#[] : Array Value).toList.reverse >>= fun _ => Builtin.List.listExtendWith (.ref s.heap.objs.size) (.ref z) .none) _ _ _
  refine wpAny_bind (wpAny_updateSeq hS rfl (wpAny_bind (wpAny_letGo ?_)))
  have hS2 := Heap.get?_update_self (Obj.mapSeq (fun _ => (#[] : Array Value))) hS rfl
  have oth : ∀ {h : Heap} {f : Array Value → Array Value} {b : Addr} {o : Obj}, b ≠ s.heap.objs.size → h.get? b = some o → (h.update s.heap.objs.size (Obj.mapSeq f)).get? b = some o := fun hb e => (Heap.get?_update_other _ _ (Ne.symm hb)).trans e
  have st2 := st1.off (h' := (s.heap.push { cls := .type "list", data := .seq #[] }).update s.heap.objs.size (Obj.mapSeq (fun _ => (#[] : Array Value)))) dS fun c o hc e => oth hc e
  have hT2 : Shared.TypeIs { s with heap := (s.heap.push { cls := .type "list", data := .seq #[] }).update s.heap.objs.size (Obj.mapSeq (fun _ => (#[] : Array Value))) } (.ref z) "zip" := ⟨_, oth (Ne.symm dS.1) ok1.1, rfl⟩
  have old : ∀ b o, s.heap.get? b = some o → ((s.heap.push { cls := .type "list", data := .seq #[] }).update s.heap.objs.size (Obj.mapSeq (fun _ => (#[] : Array Value)))).get? b = some o := fun b o e => oth (Nat.ne_of_lt (Heap.lt_size e)) (Heap.get?_push_of_some _ e)
  unfold Builtin.List.listExtendWith
  refine wpAny_bind (wpAny_typeOf hT2 ?_)
  have e1 : Builtin.List.listSameRef (.ref s.heap.objs.size) (.ref z) = false := by simp [Builtin.List.listSameRef, dS.1]
  have e2 : (Value.type "zip" == Value.type "list") = false := by decide
  have e3 : (Value.type "zip" == Value.type "tuple") = false := by decide
  simp only [e1, e2, e3, Bool.or_false, Bool.false_eq_true, if_false]
  refine wpAny_bind (wpAny_pyIter_zip (oth (Ne.symm dS.1) ok1.1) ?_)
  refine wpAny_bind (wpAny_holding ?_)
  unfold Builtin.List.listLengthHint
  refine wpAny_bind (wpAny_specialOf hT2 zip_no_len ?_)
  show wpAny _ _ (specialOf (Value.ref z) (Str.ofString "__length_hint__") >>= _) _ _ _
  refine wpAny_bind (wpAny_specialOf hT2 zip_no_hint (wpAny_pure ?_))
  show wpAny _ _ (rule "list.extend.makes-room" >>= fun _ => Builtin.List.listTouch (.ref s.heap.objs.size) >>= fun _ => again (.builtin "list.extend.loop" ⟨[.ref s.heap.objs.size, .ref z, .none], []⟩)) _ _ _
  refine wpAny_bind (wpAny_rule (wpAny_bind ?_))
  show wpAny _ _ (updateSeq s.heap.objs.size (·.push .none) >>= fun _ => updateSeq s.heap.objs.size (·.pop)) _ _ _
  refine wpAny_bind (wpAny_updateSeq hS2 rfl ?_)
  have hS3 := Heap.get?_update_self (Obj.mapSeq (·.push Value.none)) hS2 rfl
  refine wpAny_updateSeq (hz := by seq_fits) hS3 rfl ?_
  have hS4 := Heap.get?_update_self (Obj.mapSeq (·.pop)) hS3 rfl
  refine wpAny_pure ⟨plainId_quiet F.plain_extend_loop _, ?_⟩
  refine zl_loop (A := A.in1) (s := s) (lo := s.heap.objs.size + 1) (h₁ := s.heap) D na nb hh dS ⟨Nat.lt_succ_of_lt lz, Nat.lt_succ_of_lt lO, Nat.lt_succ_of_lt l1, Nat.lt_succ_of_lt l2, Nat.lt_succ_self _⟩ hn .none (fun h' tk acc c Ts hk hS' hl hP hacc => ⟨rfl, q h' tk acc c Ts (fun b o hb e => hk b o (Nat.ne_of_lt (Heap.lt_size e)) hb e) hS' hl hP hacc⟩)
    (min xs.size ys.size) 0 _ _ _ #[] [] (Nat.sub_zero _) (Nat.zero_le _) ((st2.off dS fun c o hc e => oth hc e).off dS fun c o hc e => oth hc e) (fun b o hb _ e => oth hb (oth hb (old b o e))) hS4 rfl rfl (fun j T e => by simp at e) ?_
  exact Heap.lt_size hS4
end
end Net
end

section
set_option Elab.async false
set_option linter.all false
set_option maxRecDepth 100000
/-! N20: dict(list(zip(a, b))); list(..). -/
namespace Net
open PySem PySem.Spec PyProof.Rows L2
variable [TabL]
section
variable {c : Ct} {X : Cx} {a b e : Expr} {ea eb ee : E} {pos p p2 pos2 p3 pos3 : Pos}
theorem pe_dictListZip {ta : TA} (hc : X.calm = true) (hg : Gl X "dict") (hm : X.mg "dict" = none) (hg3 : Gl X "list") (hm3 : X.mg "list" = none) (hg2 : Gl X "zip") (hm2 : X.mg "zip" = none) (ha : PA X [a, b] ta)
    (hs : starEach [a, b] X.env = (false, eval a X.env) :: starEach [b] X.env) (hpl : (backTo pos2 (starEach [b] X.env)).any (·.1) = false)
    (hz : starEach [Expr.Call (.Name "zip" p2) [a, b] [] pos2] X.env = (false, eval (Expr.Call (.Name "zip" p2) [a, b] [] pos2) X.env) :: starEach [] X.env)
    (hz3 : starEach [Expr.Call (.Name "list" p3) [Expr.Call (.Name "zip" p2) [a, b] [] pos2] [] pos3] X.env = (false, eval (Expr.Call (.Name "list" p3) [Expr.Call (.Name "zip" p2) [a, b] [] pos2] [] pos3) X.env) :: starEach [] X.env) :
    PE X (.Call (.Name "dict" p) [.Call (.Name "list" p3) [.Call (.Name "zip" p2) [a, b] [] pos2] [] pos3] [] pos) (fun σ H Q => ta σ H fun vs H1 => ∃ io R Bs M dx dy x y xs ys ps, vs = [x, y] ∧ St8 X.K io R Bs M H1 ∧ Rp X.K io R H1 dx x ∧ Rp X.K io R H1 dy y ∧ dx.items M = some xs ∧ dy.items M = some ys ∧
      pairsD ((xs.zip ys).map fun p : D × D => D.tup [p.1, p.2]) = some ps ∧ ∀ p ws, H1 p = none → RpK X.K io R H1 (mergeD [] ps) ws → Q (.ref p) (upd H1 p (.dK ws))) := ⟨fun pins s σ H Q I h => by
  refine Call_ (ld_blt I hg hm (show bootBuiltins "dict" = some (.type "dict") by rfl) (PyProof.Rows.callWith_type1 (args_cons (Call_ (ld_blt I hg3 hm3 (show bootBuiltins "list" = some (.type "list") by rfl) (PyProof.Rows.callWith_type1 (args_cons (Call_ (ld_blt I hg2 hm2 PyProof.Rows.boot_zip (PyProof.Rows.callWith_type1 (thn (ha.run pos2 pins s σ H _ I h) fun us s1 ⟨vs, H1, I1, r1, q1⟩ => ?_) hs hpl))) hz) hz))) hz3) hz3))
  obtain ⟨io, R, Bs, M, dx, dy, x, y, xs, ys, ps, rfl, st, hx, hy, e1, e2, ep, q⟩ := q1
  obtain ⟨v, vs, rfl, r, r1⟩ : ∃ v vs, us = v :: vs ∧ RelV x v ∧ Vals [y] vs := by cases r1 with | cons r r1 => exact ⟨_, _, rfl, r, r1⟩
  obtain ⟨v2, rfl, r2⟩ := Vals.one r1
  obtain ⟨a, vs, t, rfl, q1, _, k1⟩ := side_later st hx e1
  obtain ⟨b, ws, u, rfl, q2, _, k2⟩ := side_later st hy e2
  obtain ⟨vs', q1, _, rr1⟩ := k1 st (Ext.tr .refl) (fun _ _ => rfl)
  obtain ⟨ws', q2, _, rr2⟩ := k2 st (Ext.tr .refl) (fun _ _ => rfl)
  cases r; cases r2
  obtain ⟨its, rv, p1, al⟩ := side_inv I1 q1
  obtain ⟨its2, rv2, p2, bl⟩ := side_inv I1 q2
  obtain ⟨kvs, prs, rk, rel, pl, hp⟩ := zip_rp (P := X.prog) (w := X.w) rr1 rr2 rv rv2 ep
  have S := zip_sep2 (N := s1.heap.objs.size) (fp1 := [a]) (fp2 := [b]) (fun c hc => by rw [List.mem_singleton.mp hc]; exact al) (fun c hc => by rw [List.mem_singleton.mp hc]; exact bl)
  have na := Nat.ne_of_lt al
  have nb := Nat.ne_of_lt (Nat.lt_succ_of_lt bl)
  refine zip_begins2 (side_begins a its.toArray t) (side_begins b its2.toArray u) p1 p2 fun h' hz hTI hTO h1 h2 hsz hk => args_nil ?_
  have hz1 : vs'.length ≤ sizeLine := by
    cases t with
    | true => exact (I1.tuple (show SqT X.K H1 a vs' from q1)).choose_spec.2.2
    | false => exact (I1.list (show SqL X.K H1 a vs' from q1)).choose_spec.2.2
  have nprs : prs.length ≤ sizeLine := by rw [pl, ← rv.length]; omega
  have mn : min its.toArray.size its2.toArray.size = prs.length := by rw [pl]; simp
  have I2 := I1.kept (t' := s1.toks) hk
  refine call_list_zip (s := { s1 with heap := h' }) S na nb (I1.ok.hd hc) (by rw [mn]; exact nprs) ⟨hz, hTI, ⟨_, _, hTO⟩, iter_new h1, iter_new h2, heap_keep (fun o e => hk _ _ e) p1, heap_keep (fun o e => hk _ _ e) p2⟩ fun h3 t3 acc cc Ts hk3 hL hlen hP hacc => args_nil ?_
  have fpo : ∀ c ∈ [s1.heap.objs.size + 4, s1.heap.objs.size + 3, s1.heap.objs.size, s1.heap.objs.size + 1], FpOk X pins H1 c := fun c hcm => by
    have hle : s1.heap.objs.size ≤ c := by
      simp only [List.mem_cons, List.not_mem_nil, or_false] at hcm
      rcases hcm with rfl | rfl | rfl | rfl
      · exact Nat.le_add_right _ _
      · exact Nat.le_add_right _ _
      · exact Nat.le_refl _
      · exact Nat.le_add_right _ _
    exact I1.fpOk hle (I1.hok.fresh hle)
  have I3 : Inv X pins σ H1 { s1 with heap := h3, toks := t3 } := I2.turnedL (t' := t3) hk3 fpo
  have lz : (its.zip its2).length = prs.length := by rw [List.length_zip, pl]
  have lT : Ts.length = prs.length := by rw [hlen, mn]
  refine PySem.call_dict_pairs (s := { s1 with heap := h3, toks := t3 }) (knd := mixKind X.prog X.w) (kvs := prs) (PairArg.list (prog := X.prog) (w := X.w) _ acc (fun j => Ts.getD j 0) (its.zip its2)) (I1.ok.hd hc)
    ⟨⟨_, cc, hL, rfl, rfl, rfl⟩, by rw [← Array.length_toList, hacc, List.length_map, lT, lz], fun j k v hj => ?_⟩ ⟨lz.symm, fun i k v hi => ?_⟩ (by rw [lz]; exact nprs) fun h4 tk hd' hk4 => ?_
  · obtain ⟨g1, g2⟩ := List.getElem?_zip_eq_some.mp hj
    have hjl : j < Ts.length := by rw [lT, ← lz]; exact (List.getElem?_eq_some_iff.mp hj).1
    obtain ⟨_, k', v', f1, f2, f3⟩ := hP j Ts[j] (List.getElem?_eq_getElem hjl)
    have f1 : its[j]? = some k' := by simpa using f1
    have f2 : its2[j]? = some v' := by simpa using f2
    rw [g1] at f1; cases f1
    rw [g2] at f2; cases f2
    have eT : Ts.getD j 0 = Ts[j] := by rw [List.getD_eq_getElem?_getD, List.getElem?_eq_getElem hjl]; rfl
    refine ⟨?_, .inl ?_⟩
    · rw [← Array.getElem?_toList, hacc, List.getElem?_map, List.getElem?_eq_getElem hjl]
      show some (Value.ref Ts[j]) = some (Value.ref (Ts.getD j 0))
      rw [eT]
    · show h3.IsTuple (Ts.getD j 0) _
      rw [eT]
      exact ⟨_, f3, rfl, _, rfl⟩
  · obtain ⟨g1, g2⟩ := List.getElem?_zip_eq_some.mp (show (its.zip its2)[i]? = some (k, v) from hi)
    exact hp i k v g1 g2
  · exact ⟨.ref _, _, I3.laid (t' := tk) (fun b u e => hk4 b u (fun z => nomatch z) e) (Nat.le_refl _) (new_dK I3 nprs rel (Nat.le_refl _) hd'), rfl, q _ _ (I3.hok.fresh (Nat.le_refl _)) (rk.merge .nil)⟩⟩
theorem zip_in {base : Nat} {io R : List Addr} {Bs : List Nat} {ρ : Fr} {M : Mem} {σ : L2.St} {H : Hp} {Q : VK} (a : At c.K io R Bs base ρ M σ H) (h : Post c.cl c.K R Bs io H (rpC c.K R Bs H) (fun k dx H => c.W k dx σ H) Q (evC c.F base (.dict (.zip ea eb)) ρ M)) (hK : X.K = c.K) :
    tCons (tE c ea) (tCons (tE c eb) tNil) σ H fun vs H1 => ∃ io R Bs M dx dy x y xs ys ps, vs = [x, y] ∧ St8 X.K io R Bs M H1 ∧ Rp X.K io R H1 dx x ∧ Rp X.K io R H1 dy y ∧ dx.items M = some xs ∧ dy.items M = some ys ∧
      pairsD ((xs.zip ys).map fun p : D × D => D.tup [p.1, p.2]) = some ps ∧ ∀ p ws, H1 p = none → RpK X.K io R H1 (mergeD [] ps) ws → Q (.ref p) (upd H1 p (.dK ws)) := by
  unfold evC evI at h
  have h2 : Post c.cl c.K R Bs io H (rpC c.K R Bs H) (fun k dx H => c.W k dx σ H) Q ((ev c.F base ea ρ M).bind fun d M => (ev c.F base eb ρ M).bind fun e M => (match d.items M, e.items M with
      | some xs, some ys => Rs.ok ((xs.zip ys).map fun p : D × D => D.tup [p.1, p.2], d.deps ++ e.deps) M
      | _, _ => .bad).bind fun z M => match pairsD z.1 with
    | some ps => .ok (.dic (mergeD [] ps)) M
    | none => .bad) := by
    revert h
    cases ev c.F base ea ρ M with
    | ok d M1 => intro h; revert h; show Post _ _ _ _ _ _ _ _ _ (((ev c.F base eb ρ M1).bind _).bind _) → Post _ _ _ _ _ _ _ _ _ ((ev c.F base eb ρ M1).bind _); cases ev c.F base eb ρ M1 <;> exact id
    | exc _ _ _ => exact id
    | bad => exact id
  refine tE_bind a h2 fun x H1 io1 M1 dx x1 a1 r1 h1 => ?_
  refine tE_bind a1 h1 fun y H2 io2 M2 dy x2 a2 r2 h2 => ?_
  split at h2
  · rename_i xs ys e1 e2
    have h2 : Post c.cl c.K R Bs io2 H2 (rpC c.K R Bs H) (fun k dx H => c.W k dx σ H) Q (match pairsD ((xs.zip ys).map fun p : D × D => D.tup [p.1, p.2]) with
    | some ps => Rs.ok (.dic (mergeD [] ps)) M2
    | none => .bad) := h2
    split at h2
    · rename_i ps ep
      rw [hK]
      exact ⟨io2, R, Bs, M2, dx, dy, x, y, xs, ys, ps, rfl, a2.st, r1.tr x2.tr, r2, e1, e2, ep, fun p vs np r => h2.fin2 np (newDicC a2.st np ((x1.trans x2).none a2.st np) r)⟩
    · exact h2.elim
  · exact h2.elim
theorem sc_dictLZ (ok : COk c X) (hg : Gl X "dict") (hm : X.mg "dict" = none) (hg3 : Gl X "list") (hm3 : X.mg "list" = none) (hg2 : Gl X "zip") (hm2 : X.mg "zip" = none) (ha : PE X a (tE c ea)) (hb : PE X b (tE c eb))
    (hs : starEach [a, b] X.env = (false, eval a X.env) :: starEach [b] X.env) (hs2 : starEach [b] X.env = (false, eval b X.env) :: starEach [] X.env) (hpl : (backTo pos2 (starEach [b] X.env)).any (·.1) = false)
    (hz : starEach [Expr.Call (.Name "zip" p2) [a, b] [] pos2] X.env = (false, eval (Expr.Call (.Name "zip" p2) [a, b] [] pos2) X.env) :: starEach [] X.env)
    (hz3 : starEach [Expr.Call (.Name "list" p3) [Expr.Call (.Name "zip" p2) [a, b] [] pos2] [] pos3] X.env = (false, eval (Expr.Call (.Name "list" p3) [Expr.Call (.Name "zip" p2) [a, b] [] pos2] [] pos3) X.env) :: starEach [] X.env) :
    PE X (.Call (.Name "dict" p) [.Call (.Name "list" p3) [.Call (.Name "zip" p2) [a, b] [] pos2] [] pos3] [] pos) (tCe c (.dict (.zip ea eb))) :=
  PE_imp (pe_dictListZip ok.calm hg hm hg3 hm3 hg2 hm2 (pa_cons ha (pa_cons hb pa_nil hs2) hs) hs hpl hz hz3) fun σ H Q ⟨base, io, R, Bs, ρ, M, a, h⟩ => zip_in a h ok.K

/-! ### list(..) -/
theorem rgV_rp {K : PySem.W.Frag} {io R : List Addr} {H : Hp} (i j : Int) : RpL K io R H (rngD i j) (rgV i j) := by
  unfold rngD rgV
  generalize List.range (j - i).toNat = l
  induction l with
  | nil => exact .nil
  | cons n l ih => exact .cons .int ih
theorem sc_listR1 (ok : COk c X) (hg : Gl X "list") (hm : X.mg "list" = none) (hg2 : Gl X "range") (hm2 : X.mg "range" = none) (ha : PE X a (tE c ea)) (hs : starEach [a] X.env = (false, eval a X.env) :: starEach [] X.env)
    (hz : starEach [Expr.Call (.Name "range" p2) [a] [] pos2] X.env = (false, eval (Expr.Call (.Name "range" p2) [a] [] pos2) X.env) :: starEach [] X.env) :
    PE X (.Call (.Name "list" p) [.Call (.Name "range" p2) [a] [] pos2] [] pos) (tCe c (.list (.rng1 ea))) :=
  PE_imp (pe_listRg ok.calm hg hm (prg_1 hg2 hm2 ha hs) hz) fun σ H Q ⟨base, io, R, Bs, ρ, M, a, h⟩ => by
    unfold evC evI at h
    have h2 : Post c.cl c.K R Bs io H (rpC c.K R Bs H) (fun k dx H => c.W k dx σ H) Q ((ev c.F base ea ρ M).bind fun x M => (match x with
      | .int j => if rngOk 0 j then Rs.ok (rngD 0 j, ([] : List Nat)) M else .bad
      | _ => .bad).bind fun z M => .ok (.lst z.1) M) := by
      revert h
      cases ev c.F base ea ρ M <;> exact id
    refine tE_bind a h2 fun x H1 io1 M1 dx x1 a1 r1 h1 => ?_
    split at h1
    · rename_i j
      cases r1
      split at h1
      · rename_i hr
        have b := small62 hr
        exact ⟨j, rfl, ⟨b.1, b.2.1, b.2.2.1, b.2.2.2.1, b.2.2.2.2⟩, fun p np => h1.fin2 np (newLstC a1.st np (x1.none a1.st np) (rgV_rp 0 j))⟩
      · exact h1.elim
    · exact h1.elim
theorem sc_listR2 (ok : COk c X) (hg : Gl X "list") (hm : X.mg "list" = none) (hg2 : Gl X "range") (hm2 : X.mg "range" = none) (ha : PE X a (tE c ea)) (hb : PE X b (tE c eb)) (hs : starEach [a, b] X.env = (false, eval a X.env) :: starEach [b] X.env) (hs2 : starEach [b] X.env = (false, eval b X.env) :: starEach [] X.env)
    (hpl : (backTo pos2 (starEach [b] X.env)).any (·.1) = false) (hz : starEach [Expr.Call (.Name "range" p2) [a, b] [] pos2] X.env = (false, eval (Expr.Call (.Name "range" p2) [a, b] [] pos2) X.env) :: starEach [] X.env) :
    PE X (.Call (.Name "list" p) [.Call (.Name "range" p2) [a, b] [] pos2] [] pos) (tCe c (.list (.rng2 ea eb))) :=
  PE_imp (pe_listRg ok.calm hg hm (prg_2 hg2 hm2 ha hb hs hs2 hpl) hz) fun σ H Q ⟨base, io, R, Bs, ρ, M, a, h⟩ => by
    unfold evC evI at h
    have h2 : Post c.cl c.K R Bs io H (rpC c.K R Bs H) (fun k dx H => c.W k dx σ H) Q ((ev c.F base ea ρ M).bind fun x M => (ev c.F base eb ρ M).bind fun y M => (match x, y with
      | .int i, .int j => if rngOk i j then Rs.ok (rngD i j, ([] : List Nat)) M else .bad
      | _, _ => .bad).bind fun z M => .ok (.lst z.1) M) := by
      revert h
      cases ev c.F base ea ρ M with
      | ok d M1 => intro h; revert h; show Post _ _ _ _ _ _ _ _ _ (((ev c.F base eb ρ M1).bind _).bind _) → Post _ _ _ _ _ _ _ _ _ ((ev c.F base eb ρ M1).bind _); cases ev c.F base eb ρ M1 <;> exact id
      | exc _ _ _ => exact id
      | bad => exact id
    refine tE_bind a h2 fun x H1 io1 M1 dx x1 a1 r1 h1 => ?_
    refine tE_bind a1 h1 fun y H2 io2 M2 dy x2 a2 r2 h2 => ?_
    split at h2
    · rename_i i j
      cases r1; cases r2
      split at h2
      · rename_i hr
        have b := small62 hr
        exact ⟨i, j, rfl, rfl, ⟨b.1, b.2.1, b.2.2.1, b.2.2.2.1, b.2.2.2.2⟩, fun p np => h2.fin2 np (newLstC a2.st np ((x1.trans x2).none a2.st np) (rgV_rp i j))⟩
      · exact h2.elim
    · exact h2.elim
theorem sc_listS (ok : COk c X) (hg : Gl X "list") (hm : X.mg "list" = none) (ha : PE X a (tE c ea)) (hs : starEach (a :: []) X.env = (false, eval a X.env) :: starEach [] X.env) : PE X (.Call (.Name "list" p) [a] [] pos) (tCe c (.list (.seq ea))) :=
  PE_imp (pe_callTy call_list_of hg hm (by rfl) (pa_cons ha pa_nil hs) (by decide) (by decide) hs) fun σ H Q ⟨base, io, R, Bs, ρ, M, a, h⟩ => by
    unfold evC evI at h
    have h2 : Post c.cl c.K R Bs io H (rpC c.K R Bs H) (fun k dx H => c.W k dx σ H) Q ((ev c.F base ea ρ M).bind fun d M => (match d.items M with
        | some ds => Rs.ok (ds, d.deps) M
        | none => .bad).bind fun z M => .ok (.lst z.1) M) := by
      revert h
      cases ev c.F base ea ρ M <;> exact id
    refine tE_bind a h2 fun x H1 io1 M1 dx x1 a1 r1 h1 => ?_
    split at h1
    · rename_i ds e1
      obtain ⟨p, vs, rfl, hp, rp⟩ := items_rp a1.st r1 e1
      rw [ok.K]
      exact ⟨p, vs, rfl, hp.imp SqL.of TupAt.sq, fun l np => Post.fin2 (show Post c.cl c.K R Bs io1 H1 (rpC c.K R Bs H) (fun k dx H => c.W k dx σ H) Q (.ok (.lst ds) M1) from h1) np (newLstC a1.st np (x1.none a1.st np) rp)⟩
    · exact h1.elim
end
end Net
end

section
set_option Elab.async false
set_option linter.all false
set_option maxRecDepth 100000
/-! N21: starred items; methods. -/
namespace Net
open PySem PySem.Spec PyProof.Rows L2
variable [TabL]

/-! ### the store written -/
section
variable {K : PySem.W.Frag} {io R : List Addr} {Bs : List Nat} {M : Mem} {H : Hp}
theorem tr_io {p : Addr} {o : HO} (hp : p ∈ io) : Tr io R H io R (L2.upd H p o) := ⟨List.prefix_rfl, fun a u h1 h2 _ e => ⟨h1, h2, by rw [upd_ne (show a ≠ p from fun z => h1 (z ▸ hp))]; exact e⟩⟩
theorem ext_io {p : Addr} {o : HO} (hp : p ∈ io) : Ext io H io (L2.upd H p o) := ⟨List.prefix_rfl, fun a u h1 _ e => by rw [upd_ne (show a ≠ p from fun z => h1 (z ▸ hp))]; exact e, fun a u h1 e => ⟨u, by rw [upd_ne (show a ≠ p from fun z => h1 (z ▸ hp))]; exact e⟩, fun _ h => .inl h⟩
theorem CellRp.boxy {c : Cell} {o : Option HO} (h : CellRp K io R H c o) : ∃ u, o = some u ∧ Boxy u := by
  cases c with
  | lst ds => obtain ⟨vs, e, _⟩ := h; exact ⟨_, e, boxL⟩
  | dic ds => obtain ⟨vs, e, _⟩ := h; exact ⟨_, e, boxD⟩
theorem St8.write (s : St8 K io R Bs M H) {n : Nat} {p : Addr} {c c' : Cell} {o : HO} (hn : M[n]? = some c) (hp : io[n]? = some p) (hc : CellRp K io R H c' (some o)) (hb : ∀ b ∈ Bs, n < b → c'.under b = true) : St8 K io R Bs (setM M n c') (L2.upd H p o) := by
  have hm : p ∈ io := List.mem_of_getElem? hp
  have hl : n < M.length := (List.getElem?_eq_some_iff.mp hn).1
  refine ⟨by unfold setM; rw [List.length_set]; exact s.len, s.nd, fun m d a e1 e2 => ?_, fun a ha => ⟨(s.rs a ha).1, ?_⟩, fun b hb' => by unfold setM; rw [List.length_set]; exact s.bl b hb', fun b hb' m d hm' e => ?_, let ⟨_, e, bx⟩ := (s.cell n c p hn hp).boxy; tabs_box s.tabs e bx⟩
  · unfold setM at e1
    by_cases h : n = m
    · subst h
      rw [List.getElem?_set_self hl] at e1
      cases e1
      rw [hp] at e2; cases e2
      rw [upd_same]
      exact hc.tr (tr_io hm)
    · rw [List.getElem?_set_ne h] at e1
      have ne : a ≠ p := fun z => by
        subst z
        obtain ⟨h1, e1'⟩ := List.getElem?_eq_some_iff.mp e2
        obtain ⟨h2, e2'⟩ := List.getElem?_eq_some_iff.mp hp
        exact h ((List.getElem_inj s.nd).mp (e2'.trans e1'.symm))
      rw [upd_ne ne]
      exact (s.cell m d a e1 e2).tr (tr_io hm)
  · by_cases z : a = p
    · subst z; exact absurd hm (s.rs a ha).1
    · rw [upd_ne z]; exact (s.rs a ha).2
  · unfold setM at e
    by_cases h : n = m
    · subst h
      rw [List.getElem?_set_self hl] at e
      cases e
      exact hb b hb' hm'
    · rw [List.getElem?_set_ne h] at e
      exact s.old b hb' m d hm' e
end
mutual
theorem under_mono {a b : Nat} (h : a ≤ b) : ∀ {d : D}, d.under a = true → d.under b = true
  | .loc m, e => by unfold D.under at *; rw [decide_eq_true_eq] at *; omega
  | .tup ds, e => by unfold D.under at *; exact underL_mono h e
  | .lst ds, e => by unfold D.under at *; exact underL_mono h e
  | .dic kvs, e => by unfold D.under at *; exact underK_mono h e
  | .non, _ => rfl
  | .bl _, _ => rfl
  | .int _, _ => rfl
  | .str _, _ => rfl
  | .scr _, _ => rfl
theorem underL_mono {a b : Nat} (h : a ≤ b) : ∀ {ds : List D}, D.underL a ds = true → D.underL b ds = true
  | [], _ => rfl
  | d :: ds, e => by
    unfold D.underL at *
    rw [Bool.and_eq_true] at *
    exact ⟨under_mono h e.1, underL_mono h e.2⟩
theorem underK_mono {a b : Nat} (h : a ≤ b) : ∀ {ds : List (Key × D)}, D.underK a ds = true → D.underK b ds = true
  | [], _ => rfl
  | (_, d) :: ds, e => by
    unfold D.underK at *
    rw [Bool.and_eq_true] at *
    exact ⟨under_mono h e.1, underK_mono h e.2⟩
end
theorem underL_app {b : Nat} : ∀ {as bs : List D}, D.underL b as = true → D.underL b bs = true → D.underL b (as ++ bs) = true
  | [], _, _, h => h
  | a :: as, bs, h1, h2 => by
    have h1 : (a.under b && D.underL b as) = true := h1
    rw [Bool.and_eq_true] at h1
    show (a.under b && D.underL b (as ++ bs)) = true
    rw [h1.1, underL_app h1.2 h2]; rfl
theorem underL_mem {b : Nat} : ∀ {as : List D}, D.underL b as = true ↔ ∀ d ∈ as, d.under b = true
  | [] => ⟨fun _ d h => (nomatch h), fun _ => rfl⟩
  | a :: as => by
    unfold D.underL
    rw [Bool.and_eq_true, underL_mem]
    simp
theorem underK_mem {b : Nat} : ∀ {as : List (Key × D)}, D.underK b as = true ↔ ∀ d ∈ as, d.2.under b = true
  | [] => ⟨fun _ d h => (nomatch h), fun _ => rfl⟩
  | a :: as => by
    unfold D.underK
    rw [Bool.and_eq_true, underK_mem]
    simp
/-- what may be put at n, as the marks b above n ask -/
theorem may_put {base n b : Nat} {d : D} (h : mayPut base n d = true) (hb : b ≤ base) (hn : n < b) : d.under b = true := by
  unfold mayPut at h
  rw [Bool.or_eq_true, decide_eq_true_eq] at h
  rcases h with h | h
  · omega
  · exact under_mono (Nat.le_of_lt hn) h

section
variable {c : Ct} {X : Cx} {a b o e : Expr} {ea eb eo ee : E} {es : List Expr} {ees : Es} {pos p apos cpos : Pos}
/-! ### (*e, ..) -/
theorem sa_star (ok : COk c X) (he : PE X e (tE c ee)) (hr : PA X es (tA c ees)) (hs : starEach (.Starred e p :: es) X.env = (true, eval e X.env) :: starEach es X.env) : PA X (.Starred e p :: es) (tA c (.star ee ees)) :=
  PA_imp (StX.pa_star he hr hs) fun σ H Q ⟨base, io, R, Bs, ρ, M, a, h⟩ => by
    unfold evs at h
    refine tE_bind a h fun x H1 io1 M1 dx x1 a1 r1 h1 => ?_
    split at h1
    · rename_i ds e1
      obtain ⟨p, vs, rfl, hp, rp⟩ := items_rp a1.st r1 e1
      rw [ok.K]
      refine ⟨p, vs, rfl, (hp.imp SqL.of TupAt.sq).symm, ?_⟩
      refine tA_bind a1 h1 fun ws H2 io2 M2 es2 x2 a2 r2 h2 => ?_
      exact h2.fin ⟨a2.st, (rp.tr x2.tr).append r2⟩
    · exact h1.elim
/-! ### methods of built-in types -/
/-- what is to be seen of o.m(es) -/
structure MOk (X : Cx) (o : Expr) (m : Str) (apos : Pos) (e : Expr) (es : List Expr) (cpos : Pos) : Prop where
  base : attributeBase o m X.env (eval o X.env) = eval o X.env
  few : ((backTo cpos (starEach (e :: es) X.env)).all (fun x => !x.1) && (backToKw cpos (keywordEach [] X.env)).all (fun x => x.1.isSome)
      && decide ((e :: es).length + ([] : List Keyword).length + (if ([] : List Keyword).isEmpty then 0 else 1) < 30)) = true
  line : (apos.endLine == cpos.line) = true
  st : starEach (e :: es) X.env = (false, eval e X.env) :: starEach es X.env
  pl : (backTo cpos (starEach es X.env)).any (·.1) = false
theorem lst_ty {K : PySem.W.Frag} {H : Hp} {p : Addr} {vs : List V} (h : H p = some (.lst vs)) : tyV K "list" (.ref p) H := .inl ⟨rfl, vs, SqL.of h⟩
theorem cellL {K : PySem.W.Frag} {io R : List Addr} {Bs : List Nat} {M : Mem} {H : Hp} {n : Nat} {p : Addr} {ds : List D} (s : St8 K io R Bs M H) (r : Rp K io R H (.loc n) (.ref p)) (e : M[n]? = some (.lst ds)) : io[n]? = some p ∧ ∃ vs, H p = some (.lst vs) ∧ RpL K io R H ds vs := by
  cases r with
  | loc h => exact ⟨h, s.cell n _ p e h⟩
theorem cellD {K : PySem.W.Frag} {io R : List Addr} {Bs : List Nat} {M : Mem} {H : Hp} {n : Nat} {p : Addr} {ds : List (Key × D)} (s : St8 K io R Bs M H) (r : Rp K io R H (.loc n) (.ref p)) (e : M[n]? = some (.dic ds)) : io[n]? = some p ∧ ∃ vs, H p = some (.dK vs) ∧ RpK K io R H ds vs := by
  cases r with
  | loc h => exact ⟨h, s.cell n _ p e h⟩
theorem se_append (ok : COk c X) (mo : MOk X o "append" apos a [] cpos) (ho : PE X o (tE c eo)) (ha : PE X a (tE c ea)) : PE X (.Call (.Attribute o "append" apos) [a] [] cpos) (tE c (.append eo ea)) :=
  PE_imp (pe_bm F.plainAttrs_list F.slot_list_append F.type_list_append mt_append ho (pa_cons ha pa_nil mo.st) mo.base mo.few mo.line mo.st mo.pl) fun σ H Q ⟨base, io, R, Bs, ρ, M, a, h⟩ => by
    unfold ev at h
    refine tE_bind a h fun x H1 io1 M1 dx x1 a1 r1 h1 => ?_
    split at h1
    · exact h1.elim
    · rename_i hs
      cases q : dx.seq M1 with
      | none => rw [q] at hs; exact absurd rfl hs
      | some ds0 =>
        obtain ⟨p, vs0, rfl, hp0, _⟩ := seq_rp a1.st r1 q
        refine ⟨lst_ty hp0, ?_⟩
        refine tE_bind a1 h1 fun y H2 io2 M2 dy x2 a2 r2 h2 => ?_
        have r1 := r1.tr (R := R) x2.tr
        cases dx with
        | loc n =>
          dsimp only at h2
          split at h2
          · rename_i ds e
            split at h2
            · rename_i hm
              rw [Bool.and_eq_true, decide_eq_true_eq] at hm
              obtain ⟨hio, vs, hp, rp⟩ := cellL a2.st r1 e
              refine ⟨p, vs, y, rfl, rfl, hp, by rw [← rp.length]; exact hm.2, ?_⟩
              have hw : St8 c.K io2 R Bs (setM M2 n (.lst (ds ++ [dy]))) (upd H2 p (.lst (vs ++ [y]))) := a2.st.write e hio ⟨_, rfl, rp.append (.cons r2 .nil)⟩ fun b hb hn => by
                have old := a2.st.old b hb n _ hn e
                exact underL_app old (by unfold D.underL D.underL; rw [may_put hm.1 (a2.bs b hb) hn]; rfl)
              exact h2 io2 _ _ (ext_io (List.mem_of_getElem? hio)) ⟨hw, .non⟩
            · exact h2.elim
          · exact h2.elim
        | _ => exact h2.elim
theorem se_extend (ok : COk c X) (mo : MOk X o "extend" apos a [] cpos) (ho : PE X o (tE c eo)) (ha : PE X a (tE c ea)) : PE X (.Call (.Attribute o "extend" apos) [a] [] cpos) (tE c (.extend eo ea)) :=
  PE_imp (pe_bm F.plainAttrs_list F.slot_list_extend F.type_list_extend mt_extend ho (pa_cons ha pa_nil mo.st) mo.base mo.few mo.line mo.st mo.pl) fun σ H Q ⟨base, io, R, Bs, ρ, M, a, h⟩ => by
    unfold ev at h
    refine tE_bind a h fun x H1 io1 M1 dx x1 a1 r1 h1 => ?_
    split at h1
    · exact h1.elim
    · rename_i hs
      cases q : dx.seq M1 with
      | none => rw [q] at hs; exact absurd rfl hs
      | some ds0 =>
        obtain ⟨p, vs0, rfl, hp0, _⟩ := seq_rp a1.st r1 q
        refine ⟨lst_ty hp0, ?_⟩
        refine tE_bind a1 h1 fun y H2 io2 M2 dy x2 a2 r2 h2 => ?_
        have r1 := r1.tr (R := R) x2.tr
        cases dx with
        | loc n =>
          cases ez : dy.seq M2 with
          | none => rw [ez] at h2; exact h2.elim
          | some zs =>
            rw [ez] at h2
            dsimp only at h2
            split at h2
            · rename_i ds e
              split at h2
              · rename_i hm
                rw [Bool.and_eq_true, decide_eq_true_eq] at hm
                obtain ⟨hio, vs, hp, rp⟩ := cellL a2.st r1 e
                obtain ⟨p2, ws, rfl, hp2, rp2⟩ := seq_rp a2.st r2 ez
                refine ⟨p, p2, vs, ws, rfl, rfl, hp, hp2, by rw [← rp.length, ← rp2.length]; exact hm.2, ?_⟩
                have hw : St8 c.K io2 R Bs (setM M2 n (.lst (ds ++ zs))) (upd H2 p (.lst (vs ++ ws))) := a2.st.write e hio ⟨_, rfl, rp.append rp2⟩ fun b hb hn => by
                  have old := a2.st.old b hb n _ hn e
                  refine underL_app old ?_
                  have hm1 := hm.1
                  rw [Bool.or_eq_true, decide_eq_true_eq] at hm1
                  rcases hm1 with h | h
                  · have := a2.bs b hb; omega
                  · exact underL_mono (Nat.le_of_lt hn) h
                exact h2 io2 _ _ (ext_io (List.mem_of_getElem? hio)) ⟨hw, .non⟩
              · exact h2.elim
            · exact h2.elim
        | _ => exact h2.elim
theorem RpL.mid {K : PySem.W.Frag} {io R : List Addr} {H : Hp} {ds : List D} {vs : List V} {d : D} {v : V} (r : RpL K io R H ds vs) (q : Rp K io R H d v) (k : Nat) : RpL K io R H (ds.take k ++ d :: ds.drop k) (vs.take k ++ [v] ++ vs.drop k) := by
  rw [List.append_assoc]
  exact (r.take k).append (.cons q (r.drop k))
theorem se_insert (ok : COk c X) (mo : MOk X o "insert" apos a [b] cpos) (hb : starEach [b] X.env = (false, eval b X.env) :: starEach [] X.env) (ho : PE X o (tE c eo)) (ha : PE X a (tE c ea)) (hbe : PE X b (tE c eb)) : PE X (.Call (.Attribute o "insert" apos) [a, b] [] cpos) (tE c (.insert eo ea eb)) :=
  PE_imp (pe_bm F.plainAttrs_list F.slot_list_insert F.type_list_insert mt_insert ho (pa_cons ha (pa_cons hbe pa_nil hb) mo.st) mo.base mo.few mo.line mo.st mo.pl) fun σ H Q ⟨base, io, R, Bs, ρ, M, a, h⟩ => by
    unfold ev at h
    refine tE_bind a h fun x H1 io1 M1 dx x1 a1 r1 h1 => ?_
    split at h1
    · exact h1.elim
    · rename_i hs
      cases q : dx.seq M1 with
      | none => rw [q] at hs; exact absurd rfl hs
      | some ds0 =>
        obtain ⟨p, vs0, rfl, hp0, _⟩ := seq_rp a1.st r1 q
        refine ⟨lst_ty hp0, ?_⟩
        refine tE_bind a1 h1 fun i H2 io2 M2 di x2 a2 r2 h2 => ?_
        refine tE_bind a2 h2 fun y H3 io3 M3 dy x3 a3 r3 h3 => ?_
        have r1 := (r1.tr (R := R) x2.tr).tr (R := R) x3.tr
        cases dx with
        | loc n =>
          cases di with
          | int k =>
            cases r2
            dsimp only at h3
            split at h3
            · rename_i ds e
              split at h3
              · rename_i hm
                rw [Bool.and_eq_true, decide_eq_true_eq] at hm
                obtain ⟨hio, vs, hp, rp⟩ := cellL a3.st r1 e
                refine ⟨p, vs, k, y, rfl, rfl, hp, by rw [← rp.length]; exact hm.2.1, hm.2.2.1, hm.2.2.2, ?_⟩
                have hw : St8 c.K io3 R Bs (setM M3 n (.lst (ds.take k.toNat ++ dy :: ds.drop k.toNat))) (upd H3 p (.lst (vs.take k.toNat ++ [y] ++ vs.drop k.toNat))) := a3.st.write e hio ⟨_, rfl, rp.mid r3 _⟩ fun b hb hn => by
                  have old := underL_mem.mp (a3.st.old b hb n _ hn e)
                  refine underL_mem.mpr fun d hd => ?_
                  rcases List.mem_append.mp hd with hd | hd
                  · exact old d (List.mem_of_mem_take hd)
                  · rcases List.mem_cons.mp hd with rfl | hd
                    · exact may_put hm.1 (a3.bs b hb) hn
                    · exact old d (List.mem_of_mem_drop hd)
                exact h3 io3 _ _ (ext_io (List.mem_of_getElem? hio)) ⟨hw, .non⟩
              · exact h3.elim
            · exact h3.elim
          | _ => exact h3.elim
        | _ => exact h3.elim
end
end Net
end

section
set_option Elab.async false
set_option linter.all false
set_option maxRecDepth 100000
/-! N22: index, get, setdefault. -/
namespace Net
open PySem PySem.Spec PyProof.Rows L2
variable [TabL]
section
variable {c : Ct} {X : Cx} {a b o e : Expr} {ea eb eo ee : E} {es : List Expr} {ees : Es} {pos p apos cpos : Pos}
def KdAt (H : Hp) (p : Addr) : Bool → Prop
  | true => ∃ vs, TupAt H p vs
  | false => ∃ vs, H p = some (.lst vs)
theorem kd_at {pins : List (Addr × Obj)} {σ : L2.St} {H : Hp} {s : Shared} {p : Addr} (I : Inv X pins σ H s) : ∀ {t : Bool}, KdAt H p t → s.TypeIs (.ref p) (if t then "tuple" else "list") ∧ ∀ a, Value.ref p = .ref a → ∃ ob, s.heap.get? a = some ob ∧ ob.dict = none
  | true, ⟨vs, o, e, hd⟩ => by
    obtain ⟨ho, hz, its, rv, ht⟩ := I.hok p _ e
    exact ⟨ht.typeIs, fun a q => by cases q; exact ⟨o, ho, hd⟩⟩
  | false, ⟨vs, e⟩ => by
    obtain ⟨its, _, pl, _⟩ := I.list (SqL.of e)
    refine ⟨pl.isList.typeIs, fun a q => ?_⟩
    cases q
    obtain ⟨o, n, e, c, hd, _⟩ := pl
    exact ⟨o, e, hd⟩
theorem pe_index {to : TE} {ta : TA} (mo : MOk X o "index" apos a [] cpos) (ho : PE X o to) (ha : PA X [a] ta) :
    PE X (.Call (.Attribute o "index" apos) [a] [] cpos) (fun σ H Q => to σ H fun x H1 => ∃ p t, x = .ref p ∧ KdAt H1 p t ∧ ta σ H1 fun us H2 => ∃ (ys : List Str) (z : Str) (j : Nat), us = [.str z] ∧ SqB X.K H2 p (ys.map V.str) t ∧ ys[j]? = some z ∧ (∀ m, m < j → ys[m]? ≠ some z) ∧ Q (.int (j : Nat)) H2) := ⟨fun pins s σ H Q I h => by
  refine wpAny_Call_method_late mo.base mo.few mo.line rfl (thn (ho.run pins s σ H _ I h) fun v s1 ⟨x, H1, I1, r1, p, t, ex, kd, q1⟩ => ?_)
  subst ex
  cases r1
  obtain ⟨k1, k2⟩ := kd_at I1 kd
  have hA := ha.run cpos pins s1 σ H1 _ I1 q1
  rw [mo.st] at hA ⊢
  cases t with
  | true =>
    refine ⟨"tuple", "tuple.index", F.plainAttrs_tuple, F.slot_tuple_index, F.type_tuple_index, k1, k2, ?_⟩
    refine Calls.callWith_builtin (by show (false || (backTo cpos (starEach [] X.env)).any (·.1)) = false; rw [mo.pl] <;> rfl) (Calls.evalArgs_plain (thn hA fun us s2 ⟨vs, H2, I2, r2, ys, z, j, ey, hq, hj, hno, q2⟩ => ?_))
    exact mt_tup_index pins s2 σ H2 (.ref p) vs _ us Q I2 rfl r2 ⟨p, ys, z, j, rfl, ey, hq, hj, hno, q2⟩
  | false =>
    refine ⟨"list", "list.index", F.plainAttrs_list, F.slot_list_index, F.type_list_index, k1, k2, ?_⟩
    refine Calls.callWith_builtin (by show (false || (backTo cpos (starEach [] X.env)).any (·.1)) = false; rw [mo.pl] <;> rfl) (Calls.evalArgs_plain (thn hA fun us s2 ⟨vs, H2, I2, r2, ys, z, j, ey, hq, hj, hno, q2⟩ => ?_))
    refine mt_index pins s2 σ H2 (.ref p) vs _ us Q I2 rfl r2 ⟨p, ys.map V.str, .str z, j, .str z, rfl, ey, hq, rfl, flat_strs ys, by simp [hj], by show (z == z) = true; simp, fun m z' hm e => ?_, q2⟩
    rw [List.getElem?_map] at e
    cases q : ys[m]? with
    | none => rw [q] at e; cases e
    | some w =>
      rw [q] at e; cases e
      show (w == z) = false
      have := hno m hm
      rw [q] at this
      simpa using fun h => this (by rw [h])⟩
theorem strs_rp {K : PySem.W.Frag} {io R : List Addr} {H : Hp} : ∀ {ds : List D} {vs : List V}, RpL K io R H ds vs → ds.all (fun d => match d with | .str _ => true | _ => false) = true → ∃ ys : List Str, ds = ys.map D.str ∧ vs = ys.map V.str
  | _, _, .nil, _ => ⟨[], rfl, rfl⟩
  | _, _, .cons r rr, h => by
    rw [List.all_cons, Bool.and_eq_true] at h
    cases r with
    | str =>
      obtain ⟨ys, e1, e2⟩ := strs_rp rr h.2
      exact ⟨_ :: ys, by rw [e1]; rfl, by rw [e2]; rfl⟩
    | _ => cases h.1
theorem find_first {ys : List Str} {z : Str} {j : Nat} (h : (ys.map D.str).findIdx? (fun d => match d with | .str w => decide (w = z) | _ => false) = some j) : ys[j]? = some z ∧ ∀ m, m < j → ys[m]? ≠ some z := by
  rw [List.findIdx?_eq_some_iff_getElem] at h
  obtain ⟨h1, h2, h3⟩ := h
  rw [List.length_map] at h1
  refine ⟨?_, fun m hm e => ?_⟩
  · rw [List.getElem?_eq_getElem h1]
    simpa using h2
  · have := h3 m hm
    obtain ⟨hl, e⟩ := List.getElem?_eq_some_iff.mp e
    simp [e] at this
theorem se_index (ok : COk c X) (mo : MOk X o "index" apos a [] cpos) (ho : PE X o (tE c eo)) (ha : PE X a (tE c ea)) : PE X (.Call (.Attribute o "index" apos) [a] [] cpos) (tE c (.index eo ea)) :=
  PE_imp (pe_index mo ho (pa_cons ha pa_nil mo.st)) fun σ H Q ⟨base, io, R, Bs, ρ, M, a, h⟩ => by
    unfold ev at h
    refine tE_bind a h fun x H1 io1 M1 dx x1 a1 r1 h1 => ?_
    split at h1
    · exact h1.elim
    · rename_i hs
      cases q : dx.items M1 with
      | none => rw [q] at hs; exact absurd rfl hs
      | some ds0 =>
        have key : ∃ p t, x = .ref p ∧ KdAt H1 p t ∧ ∀ {io2 M2 H2} {ds : List D}, Ext io1 H1 io2 H2 → St8 c.K io2 R Bs M2 H2 → dx.items M2 = some ds → ∃ vs, SqB c.K H2 p vs t ∧ RpL c.K io2 R H2 ds vs := by
          cases r1 with
          | tup g1 g2 g3 g4 =>
            refine ⟨_, true, rfl, ⟨_, g3⟩, fun {io2 M2 H2 ds} x2 s2 e => ?_⟩
            cases e
            exact ⟨_, ((x2.tr (R := R)).tup g1 g2 g3).2.2.sq, g4.tr x2.tr⟩
          | lst g1 g2 g3 g4 =>
            refine ⟨_, false, rfl, ⟨_, g3⟩, fun {io2 M2 H2 ds} x2 s2 e => ?_⟩
            have e : some _ = some ds := e
            cases e
            exact ⟨_, SqL.of (x2.keep _ _ g1 noLst g3), g4.tr x2.tr⟩
          | loc h =>
            rename_i n p
            obtain ⟨p', vs, e1, hp, _⟩ := seq_rp a1.st (.loc h) (show D.seq M1 _ = some ds0 from q)
            cases e1
            refine ⟨p, false, rfl, ⟨_, hp⟩, fun {io2 M2 H2 ds} x2 s2 e => ?_⟩
            obtain ⟨p', vs2, e1, hp2, rp⟩ := seq_rp s2 (.loc (pre_get x2.pre h)) (show D.seq M2 _ = some ds from e)
            cases e1
            exact ⟨vs2, SqL.of hp2, rp⟩
          | _ => cases q
        obtain ⟨p, t, ex, kd, later⟩ := key
        refine ⟨p, t, ex, kd, tE_bind a1 h1 fun y H2 io2 M2 dy x2 a2 r2 h2 => ?_⟩
        cases e2 : dx.items M2 with
        | none => rw [e2] at h2; exact h2.elim
        | some ds =>
          rw [e2] at h2
          obtain ⟨vs, hq, rp⟩ := later x2 a2.st e2
          cases dy with
          | str z =>
            dsimp only at h2
            split at h2
            · rename_i j hj
              split at h2
              · rename_i hall
                obtain ⟨ys, rfl, rfl⟩ := strs_rp rp hall
                cases r2
                obtain ⟨f1, f2⟩ := find_first hj
                rw [ok.K]
                exact ⟨ys, z, j, rfl, hq, f1, f2, h2.fin ⟨a2.st, .int⟩⟩
              · exact h2.elim
            · exact h2.elim
          | _ => exact h2.elim
/-- what is to be seen of o.m(e), o.m(e, f) of a dict -/
theorem se_get (ok : COk c X) (m : M1 X o "get" apos a cpos) (ho : PE X o (tE c eo)) (ha : PE X a (tE c ea)) : PE X (.Call (.Attribute o "get" apos) [a] [] cpos) (tE c (.get eo ea)) :=
  PE_imp (pe_dget1 (by have := ok.un; omega) ho ha m) fun σ H Q ⟨base, io, R, Bs, ρ, M, a, h⟩ => by
    unfold ev at h
    refine tE_bind a h fun x H1 io1 M1 dx x1 a1 r1 h1 => ?_
    split at h1
    · exact h1.elim
    · rename_i hs
      cases q : dx.dict M1 with
      | none => rw [q] at hs; exact absurd rfl hs
      | some ds0 =>
        obtain ⟨p, vs0, rfl, hp0, _⟩ := dict_rp a1.st r1 q
        refine ⟨p, rfl, .inl ⟨vs0, .inl hp0⟩, tE_bind a1 h1 fun y H2 io2 M2 dy x2 a2 r2 h2 => ?_⟩
        cases e : dx.dict M2 with
        | none => rw [e] at h2; exact h2.elim
        | some kvs =>
          cases ek : dy.key with
          | none => rw [e, ek] at h2; exact h2.elim
          | some k =>
            rw [e, ek] at h2
            dsimp only at h2
            obtain ⟨p', ws, e1, hp, rp⟩ := dict_rp a2.st (r1.tr x2.tr) e
            cases e1
            have ey := key_rp r2 ek
            subst ey
            rcases kget_rp (k := k) rp with ⟨z1, z2⟩ | ⟨d', w, z1, z2, r⟩
            · rw [z1] at h2
              exact ⟨none, z2 ▸ DGet.k hp, h2.fin ⟨a2.st, .non⟩⟩
            · rw [z1] at h2
              exact ⟨some w, z2 ▸ DGet.k hp, h2.fin ⟨a2.st, r⟩⟩
theorem putK_none {kvs : List (Key × V)} {k : Key} {v : V} (h : valV kvs k = none) : putK kvs k v = kvs ++ [(k, v)] := putK_new v h
theorem RpK.append {K : PySem.W.Frag} {io R : List Addr} {H : Hp} : ∀ {as bs : List (Key × D)} {vs ws : List (Key × V)}, RpK K io R H as vs → RpK K io R H bs ws → RpK K io R H (as ++ bs) (vs ++ ws)
  | _, _, _, _, .nil, s => s
  | _, _, _, _, .cons r t, s => .cons r (RpK.append t s)
theorem se_setdef (ok : COk c X) (m : M2 X o "setdefault" apos a b cpos) (ho : PE X o (tE c eo)) (ha : PE X a (tE c ea)) (hb : PE X b (tE c eb)) : PE X (.Call (.Attribute o "setdefault" apos) [a, b] [] cpos) (tE c (.setdef eo ea eb)) :=
  PE_imp (pe_dsetd ho ha hb m) fun σ H Q ⟨base, io, R, Bs, ρ, M, a, h⟩ => by
    unfold ev at h
    refine tE_bind a h fun x H1 io1 M1 dx x1 a1 r1 h1 => ?_
    split at h1
    · exact h1.elim
    · rename_i hs
      cases q : dx.dict M1 with
      | none => rw [q] at hs; exact absurd rfl hs
      | some ds0 =>
        obtain ⟨p, vs0, rfl, hp0, _⟩ := dict_rp a1.st r1 q
        refine ⟨p, rfl, .inl ⟨vs0, .inl hp0⟩, tE_bind a1 h1 fun y H2 io2 M2 dy x2 a2 r2 h2 => ?_⟩
        refine tE_bind a2 h2 fun z H3 io3 M3 dz x3 a3 r3 h3 => ?_
        have r1 := (r1.tr (R := R) x2.tr).tr (R := R) x3.tr
        have r2 := r2.tr (R := R) x3.tr
        cases dx with
        | loc n =>
          cases ek : dy.key with
          | none => rw [ek] at h3; exact h3.elim
          | some k =>
            rw [ek] at h3
            dsimp only at h3
            split at h3
            · rename_i kvs e
              obtain ⟨hio, ws, hp, rp⟩ := cellD a3.st r1 e
              have ey := key_rp r2 ek
              subst ey
              split at h3
              · rename_i hlen
                have hlen : ws.length < sizeLine := by rw [← rp.length]; exact hlen
                rcases kget_rp (k := k) rp with ⟨z1, z2⟩ | ⟨d', w, z1, z2, r⟩
                · rw [z1] at h3
                  dsimp only at h3
                  split at h3
                  · rename_i hm
                    refine ⟨ws, k, hp, rfl, hlen, fun v hv => (by rw [z2] at hv; cases hv), fun _ => ?_⟩
                    rw [putK_none z2]
                    have hw : St8 c.K io3 R Bs (setM M3 n (.dic (kvs ++ [(k, dz)]))) (upd H3 p (.dK (ws ++ [(k, z)]))) := a3.st.write e hio ⟨_, rfl, rp.append (.cons r3 .nil)⟩ fun b hb hn => by
                      have old := underK_mem.mp (a3.st.old b hb n _ hn e)
                      refine underK_mem.mpr fun d hd => ?_
                      rcases List.mem_append.mp hd with hd | hd
                      · exact old d hd
                      · rw [List.mem_singleton.mp hd]
                        exact may_put hm (a3.bs b hb) hn
                    exact h3 io3 _ _ (ext_io (List.mem_of_getElem? hio)) ⟨hw, r3.tr (tr_io (List.mem_of_getElem? hio))⟩
                  · exact h3.elim
                · rw [z1] at h3
                  exact ⟨ws, k, hp, rfl, hlen, fun v hv => (by rw [z2] at hv; cases hv; exact h3.fin ⟨a3.st, r⟩), fun hv => (by rw [z2] at hv; cases hv)⟩
              · exact h3.elim
            · exact h3.elim
        | _ => exact h3.elim
end
end Net
end

section
set_option Elab.async false
set_option linter.all false
set_option maxRecDepth 100000
/-! N23: statements. -/
namespace Net
open PySem PySem.Spec PyProof.Rows L2
variable [TabL]

theorem stE {c : Ct} {R : List Addr} {Bs : List Nat} {base : Nat} {io : List Addr} {ρ : Fr} {M : Mem} {σ : L2.St} {H : Hp} {D : Ends} {e : E} {f : Net.D → Mem → Rt} (a : At c.K io R Bs base ρ M σ H) (h : PostS c R Bs base io H D ((ev c.F base e ρ M).st ρ f)) {Q' : VK}
    (q : ∀ v H1 io1 M1 d, Ext io H io1 H1 → At c.K io1 R Bs base ρ M1 σ H1 → Rp c.K io1 R H1 d v → PostS c R Bs base io1 H1 D (f d M1) → Q' v H1) : tE c e σ H Q' := by
  refine ⟨base, io, R, Bs, ρ, M, a, ?_⟩
  revert h
  cases ev c.F base e ρ M with
  | ok d M1 => exact fun h io1 H1 v x ⟨s, r⟩ => q v H1 io1 M1 d x (a.to x s) r (PostS.ext h x)
  | exc k fs M1 => exact fun h io1 H1 cls dx x s xr => h io1 σ H1 cls dx x (a.to x s) xr
  | bad => exact id
theorem stT {c : Ct} {R : List Addr} {Bs : List Nat} {base : Nat} {io : List Addr} {ρ : Fr} {M : Mem} {σ : L2.St} {H : Hp} {D : Ends} {e : E} {f : Net.D → Mem → Rt} (a : At c.K io R Bs base ρ M σ H) (h : PostS c R Bs base io H D ((ev c.F base e ρ M).st ρ f)) {Q' : Bool → Hp → Prop}
    (nb : ∀ d M, (∀ b, d ≠ .bl b) → f d M = .bad) (q : ∀ b H1 io1 M1, Ext io H io1 H1 → At c.K io1 R Bs base ρ M1 σ H1 → PostS c R Bs base io1 H1 D (f (.bl b) M1) → Q' b H1) : tT c e σ H Q' := by
  refine ⟨base, io, R, Bs, ρ, M, a, ?_⟩
  revert h
  cases ev c.F base e ρ M with
  | ok d M1 =>
    intro h io1 H1 v x ⟨s, r⟩
    cases d with
    | bl b => cases r; exact ⟨b, rfl, q b H1 io1 M1 x (a.to x s) (PostS.ext h x)⟩
    | _ =>
      have h : PostS c R Bs base io H D (f _ M1) := h
      rw [nb _ _ (by intro b z; cases z)] at h; exact h.elim
  | exc k fs M1 => exact fun h io1 H1 cls dx x s xr => h io1 σ H1 cls dx x (a.to x s) xr
  | bad => exact id
theorem stI {c : Ct} {R : List Addr} {Bs : List Nat} {base : Nat} {io : List Addr} {ρ : Fr} {M : Mem} {σ : L2.St} {H : Hp} {D : Ends} {e : I} {f : List Net.D × List Nat → Mem → Rt} (a : At c.K io R Bs base ρ M σ H) (h : PostS c R Bs base io H D ((evI c.F base e ρ M).st ρ f)) {Q' : It → Hp → Prop}
    (q : ∀ J H1 io1 M1 z, Ext io H io1 H1 → At c.K io1 R Bs base ρ M1 σ H1 → Walks c.K R Bs J io1 M1 H1 z.1 z.2 → PostS c R Bs base io1 H1 D (f z M1) → Q' J H1) : tI c e σ H Q' := by
  refine ⟨base, io, R, Bs, ρ, M, a, ?_⟩
  revert h
  cases evI c.F base e ρ M with
  | ok z M1 => exact fun h io1 H1 J x ⟨s, r⟩ => q J H1 io1 M1 z x (a.to x s) r (PostS.ext h x)
  | exc k fs M1 => exact fun h io1 H1 cls dx x s xr => h io1 σ H1 cls dx x (a.to x s) xr
  | bad => exact id
theorem PostS.nx {c : Ct} {R : List Addr} {Bs : List Nat} {base : Nat} {io : List Addr} {ρ : Fr} {M : Mem} {σ : L2.St} {H : Hp} {D : Ends} (h : PostS c R Bs base io H D (.next ρ M)) (a : At c.K io R Bs base ρ M σ H) : D.nx σ H := h io σ H .refl a
section
variable {c : Ct} {X : Cx} {e o i : Expr} {ee eo ei : E} {pos : Pos}
theorem ss_expr (he : PE X e (tE c ee)) (hs : swapsWith e none pos.line X.env = pure false) : PS X (.Expr e pos) (tS c (.expr ee)) :=
  PS_imp (ps_expr he hs) fun D σ H ⟨base, io, R, Bs, ρ, M, a, h⟩ => by
    unfold ex at h
    exact stE a h fun v H1 io1 M1 d x a1 r h1 => h1.nx a1
theorem ss_pass : PS X (.Pass pos) (tS c .pass) := PS_imp ps_pass fun D σ H ⟨base, io, R, Bs, ρ, M, a, h⟩ => by
  unfold ex at h; exact h.nx a
theorem ss_doc {x : Str} {j : Nat} {p2 : Pos} : PS X (.Expr (.Constant (.str x) j p2) pos) (tS c .pass) := PS_imp ps_doc fun D σ H ⟨base, io, R, Bs, ρ, M, a, h⟩ => by
  unfold ex at h; exact h.nx a
theorem ss_brk : PS X (.Break pos) (tS c .brk) := PS_imp ps_break fun D σ H ⟨base, io, R, Bs, ρ, M, a, h⟩ => by
  unfold ex at h; exact h io σ H .refl a
theorem ss_cont : PS X (.Continue pos) (tS c .cont) := PS_imp ps_continue fun D σ H ⟨base, io, R, Bs, ρ, M, a, h⟩ => by
  unfold ex at h; exact h io σ H .refl a
theorem ss_ret (he : PE X e (tE c ee)) : PS X (.Return (some e) pos) (tS c (.ret ee)) := PS_imp (ps_ret he) fun D σ H ⟨base, io, R, Bs, ρ, M, a, h⟩ => by
  unfold ex at h
  exact stE a h fun v H1 io1 M1 d x a1 r h1 => h1 io1 H1 v .refl a1.st r
theorem ss_ret0 : PS X (.Return none pos) (tS c (.ret .non)) := PS_imp ps_retN fun D σ H ⟨base, io, R, Bs, ρ, M, a, h⟩ => by
  unfold ex ev at h
  exact h io H .non .refl a.st .non
/-- x = e -/
theorem setN_in {j : Nat} {σ : L2.St} {H : Hp} {D : Ends} (h : tS c (.set (.nm j) ee) D σ H) : tE c ee σ H fun v H1 => D.nx (σ.set j (some v)) H1 := by
  obtain ⟨base, io, R, Bs, ρ, M, a, h⟩ := h
  unfold ex at h
  refine stE a h fun v H1 io1 M1 d x a1 r h1 => ?_
  unfold asg at h1
  split at h1
  · rename_i ρ' e
    split at e
    · cases e; exact h1.nx ⟨a1.st, a1.fr.set r, a1.bs⟩
    · cases e
  · exact h1.elim
theorem ss_setN {j : Nat} {x : Str} {p2 : Pos} (ok : COk c X) (hi : X.N[j]? = some x) (hx : Loc X.env.scope x) (hf : X.fn x = true ∨ X.env.scope.names.lookup x = some .local) (he : PE X e (tE c ee)) (hs : swapsWith e (some (.Name x p2)) pos.line X.env = pure false) :
    PS X (.Assign [.Name x p2] e pos) (tS c (.set (.nm j) ee)) := PS_imp (ps_set ok.nd hi hx he hs hf) fun D σ H h => setN_in h
theorem ss_setT {es : List Expr} {k : Nat} {p2 : Pos} {ts : List T} (hg : PG X (.Tuple es k p2) (tG c (.tp ts))) (he : PE X e (tE c ee)) (hs : swapsWithSole [.Tuple es k p2] e pos.line X.env = pure false) (hw : swappedStores [.Tuple es k p2] e X.env = pure none)
    (h1 : (assignEach [.Tuple es k p2] X.env).map (·.2) = [assign (.Tuple es k p2) X.env]) : PS X (.Assign [.Tuple es k p2] e pos) (tS c (.set (.tp ts) ee)) :=
  PS_imp (ps_asg he hg hs hw h1) fun D σ H ⟨base, io, R, Bs, ρ, M, a, h⟩ => by
    unfold ex at h
    refine stE a h fun v H1 io1 M1 d x a1 r h1 => ?_
    cases q : asg (.tp ts) d ρ with
    | none => rw [q] at h1; exact h1.elim
    | some ρ' =>
      rw [q] at h1
      exact ⟨base, io1, R, Bs, ρ, M1, d, ρ', a1, r, q, fun σ' H' g a' _ => h1 io1 σ' H' (.same g) a'⟩
theorem ss_par {j k : Nat} {x y : Str} {a b : Expr} {ea eb : E} {px py pt : Pos} {kt k2 pt2} (ok : COk c X) (hi : X.N[j]? = some x) (hj : X.N[k]? = some y) (hij : j ≠ k) (hx : X.env.scope.names.lookup x = some .local) (hy : X.env.scope.names.lookup y = some .local)
    (ha : PE X a (tE c ea)) (hb : PE X b (tE c eb)) (st : starEach [a, b] X.env = (false, eval a X.env) :: starEach [b] X.env) (st2 : starEach [b] X.env = (false, eval b X.env) :: starEach [] X.env)
    (hw : swappedStores [.Tuple [.Name x px, .Name y py] kt pt] (.Tuple [a, b] k2 pt2) X.env = pure (some [x, y])) (hs : swapsWithSole [.Tuple [.Name x px, .Name y py] kt pt] (.Tuple [a, b] k2 pt2) pos.line X.env = pure false) :
    PS X (.Assign [.Tuple [.Name x px, .Name y py] kt pt] (.Tuple [a, b] k2 pt2) pos) (tS c (.par j k ea eb)) :=
  PS_imp (ps_par ok.calm ok.nd hi hj hij hx hy (pa_cons ha (pa_cons hb pa_nil st2) st) hw hs) fun D σ H ⟨base, io, R, Bs, ρ, M, a, h⟩ => by
    unfold ex at h
    refine stE a h fun v H1 io1 M1 d x a1 r h1 => ?_
    refine stE a1 h1 fun w H2 io2 M2 d2 x2 a2 r2 h2 => ?_
    split at h2
    · exact ⟨v, w, rfl, h2.nx ⟨a2.st, (a2.fr.set (r.tr x2.tr)).set r2, a2.bs⟩⟩
    · exact h2.elim
/-! ### o[i] = e -/
def rSetD : TSet := fun o i v H Q => rSetL o i v H Q ∨ ∃ a H4, o = .ref a ∧ DPut H a i v H4 ∧ Q H4
theorem set_D (hu : X.A.units + 1 < cLine) : PSet X rSetD := by
  intro pins s σ H o i v ov iv u Q I ro ri rv h
  rcases h with h | ⟨a, H4, rfl, g, q⟩
  · exact set_list pins s σ H o i v ov iv u Q I ro ri rv h
  · obtain rfl : ov = Value.ref a := ro
    exact d_setItem hu I g ri rv fun s4 I4 => ⟨H4, I4, q⟩
theorem ss_setIx {p2 : Pos} (ok : COk c X) (ho : PE X o (tE c eo)) (hi : PE X i (tE c ei)) (he : PE X e (tE c ee))
    (ha : ∀ v, assign (.Subscript o i p2) X.env v = (do
      let ov ← holding [v] (eval o X.env)
      let iv ← holding [v, ov] (eval i X.env)
      standAt p2
      holding [v, ov, iv] (setItem ov iv v)
      release [v, ov, iv] []))
    (hs : swapsWithSole [.Subscript o i p2] e pos.line X.env = pure false) (hw : swappedStores [.Subscript o i p2] e X.env = pure none) (h1 : (assignEach [.Subscript o i p2] X.env).map (·.2) = [assign (.Subscript o i p2) X.env]) :
    PS X (.Assign [.Subscript o i p2] e pos) (tS c (.setIx eo ei ee)) :=
  PS_imp (ps_asg he (pg_sub ho hi (set_D (by have := ok.un; omega)) ha) hs hw h1) fun D σ H ⟨base, io, R, Bs, ρ, M, a, h⟩ => by
    unfold ex at h
    refine stE a h fun v H1 io1 M1 d x a1 r h1 => ?_
    refine stE a1 h1 fun ov H2 io2 M2 dx x2 a2 r2 h2 => ?_
    refine stE a2 h2 fun iv H3 io3 M3 dy x3 a3 r3 h3 => ?_
    have r := (r.tr (R := R) x2.tr).tr (R := R) x3.tr
    have r2 := r2.tr (R := R) x3.tr
    cases dx with
    | loc n =>
      dsimp only at h3
      have key : ∃ p, ov = .ref p := by cases r2; exact ⟨_, rfl⟩
      obtain ⟨p, rfl⟩ := key
      split at h3
      · rename_i ds em
        obtain ⟨hio, vs, hp, rp⟩ := cellL a3.st r2 em
        cases dy with
        | int k =>
          cases r3
          dsimp only at h3
          split at h3
          · rename_i j hj
            split at h3
            · rename_i hm
              refine .inl ⟨p, vs, k, j, rfl, rfl, hp, by rw [← rp.length]; exact hj, ?_⟩
              have hw : St8 c.K io3 R Bs (setM M3 n (.lst (ds.set j d))) (upd H3 p (.lst (vs.set j v))) := a3.st.write em hio ⟨_, rfl, RpL.set r j rp⟩ fun b hb hn => by
                have old := underL_mem.mp (a3.st.old b hb n _ hn em)
                refine underL_mem.mpr fun d' hd => ?_
                rcases List.mem_or_eq_of_mem_set hd with hd | rfl
                · exact old d' hd
                · exact may_put hm (a3.bs b hb) hn
              exact h3 io3 σ _ (ext_io (List.mem_of_getElem? hio)) (a3.to (ext_io (List.mem_of_getElem? hio)) hw)
            · exact h3.elim
          · exact h3.elim
        | _ => exact h3.elim
      · rename_i kvs em
        obtain ⟨hio, ws, hp, rp⟩ := cellD a3.st r2 em
        cases ek : dy.key with
        | none => rw [ek] at h3; exact h3.elim
        | some k =>
          rw [ek] at h3
          dsimp only at h3
          have ey := key_rp r3 ek
          subst ey
          split at h3
          · rename_i hm
            rw [Bool.and_eq_true, decide_eq_true_eq] at hm
            refine .inr ⟨p, _, rfl, DPut.k hp (by rw [← rp.length]; exact hm.2), ?_⟩
            have hw : St8 c.K io3 R Bs (setM M3 n (.dic (kput kvs k d))) (upd H3 p (.dK (putK ws k v))) := a3.st.write em hio ⟨_, rfl, RpK.put r rp⟩ fun b hb hn => by
              have old := underK_mem.mp (a3.st.old b hb n _ hn em)
              have dp := may_put hm.1 (a3.bs b hb) hn
              refine underK_mem.mpr fun d' hd => ?_
              unfold kput at hd
              split at hd
              · obtain ⟨kv, hkv, e⟩ := List.mem_map.mp hd
                split at e
                · rw [← e]; exact dp
                · rw [← e]; exact old kv hkv
              · rcases List.mem_append.mp hd with hd | hd
                · exact old d' hd
                · rw [List.mem_singleton.mp hd]; exact dp
            exact h3 io3 σ _ (ext_io (List.mem_of_getElem? hio)) (a3.to (ext_io (List.mem_of_getElem? hio)) hw)
          · exact h3.elim
      · exact h3.elim
    | _ => exact h3.elim
end
end Net
end

section
set_option Elab.async false
set_option linter.all false
set_option maxRecDepth 100000
/-! N24: statements of statements. -/
namespace Net
open PySem PySem.Spec PyProof.Rows L2
variable [TabL]

def rGetL : V → V → Hp → VK → Prop := fun o i H Q => ∃ p xs k v, o = .ref p ∧ i = .int k ∧ H p = some (.lst xs) ∧ 0 ≤ k ∧ xs[k.toNat]? = some v ∧ Q v H
theorem get_L {X : Cx} : PGet X rGetL := by
  rintro pins s σ H o i ov iv Q I ro ri ⟨p, xs, k, v, rfl, rfl, hp, h0, hv, q⟩
  obtain rfl : ov = Value.ref p := ro
  obtain ⟨t, rfl⟩ := ri
  obtain ⟨its, rv, pl, hz⟩ := I.list (SqL.of hp)
  obtain ⟨u, hu, ru⟩ := rv.get hv
  have hk : k.toNat < xs.length := (List.getElem?_eq_some_iff.mp hv).1
  have hn := line63
  exact wpAny_getItem_list pl.isList h0 (by omega) (by simpa using hu) ⟨v, H, I, ru, q⟩
section
variable {c : Ct} {X : Cx} {e o i : Expr} {ee eo ei ec : E} {pos : Pos} {body body2 : List Stmt} {eb eb2 : Ss}
theorem ixN_nat {n : Nat} {k : Int} (h0 : 0 ≤ k) (h : k.toNat < n) : ixN n k = some k.toNat := by
  unfold ixN
  rw [if_pos h0, if_pos (by omega)]
theorem ss_augIx {tpos : Pos} (ok : COk c X) (ho : PE X o (tE c eo)) (hi : PE X i (tE c ei)) (he : PE X e (tE c ee)) (ha : ∀ ov iv new, augStore i ov iv new = (do holding [new, ov, iv] (setItem ov iv new); release [new, ov, iv] []; pure .next)) :
    PS X (.AugAssign (.Subscript o i tpos) .Add e pos) (tS c (.augIx eo ei ee)) :=
  PS_imp (ps_augS ho hi get_L he ip_add set_list ha) fun D σ H ⟨base, io, R, Bs, ρ, M, a, h⟩ => by
    unfold ex at h
    refine stE a h fun x H1 io1 M1 dx x1 a1 r1 h1 => ?_
    refine stE a1 h1 fun y H2 io2 M2 dy x2 a2 r2 h2 => ?_
    have r1 := r1.tr (R := R) x2.tr
    cases dx with
    | loc n =>
      cases dy with
      | int k =>
        cases r2
        dsimp only at h2
        have key : ∃ p, x = .ref p := by cases r1; exact ⟨_, rfl⟩
        obtain ⟨p, rfl⟩ := key
        split at h2
        · rename_i ds em
          obtain ⟨hio, vs, hp, rp⟩ := cellL a2.st r1 em
          split at h2
          · rename_i h0
            split at h2
            · rename_i a0 ea
              obtain ⟨v, hv, rv⟩ := rp.get ea
              cases rv
              refine ⟨p, vs, k, _, rfl, rfl, hp, h0, hv, stE a2 h2 fun z H3 io3 M3 dz x3 a3 r3 h3 => ?_⟩
              have r1 := r1.tr (R := R) x3.tr
              cases dz with
              | int b0 =>
                cases r3
                split at h3
                · rename_i ds3 e1 e2
                  cases e1
                  obtain ⟨hio3, vs3, hp3, rp3⟩ := cellL a3.st r1 e2
                  split at h3
                  · rename_i hk
                    refine ⟨a0, _, rfl, rfl, p, vs3, k, k.toNat, rfl, rfl, hp3, by rw [← rp3.length]; exact ixN_nat h0 hk, ?_⟩
                    have hw : St8 c.K io3 R Bs (setM M3 n (.lst (ds3.set k.toNat (.int (a0 + b0))))) (upd H3 p (.lst (vs3.set k.toNat (.int (a0 + b0))))) := a3.st.write e2 hio3 ⟨_, rfl, RpL.set .int k.toNat rp3⟩ fun b hb hn => by
                      have old := underL_mem.mp (a3.st.old b hb n _ hn e2)
                      refine underL_mem.mpr fun d' hd => ?_
                      rcases List.mem_or_eq_of_mem_set hd with hd | rfl
                      · exact old d' hd
                      · rfl
                    exact h3 io3 σ _ (ext_io (List.mem_of_getElem? hio3)) (a3.to (ext_io (List.mem_of_getElem? hio3)) hw)
                  · exact h3.elim
                · exact h3.elim
              | _ => exact h3.elim
            · exact h2.elim
          · exact h2.elim
        · exact h2.elim
      | _ => exact h2.elim
    | _ => exact h2.elim
theorem ss_aug {j : Nat} {x : Str} {p2 : Pos} (ok : COk c X) (sub : Bool) (hi : X.N[j]? = some x) (hx : Loc X.env.scope x) (hf : X.fn x = true ∨ X.env.scope.names.lookup x = some .local) (he : PE X e (tE c ee)) :
    PS X (.AugAssign (.Name x p2) (if sub then .Sub else .Add) e pos) (tS c (.aug j sub ee)) := by
  have key : ∀ {f : Int → Int → Int} {op}, PIp X op (ipI f) → (∀ a b, f a b = if sub then a - b else a + b) → PS X (.AugAssign (.Name x p2) op e pos) (tS c (.aug j sub ee)) := fun {f op} hp hfe =>
    PS_imp (ps_aug ok.nd hi hx he hp hf) fun D σ H ⟨base, io, R, Bs, ρ, M, a, h⟩ => by
      unfold ex at h
      split at h
      · rename_i a0 e0
        obtain ⟨v, e1, r0⟩ := a.fr.2 j _ e0
        cases r0
        refine ⟨_, e1, stE a h fun z H1 io1 M1 dz x1 a1 r1 h1 => ?_⟩
        split at h1
        · cases r1
          refine ⟨_, _, rfl, rfl, ?_⟩
          rw [hfe]
          exact h1.nx ⟨a1.st, a1.fr.set .int, a1.bs⟩
        · exact h1.elim
      · exact h.elim
  cases sub with
  | true => exact key ip_sub fun _ _ => rfl
  | false => exact key ip_add fun _ _ => rfl
/-! ### suites -/
theorem ss_nil : PSs X [] (tSs c .nil) := PSs_imp pss_nil fun D σ H ⟨base, io, R, Bs, ρ, M, a, h⟩ => by
  unfold exs at h; exact h.nx a
theorem ss_cons {st : Stmt} {rest : List Stmt} {es : S} {er : Ss} (h1 : PS X st (tS c es)) (h2 : PSs X rest (tSs c er)) : PSs X (st :: rest) (tSs c (.cons es er)) :=
  PSs_imp (pss_cons h1 h2) fun D σ H ⟨base, io, R, Bs, ρ, M, a, h⟩ => by
    unfold exs at h
    refine ⟨base, io, R, Bs, ρ, M, a, ?_⟩
    revert h
    cases ex c.F base c.fu es ρ M with
    | next ρ1 M1 => exact fun h io1 σ1 H1 x1 a1 => ⟨base, io1, R, Bs, ρ1, M1, a1, PostS.ext h x1⟩
    | brk => exact id
    | cont => exact id
    | ret => exact id
    | exc => exact id
    | bad => exact id
theorem ss_ite (hc : PT X e (tT c ec)) (ha : PSs X body (tSs c eb)) (hb : PSs X body2 (tSs c eb2)) : PS X (.If e body body2 pos) (tS c (.ite ec eb eb2)) :=
  PS_imp (ps_if hc ha hb) fun D σ H ⟨base, io, R, Bs, ρ, M, a, h⟩ => by
    unfold ex at h
    refine stT a h (fun d M hn => ?_) fun b H1 io1 M1 x1 a1 h1 => ?_
    · split
      · exact absurd rfl (hn _)
      · exact absurd rfl (hn _)
      · rfl
    · cases b with
      | true => exact iteT ⟨base, io1, R, Bs, ρ, M1, a1, h1⟩
      | false => exact iteF ⟨base, io1, R, Bs, ρ, M1, a1, h1⟩
/-! ### for -/
open Classical in
theorem loop_in {R : List Addr} {Bs : List Nat} {base : Nat} {io io2 : List Addr} {H H2 : Hp} {D : Ends} {g : List Nat} {M0 : Mem} {step : Net.D → Fr → Mem → Rt} {d : Net.D} {ds : List Net.D} {ρ : Fr} {M : Mem} (x : Ext io H io2 H2) (h : PostS c R Bs base io H D (loopL g M0 step (d :: ds) ρ M)) {N : L2.St → Hp → Prop}
    (q : ∀ io' σ' H' ρ' M', Ext io H io' H' → At c.K io' R Bs base ρ' M' σ' H' → Still g M0 M' → PostS c R Bs base io H D (loopL g M0 step ds ρ' M') → N σ' H') : PostS c R Bs base io2 H2 { D with nx := N, ct := N, bk := D.nx } (step d ρ M) := by
  unfold loopL at h
  revert h
  cases step d ρ M with
  | next ρ' M' =>
    dsimp only
    split
    · rename_i hs; exact fun h io' σ' H' y a => q io' σ' H' ρ' M' (x.trans y) a hs h
    · exact fun h => h.elim
  | cont ρ' M' =>
    dsimp only
    split
    · rename_i hs; exact fun h io' σ' H' y a => q io' σ' H' ρ' M' (x.trans y) a hs h
    · exact fun h => h.elim
  | brk ρ' M' => exact fun h io' σ' H' y a => h io' σ' H' (x.trans y) a
  | ret d M' => exact fun h io' H' v y => h io' H' v (x.trans y)
  | exc k fs ρ' M' => exact fun h io' σ' H' cls dx y => h io' σ' H' cls dx (x.trans y)
  | bad => exact id
theorem ss_loop {tg iter : Expr} {t : T} {it : I} (ok : COk c X) (hi : PI X tg iter (tI c it)) (hg : PG X tg (tG c t)) (hb : PSs X body (tSs c eb)) (hs : ∀ x, foldedSetIterable iter X.env x = pure x) : PS X (.For tg iter body [] pos) (tS c (.loop t it eb)) :=
  PS_imp (ps_for ok.ps ok.calm hi hg hb hs) fun D σ H ⟨base, io, R, Bs, ρ, M, a, h⟩ => by
    unfold ex at h
    refine stI a h fun J H1 io1 M1 z x1 a1 wk h1 => ?_
    obtain ⟨ds, g⟩ := z
    obtain ⟨hz, wk⟩ := wk
    generalize hst : (fun (d : Net.D) (ρ : Fr) (M : Mem) => match asg t d ρ with
      | some ρ' => exs c.F base c.fu eb ρ' M
      | none => Rt.bad) = step at h1
    refine ⟨fun i m σ' H' => m = ds.length - i ∧ i ≤ ds.length ∧ ∃ io' ρ' M', Ext io1 H1 io' H' ∧ At c.K io' R Bs base ρ' M' σ' H' ∧ Still g M1 M' ∧ PostS c R Bs base io1 H1 D (loopL g M1 step (ds.drop i) ρ' M'),
      ⟨_, rfl, Nat.zero_le _, io1, ρ, M1, .refl, a1, fun _ _ => rfl, h1⟩, ?_⟩
    rintro i m σ' H' ⟨rfl, hi, io', ρ', M', x', a', st, h'⟩
    obtain ⟨w1, w2⟩ := wk io' M' H' R x'.tr a'.st st
    by_cases hlt : i < ds.length
    · have hd : ds[i]? = some ds[i] := List.getElem?_eq_getElem hlt
      generalize ds[i] = d at hd
      obtain ⟨go, yl⟩ := w2 i d hd
      have edrop : ds.drop i = d :: ds.drop (i + 1) := by
        obtain ⟨_, e⟩ := List.getElem?_eq_some_iff.mp hd
        rw [← e]; exact List.drop_eq_getElem_cons hlt
      rw [edrop] at h'
      refine .inr ⟨go, fun σ' H' => ∃ io' ρ' M', Ext io1 H1 io' H' ∧ At c.K io' R Bs base ρ' M' σ' H' ∧ Still g M1 M' ∧ PostS c R Bs base io1 H1 D (loopL g M1 step (ds.drop (i + 1)) ρ' M'), fun σ' H' q => ⟨_, by omega, rfl, hlt, q⟩, fun x H3 y => ?_⟩
      obtain ⟨g3, r3⟩ := yl x H3 y
      have a3 := a'.grow g3
      have h3 := loop_in (x'.trans (.same g3)) h' (N := fun σ' H' => ∃ io' ρ' M', Ext io1 H1 io' H' ∧ At c.K io' R Bs base ρ' M' σ' H' ∧ Still g M1 M' ∧ PostS c R Bs base io1 H1 D (loopL g M1 step (ds.drop (i + 1)) ρ' M')) fun io' σ' H' ρ' M' y a s p => ⟨io', ρ', M', y, a, s, p⟩
      rw [show step d ρ' M' = _ from congrFun (congrFun (congrFun hst.symm d) ρ') M'] at h3
      cases q : asg t d ρ' with
      | none => rw [q] at h3; exact h3.elim
      | some ρ2 =>
        rw [q] at h3
        exact ⟨base, io', R, Bs, ρ', M', d, ρ2, a3, r3, q, fun σ4 H4 g4 a4 _ => ⟨base, io', R, Bs, ρ2, M', a4, PostS.ext h3 (.same g4)⟩⟩
    · have e : i = ds.length := by omega
      subst e
      refine .inl ⟨w1, ?_⟩
      rw [List.drop_length] at h'
      unfold loopL at h'
      exact h' io' σ' H' x' a'
/-! ### while -/
theorem ss_while (ok : COk c X) (hc : PT X e (tT c ec)) (hb : PSs X body (tSs c eb)) : PS X (.While e body [] pos) (tS c (.while ec eb)) :=
  PS_imp (ps_while ok.ps hc hb) fun D σ H ⟨base, io, R, Bs, ρ, M, a, h⟩ => by
    unfold ex at h
    refine ⟨fun m σ' H' => ∃ io' ρ' M', At c.K io' R Bs base ρ' M' σ' H' ∧ PostS c R Bs base io' H' D (whileL (fun ρ M => ev c.F base ec ρ M) (fun ρ M => exs c.F base c.fu eb ρ M) m ρ' M'), ⟨_, io, ρ, M, a, h⟩, ?_⟩
    rintro m σ' H' ⟨io', ρ', M', a', h'⟩
    cases m with
    | zero => unfold whileL at h'; exact h'.elim
    | succ n =>
      unfold whileL at h'
      refine stT a' h' (fun d M hn => ?_) fun b H1 io1 M1 x1 a1 h1 => ?_
      · split
        · exact absurd rfl (hn _)
        · exact absurd rfl (hn _)
        · rfl
      · cases b with
        | false => exact iteF (h1.nx a1)
        | true =>
          refine iteT ⟨fun σ' H' => ∃ io' ρ' M', At c.K io' R Bs base ρ' M' σ' H' ∧ PostS c R Bs base io' H' D (whileL (fun ρ M => ev c.F base ec ρ M) (fun ρ M => exs c.F base c.fu eb ρ M) n ρ' M'), fun σ2 H2 q => ⟨n, Nat.lt_succ_self n, q⟩, base, io1, R, Bs, ρ', M1, a1, ?_⟩
          dsimp only at h1
          revert h1
          cases exs c.F base c.fu eb ρ' M1 with
          | next ρ2 M2 => exact fun h io2 σ2 H2 y a => ⟨io2, ρ2, M2, a, PostS.ext h y⟩
          | cont ρ2 M2 => exact fun h io2 σ2 H2 y a => ⟨io2, ρ2, M2, a, PostS.ext h y⟩
          | brk ρ2 M2 => exact id
          | ret d M2 => exact id
          | exc k fs ρ2 M2 => exact id
          | bad => exact id
end
end Net
end

section
set_option Elab.async false
set_option linter.all false
set_option maxRecDepth 100000
/-! N25: a list comprehension stored at once; raise; try. -/
namespace Net
open PySem PySem.Spec PyProof.Rows L2
variable [TabL]
section
variable {c : Ct} {X : Cx} {pos : Pos}
def T.isNm : T → Bool
  | .nm _ => true
  | _ => false
theorem ss_setLc {j : Nat} {y : Str} {py : Pos} {elt tg iter : Expr} {ifs : List Expr} {scope : Scope} {own : List (Str × Nat)} {spos : Pos} {t : T} {it : I} {ec ee : E} (mu : Bool) (ok : COk c X) (hy : X.N[j]? = some y) (hyl : X.env.scope.names.lookup y = some .local)
    (hsw : swapsWith (.ListComp elt [⟨tg, iter, ifs, 0⟩] scope pos) (some (.Name y py)) spos.line X.env = pure true) (hi : PI X tg iter (tI c it)) (okb : BlkOk X.N X.env.scope scope own) (hsl : ∀ i ∈ t.slots, i ∈ own.map (·.2))
    (hg : ∀ (s : Shared) (H : Hp) (C : Addr) (cl : List (Str × Addr)) (fp : List Addr), PG (X.blk s H scope (compEnvC scope cl C X.env) fp) tg (tG c.hush t)) (ht : ∀ (s : Shared) (H : Hp) (C : Addr) (cl : List (Str × Addr)) (fp : List Addr), PTs (X.blk s H scope (compEnvC scope cl C X.env) fp) ifs (tT c.hush ec))
    (he : ∀ (s : Shared) (H : Hp) (C : Addr) (cl : List (Str × Addr)) (fp : List Addr), PE (X.blk s H scope (compEnvC scope cl C X.env) fp) elt (tE c.hush ee)) (hs : ∀ x, foldedSetIterable iter X.env x = pure x) :
    PS X (.Assign [.Name y py] (.ListComp elt [⟨tg, iter, ifs, 0⟩] scope pos) spos) (tS c (.set (.nm j) (if mu then .newM (.comp t it ec ee (own.map (·.2))) else .new (.comp t it ec ee (own.map (·.2)))))) := by
  refine PS_imp (ps_setLc ok.calm ok.nd hy hyl hsw hi okb hg ht he hs) fun D σ H h => ?_
  have h := setN_in h
  cases mu with
  | true => exact lc_in hsl (newM_in h)
  | false => exact lc_in hsl (new_in h)
theorem ss_setLc2 {j : Nat} {y : Str} {py : Pos} {elt tg iter tg1 iter1 : Expr} {ifs ifs1 : List Expr} {scope : Scope} {own : List (Str × Nat)} {vs1 : List Nat} {spos : Pos} {t t1 : T} {it it1 : I} {ec ec1 ee : E} (mu : Bool) (ok : COk c X) (hy : X.N[j]? = some y) (hyl : X.env.scope.names.lookup y = some .local)
    (hsw : swapsWith (.ListComp elt [⟨tg, iter, ifs, 0⟩, ⟨tg1, iter1, ifs1, 0⟩] scope pos) (some (.Name y py)) spos.line X.env = pure true) (hi : PI X tg iter (tI c it)) (okb : BlkOk X.N X.env.scope scope own) (hv : ∀ i ∈ vs1, i ∈ own.map (·.2)) (hsl : ∀ i ∈ t.slots, i ∈ own.map (·.2)) (hsl1 : ∀ i ∈ t1.slots, i ∈ vs1)
    (hg : ∀ (s : Shared) (H : Hp) (C : Addr) (cl : List (Str × Addr)) (fp : List Addr), PG (X.blk s H scope (compEnvC scope cl C X.env) fp) tg (tG c.hush t)) (ht : ∀ (s : Shared) (H : Hp) (C : Addr) (cl : List (Str × Addr)) (fp : List Addr), PTs (X.blk s H scope (compEnvC scope cl C X.env) fp) ifs (tT c.hush ec))
    (hi1 : ∀ (s : Shared) (H : Hp) (C : Addr) (cl : List (Str × Addr)) (fp : List Addr), PI (X.blk s H scope (compEnvC scope cl C X.env) fp) tg1 iter1 (tI c.hush it1))
    (hg1 : ∀ (s : Shared) (H : Hp) (C : Addr) (cl : List (Str × Addr)) (fp : List Addr), PG (X.blk s H scope (compEnvC scope cl C X.env) fp) tg1 (tG c.hush t1)) (ht1 : ∀ (s : Shared) (H : Hp) (C : Addr) (cl : List (Str × Addr)) (fp : List Addr), PTs (X.blk s H scope (compEnvC scope cl C X.env) fp) ifs1 (tT c.hush ec1))
    (he : ∀ (s : Shared) (H : Hp) (C : Addr) (cl : List (Str × Addr)) (fp : List Addr), PE (X.blk s H scope (compEnvC scope cl C X.env) fp) elt (tE c.hush ee)) (hs : ∀ x, foldedSetIterable iter X.env x = pure x) (hs1 : ∀ env x, foldedSetIterable iter1 env x = pure x) :
    PS X (.Assign [.Name y py] (.ListComp elt [⟨tg, iter, ifs, 0⟩, ⟨tg1, iter1, ifs1, 0⟩] scope pos) spos) (tS c (.set (.nm j) (if mu then .newM (.comp2 t it ec t1 it1 ec1 ee (own.map (·.2)) vs1) else .new (.comp2 t it ec t1 it1 ec1 ee (own.map (·.2)) vs1)))) := by
  refine PS_imp (ps_setLc2 ok.calm ok.nd hy hyl hsw hi okb hv hg ht hi1 hg1 ht1 he hs hs1) fun D σ H h => ?_
  have h := setN_in h
  cases mu with
  | true => exact lc2_in hsl hsl1 (newM_in h)
  | false => exact lc2_in hsl hsl1 (new_in h)

/-! ### raise X() -/
theorem pmk_own0 {C : Addr} {bmB : List Value} {B newId initId : String} {x : Str} {p : Pos} (F : ExcBaseFacts B newId initId bmB) (q : PySem.W.excIn X.K C bmB newId = true) (gC : X.mg x = some (.ref C)) (kC : PySem.W.keepIn X.K (.ref C) = true) (r : Raises X (.ref C)) (hg : Gl X x)
    (hdb : (x == ("__debug__" : Str)) = false) : PMk X (.Call (.Name x p) [] [] pos) (fun _ H Q => Q (.ref C) none H) := by
  intro pins s σ H Q I h
  refine wpAny_Call_Name_kw (ld_glob I hg gC (PySem.W.callWith_K0 I.kIn kC ?_) hdb)
  show wpAny _ _ (call (.ref C) []) _ _ _
  obtain ⟨bm, N, nm, qn, bs, hdct, sn, sub, ab, col, dd, k0, k1, k2, k3, k5, mN, hC, hN, hni, T⟩ := exc_obj I.kIn q
  exact wpAny_call_exc_subT F T hC hN hni (fun h' e hm => mk_of I hm r h (I.hok.gone hm.new)) (by show 0 ≤ sizeLine; omega)
theorem ss_raise {C : Addr} {bmB : List Value} {B newId initId : String} {x : Str} {p p2 : Pos} {k : Nat} (ok : COk c X) (F : ExcBaseFacts B newId initId bmB) (q : PySem.W.excIn X.K C bmB newId = true) (gC : X.mg x = some (.ref C)) (kC : PySem.W.keepIn X.K (.ref C) = true) (r : Raises X (.ref C)) (hg : Gl X x)
    (hdb : (x == ("__debug__" : Str)) = false) (hk : c.cl k = some (.ref C)) : PS X (.Raise (some (.Call (.Name x p) [] [] pos)) none p2) (tS c (.raise k)) :=
  PS_imp (ps_raise ok.calm ok.tk (pmk_own0 F q gC kC r hg hdb)) fun D σ H ⟨base, io, R, Bs, ρ, M, a, h⟩ => by
    unfold ex at h
    exact h io σ H _ none .refl a ⟨hk, rfl, rfl⟩
/-! ### try: .. except X: .. -/
theorem ss_try {x : Str} {cv : Value} {body suite : List Stmt} {b0 : Stmt} {np pos' : Pos} {k : Nat} {eb eh : Ss} (ok : COk c X) (hs : X.stack = X.env :: X.outer) (hf : X.env.frame = some X.env.locals) (hc : Names X x cv)
    (hb : ∀ (W : WX) (pn : List (Addr × Obj)) (xe : Value → Shared → Prop), COk { c with W := W } (X.tr pn xe) → PSs (X.tr pn xe) body (tSs { c with W := W } eb))
    (hh : ∀ (a : Addr) (pn : List (Addr × Obj)), PSs (X.suite a pn) (b0 :: suite) (tSs c.hush eh))
    (hk : ∀ k' cls, c.cl k' = some cls → PySem.W.exmOne X.K cls cv = some (decide (k' = k))) :
    PS X (.Try body [.ExceptHandler (some (.Name x np)) none (b0 :: suite) pos'] [] [] pos) (tS c (.try eb k eh)) :=
  PS_imp (ps_try_only (tb := fun W => tSs { c with W := W } eb) (ts := fun _ _ _ => tSs c.hush eh) hs hf hc ok.tk (fun W pn xe tk ps => hb W pn xe ⟨ok.K, ok.nd, ok.calm, tk, ps, ok.un, ok.gd⟩) fun a oe cls d pn _ _ => hh a _) fun D σ H ⟨base, io, R, Bs, ρ, M, a, h⟩ => by
    unfold ex at h
    refine ⟨base, io, R, Bs, ρ, M, a, ?_⟩
    show PostS { c with W := wOnly X.K cv (fun _ _ _ => tSs c.hush eh) c.W D } R Bs base io H D (exs c.F base c.fu eb ρ M)
    revert h
    cases exs c.F base c.fu eb ρ M with
    | next ρ1 M1 => exact id
    | brk => exact id
    | cont => exact id
    | ret => exact id
    | bad => exact id
    | exc k' fs ρ1 M1 =>
      dsimp only
      split
      · rename_i ek
        intro h io1 σ1 H1 cls dx x1 a1 xr
        refine ⟨true, ?_, fun _ b _ => ⟨base, io1, R, Bs, ρ1, M1, a1, ?_⟩, fun z => (by cases z)⟩
        · rw [hk k' cls xr.1, ek]; simp
        · have h := PostS.ext h x1
          show PostS c.hush R Bs base io1 H1 D (exs c.F base c.fu eh ρ1 M1)
          revert h
          cases exs c.F base c.fu eh ρ1 M1 with
          | exc => exact fun h => h.elim
          | next => exact id
          | brk => exact id
          | cont => exact id
          | ret => exact id
          | bad => exact id
      · rename_i ek
        intro h io1 σ1 H1 cls dx x1 a1 xr
        refine ⟨false, ?_, fun z => (by cases z), fun _ => h io1 σ1 H1 cls dx x1 a1 xr⟩
        rw [hk k' cls xr.1, decide_eq_false ek]
end
end Net
end

section
set_option Elab.async false
set_option linter.all false
set_option maxRecDepth 100000
/-! N26: a call's end: what was made in it stands still. -/
namespace Net
open PySem PySem.Spec PyProof.Rows L2
variable [TabL]
section
variable {K : PySem.W.Frag} {io io' R : List Addr} {H : Hp}
mutual
theorem rp_under : ∀ {d : D} {v : V}, Rp K io R H d v → d.under io.length = true
  | _, _, .non => rfl
  | _, _, .bl => rfl
  | _, _, .int => rfl
  | _, _, .str => rfl
  | _, _, .tup _ _ _ h => rpL_under h
  | _, _, .lst _ _ _ h => rpL_under h
  | _, _, .dic _ _ _ h => rpK_under h
  | _, _, .scr _ => rfl
  | _, _, .loc h => decide_eq_true (List.getElem?_eq_some_iff.mp h).1
theorem rpL_under : ∀ {ds : List D} {vs : List V}, RpL K io R H ds vs → D.underL io.length ds = true
  | _, _, .nil => rfl
  | _, _, .cons h1 h2 => by unfold D.underL; rw [rp_under h1, rpL_under h2]; rfl
theorem rpK_under : ∀ {ds : List (Key × D)} {vs : List (Key × V)}, RpK K io R H ds vs → D.underK io.length ds = true
  | _, _, .nil => rfl
  | _, _, .cons h1 h2 => by unfold D.underK; rw [rp_under h1, rpK_under h2]; rfl
end
theorem cell_under {c : Cell} {o : Option HO} (h : CellRp K io R H c o) : c.under io.length = true := by
  cases c with
  | lst ds => obtain ⟨vs, _, h⟩ := h; exact rpL_under h
  | dic ds => obtain ⟨vs, _, h⟩ := h; exact rpK_under h
/-! fewer objects that may change -/
mutual
theorem rp_cut (p : io <+: io') : ∀ {d : D} {v : V}, Rp K io' R H d v → d.under io.length = true → Rp K io R H d v
  | _, _, .non, _ => .non
  | _, _, .bl, _ => .bl
  | _, _, .int, _ => .int
  | _, _, .str, _ => .str
  | _, _, .tup h1 h2 h3 h4, u => .tup (fun z => h1 (p.subset z)) h2 h3 (rpL_cut p h4 u)
  | _, _, .lst h1 h2 h3 h4, u => .lst (fun z => h1 (p.subset z)) h2 h3 (rpL_cut p h4 u)
  | _, _, .dic h1 h2 h3 h4, u => .dic (fun z => h1 (p.subset z)) h2 h3 (rpK_cut p h4 u)
  | _, _, .scr h, _ => .scr (h.imp_right fun ⟨h1, h2, h3⟩ => ⟨fun z => h1 (p.subset z), h2, h3⟩)
  | _, _, .loc (n := n) h, u => .loc (by
    have hn : n < io.length := of_decide_eq_true u
    obtain ⟨t, rfl⟩ := p
    rw [List.getElem?_append_left hn] at h
    exact h)
theorem rpL_cut (p : io <+: io') : ∀ {ds : List D} {vs : List V}, RpL K io' R H ds vs → D.underL io.length ds = true → RpL K io R H ds vs
  | _, _, .nil, _ => .nil
  | _, _, .cons h1 h2, u => by
    unfold D.underL at u
    rw [Bool.and_eq_true] at u
    exact .cons (rp_cut p h1 u.1) (rpL_cut p h2 u.2)
theorem rpK_cut (p : io <+: io') : ∀ {ds : List (Key × D)} {vs : List (Key × V)}, RpK K io' R H ds vs → D.underK io.length ds = true → RpK K io R H ds vs
  | _, _, .nil, _ => .nil
  | _, _, .cons h1 h2, u => by
    unfold D.underK at u
    rw [Bool.and_eq_true] at u
    exact .cons (rp_cut p h1 u.1) (rpK_cut p h2 u.2)
end
theorem cell_cut (p : io <+: io') {c : Cell} {o : Option HO} (h : CellRp K io' R H c o) (u : c.under io.length = true) : CellRp K io R H c o := by
  cases c with
  | lst ds => obtain ⟨vs, e, h⟩ := h; exact ⟨vs, e, rpL_cut p h u⟩
  | dic ds => obtain ⟨vs, e, h⟩ := h; exact ⟨vs, e, rpK_cut p h u⟩
variable {Bs : List Nat} {M : Mem}
theorem St8.cut (s : St8 K io' R (io.length :: Bs) M H) (p : io <+: io') (hb : ∀ b ∈ Bs, b ≤ io.length) : St8 K io R Bs (M.take io.length) H := by
  have hl : io.length ≤ M.length := by rw [← s.len]; exact p.length_le
  have at' : ∀ {m : Nat} {c : Cell}, (M.take io.length)[m]? = some c → m < io.length ∧ M[m]? = some c := fun {m c} e => by
    rw [List.getElem?_take] at e
    split at e
    · rename_i h; exact ⟨h, e⟩
    · cases e
  refine ⟨by rw [List.length_take]; omega, s.nd.sublist p.sublist, fun m c a e1 e2 => ?_, fun a ha => ⟨fun z => (s.rs a ha).1 (p.subset z), (s.rs a ha).2⟩, fun b h => by rw [List.length_take]; have := hb b h; omega, fun b h m c hm e => ?_, s.tabs⟩
  · obtain ⟨h1, h2⟩ := at' e1
    exact cell_cut p (s.cell m c a h2 (pre_get p e2)) (s.old io.length List.mem_cons_self m c h1 h2)
  · obtain ⟨h1, h2⟩ := at' e
    exact s.old b (List.mem_cons_of_mem _ h) m c hm h2
theorem St8.fewer {Bs' : List Nat} (s : St8 K io R Bs' M H) (h : ∀ b ∈ Bs, b ∈ Bs') : St8 K io R Bs M H := ⟨s.len, s.nd, s.cell, s.rs, fun b hb => s.bl b (h b hb), fun b hb => s.old b (h b hb), s.tabs⟩
theorem St8.mark (s : St8 K io R Bs M H) : St8 K io R (M.length :: Bs) M H := by
  refine ⟨s.len, s.nd, s.cell, s.rs, fun b hb => ?_, fun b hb m c hm e => ?_, s.tabs⟩
  · rcases List.mem_cons.mp hb with rfl | hb
    · exact Nat.le_refl _
    · exact s.bl b hb
  · rcases List.mem_cons.mp hb with rfl | hb
    · obtain ⟨a, ea, r⟩ := s.at_ e
      rw [← s.len]; exact cell_under r
    · exact s.old b hb m c hm e
theorem mapO_rp {f : D → Option D} : ∀ {ds ds' : List D} {vs : List V}, RpL K io' R H ds vs → mapO f ds = some ds' → (∀ d v d', Rp K io' R H d v → f d = some d' → Rp K io R H d' v) → RpL K io R H ds' vs
  | _, _, _, .nil, e, _ => by cases e; exact .nil
  | _, _, _, .cons (d := d) (ds := ds) r rr, e, h => by
    unfold mapO at e
    cases q : f d with
    | none => rw [q] at e; cases e
    | some d' =>
      cases q2 : mapO f ds with
      | none => rw [q, q2] at e; cases e
      | some ds2 => rw [q, q2] at e; cases e; exact .cons (h _ _ _ r q) (mapO_rp rr q2 h)
theorem mapK_rp {f : D → Option D} : ∀ {ds ds' : List (Key × D)} {vs : List (Key × V)}, RpK K io' R H ds vs → mapO (fun kv : Key × D => (f kv.2).map fun d => (kv.1, d)) ds = some ds' → (∀ d v d', Rp K io' R H d v → f d = some d' → Rp K io R H d' v) → RpK K io R H ds' vs
  | _, _, _, .nil, e, _ => by cases e; exact .nil
  | _, _, _, .cons (d := d) (ds := ds) r rr, e, h => by
    unfold mapO at e
    dsimp only at e
    cases q : f d with
    | none => rw [q] at e; cases e
    | some d' =>
      cases q2 : mapO (fun kv : Key × D => (f kv.2).map fun d => (kv.1, d)) ds with
      | none => rw [q, q2] at e; cases e
      | some ds2 => rw [q, q2] at e; cases e; exact .cons (h _ _ _ r q) (mapK_rp rr q2 h)
/-- what has been made since stands still -/
theorem frz_rp (s : St8 K io' R Bs M H) (p : io <+: io') : ∀ (k : Nat) (d : D) (v : V) (d' : D), Rp K io' R H d v → frz M io.length k d = some d' → Rp K io R H d' v
  | 0, d, v, d', r, e => by
    unfold frz at e
    split at e
    · rename_i h; cases e; exact rp_cut p r h
    · cases e
  | k + 1, d, v, d', r, e => by
    unfold frz at e
    split at e
    · rename_i h; cases e; exact rp_cut p r h
    · rename_i hu
      cases r with
      | tup h1 h2 h3 h4 =>
        dsimp only at e
        cases q : mapO (frz M io.length k) _ with
        | none => rw [q] at e; cases e
        | some ds' => rw [q] at e; cases e; exact .tup (fun z => h1 (p.subset z)) h2 h3 (mapO_rp h4 q fun d v d' r e => frz_rp s p k d v d' r e)
      | lst h1 h2 h3 h4 =>
        dsimp only at e
        cases q : mapO (frz M io.length k) _ with
        | none => rw [q] at e; cases e
        | some ds' => rw [q] at e; cases e; exact .lst (fun z => h1 (p.subset z)) h2 h3 (mapO_rp h4 q fun d v d' r e => frz_rp s p k d v d' r e)
      | dic h1 h2 h3 h4 =>
        dsimp only at e
        cases q : mapO (fun kv : Key × D => (frz M io.length k kv.2).map fun d => (kv.1, d)) _ with
        | none => rw [q] at e; cases e
        | some ds' => rw [q] at e; cases e; exact .dic (fun z => h1 (p.subset z)) h2 h3 (mapK_rp h4 q fun d v d' r e => frz_rp s p k d v d' r e)
      | loc h =>
        rename_i m a
        have hm : ¬ m < io.length := fun z => hu (decide_eq_true z)
        have na : a ∉ io := fun z => by
          obtain ⟨i, hi, e1⟩ := List.getElem_of_mem z
          obtain ⟨h1, e2⟩ := List.getElem?_eq_some_iff.mp h
          have e3 : io'[i]? = some a := pre_get p (by rw [List.getElem?_eq_getElem hi, e1])
          obtain ⟨h4, e4⟩ := List.getElem?_eq_some_iff.mp e3
          have : i = m := (List.getElem_inj s.nd).mp (e4.trans e2.symm)
          omega
        have ha' : a ∈ io' := List.mem_of_getElem? h
        have nR : a ∉ R := fun z => (s.rs a z).1 ha'
        dsimp only at e
        split at e
        · rename_i ds em
          obtain ⟨vs, eh, rr⟩ := s.cell m _ a em h
          cases q : mapO (frz M io.length k) ds with
          | none => rw [q] at e; cases e
          | some ds' => rw [q] at e; cases e; exact .lst na nR eh (mapO_rp rr q fun d v d' r e => frz_rp s p k d v d' r e)
        · rename_i kvs em
          obtain ⟨vs, eh, rr⟩ := s.cell m _ a em h
          cases q : mapO (fun kv : Key × D => (frz M io.length k kv.2).map fun d => (kv.1, d)) kvs with
          | none => rw [q] at e; cases e
          | some ds' => rw [q] at e; cases e; exact .dic na nR eh (mapK_rp rr q fun d v d' r e => frz_rp s p k d v d' r e)
        · cases e
      | non => exact absurd rfl hu
      | bl => exact absurd rfl hu
      | int => exact absurd rfl hu
      | str => exact absurd rfl hu
      | scr h => exact absurd rfl hu
end
/-- a body that ends as the call is to end -/
theorem leave_in {c : Ct} {R : List Addr} {Bs : List Nat} {io : List Addr} {M : Mem} {H : Hp} {Q : VK} {E : XK} {keep : Bool} {r : Rt} (hW : ∀ cls d σ H, c.W cls d σ H = E cls d H) (s : St8 c.K io R Bs M H) (h : Post c.cl c.K R Bs io H (rpE c.K R Bs) E Q (leave keep M.length r)) :
    PostS c R (M.length :: Bs) M.length io H { nx := fun _ H' => Q .non H', rt := Q } r := by
  have hb : ∀ b ∈ Bs, b ≤ io.length := fun b hb => by rw [s.len]; exact s.bl b hb
  have ext : ∀ {io' : List Addr} {H' : Hp}, Ext io H io' H' → Ext io H io H' := fun x => ⟨List.prefix_rfl, x.keep, x.dom, fun _ h => .inl h⟩
  cases r with
  | ret d M' =>
    intro io' H' v x s' r'
    unfold leave at h
    cases keep with
    | true => exact h io' H' v x ⟨s'.fewer fun b hb => List.mem_cons_of_mem _ hb, r'⟩
    | false =>
      dsimp only at h
      rw [if_neg (by decide)] at h
      rw [← s.len] at h s'
      cases q : frz M' io.length 8 d with
      | none => rw [q] at h; exact h.elim
      | some d' =>
        rw [q] at h
        exact h io H' v (ext x) ⟨s'.cut x.pre hb, frz_rp s' x.pre 8 d v d' r' q⟩
  | next ρ M' =>
    intro io' σ' H' x a'
    unfold leave at h
    cases keep with
    | true => exact h io' H' .non x ⟨a'.st.fewer fun b hb => List.mem_cons_of_mem _ hb, .non⟩
    | false =>
      dsimp only at h
      rw [if_neg (by decide)] at h
      have s' := a'.st
      rw [← s.len] at h s'
      exact h io H' .non (ext x) ⟨s'.cut x.pre hb, .non⟩
  | exc k fs ρ M' =>
    intro io' σ' H' cls dx x a' xr
    rw [hW]
    unfold leave at h
    cases keep with
    | true => exact h.elim
    | false =>
      dsimp only at h
      rw [if_neg (by decide)] at h
      have s' := a'.st
      rw [← s.len] at h s'
      obtain ⟨x1, x2, rfl⟩ := xr
      exact h io H' cls dx (ext x) (s'.cut x.pre hb) ⟨x1, x2, rfl⟩
  | brk ρ M' => exact h.elim
  | cont ρ M' => exact h.elim
  | bad => exact h.elim
end Net
end

section
set_option Elab.async false
set_option linter.all false
set_option maxRecDepth 100000
/-! N27: functions. -/
namespace Net
open PySem PySem.Spec PyProof.Rows L2
variable [TabL]

/-- what a function promises, where no guard is held -/
def FnG (P : Program) (w : World) (K : PySem.W.Frag) (mg : Str → Option Value) (base : Heap) (k : Nat) (fa : Addr) (fd : FuncData) (ps : List Str) (sp : Sp) : Prop :=
  ∀ (A : Around) (outer : List Env) (s : Shared) (H : Hp) (args : Args) (us : List Value) (vs : List V) (Q : VK) (E : XK), A.guards = some [] → vs.length = ps.length → Room (4 * k) A →
    Env0 P w K mg base A outer s H → BindsTo s fd args (ps.zip us) → Vals vs us → sp vs H Q E → codeAny (model P w) A (.call (.ref fa) args) (CR (CX P w) outer P w H s Q E) s
def spF (K : PySem.W.Frag) (cl : Nat → Option Value) (G : List D → Mem → Rs D) : Sp := fun vs H Q E => ∃ io R Bs M ds, St8 K io R Bs M H ∧ RpL K io R H ds vs ∧ Post cl K R Bs io H (rpE K R Bs) E Q (G ds M)

section
variable {c : Ct} {X : Cx} {pos p : Pos} {k f : Nat} {fa : Addr} {fd : FuncData} {ps : List Str} {x : Str} {es : List Expr} {ees : Es}
theorem tA_call {Q : VK} {σ : L2.St} {H : Hp} (h : tE c (.call f ees) σ H Q) (hn : ∀ ds M, c.F f ds M ≠ .bad → ds.length = ps.length) :
    tA c ees σ H fun vs H1 => vs.length = ps.length ∧ spF c.K c.cl (c.F f) vs H1 Q fun cls d H' => c.W cls d σ H' := by
  obtain ⟨base, io, R, Bs, ρ, M, a, h⟩ := h
  unfold ev at h
  refine tA_bind a h fun vs H1 io1 M1 ds x a1 r h1 => ⟨?_, io1, R, Bs, M1, ds, a1.st, r, h1⟩
  rw [← r.length]
  exact hn ds M1 fun z => by rw [z] at h1; exact h1
theorem call_go {pins : List (Addr × Obj)} {σ : L2.St} {H : Hp} {s : Shared} {Q : VK} {us : List Value} {vs : List V} {sp : Sp} (ok : COk c X) (F : FnG X.prog X.w X.K X.mg X.base k fa fd ps sp) (hr : Room (4 * k) X.A) (hb : Binds X.K fd ps [])
    (I : Inv X pins σ H s) (r : Vals vs us) (hl : vs.length = ps.length) (h : sp vs H Q fun cls d H' => c.W cls d σ H') : wpAny (model X.prog X.w) X.A (call (.ref fa) us) (EP X pins σ Q) X.xe s := by
  have hz : (us ++ []).length = ps.length := by rw [List.append_nil, ← r.length]; exact hl
  have bd := hb s us I.kIn hz
  rw [List.append_nil] at bd
  refine wpAny_call (codeAny_mono (F X.A X.stack s H ⟨us, []⟩ us vs Q _ ok.gd hl hr I.env0 bd r h) fun o s' q => ?_)
  match o, q with
  | .error e, q => exact ok.tk e s' (XE.of_call I (fun _ _ _ z => z) q)
  | .ok (.ret u), q => exact I.after q
  | .ok .next, q => exact q.elim
  | .ok .brk, q => exact q.elim
  | .ok .cont, q => exact q.elim
/-- g(e, ..) -/
theorem se_call {e : Expr} (ok : COk c X) (F : FnG X.prog X.w X.K X.mg X.base k fa fd ps (spF c.K c.cl (c.F f))) (hr : Room (4 * k) X.A) (hg : Gl X x) (hm : X.mg x = some (.ref fa)) (hk : PySem.W.keepIn X.K (.ref fa) = true) (hb : Binds X.K fd ps [])
    (hn : ∀ ds M, c.F f ds M ≠ .bad → ds.length = ps.length) (ha : PA X (e :: es) (tA c ees)) (hdb : (x == ("__debug__" : Str)) = false) (he : starEach (e :: es) X.env = (false, eval e X.env) :: starEach es X.env) (hpl : (backTo pos (starEach es X.env)).any (·.1) = false) :
    PE X (.Call (.Name x p) (e :: es) [] pos) (tE c (.call f ees)) :=
  ⟨fun pins s σ H Q I h => wpAny_Call_Name_kw (ld_glob I hg hm (PySem.W.callWith_K (h₀ := X.base) I.ok.mod.kin hk (thn (ha.run pos pins s σ H _ I (tA_call h hn)) fun us s1 ⟨vs, H1, I1, r, hl, q⟩ => ⟨I1.kIn, call_go ok F hr hb I1 r hl q⟩) he hpl) hdb)⟩
/-- g() -/
theorem se_call0 (ok : COk c X) (F : FnG X.prog X.w X.K X.mg X.base k fa fd ps (spF c.K c.cl (c.F f))) (hr : Room (4 * k) X.A) (hg : Gl X x) (hm : X.mg x = some (.ref fa)) (hk : PySem.W.keepIn X.K (.ref fa) = true) (hb : Binds X.K fd ps [])
    (hn : ∀ ds M, c.F f ds M ≠ .bad → ds.length = ps.length) (hdb : (x == ("__debug__" : Str)) = false) : PE X (.Call (.Name x p) [] [] pos) (tE c (.call f .nil)) :=
  ⟨fun pins s σ H Q I h => wpAny_Call_Name_kw (ld_glob I hg hm (PySem.W.callWith_K0 I.kIn hk (by
    obtain ⟨base, io, R, Bs, ρ, M, a, h⟩ := h
    unfold ev evs at h
    refine call_go (us := []) (vs := []) ok F hr hb I .nil ?_ ⟨io, R, Bs, M, [], a.st, .nil, h⟩
    exact hn [] M fun z => by
      have h : Post c.cl c.K R Bs io H (rpE c.K R Bs) (fun k dx H => c.W k dx σ H) Q (c.F f [] M) := h
      rw [z] at h; exact h)) hdb)⟩
end

theorem start_rp {K : PySem.W.Frag} {io R : List Addr} {H : Hp} {ds : List D} {vs : List V} {N : List Str} (r : RpL K io R H ds vs) : FrRp K io R H (startD N.length ds) (L2.start N vs) := by
  have hl := r.length
  refine ⟨by unfold startD L2.start; simp [hl], fun i d e => ?_⟩
  unfold startD at e
  by_cases hi : i < ds.length
  · rw [List.getElem?_append_left (by simpa using hi), List.getElem?_map] at e
    obtain ⟨v, e1, r1⟩ := r.get (i := i) (d := d) (by
      cases q : ds[i]? with
      | none => rw [q] at e; cases e
      | some z => rw [q] at e; cases e; rfl)
    refine ⟨v, ?_, r1⟩
    unfold L2.start
    rw [List.getElem?_append_left (by rw [List.length_map, ← hl]; exact hi), List.getElem?_map, e1]; rfl
  · rw [List.getElem?_append_right (by simpa using hi), List.getElem?_replicate] at e
    split at e <;> cases e

/-- THE RULE: a def keeps its promise if its body keeps the plain meaning -/
theorem fnG_of {P : Program} {w : World} {K : PySem.W.Frag} {mg : Str → Option Value} {base : Heap} {k f W : Nat} {tb : Nat → Option FI} {fi : FI} {cl : Nat → Option Value} {fa : Addr} {fd : FuncData} {x qual : Str} {params : Arguments} {body : List Stmt} {sc : Scope} {kws : List (Str × V)} {N ps : List Str}
    (F : FunD K x qual params body sc [] kws fa fd) (S : FnScope N ps sc) (ef : tb f = some fi) (e1 : fi.ps = ps.length) (e2 : fi.sz = N.length)
    (hbody : ∀ (cdv : Value), fd.code = cdv → ∀ (A : Around) (outer : List Env) (s : Shared) (H : Hp) (E : XK), Room (4 * k + 3) (A.deeper (envOfC qual sc s.heap.objs.size fa cdv)) →
      COk ⟨K, callF tb W k, W, cl, fun cls d _ H => E cls d H⟩ (cxOf (CX P w) P w K mg base N qual sc fa cdv A outer s H E) →
      PSs (cxOf (CX P w) P w K mg base N qual sc fa cdv A outer s H E) body (tSs ⟨K, callF tb W k, W, cl, fun cls d _ H => E cls d H⟩ fi.body)) :
    FnG P w K mg base (k + 1) fa fd ps (spF K cl (callF tb W (k + 1) f)) := by
  obtain ⟨oc, od, dV, kV, doc, pm, an, cdv, ct, osl, rfl, lk, hcd, _, _⟩ := F.ex
  intro A outer s H args us vs Q E hgd hl room e0 bd rv hsp
  have inK : K.In s.heap := e0.mod.kin.keeps fun b o e => (e0.bs b o e).1
  have nolim : s.heap.NoLimit := e0.mod.nolimit.keeps fun b o e => (e0.bs b o e).1
  have kinds : ∀ y ∈ ps.zip us, sc.names.lookup y.1 = some .local ∨ (sc.names.lookup y.1 = some .cell ∧ ((cellsFrom (s.heap.objs.size + 1) sc.names []).lookup y.1).isSome = true) := by
    rintro ⟨n, v⟩ hy
    exact (S.par n (List.of_mem_zip hy).1).imp id fun q => ⟨q, PySem.W.cellsFrom_some _ _ _ (.inl q)⟩
  refine codeAny_call_function room.depth (inK _ _ lk) rfl S.co S.gen rfl (PySem.W.codeRec_of inK hcd) (bd _ _ _ _ (wpAny_newFunctionEnv_cells S.kind kinds ?_))
  rintro env rfl s1 ic
  refine ⟨nolim.keeps ic.toInCall.keep, codeAny_func ?_⟩
  have rm : Room (4 * k + 3) (A.deeper (envOfC qual sc s.heap.objs.size fa cdv)) := Room.deeper (show Room (4 * k + 3 + 1) A from room) (envOfC qual sc s.heap.objs.size fa cdv)
  let X := cxOf (CX P w) P w K mg base N qual sc fa cdv A outer s H E
  let c : Ct := ⟨K, callF tb W k, W, cl, fun cls d _ H => E cls d H⟩
  have ok : COk c X := ⟨rfl, S.nd, rfl, takes_of rfl rfl rfl rfl, passes_of rfl, by have := rm.un; show (A.deeper _).units + 200 < cLine; omega, hgd⟩
  have I : Inv X [] (L2.start N vs) H s1 := inv_start S room.hd e0 hl rv ic
  obtain ⟨io, R, Bs, M, ds, st, r, post⟩ := hsp
  have q : tSs c fi.body { nx := fun _ H' => Q .non H', rt := Q } (L2.start N vs) H := by
    unfold callF at post
    rw [ef] at post
    dsimp only at post
    split at post
    · rename_i hz
      refine ⟨M.length, io, R, M.length :: Bs, startD fi.sz ds, M, ⟨st.mark, by rw [e2]; exact start_rp r, fun b hb => ?_⟩, leave_in (c := c) (fun _ _ _ _ => rfl) st post⟩
      rcases List.mem_cons.mp hb with rfl | hb
      · exact Nat.le_refl _
      · exact st.bl b hb
    · exact post.elim
  refine wpAny_mono ((hbody cdv rfl A outer s H E rm ok).run [] s1 _ H _ I q) (fun fl s' z => ?_) fun e s' z => z
  cases fl with
  | ret u => obtain ⟨v, σ', H', J, rr, z⟩ := z; exact ⟨v, H', J.os, J.bare, J.base, J.hok, rr, z⟩
  | next => obtain ⟨σ', H', J, z⟩ := z; exact ⟨.non, H', J.os, J.bare, J.base, J.hok, rfl, z⟩
  | brk => obtain ⟨_, _, _, z⟩ := z; exact z.elim
  | cont => obtain ⟨_, _, _, z⟩ := z; exact z.elim
/-- no depth is left: nothing is promised -/
theorem fnG_zero {P : Program} {w : World} {K : PySem.W.Frag} {mg : Str → Option Value} {base : Heap} {f W k : Nat} {tb : Nat → Option FI} {cl : Nat → Option Value} {fa : Addr} {fd : FuncData} {ps : List Str} : FnG P w K mg base k fa fd ps (spF K cl (callF tb W 0 f)) :=
  fun A outer s H args us vs Q E _ _ _ _ _ _ ⟨_, _, _, _, _, _, _, h⟩ => by unfold callF at h; exact h.elim
end Net
end

section
set_option Elab.async false
set_option linter.all false
set_option maxRecDepth 100000
/-! N28: the law's end. -/
namespace Net
open PySem PySem.Spec PyProof.Rows L2
variable [TabL]
abbrev scrObj (vs : List Value) : Obj := { cls := .type "list", data := .seq vs.toArray }
/-- what the head tells of a maker's code object and its table, which is empty at the start -/
structure TabHd (K : PySem.W.Frag) (h : Heap) (c P : Addr) : Prop where
  empty : h.get? P = some { cls := .none, data := .fields #[] }
  out : K.lookup P = none
  code : PySem.W.CodeHd h c P
/-- the module of the built-ins -/
def BmHd (mg : Str → Option Value) (h : Heap) : Prop := ∃ (bm : Addr) (ob : Obj), mg "__builtins__" = some (.ref bm) ∧ bm ≠ builtinsNs ∧ h.get? bm = some ob ∧ ob.cls = .type "module" ∧ ob.dict = some builtinsNs ∧ ob.data = .plain
section
variable {K : PySem.W.Frag} {mg mb : Str → Option Value} {h : Heap} {H : Hp} {a : Addr} {vs : List Value} {ts : List Addr}
/-- what is told at the start: the script, the tables -/
structure Told (K : PySem.W.Frag) (h : Heap) (H : Hp) (a : Addr) (vs : List Value) (ts : List Addr) : Prop where
  at_ : h.get? a = some (scrObj vs)
  emp : ∀ b ∈ ts, h.get? b = some { cls := .none, data := .fields #[] } ∧ K.lookup b = none
  only : ∀ b, H b ≠ none → (b = a ∧ K.lookup a = none) ∨ b ∈ ts
theorem Told.free (T : Told K h H a vs ts) {b : Addr} {o : Obj} (e : h.get? b = some o) (n1 : ∀ us n, o.data ≠ .seq us n) (n2 : o.data ≠ .fields #[]) : H b = none := Classical.byContradiction fun q => by
  rcases T.only b q with ⟨rfl, _⟩ | z
  · rw [T.at_] at e; cases e; exact n1 _ _ rfl
  · rw [(T.emp b z).1] at e; cases e; exact n2 rfl
theorem Told.names (T : Told K h H a vs ts) {b : Addr} {m : Str → Option Value} (n : h.Ns b m) : (hidT h H).Ns b m := by
  obtain ⟨o, es, k, e, ed, r⟩ := n
  exact ⟨o, es, k, hidT_get e (T.free e (by rw [ed]; intro _ _ z; cases z) (by rw [ed]; intro z; cases z)), ed, r⟩
theorem Told.mod (T : Told K h H a vs ts) (KX : K.In h) (n1 : h.Ns mainGlobals mg) (n2 : h.Ns builtinsNs mb) (nb : ∀ y : Str, y ≠ "__name__" → mb y = bootBuiltins y) (lim : h.NoLimit) : L2.Mod K mg (hidT h H) := by
  obtain ⟨mc, l1, l2⟩ := lim
  refine ⟨fun b o e => hidT_get (KX b o e) (Classical.byContradiction fun q => ?_), T.names n1, ⟨mb, T.names n2, nb⟩, ⟨mc, T.names l1, l2⟩⟩
  rcases T.only b q with ⟨rfl, z⟩ | z
  · rw [e] at z; cases z
  · rw [(T.emp b z).2] at e; cases e
theorem Told.tab (T : Told K h H a vs ts) (n1 : h.Ns mainGlobals mg) (B : BmHd mg h) {c P : Addr} (D : TabHd K h c P) : LamX.TabB (hidT h H) mg c P := by
  obtain ⟨o, us, file, tf, flags, tg, inF, text, tt, e1, r1, r2, r3, r⟩ := D.code
  obtain ⟨bm, ob, b1, b2, b3, b4, b5, b6⟩ := B
  obtain ⟨og, es, n, eg, dg, _⟩ := n1
  have f1 : H c = none := T.free e1 (by rw [r2]; intro _ _ z; cases z) (by rw [r2]; intro z; cases z; simp at r3)
  have f2 : H bm = none := T.free b3 (by rw [b6]; intro _ _ z; cases z) (by rw [b6]; intro z; cases z)
  refine ⟨⟨o, us, file, tf, flags, tg, inF, text, tt, hidT_get e1 f1, r1, r2, r3, r⟩, ⟨bm, ob, b1, b2, ?_, ?_, hidT_get b3 f2, b4, b5, b6⟩, ?_⟩
  · rintro rfl
    rw [eg] at b3; cases b3
    rw [dg] at b6; cases b6
  · rintro rfl
    rw [D.empty] at b3; cases b3; cases b6
  · intro z
    rw [z, D.empty] at eg; cases eg; cases dg
end
def tblH (ts : List Addr) : Hp := fun b => if b ∈ ts then some (.tbl #[]) else none
theorem tblH_mem {ts : List Addr} {b : Addr} (h : b ∈ ts) : tblH ts b = some (.tbl #[]) := if_pos h
theorem tblH_some {ts : List Addr} {b : Addr} {u : HO} (h : tblH ts b = some u) : b ∈ ts ∧ u = .tbl #[] := by
  unfold tblH at h
  split at h
  · rename_i z; cases h; exact ⟨z, rfl⟩
  · cases h
theorem tblH_ne {ts : List Addr} {b : Addr} (h : tblH ts b ≠ none) : b ∈ ts := by
  unfold tblH at h
  split at h
  · assumption
  · exact absurd rfl h
/-- the law's call, where nothing but the script and the tables is told -/
theorem call_law {P : Program} {w : World} {K : PySem.W.Frag} {mg mb : Str → Option Value} {k f W : Nat} {tb : Nat → Option FI} {cl : Nat → Option Value} {fa a : Addr} {fd : FuncData} {x : Str} {s1 : Shared} {vs : List Value} {ns : List Int} {Mz : Mem} {cs : List (Addr × Addr)}
    (KX : K.In s1.heap) (n1 : s1.heap.Ns mainGlobals mg) (n2 : s1.heap.Ns builtinsNs mb) (nb : ∀ y : Str, y ≠ "__name__" → mb y = bootBuiltins y) (lim : s1.heap.NoLimit) (ng : s1.gens = #[]) (B : BmHd mg s1.heap)
    (D : ∀ p ∈ cs, TabHd K s1.heap p.1 p.2) (hT : ∀ z ∈ TabL.T, z.1 ∈ cs.map (·.2))
    (ea : s1.heap.get? a = some (scrObj vs)) (iv : IntsAre vs ns) (hz : ns.length ≤ sizeLine) (room : Room (4 * k) callerA)
    (F : ∀ base : Heap, K.In base → base.Ns mainGlobals mg → (∀ p ∈ cs, LamX.TabB base mg p.1 p.2) → FnG P w K mg base k fa fd [x] (spF K cl (callF tb W k f))) (bd : ∀ (s : Shared) (u : Value), BindsTo s fd ⟨[u], []⟩ [(x, u)])
    (ans : callF tb W k f [.scr ns] [] = .ok (.bl true) Mz) :
    codeAny (model P w) callerA (.call (.ref fa) ⟨[.ref a], []⟩) (fun r s' => r = .ok (.ret (.bool true)) ∧ OldK s1.heap s'.heap ∧ s'.os = s1.os ∧ AllBare s'.gens) s1 := by
  have rv : Vals (ns.map V.int) vs := vals_ints iv
  have tmem : ∀ {b : Addr}, b ∈ cs.map (·.2) → ∃ p ∈ cs, p.2 = b := fun h => by obtain ⟨p, hp, e⟩ := List.mem_map.mp h; exact ⟨p, hp, e⟩
  have tobj : ∀ b ∈ cs.map (·.2), s1.heap.get? b = some { cls := .none, data := .fields #[] } ∧ K.lookup b = none := fun b h => by
    obtain ⟨p, hp, rfl⟩ := tmem h
    exact ⟨(D p hp).empty, (D p hp).out⟩
  have an : a ∉ cs.map (·.2) := fun h => by
    have e := (tobj a h).1
    rw [ea] at e
    cases (show Data.seq vs.toArray _ = Data.fields #[] from congrArg Obj.data (Option.some.inj e))
  have go : ∀ H : Hp, Rp K [] [] H (.scr ns) (.ref a) → HOk P w H s1.heap → (∀ b ∈ cs.map (·.2), H b = some (.tbl #[])) → (∀ b, H b ≠ none → ((b = a ∧ K.lookup a = none) ∧ ∃ xs, H b = some (.frz (scrObj vs) (.lst xs))) ∨ b ∈ cs.map (·.2)) →
      codeAny (model P w) callerA (.call (.ref fa) ⟨[.ref a], []⟩) (fun r s' => r = .ok (.ret (.bool true)) ∧ OldK s1.heap s'.heap ∧ s'.os = s1.os ∧ AllBare s'.gens) s1 := by
    intro H rp hok tH only
    have T : Told K s1.heap H a vs (cs.map (·.2)) := ⟨ea, tobj, fun b q => (only b q).imp (fun z => z.1) id⟩
    have md := T.mod KX n1 n2 nb lim
    have e0 : Env0 P w K mg (hidT s1.heap H) callerA [] s1 H := ⟨rfl, md, fun b o e => of_hidT e, Nat.le_of_eq (hidT_size _ _), trivial, fun b z => (nomatch z), hok, .of_eq ng⟩
    have st : St8 K [] [] [] [] H := ⟨rfl, List.nodup_nil, fun n c a z => by simp at z, fun a z => (nomatch z), fun b z => (nomatch z), fun b z => (nomatch z), fun z hz => LamX.TabS.nil (tH z.1 (hT z hz))⟩
    have sp : spF K cl (callF tb W k f) [.ref a] H (fun v _ => v = .bl true) fun _ _ _ => False :=
      ⟨[], [], [], [], [.scr ns], st, .cons rp .nil, by rw [ans]; rintro io' H' v _ ⟨_, r⟩; cases r; rfl⟩
    refine codeAny_mono (F _ md.kin md.glob (fun p hp => T.tab n1 B (D p hp)) callerA [] s1 H _ [.ref a] [.ref a] _ _ rfl rfl room e0 (bd s1 (.ref a)) (.cons rfl .nil) sp) fun r s' z => ?_
    match r, z with
    | .error e, z => obtain ⟨_, _, _, _, _, _, _, _, _, _, _, _, z⟩ := z; exact z.elim
    | .ok .next, z => exact z.elim
    | .ok .brk, z => exact z.elim
    | .ok .cont, z => exact z.elim
    | .ok (.ret u), z =>
      obtain ⟨v, H', os, bare, un, hok', rr, rfl⟩ := z
      obtain rfl : u = Value.bool true := rr
      have old : ∀ b o, b ∉ cs.map (·.2) → s1.heap.get? b = some o → s'.heap.get? b = some o := fun b o nt e => by
        by_cases q : H b = none
        · exact un.keep b o e q (fun z => by cases z) (by simp)
        · rcases only b q with ⟨⟨rfl, _⟩, xs, q⟩ | z
          · obtain ⟨g1, _⟩ := hok' b _ (un.frzs b _ _ q)
            rw [ea] at e; cases e; exact g1
          · exact absurd z nt
      have more : ∀ b ∈ cs.map (·.2), ∃ us : Array Value, s'.heap.get? b = some { cls := .none, data := .fields us } := fun b hb => by
        obtain ⟨us, z⟩ := un.tbls b #[] (tH b hb)
        exact ⟨_, hok' b _ z⟩
      refine ⟨rfl, ⟨fun b o e => ?_, fun b o e => ?_⟩, os, bare⟩
      · by_cases q : b ∈ cs.map (·.2)
        · obtain ⟨us, z⟩ := more b q
          obtain ⟨p, hp, rfl⟩ := tmem q
          rw [(D p hp).empty] at e; cases e
          exact .inr (.inl ⟨((D p hp).code.tab (D p hp).empty).isCodeTable, rfl, #[], us, rfl, by rw [Array.empty_append]; exact z⟩)
        · exact .inl (old b o q e)
      · by_cases q : b ∈ cs.map (·.2)
        · exact ⟨_, (more b q).choose_spec⟩
        · exact ⟨o, old b o q e⟩
  cases q : K.lookup a with
  | some o =>
    have e := KX a o q
    rw [ea] at e; cases e
    exact go (tblH (cs.map (·.2))) (.scr (.inl (.inr ⟨_, vs.toArray, _, q, rfl, rfl, rfl, by rw [List.size_toArray, iv.length]; exact hz, by simpa using rv⟩))) (fun b u z => by obtain ⟨h, rfl⟩ := tblH_some z; exact (tobj b h).1) (fun b h => tblH_mem h) fun b z => .inr (tblH_ne z)
  | none =>
    refine go (upd (tblH (cs.map (·.2))) a (.frz (scrObj vs) (.lst (ns.map V.int)))) (.scr (.inr ⟨List.not_mem_nil, List.not_mem_nil, .inr ⟨_, upd_same⟩⟩)) (fun b u z => ?_) (fun b h => ?_) fun b z => ?_
    · by_cases e : b = a
      · subst e
        rw [upd_same] at z; cases z
        exact ⟨ea, by rw [List.length_map]; exact hz, vs, _, rv, ea⟩
      · rw [upd_ne e] at z
        obtain ⟨h, rfl⟩ := tblH_some z
        exact (tobj b h).1
    · rw [upd_ne (fun e : b = a => an (by rw [← e]; exact h))]; exact tblH_mem h
    · by_cases e : b = a
      · subst e; exact .inl ⟨⟨rfl, q⟩, _, upd_same⟩
      · rw [upd_ne e] at z
        exact .inr (tblH_ne z)
/-- a law, from what is plain -/
theorem walk_G {l : PySem.W.OpenLaw} {n k f W : Nat} {tb : Nat → Option FI} {q : Program} {loose : List Str} {XP : (Str → Option Value) → Heap → Prop} {YP : World → Heap → Prop} {d : DefRec} {x : Str}
    (hn : l.most = some n) (hn2 : n ≤ sizeLine) (hdf : d.params.defaults = []) (room : Room (4 * k) callerA)
    (F : ∀ (w : World) (mg : Str → Option Value) (fa : Addr) (h : Heap), YP w h → h.Ns mainGlobals mg → mg d.name = some (.ref fa) →
      ∃ (K : PySem.W.Frag) (fd : FuncData) (cl : Nat → Option Value) (cs : List (Addr × Addr)) (tl : TabL), K.In h ∧ (∀ p ∈ cs, TabHd K h p.1 p.2) ∧ (∀ z ∈ tl.T, z.1 ∈ cs.map (·.2)) ∧ (∀ (s : Shared) (u : Value), BindsTo s fd ⟨[u], []⟩ [(x, u)]) ∧
        ∀ base : Heap, K.In base → base.Ns mainGlobals mg → (∀ p ∈ cs, LamX.TabB base mg p.1 p.2) → FnG l.prog w K mg base k fa fd [x] (@spF tl K cl (callF tb W k f)))
    (ans : ∀ ns : List Int, ns.length ≤ n → ∃ M, callF tb W k f [.scr ns] [] = .ok (.bl true) M) :
    PySem.W.WalkO q loose XP YP l.row.toRowW d [] (fun f vs => PySem.call f vs) := by
  refine Att.attach_call hn hdf fun w s0 s1 mg mb fa o pm cd doc a vs ns G Y ho hd hcd em ea iv hlen hg => ?_
  obtain ⟨K, fd, cl, cs, tl, KX, D, hT, bd, Fn⟩ := F w mg fa _ Y G.T.g em
  have B : BmHd mg _ := G.T.bmain
  obtain ⟨M, e⟩ := ans ns hlen
  exact @call_law tl _ _ _ _ _ _ _ _ _ _ _ _ _ _ _ _ _ _ _ KX G.T.g G.T.b G.T.builtins G.T.nolimit hg B D hT ea iv (Nat.le_trans hlen hn2) room Fn bd e
end Net
end

section
set_option Elab.async false
set_option linter.all false
set_option maxRecDepth 100000
/-! N29: sorted by a key: the keys' loop. -/
namespace Net
open PySem PySem.Spec PyProof.Rows L2
section
variable {X : Cx} {pins : List (Addr × Obj)} {σ : L2.St} {H : Hp} {s : Shared}
/-- an object that came since the frame began, of no frame, no cell, no pin -/
structure Ours (X : Cx) (pins : List (Addr × Obj)) (b : Addr) : Prop where
  lo : X.s_0.heap.objs.size ≤ b
  nl : b ≠ X.env.locals
  nc : ∀ x c, X.env.cells.lookup x = some c → c ≠ b
  np : ∀ p ∈ X.pn ++ pins, p.1 ≠ b
  nf : b ∉ frs X.stack
theorem Inv.ours (I : Inv X pins σ H s) {b : Addr} (hb : s.heap.objs.size ≤ b) : Ours X pins b := by
  have no : ¬ b < s.heap.objs.size := Nat.not_lt.mpr hb
  refine ⟨Nat.le_trans I.sz hb, fun e => ?_, fun x c e z => ?_, fun p hp z => ?_, fun z => ?_⟩
  · exact no (by rw [e]; exact I.lt)
  · obtain ⟨v, o, ho, _⟩ := I.cell x c e
    exact no (by rw [← z]; exact Heap.lt_size ho)
  · exact no (by rw [← z]; exact Heap.lt_size (I.pin p hp).1)
  · rcases List.mem_cons.mp (I.stkSub _ z) with e | e
    · exact no (by rw [e]; exact I.lt)
    · exact I.nofs hb e
/-- what is not told, and ours, may change; one of it is told from now on -/
theorem Inv.other {h' : Heap} {t' : Nat} {ch : List Addr} (I : Inv X pins σ H s) (hch : ∀ b ∈ ch, H b = none ∧ Ours X pins b) (k : ∀ b o, b ∉ ch → s.heap.get? b = some o → h'.get? b = some o) : Inv X pins σ H { s with heap := h', toks := t' } :=
  I.call (g' := s.gens) (d' := s.drawn) (ch := ch) ⟨fun b o e _ _ hc => k b o hc e, fun b o e _ _ hc => ⟨o.slots, k b o hc e⟩, fun _ _ _ n _ => n, fun b o e hc => ⟨o, k b o hc e⟩, fun _ _ e => e, fun _ _ _ e => e, fun _ ps e => ⟨#[], by simp [e]⟩⟩
    (fun a o e => (I.hok a o e).stay (fun b u hb q => k b u (fun hc => by
      rcases hb with z | z
      · rw [← z, (hch _ hc).1] at e; cases e
      · rw [(hch _ hc).1] at z; cases z) q) (fun _ q => q) fun _ _ q => q) I.bare fun b hb => let ⟨_, o⟩ := hch b hb; ⟨.inr o.lo, o.nl, o.nc, o.np⟩
theorem Inv.otherL {h' : Heap} {t' c : Nat} {ch : List Addr} {a : Addr} {xs : List V} {us : List Value} (I : Inv X pins σ H s) (hch : ∀ b ∈ ch, H b = none ∧ Ours X pins b) (ha : a ∈ ch) (k : ∀ b o, b ∉ ch → s.heap.get? b = some o → h'.get? b = some o)
    (e : h'.get? a = some (seqObj "list" us.toArray c)) (r : Vals xs us) (hz : xs.length ≤ sizeLine) : Inv X pins σ (upd H a (.lst xs)) { s with heap := h', toks := t' } := by
  have ne : ∀ {b o}, H b = some o → b ≠ a := fun {b o} q z => by rw [z, (hch a ha).1] at q; cases q
  refine I.call (g' := s.gens) (d' := s.drawn) (ch := ch) ⟨fun b o e _ _ hc => k b o hc e, fun b o e _ _ hc => ⟨o.slots, k b o hc e⟩, fun b _ _ n hc => by rw [upd_ne (fun z : b = a => hc (by rw [z]; exact ha))]; exact n, fun b o e hc => ⟨o, k b o hc e⟩, fun _ _ e => by rw [upd_ne (ne e)]; exact e, fun _ _ _ e => by rw [upd_ne (ne e)]; exact e, fun _ ps e => ⟨#[], by rw [upd_ne (ne e)]; simp [e]⟩⟩
    (fun b o q => ?_) I.bare fun b hb => let ⟨_, o⟩ := hch b hb; ⟨.inr o.lo, o.nl, o.nc, o.np⟩
  by_cases hb : b = a
  · subst hb
    rw [upd_same] at q; cases q
    exact ⟨hz, us, c, r, e⟩
  · rw [upd_ne hb] at q
    exact (I.hok b o q).stay (fun d u hd z => k d u (fun hc => by
      rcases hd with w | w
      · rw [← w, (hch _ hc).1] at q; cases q
      · rw [(hch _ hc).1] at w; cases w) z) (fun d z => by rw [upd_ne (ne z)]; exact z) fun d xs z => by rw [upd_ne (ne z)]; exact z
end
section
variable {X : Cx} {pins : List (Addr × Obj)} {σ : L2.St}
/-- a key's turn: J tells of the keys so far -/
def KeyTurn (X : Cx) (pins : List (Addr × Obj)) (σ : L2.St) (f : Value) (xs : List V) (J : List Int → Hp → Prop) : Prop :=
  ∀ (acc : List Int) (x : V) (v : Value) (H : Hp) (s : Shared), xs[acc.length]? = some x → RelV x v → J acc H → Inv X pins σ H s →
    wpAny (model X.prog X.w) X.A.in1.in1 (call f [v]) (fun u s' => ∃ H' n t, u = .int n t ∧ Inv X pins σ H' s' ∧ Un (frs X.stack) [] H H' s.heap s'.heap ∧ J (acc ++ [n]) H') (fun _ _ => False) s
def SrtBy (acc : List Int) (xs : List V) : List V := ((acc.zip xs).mergeSort fun p q => decide (p.1 ≤ q.1)).map (·.2)
theorem ints_snoc {vs : List Value} {ns : List Int} {n : Int} {t : Nat} (h : IntsAre vs ns) : IntsAre (vs ++ [.int n t]) (ns ++ [n]) := by
  induction h with
  | nil => exact .cons n t .nil
  | cons m u _ ih => exact .cons m u ih
theorem each_ints {h : Heap} {vs : List Value} {ns : List Int} (i : IntsAre vs ns) : PySem.W.EachIs (fun v k => ∃ as, Reads h v k as) vs (ns.map PyData.int) := by
  induction i with
  | nil => exact .nil
  | cons m u _ ih => exact .cons ⟨_, .int m u⟩ ih
theorem each_zip : ∀ {xs : List V} {vs : List Value} {acc : List Int}, Vals xs vs → acc.length = xs.length → PySem.W.EachIs (fun (v : Value) (p : Int × V) => RelV p.2 v) vs (acc.zip xs)
  | [], _, [], .nil, _ => .nil
  | _ :: _, _ :: _, _ :: _, .cons r rr, e => .cons r (each_zip rr (by simpa using e))
theorem dataLe_int (p q : Int × V) : PySem.W.dataLe false (fun p : Int × V => PyData.int p.1) p q = decide (p.1 ≤ q.1) := by
  show (!PyProof.Rows.lexLt PyProof.Rows.itemOrd [Sum.inl q.1] [Sum.inl p.1]) = _
  by_cases h : q.1 < p.1
  · rw [decide_eq_false (by omega)]
    simp [PyProof.Rows.lexLt, PyProof.Rows.itemOrd, PyProof.Rows.itemLt, h]
  · rw [decide_eq_true (by omega)]
    simp [PyProof.Rows.lexLt, PyProof.Rows.itemOrd, PyProof.Rows.itemLt, h]
theorem vals_each : ∀ {ps : List (Int × V)} {out : List Value}, PySem.W.EachIs (fun (v : Value) (p : Int × V) => RelV p.2 v) out ps → Vals (ps.map (·.2)) out
  | _, _, .nil => .nil
  | _, _, .cons r rr => .cons r (vals_each rr)
theorem srt_vals {acc : List Int} {xs : List V} {out : List Value} (e : PySem.W.EachIs (fun (v : Value) (p : Int × V) => RelV p.2 v) out ((acc.zip xs).mergeSort (PySem.W.dataLe false fun p : Int × V => PyData.int p.1))) : Vals (SrtBy acc xs) out := by
  have h : (PySem.W.dataLe false fun p : Int × V => PyData.int p.1) = fun p q : Int × V => decide (p.1 ≤ q.1) := funext fun p => funext fun q => dataLe_int p q
  rw [h] at e
  exact vals_each e
/-- the keys, then the sort: a the list (empty meanwhile), kS the keys' -/
theorem key_rest {f : Value} {xs : List V} {vs : List Value} {J : List Int → Hp → Prop} {a kS : Addr} {e1 : Nat} {H : Hp} {s : Shared} {P : PySem.Fin → Shared → Prop} {E : Value → Shared → Prop} (T : KeyTurn X pins σ f xs J) (rv : Vals xs vs) (hz : xs.length ≤ sizeLine) (hu : X.A.units + 100 < cLine)
    (I : Inv X pins σ H s) (j0 : J [] H) (oa : Ours X pins a) (ok : Ours X pins kS) (na : H a = none) (nk : H kS = none) (ne : kS ≠ a) (ga : s.heap.get? a = some (seqObj "list" #[] e1)) (gk : s.heap.get? kS = some (seqObj "list" #[] 0))
    (q : ∀ acc H' s' h' t' out c, acc.length = xs.length → J acc H' → Inv X pins σ H' s' → H' a = none → (∀ b, b ∉ [a, kS] → ∀ o, s'.heap.get? b = some o → h'.get? b = some o) → h'.get? a = some (seqObj "list" (List.toArray out) c) → Vals (SrtBy acc xs) out →
      Inv X pins σ (upd H' a (.lst (SrtBy acc xs))) { s' with heap := h', toks := t' } → P (.done (.ret .none)) { s' with heap := h', toks := t' }) :
    wpAny (model X.prog X.w) X.A.in1.in1 (PyProof.Rows.ksk_rest a f false vs.toArray e1 (.ref kS)) P E s := by
  have hlv : vs.length = xs.length := rv.length.symm
  unfold PyProof.Rows.ksk_rest
  refine wpAny_bind (wpAny_rule ?_)
  first
    | rw [List.forIn_toArray]
    | (rw [← Array.forIn_toList]; simp only [List.toList_toArray])
  refine wpAny_bind (PyProof.Rows.ksk_fold (fun i s' => ∃ H' kA e acc, Inv X pins σ H' s' ∧ J acc H' ∧ acc.length = i ∧ H' a = none ∧ H' kS = none ∧ s'.heap.get? a = some (seqObj "list" #[] e1) ∧ s'.heap.get? kS = some (seqObj "list" kA e) ∧ IntsAre kA.toList acc) vs 0 s
    ⟨H, #[], 0, [], I, j0, rfl, na, nk, ga, gk, .nil⟩ ?_ ?_)
  · rintro j v s' hv ⟨H', kA, e, acc, I', jj, hl, na', nk', ga', gk', hi⟩
    rw [Nat.zero_add] at hl
    have hj : j < xs.length := by rw [← hlv]; exact (List.getElem?_eq_some_iff.mp hv).1
    obtain ⟨x, hx⟩ : ∃ x, xs[j]? = some x := ⟨_, List.getElem?_eq_getElem hj⟩
    obtain ⟨v', hv', rx⟩ := rv.get hx
    rw [hv] at hv'; cases hv'
    refine wpAny_bind (wpAny_attempt (wpAny_mono (T acc x v H' s' (by rw [hl]; exact hx) rx jj I') (fun u s2 z => ?_) fun _ _ z => z.elim))
    obtain ⟨H2, n, t, rfl, I2, un, j2⟩ := z
    have ga2 := un.keep a _ ga' na' oa.nf (by simp)
    have gk2 := un.keep kS _ gk' nk' ok.nf (by simp)
    have na2 := un.free a _ ga' na' (by simp)
    have nk2 := un.free kS _ gk' nk' (by simp)
    have hks : kA.size = acc.length := by rw [← Array.length_toList]; exact hi.length
    dsimp only
    refine wpAny_bind (listUpdate_at gk2 rfl (wpAny_pure ⟨rfl, H2, kA.push (.int n t), _, acc ++ [n], Net.Inv.other I2 (ch := [kS]) (fun b hb => by rw [List.mem_singleton.mp hb]; exact ⟨nk2, ok⟩) (fun b o hb eo => ?_), j2, by simp [hl], na2, nk2, ?_, get?_update_seq gk2 (·.push (.int n t)), by rw [Array.toList_push]; exact ints_snoc hi⟩) (by rw [hks, hl]; omega) (by rw [Array.size_push, hks, hl]; omega))
    · exact (Heap.get?_update_ne _ _ _ _ (fun z => hb (List.mem_singleton.mpr z))).trans eo
    · exact (Heap.get?_update_ne _ _ _ _ (Ne.symm ne)).trans ga2
  · rintro s' ⟨H', kA, e, acc, I', jj, hl, na', nk', ga', gk', hi⟩
    rw [Nat.zero_add, hlv] at hl
    have hks : kA.size = vs.length := by rw [← Array.length_toList, hi.length, hl, hlv]
    refine wpAny_bind (listItems_at gk' rfl ?_)
    have each : PySem.W.EachIs (fun v k => ∃ as, Reads s'.heap v k as) kA.toList (acc.map PyData.int) := each_ints hi
    have hb : (acc.zip xs).map (fun p => PyData.int p.1) = acc.map PyData.int := by
      rw [show (fun p : Int × V => PyData.int p.1) = PyData.int ∘ Prod.fst from rfl, ← List.map_map, List.map_fst_zip (by omega)]
    have hal : PySem.W.AllAlike (acc.map PyData.int) := fun d hd d' hd' => by
      obtain ⟨m, _, rfl⟩ := List.mem_map.mp hd
      obtain ⟨n, _, rfl⟩ := List.mem_map.mp hd'
      rfl
    have hsk : PySem.W.Sortable (acc.map PyData.int) := .inr fun d hd => by
      obtain ⟨m, _, rfl⟩ := List.mem_map.mp hd
      exact ⟨fun z => (nomatch z), fun _ z => (nomatch z)⟩
    refine PySem.W.keyH_end (κ := PySem.W.dataKind s'.heap (acc.map PyData.int)) (h₁ := hidT s'.heap (upd (fun _ => none) kS (.lst []))) (fun b o _ z => (of_hidT z).1) ?_ gk' ga' ne (PySem.W.SortsAt.data (s := s') each hal hsk fun d hd => ?_) hks (by omega) fun h3 t3 c k3 n3 => ?_
    · cases z : (hidT s'.heap (upd (fun _ => none) kS (.lst []))).get? kS with
      | none => rfl
      | some o => have z := (of_hidT z).2; rw [upd_same] at z; cases z
    · obtain ⟨m, _, rfl⟩ := List.mem_map.mp hd
      show X.A.units + 1 + 1 + PyData.depth (.int m) < cLine
      have : PyData.depth (.int m) ≤ 1 := by simp [PyData.depth]
      omega
    have keep : ∀ b, b ∉ [a, kS] → ∀ o, s'.heap.get? b = some o → h3.get? b = some o := fun b hb o e => by
      simp only [List.mem_cons, List.not_mem_nil, or_false, not_or] at hb
      exact k3 b o hb.1 (hidT_get e (by rw [upd_ne hb.2]))
    have vals : Vals (SrtBy acc xs) (PySem.W.sortVals (PySem.W.dataKind s'.heap (acc.map PyData.int)) false kA.toList vs) := srt_vals (PySem.W.keyedOut_each (R := fun v p => RelV p.2 v) (bs := acc.zip xs) (fun p => PyData.int p.1) (by rw [hb]; exact ⟨s'.heap, kA.toList, hal, rfl, each⟩) (each_zip rv hl))
    have hch : ∀ b ∈ [a, kS], H' b = none ∧ Ours X pins b := fun b hb => by
      simp only [List.mem_cons, List.not_mem_nil, or_false] at hb
      rcases hb with rfl | rfl
      · exact ⟨na', oa⟩
      · exact ⟨nk', ok⟩
    exact q acc H' s' h3 t3 _ c hl jj I' na' keep n3 vals (Net.Inv.otherL I' hch List.mem_cons_self (fun b o hb e => keep b hb o e) n3 vals (by unfold SrtBy; rw [List.length_map, List.length_mergeSort, List.length_zip]; omega))
end
end Net
end

section
set_option Elab.async false
set_option linter.all false
set_option maxRecDepth 100000
/-! N30: sorted(xs, key=f): the call. -/
namespace Net
open PySem PySem.Spec PyProof.Rows L2
section
variable {X : Cx} {pins : List (Addr × Obj)} {σ : L2.St}
theorem copy_size (h : Heap) (vs : List Value) : (PySem.W.copyHeap h vs).objs.size = h.objs.size + 2 := by
  unfold PySem.W.copyHeap
  rw [PyProof.Rows.size_push', Heap.size_update, PyProof.Rows.size_push']
/-- sorted(l, key=f), f a function -/
theorem key_sorted {f l : Addr} {xs : List V} {J : List Int → Hp → Prop} {H : Hp} {s : Shared} {Q : VK} {E : Value → Shared → Prop} (T : KeyTurn X pins σ (.ref f) xs J) (hs : SqL X.K H l xs) (hu : X.A.units + 100 < cLine) (I : Inv X pins σ H s) (j0 : J [] H)
    (q : ∀ acc H' p, acc.length = xs.length → J acc H' → H p = none → H' p = none → Q (.ref p) (upd H' p (.lst (SrtBy acc xs)))) :
    wpAny (model X.prog X.w) X.A (call (.builtin "sorted") [.ref l] [(Str.ofString "key", .ref f)]) (EP X pins σ Q) E s := by
  obtain ⟨vs, rv, hl, hz⟩ := I.list hs
  have hlv : vs.length = xs.length := rv.length.symm
  refine PySem.W.sorted_of_sort hl.isList (by omega) (ksk_s1 _ _) (fun _ => ksk_l1 _ _) fun E' => ?_
  rw [ksk_t1]
  let a : Addr := s.heap.objs.size + 1
  let h1 := PySem.W.copyHeap s.heap vs
  have e1 : h1.get? a = some (seqObj "list" vs.toArray 0) := PySem.W.copyHeap_at s.heap vs
  obtain ⟨n2, e2⟩ : ∃ n, (h1.update a (Obj.mapSeq fun _ => (#[] : Array Value))).get? a = some (seqObj "list" #[] n) := ⟨_, get?_update_seq e1 fun _ => #[]⟩
  let h2 := (h1.update a (Obj.mapSeq fun _ => (#[] : Array Value))).push (seqObj "tuple" vs.toArray 0)
  have sz : h2.objs.size = s.heap.objs.size + 3 := by
    show ((h1.update a (Obj.mapSeq fun _ => (#[] : Array Value))).push (seqObj "tuple" vs.toArray 0)).objs.size = _
    rw [size_push', Heap.size_update, show h1.objs.size = _ from copy_size s.heap vs]
  have e3 : (h2.push (seqObj "list" #[] 0)).get? a = some (seqObj "list" #[] n2) := Heap.get?_push_of_some _ (Heap.get?_push_of_some _ e2)
  have e4 : (h2.push (seqObj "list" #[] 0)).get? h2.objs.size = some (seqObj "list" #[] 0) := Heap.get?_push_size _ rfl
  have old : ∀ b o, s.heap.get? b = some o → (h2.push (seqObj "list" #[] 0)).get? b = some o := fun b o e =>
    Heap.get?_push_of_some _ (Heap.get?_push_of_some _ ((Heap.get?_update_ne _ _ _ _ (Nat.ne_of_lt (Nat.lt_succ_of_lt (Heap.lt_size e)))).trans (PySem.W.copyHeap_old e)))
  have I2 : Inv X pins σ H { s with heap := h2.push (seqObj "list" #[] 0) } := I.kept old
  have la : s.heap.objs.size ≤ a := Nat.le_succ _
  have lk : s.heap.objs.size ≤ h2.objs.size := by rw [sz]; omega
  have ne : h2.objs.size ≠ a := by rw [sz]; show s.heap.objs.size + 3 ≠ s.heap.objs.size + 1; omega
  unfold ksk_tree
  refine wpAny_bind (listItems_at e1 rfl ?_)
  refine wpAny_bind (listUpdate_at e1 rfl ?_ (by rw [List.size_toArray]; omega) (Nat.zero_le _))
  refine wpAny_bind (seqEpoch_at e2 rfl ?_)
  refine wpAny_bind (wpAny_newTuple ?_ (by show vs.length ≤ _; omega))
  refine wpAny_bind (wpAny_newList ?_ (Nat.zero_le _))
  refine wpAny_holding ?_
  refine key_rest (a := a) (kS := h2.objs.size) T rv hz hu I2 j0 (Inv.ours I la) (Inv.ours I lk) (I.hok.fresh la) (I.hok.fresh lk) ne e3 e4 fun acc H' s' h' t' out c hl' jj I' na' keep ga' vals I3 => ?_
  exact ⟨rfl, .ref a, _, I3, rfl, q acc H' a hl' jj (I.hok.fresh la) na'⟩
end
end Net
end

section
set_option Elab.async false
set_option linter.all false
set_option maxRecDepth 100000
/-! N31: a lambda is made; nothing that is told goes. -/
namespace Net
open PySem PySem.Spec PyProof.Rows L2 LamX
/-- a lambda's object, as the frame of X makes it -/
abbrev lamO (X : Cx) (params : Arguments) (body : Expr) (scope : Scope) (pm : Value) (c' : Addr) (ctv : Value) : Obj := PySem.W.kla_obj "<lambda>" (X.env.qual ++ "<lambda>") params body scope (cloFrom X.env.cells scope.names []) pm c' ctv
abbrev lamQ (X : Cx) : Str := X.env.qual ++ "<lambda>"
section
variable {X : Cx} {pins : List (Addr × Obj)} {σ : L2.St} {H : Hp} {s : Shared}
/-- what stands when the lambda is made -/
structure LamAt (X : Cx) (T : List (Addr × Str)) (H H1 : Hp) (h : Heap) (f c' : Addr) (params : Arguments) (body : Expr) (scope : Scope) (pm ctv : Value) : Prop where
  ext : ExtN H H1
  dom : ∀ b o, H b = some o → ∃ o', H1 b = some o'
  tabs : Tabs T H1
  obj : h.get? f = some (lamO X params body scope pm c' ctv)
  nf : H1 f = none
  fr : f ∉ frs X.stack
  code : H1 c' = some (CodeO c' (lamQ X))
theorem lam_make3 {T : List (Addr × Str)} {c P : Addr} {params : Arguments} {body : Expr} {scope : Scope} {pos : Pos} {E : Value → Shared → Prop} {Q : Value → Shared → Prop} (I : Inv X pins σ H s) (B : TabB X.base X.mg c P) (ec : X.env.code = .ref c) (inT : (P, lamQ X) ∈ T)
    (one : ∀ z ∈ T, z.1 = P → z.2 = lamQ X) (tT : Tabs T H) (nd : defaultsOf params X.env = ([], [])) (fr : ∀ y ∈ scope.names, y.2 = .free → ∃ c, X.env.cells.lookup y.1 = some c)
    (q : ∀ (f c' : Addr) (pm ctv : Value) (H1 : Hp) (s' : Shared), Inv X pins σ H1 s' → LamAt X T H H1 s'.heap f c' params body scope pm ctv → Q (.ref f) s') :
    wpAny (model X.prog X.w) X.A (eval (.Lambda params body scope pos) X.env) Q E s := by
  obtain ⟨ps, atP, tr, co⟩ := tT _ inT
  dsimp only at atP co
  have obP : s.heap.get? P = some { cls := .none, data := .fields ps } := I.hok P _ atP
  have bm := B.bm.keeps I.bk
  have cd := B.code.keeps I.bk
  have gl := I.mod.glob.keeps I.bk
  refine PySem.W.kla_eval nd ?_
  cases am : codeAmong pos ps.toList with
  | some cv =>
    obtain ⟨c', rfl, hc'⟩ := co pos cv am
    refine PySem.W.kla_makeFunctionHit (mg := X.mg) (closure_ok fr) I.ok.glob gl ec cd obP tr am bm fun ctv h' tk up sz => ?_
    have J : Inv X pins σ H { s with heap := h'.push (lamO X params body scope ((X.mg "__name__").getD .none) c' ctv), toks := tk } := I.kept fun b o e => Heap.get?_push_of_some _ (up b o e)
    exact q _ c' _ ctv H _ J ⟨.refl H, fun b o e => ⟨o, e⟩, tT, Heap.get?_push_size _ rfl, I.hok.fresh sz, (Inv.ours I sz).nf, hc'⟩
  | none =>
    refine PySem.W.kla_makeFunction (mg := X.mg) (closure_ok fr) I.ok.glob gl ec cd obP tr am B.gP bm fun c' ctv h' tk up lo lt rec tb => ?_
    obtain ⟨cw, oc, us, t, ew, g1, g2, g3⟩ := rec
    cases ew
    have sz : s.heap.objs.size ≤ h'.objs.size := Nat.le_trans lo (Nat.le_of_lt lt)
    have fresh : H c' = none := I.hok.fresh lo
    let more : Array Value := #[rawInt pos.line, rawInt pos.col, .ref c']
    let H1 := upd (upd H P (.tbl (ps ++ more))) c' (CodeO c' (lamQ X))
    have J : Inv X pins σ H1 { s with heap := h'.push (lamO X params body scope ((X.mg "__name__").getD .none) c' ctv), toks := tk } :=
      inv_table (more := more) I atP (fun b o ne e => Heap.get?_push_of_some _ (up b o ne e)) (Heap.get?_push_of_some _ tb) lo ⟨oc, us, t, Heap.get?_push_of_some _ g1, g2, g3⟩
    have ext : ExtN H H1 := fun b o e nt => by
      have n1 : b ≠ c' := ne_of_none e fresh
      have n2 : b ≠ P := by rintro rfl; rw [atP] at e; exact nt ps (Option.some.inj e).symm
      show upd (upd H P _) c' _ b = _
      rw [upd_ne n1, upd_ne n2, e]
    have eP : H1 P = some (.tbl (ps ++ more)) := by
      show upd (upd H P _) c' _ P = _
      rw [upd_ne (ne_of_none atP fresh), upd_same]
    refine q _ c' _ ctv H1 _ J ⟨ext, fun b o e => ?_, fun z hz => ?_, Heap.get?_push_size _ rfl, ?_, (Inv.ours I sz).nf, upd_same⟩
    · by_cases e2 : b = P
      · subst e2; exact ⟨_, eP⟩
      · refine ⟨o, ?_⟩
        show upd (upd H P _) c' _ b = _
        rw [upd_ne (ne_of_none e fresh), upd_ne e2, e]
    · obtain ⟨us', a1, a2, a3⟩ := tT z hz
      have kept : ∀ pos' cv, codeAmong pos' us'.toList = some cv → ∃ c, cv = .ref c ∧ H1 c = some (CodeO c z.2) := fun p' cv e => by
        obtain ⟨c0, e0, e1⟩ := a3 p' cv e
        exact ⟨c0, e0, ext _ _ e1 codeO_ne⟩
      by_cases e : z.1 = P
      · rw [e, atP] at a1; cases a1
        rw [e]
        have el : (ps ++ more).toList = ps.toList ++ [rawInt pos.line, rawInt pos.col, .ref c'] := by simp [more]
        refine ⟨_, eP, by rw [el]; exact PySem.TriplesOk_snoc _ _ _ _ tr, fun p' cv hcv => ?_⟩
        rw [el] at hcv
        rcases among_app _ tr hcv with w | rfl
        · exact kept p' cv w
        · exact ⟨c', rfl, by rw [one z hz e]; exact upd_same⟩
      · refine ⟨us', ?_, a2, kept⟩
        show upd (upd H P _) c' _ z.1 = _
        rw [upd_ne (ne_of_none a1 fresh), upd_ne e, a1]
    · have n2 : h'.objs.size ≠ P := Nat.ne_of_gt (Nat.lt_of_lt_of_le (Heap.lt_size obP) sz)
      show upd (upd H P _) c' _ h'.objs.size = _
      rw [upd_ne (Nat.ne_of_gt lt), upd_ne n2]
      exact I.hok.fresh sz
end
end Net
end

section
set_option Elab.async false
set_option linter.all false
set_option maxRecDepth 100000
/-! N32: sorted(xs, key=lambda one: e). -/
namespace Net
open PySem PySem.Spec PyProof.Rows L2 LamX NdefX
variable [TabL]
/-- a lambda as a function -/
abbrev lamF (X : Cx) (params : Arguments) (scope : Scope) (c' : Addr) : NF := ⟨"<lambda>", lamQ X, params, [], scope, cloFrom X.env.cells scope.names [], c'⟩
abbrev lamX (X : Cx) (N' : List Str) (params : Arguments) (scope : Scope) (f c' : Addr) (s : Shared) (H : Hp) : Cx := ncx (CX X.prog X.w) X.prog X.w X.K X.mg X.base N' (lamF X params scope c') f X.A.in1.in1 X.stack s H fun _ _ _ => False
theorem st8_out {K : PySem.W.Frag} {io R : List Addr} {Bs : List Nat} {M : Mem} {H : Hp} {a : Addr} {o : HO} (s : St8 K io R Bs M H) (e : H a = some o) (nb : ¬ Boxy o) : a ∉ io := fun z => by
  obtain ⟨n, hn, ea⟩ := List.getElem_of_mem z
  have hm : n < M.length := by rw [← s.len]; exact hn
  obtain ⟨u, eu, bx⟩ := (s.cell n M[n] a (List.getElem?_eq_getElem hm) (by rw [List.getElem?_eq_getElem hn, ea])).boxy
  rw [e] at eu; cases eu; exact nb bx
theorem codeO_nb {c : Addr} {q : Str} : ¬ Boxy (CodeO c q) := fun b => b.nc rfl
theorem lam_frame {K : PySem.W.Frag} {io R : List Addr} {H : Hp} {ρ : Fr} {σ : L2.St} {d : D} {x : V} {js : List Nat} {N' : List Str} (f : FrRp K io R H ρ σ) (r : Rp K io R H d x) (hN : N'.length = js.length + 1) : FrRp K io R H (some d :: js.map (slotD ρ)) (startF N' [x] (js.map (slotAt σ))) := by
  have e : startF N' [x] (js.map (slotAt σ)) = some x :: js.map (slotAt σ) := by
    unfold startF
    have : N'.length - [x].length - (js.map (slotAt σ)).length = 0 := by simp [hN]
    rw [this]; simp
  rw [e]
  refine ⟨by simp, fun i d' q => ?_⟩
  cases i with
  | zero => cases q; exact ⟨x, rfl, r⟩
  | succ i =>
    rw [List.getElem?_cons_succ, List.getElem?_map] at q
    cases ej : js[i]? with
    | none => rw [ej] at q; cases q
    | some j =>
      rw [ej] at q
      have q : slotD ρ j = some d' := Option.some.inj q
      have q2 : ρ[j]? = some (some d') := by
        unfold slotD at q
        split at q
        · rename_i o eo; rw [eo, q]
        · cases q
      obtain ⟨v, ev, rv⟩ := f.2 j d' q2
      refine ⟨v, ?_, rv⟩
      rw [List.getElem?_cons_succ, List.getElem?_map, ej]
      exact congrArg some (slotAt_of ev)
section
variable {c : Ct} {X : Cx} {pins : List (Addr × Obj)} {σ : L2.St} {base k : Nat} {io io1 R : List Addr} {Bs : List Nat} {ρ : Fr} {M M1 : Mem} {H H1 : Hp}
def LamJ (c : Ct) (X : Cx) (R : List Addr) (Bs : List Nat) (io1 : List Addr) (H1 : Hp) (c' : Addr) (step : D → Mem → Rs D) (ds : List D) (whole : Rs (List Int)) (acc : List Int) (H : Hp) : Prop :=
  ∃ io' M', Ext io1 H1 io' H ∧ St8 c.K io' R Bs M' H ∧ H c' = some (CodeO c' (lamQ X)) ∧ keysL step (ds.drop acc.length) acc M' = whole
theorem lam_turn {N' fr : List Str} {js : List Nat} {one : Str} {params : Arguments} {body : Expr} {scope : Scope} {f c' : Addr} {pm ctv : Value} {ek : E} {ds : List D} {xs : List V} {whole : Rs (List Int)} (ok : COk c X) (room : Room (k + 3) X.A) (S : NScope N' [one] fr scope) (hN : N'.length = js.length + 1)
    (fre : ∀ y ∈ scope.names, y.2 = .free → X.env.scope.names.lookup y.1 = some .cell ∨ X.env.scope.names.lookup y.1 = some .free) (hfr : ∀ y ∈ fr, (y, NameKind.free) ∈ scope.names) (hjs : js.map (fun j => X.N[j]?) = fr.map some)
    (bind : ∀ (cl : List (Str × Addr)) (pm cv ctv v : Value), bindArgs (PySem.W.kla_fn "<lambda>" (lamQ X) params body scope cl pm cv ctv) ⟨[v], []⟩ = pure [(one, v)])
    (hb : ∀ (s : Shared) (H : Hp), COk c.hush (lamX X N' params scope f c' s H) → Room k (lamX X N' params scope f c' s H).A → PE (lamX X N' params scope f c' s H) body (tE c.hush ek))
    (a : At c.K io1 R Bs base ρ M1 σ H1) (r : RpL c.K io1 R H1 ds xs) (nb : whole ≠ .bad) :
    KeyTurn X ((f, lamO X params body scope pm c' ctv) :: pins) σ (.ref f) xs (LamJ c X R Bs io1 H1 c' (fun d M => ev c.F base ek (some d :: js.map (slotD ρ)) M) ds whole) := by
  intro acc x v H s hx rx ⟨io', M', ex, st, hc, ew⟩ I
  obtain ⟨ho, hf, _, _, _⟩ := I.pin _ (List.mem_append_right _ List.mem_cons_self)
  have hl : acc.length < ds.length := by rw [r.length]; exact (List.getElem?_eq_some_iff.mp hx).1
  obtain ⟨x', hx', rd⟩ := r.get (List.getElem?_eq_getElem hl)
  rw [hx] at hx'; cases hx'
  rw [List.drop_eq_getElem_cons hl] at ew
  unfold keysL at ew
  have caps : Caps X (cloFrom X.env.cells scope.names []) fr js := .made I.ok fre hfr hjs
  have cells := cells_of I caps
  have hin : X.A.in1.in1.handled = none := I.ok.hd ok.calm
  have rm1 : Room k (X.A.in1.in1.deeper (envF (lamF X params scope c') f s.heap.objs.size)) := ((room.in1).in1).deeper _
  have e0 := I.env0.in1.in1
  have okY : COk c.hush (lamX X N' params scope f c' s H) := ⟨ok.K, S.nd, rfl, takes_of rfl rfl rfl rfl, passes_of rfl, by have := rm1.un; show (X.A.in1.in1.deeper _).units + 200 < cLine; omega, ok.gd⟩
  split at ew
  · rename_i n M2 es
    have run : codeAny (model X.prog X.w) X.A.in1.in1 (.call (.ref f) ⟨[v], []⟩) (CR (CX X.prog X.w) X.stack X.prog X.w H s (fun u H2 => u = .int n ∧ LamJ c X R Bs io1 H1 c' (fun d M => ev c.F base ek (some d :: js.map (slotD ρ)) M) ds whole (acc ++ [n]) H2) fun _ _ _ => False) s := by
      refine PySem.W.kla_callFunE (Room.depth (room.in1).in1) ho rfl S.co S.gen rfl (codeO_at I.hok hc) ?_
      rw [bind]
      refine wpAny_pure (wpAny_newFunctionEnv S.nocell (fun y hy => ?_) (fun h' hns hsb => ⟨I.nolimit.fresh _ hsb, ?_⟩) S.kind)
      · obtain rfl : y = (one, v) := List.mem_singleton.mp hy
        exact S.par one List.mem_cons_self
      show codeAny _ _ (.expr body (envF (lamF X params scope c') f s.heap.objs.size)) _ _
      have kp : ∀ b o, s.heap.get? b = some o → h'.get? b = some o := fun b o e => hsb.extBut b o (Nat.ne_of_lt (Heap.lt_size e)) (Heap.get?_push_of_some _ e)
      have J : Inv (lamX X N' params scope f c' s H) [] (startF N' [x] (js.map (slotAt σ))) H { s with heap := h', toks := s.toks + 1 } := inv_startN (us := [v]) S hin e0 rfl (.cons rx .nil) cells hns kp
      have aY : At c.hush.K io' R Bs base (some ds[acc.length] :: js.map (slotD ρ)) M' (startF N' [x] (js.map (slotAt σ))) H := ⟨st, lam_frame (a.fr.tr ex.tr) (rd.tr ex.tr) hN, a.bs⟩
      refine PySem.W.kla_codeExpr (wpAny_mono ((hb s H okY rm1).run [] _ _ H (fun u H2 => u = .int n ∧ LamJ c X R Bs io1 H1 c' (fun d M => ev c.F base ek (some d :: js.map (slotD ρ)) M) ds whole (acc ++ [n]) H2) J ⟨base, io', R, Bs, _, M', aY, ?_⟩) (fun u s2 z => ?_) fun e s2 z => z)
      · show Post _ _ _ _ _ _ _ _ _ (ev c.F base ek _ M')
        rw [es]
        rintro io2 H2 b x2 ⟨st2, rb⟩
        cases rb
        refine ⟨rfl, io2, M2, ex.trans x2, st2, x2.keep c' _ (st8_out st hc codeO_nb) (fun ps => codeO_ne ps) hc, ?_⟩
        rw [List.length_append]; exact ew
      · obtain ⟨w, H2, J2, rw', z⟩ := z
        exact ⟨w, H2, J2.os, J2.bare, J2.base, J2.hok, rw', z⟩
    refine wpAny_call (codeAny_mono run fun o s' z => ?_)
    match o, z with
    | .error e, z => obtain ⟨_, _, _, _, _, _, _, _, _, _, _, _, z⟩ := z; exact z.elim
    | .ok .next, z => exact z.elim
    | .ok .brk, z => exact z.elim
    | .ok .cont, z => exact z.elim
    | .ok (.ret u), z =>
      obtain ⟨w, H2, os, bare, un, hok, rr, rfl, z⟩ := z
      obtain ⟨t, rfl⟩ := rr
      exact ⟨H2, n, t, rfl, I.call' (ch := []) os un hok bare (fun b z => (nomatch z)), un, z⟩
  · exact absurd ew.symm nb
end
end Net
end

section
set_option Elab.async false
set_option linter.all false
set_option maxRecDepth 100000
/-! N33: sorted(xs, key=lambda one: e), as an expression. -/
namespace Net
open PySem PySem.Spec PyProof.Rows L2 LamX NdefX
variable [TabL]
theorem LamAt.ext' {X : Cx} {T : List (Addr × Str)} {H H1 : Hp} {h : Heap} {f c' : Addr} {params : Arguments} {body : Expr} {scope : Scope} {pm ctv : Value} (L : LamAt X T H H1 h f c' params body scope pm ctv) {io : List Addr} : Ext io H io H1 :=
  ⟨List.prefix_rfl, fun a o _ nt e => L.ext a o e nt, fun a o _ e => L.dom a o e, fun _ h => .inl h⟩
theorem St8.lam {K : PySem.W.Frag} {io R : List Addr} {Bs : List Nat} {M : Mem} {H H1 : Hp} (s : St8 K io R Bs M H) (x : Ext io H io H1) (e : ∀ a o, NoTb o → H a = some o → H1 a = some o) (t : Tabs TabL.T H1) : St8 K io R Bs M H1 := by
  refine ⟨s.len, s.nd, fun n c a e1 e2 => ?_, fun a ha => ⟨(s.rs a ha).1, ?_⟩, s.bl, s.old, t⟩
  · have q := (s.cell n c a e1 e2).tr (Ext.tr x)
    obtain ⟨o, eo, b⟩ := (s.cell n c a e1 e2).boxy
    rw [eo] at q
    rw [e a o b.nt eo]; exact q
  · obtain ⟨o, eo, b⟩ := (s.rs a ha).2
    exact ⟨o, e a o b.nt eo, b⟩
theorem Inv.lamPin {X : Cx} {pins : List (Addr × Obj)} {σ : L2.St} {H H0 : Hp} {s : Shared} {T : List (Addr × Str)} {f c' : Addr} {params : Arguments} {body : Expr} {scope : Scope} {pm ctv : Value} (I : Inv X pins σ H s) (L : LamAt X T H0 H s.heap f c' params body scope pm ctv) :
    Inv X ((f, lamO X params body scope pm c' ctv) :: pins) σ H s := I.pins_of fun p hp => by
  rcases List.mem_cons.mp hp with rfl | hp
  · refine ⟨L.obj, L.nf, fun z => ?_, fun z => L.fr ?_, fun v z => (nomatch z)⟩
    · obtain ⟨m, ⟨o, es, ep, ho, hd, _⟩, _⟩ := I.loc
      dsimp only at z
      have e := L.obj
      rw [z, ho] at e; cases e; cases hd
    · rcases I.ok.stk with e | ⟨e, _⟩
      · rw [e]; exact z
      · rw [e]
        unfold frs
        rw [List.filterMap_cons]
        split
        · exact z
        · exact List.mem_cons_of_mem _ z
  · exact I.pin p (List.mem_append_right _ hp)
theorem RpL.zip_mem {K : PySem.W.Frag} {io R : List Addr} {H : Hp} : ∀ {ds : List D} {xs : List V}, RpL K io R H ds xs → ∀ {p : D × V}, p ∈ ds.zip xs → Rp K io R H p.1 p.2
  | _, _, .cons r rr, p, hp => by
    rw [List.zip_cons_cons] at hp
    rcases List.mem_cons.mp hp with rfl | hp
    · exact r
    · exact RpL.zip_mem rr hp
theorem sortBy_rp {K : PySem.W.Frag} {io R : List Addr} {H : Hp} {acc : List Int} {ds : List D} {xs : List V} (r : RpL K io R H ds xs) : RpL K io R H (sortBy acc ds) (SrtBy acc xs) := by
  let t := (acc.zip (ds.zip xs)).mergeSort fun p q : Int × (D × V) => decide (p.1 ≤ q.1)
  have hl := r.length
  have z1 : (acc.zip (ds.zip xs)).map (fun p : Int × (D × V) => (p.1, p.2.1)) = acc.zip ds := by
    have : ∀ (acc : List Int) (ds : List D) (xs : List V), ds.length = xs.length → (acc.zip (ds.zip xs)).map (fun p : Int × (D × V) => (p.1, p.2.1)) = acc.zip ds := by
      intro acc
      induction acc with
      | nil => intros; rfl
      | cons n acc ih =>
        intro ds xs h
        cases ds with
        | nil => rfl
        | cons d ds => cases xs with
          | nil => cases h
          | cons x xs => simp only [List.zip_cons_cons, List.map_cons]; rw [ih ds xs (by simpa using h)]
    exact this acc ds xs hl
  have z2 : (acc.zip (ds.zip xs)).map (fun p : Int × (D × V) => (p.1, p.2.2)) = acc.zip xs := by
    have : ∀ (acc : List Int) (ds : List D) (xs : List V), ds.length = xs.length → (acc.zip (ds.zip xs)).map (fun p : Int × (D × V) => (p.1, p.2.2)) = acc.zip xs := by
      intro acc
      induction acc with
      | nil => intros; rfl
      | cons n acc ih =>
        intro ds xs h
        cases ds with
        | nil => cases xs with
          | nil => rfl
          | cons x xs => cases h
        | cons d ds => cases xs with
          | nil => cases h
          | cons x xs => simp only [List.zip_cons_cons, List.map_cons]; rw [ih ds xs (by simpa using h)]
    exact this acc ds xs hl
  have e1 : sortBy acc ds = t.map (fun p => p.2.1) := by
    unfold sortBy
    rw [← z1, ← List.map_mergeSort (f := fun p : Int × (D × V) => (p.1, p.2.1)) (r := fun p q => decide (p.1 ≤ q.1)) (fun a _ b _ => rfl), List.map_map]; rfl
  have e2 : SrtBy acc xs = t.map (fun p => p.2.2) := by
    unfold SrtBy
    rw [← z2, ← List.map_mergeSort (f := fun p : Int × (D × V) => (p.1, p.2.2)) (r := fun p q => decide (p.1 ≤ q.1)) (fun a _ b _ => rfl), List.map_map]; rfl
  rw [e1, e2]
  have key : ∀ p ∈ t, Rp K io R H p.2.1 p.2.2 := fun p hp => by
    have hp := List.mem_mergeSort.mp hp
    exact r.zip_mem (List.of_mem_zip (a := p.1) (b := p.2) hp).2
  clear_value t
  clear e1 e2
  induction t with
  | nil => exact .nil
  | cons p t ih => exact .cons (key p List.mem_cons_self) (ih fun q hq => key q (List.mem_cons_of_mem _ hq))
section
variable {c : Ct} {X : Cx} {a : Expr} {ea ek : E} {k : Nat} {p pos lpos kpos : Pos}
theorem sc_sortedBy {N' fr : List Str} {js : List Nat} {one : Str} {params : Arguments} {body : Expr} {scope : Scope} {cc P : Addr} (ok : COk c X) (hg : Gl X "sorted") (hm : X.mg "sorted" = none) (ha : PE X a (tE c ea)) (hs : starEach (a :: []) X.env = (false, eval a X.env) :: starEach [] X.env)
    (room : Room (k + 3) X.A) (B : TabB X.base X.mg cc P) (ec : X.env.code = .ref cc) (inT : (P, lamQ X) ∈ TabL.T) (only : ∀ z ∈ TabL.T, z.1 = P → z.2 = lamQ X) (nd : defaultsOf params X.env = ([], [])) (S : NScope N' [one] fr scope) (hN : N'.length = js.length + 1)
    (fre : ∀ y ∈ scope.names, y.2 = .free → X.env.scope.names.lookup y.1 = some .cell ∨ X.env.scope.names.lookup y.1 = some .free) (hfr : ∀ y ∈ fr, (y, NameKind.free) ∈ scope.names) (hjs : js.map (fun j => X.N[j]?) = fr.map some)
    (bind : ∀ (q : Str) (cl : List (Str × Addr)) (pm cv ctv v : Value), bindArgs (PySem.W.kla_fn "<lambda>" q params body scope cl pm cv ctv) ⟨[v], []⟩ = pure [(one, v)])
    (hb : ∀ (f c' : Addr) (s : Shared) (H : Hp), COk c.hush (lamX X N' params scope f c' s H) → Room k (lamX X N' params scope f c' s H).A → PE (lamX X N' params scope f c' s H) body (tE c.hush ek)) :
    PE X (.Call (.Name "sorted" p) [a] [⟨some "key", .Lambda params body scope lpos, kpos⟩] pos) (tCe c (.sortedBy ea js ek)) := by
  refine ⟨fun pins s σ H Q I ⟨base, io, R, Bs, ρ, M, a0, h⟩ => ?_⟩
  unfold evC at h
  refine wpAny_Call_Name_kw (ld_blt I hg hm (by rfl) (PyProof.Rows.callWith_kw (thn ((pa_cons ha pa_nil hs).run pos pins s σ H (fun vs H1 => ∃ v io1 M1 d, vs = [v] ∧ Ext io H io1 H1 ∧ At c.K io1 R Bs base ρ M1 σ H1 ∧ Rp c.K io1 R H1 d v ∧
    Post c.cl c.K R Bs io1 H1 (rpC c.K R Bs H) (fun k dx H => c.W k dx σ H) Q (match d.seq M1 with
      | some ds => (keysL (fun d M => ev c.F base ek (some d :: js.map (slotD ρ)) M) ds [] M1).bind fun ns M => .ok (.lst (sortBy ns ds)) M
      | none => .bad)) I ?_) fun us s1 ⟨vs, H1, I1, rv, v, io1, M1, d, ev, x1, a1, r1, h1⟩ => ?_) (by rw [hs]; rfl) (by rw [hs]; rfl) (by rfl) (by rfl)) (by decide) (by decide))
  · exact tE_bind a0 h fun v H1 io1 M1 d x a1 r1 h1 => ⟨v, io1, M1, d, rfl, x, a1, r1, h1⟩
  · subst ev
    obtain ⟨u, rfl, ru⟩ := vals1 rv
    cases es : d.seq M1 with
    | none => rw [es] at h1; exact h1.elim
    | some ds =>
      rw [es] at h1
      dsimp only at h1
      obtain ⟨l, xs, rfl, hl, rl⟩ := seq_rp a1.st r1 es
      obtain rfl : u = Value.ref l := ru
      show wpAny _ _ (evalAll [do let v ← eval (.Lambda params body scope lpos) X.env; standAt pos; pure v]) _ _ s1
      refine wpAny_evalAll_cons (wpAny_bind (lam_make3 I1 B ec inT only a1.st.tabs nd (fun y hy e => (fre y hy e).elim (fun z => I1.ok.has _ (.inl z)) fun z => I1.ok.has _ (.inr z)) fun f c' pm ctv H2 s2 I2 L => wpAny_bind (wpAny_standAt (wpAny_pure (wpAny_evalAll_nil ?_)))))
      have x2 : Ext io1 H1 io1 H2 := L.ext'
      have st2 : St8 c.K io1 R Bs M1 H2 := a1.st.lam x2 (fun a o nt e => L.ext a o e nt) L.tabs
      have a2 := a1.to x2 st2
      have rl2 := rl.tr (R := R) x2.tr
      have nb : keysL (fun d M => Net.ev c.F base ek (some d :: js.map (slotD ρ)) M) ds [] M1 ≠ .bad := fun z => by rw [z] at h1; exact h1
      have T := lam_turn (pins := pins) (f := f) (pm := pm) (ctv := ctv) ok room S hN fre hfr hjs (bind (lamQ X)) (hb f c') a2 rl2 nb
      refine thn (key_sorted T (SqL.of (L.ext _ _ hl noLst)) (by have := ok.un; omega) (Inv.lamPin I2 L) ⟨io1, M1, .refl, st2, L.code, rfl⟩ (Q := Q) fun acc H' q hacc jj nq nq' => ?_) fun u s3 ⟨w, H3, I3, r3, q3⟩ => ⟨w, H3, I3.pins_of fun z hz => I3.pin z (List.mem_append_right _ (List.mem_cons_of_mem _ hz)), r3, q3⟩
      obtain ⟨io', M', ex, st, _, ew⟩ := jj
      have hd : ds.drop acc.length = [] := List.drop_eq_nil_of_le (by rw [rl.length]; omega)
      rw [hd, show keysL (fun d M => Net.ev c.F base ek (some d :: js.map (slotD ρ)) M) [] acc M' = .ok acc M' from rfl] at ew
      rw [← ew] at h1
      have xx : Ext io H io' H' := (x1.trans x2).trans ex
      exact h1 io' _ _ ((x2.trans ex).trans (.upd nq')) (newLstC st nq' (xx.none st nq') (sortBy_rp (rl2.tr ex.tr)))
end
end Net
end

section
set_option Elab.async false
set_option linter.all false
set_option maxRecDepth 100000
/-! N34: what the shape of a piece of syntax tells. -/
namespace Net
open PySem PySem.Spec PyProof.Rows L2 LamX NdefX
def xStar : Expr → Bool
  | .Starred _ _ => true
  | _ => false
def xSet : Expr → Bool
  | .Set _ _ _ => true
  | _ => false
def xSlice : Expr → Bool
  | .Slice _ _ none _ => true
  | _ => false
/-- tested by parts -/
def xPart : Expr → Bool
  | .UnaryOp .Not _ _ => true
  | .BoolOp _ _ _ => true
  | .IfExp _ _ _ _ => true
  | .Compare _ _ _ _ => true
  | _ => false
def xComp : Expr → Bool
  | .ListComp _ _ _ _ => true
  | .SetComp _ _ _ _ => true
  | .DictComp _ _ _ _ _ => true
  | _ => false
def xTup : Expr → Bool
  | .Tuple _ _ _ => true
  | _ => false
/-- a call of a name without arguments -/
def xCall0 : Expr → Bool
  | .Call (.Name _ _) [] [] _ => true
  | _ => false
theorem star_ok {e : Expr} {es : List Expr} {env : Env} (h : xStar e = false) : starEach (e :: es) env = (false, eval e env) :: starEach es env := by
  cases e <;> first | rfl | cases h
theorem marks_ok {op : CmpOp} {e : Expr} (h : xSet e = false) : behindInMarks op e = false := by
  cases e <;> first | rfl | cases h
theorem marks2_ok {o p : CmpOp} {a b : Expr} (h : xSet b = false) : lastMarks [o, p] [a, b] = false := marks_ok h
theorem ix_ok {e : Expr} (h : xSlice e = false) : PlainIx e := fun o i => by
  unfold subscripted
  split
  · cases h
  · rename_i z; cases z
  · rfl
theorem aug_ok {i : Expr} (h : xSlice i = false) (ov iv new : Value) : augStore i ov iv new = (do holding [new, ov, iv] (setItem ov iv new); release [new, ov, iv] []; pure .next) := by
  unfold augStore
  split
  · cases h
  · rfl
theorem true_ok {e : Expr} {env : Env} (h : xPart e = false) (whole : Sem Value) : isTrue e env whole = (do let v ← whole; standAt e.pos; holding [v] (truthy v)) := by
  cases e <;> first | rfl | (cases h; done) | skip
  case UnaryOp op x p => cases op <;> first | rfl | cases h
theorem swap_ok {e : Expr} {t : Option Expr} {line : Nat} {env : Env} (h : xComp e = false) : swapsWith e t line env = pure false := by
  cases e <;> first | rfl | cases h
theorem set_ok {e : Expr} {env : Env} (h : xSet e = false) (x : Value) : foldedSetIterable e env x = pure x := by
  cases e <;> first | rfl | cases h
theorem base_ok {o : Expr} {m : Str} {env : Env} {whole : Sem Value} (h : xCall0 o = false) : attributeBase o m env whole = whole := by
  unfold attributeBase
  split
  · cases h
  · rfl
theorem stores_ok {t v : Expr} {env : Env} (h : xTup v = false) : swappedStores [t] v env = pure none := by
  cases v <;> first | (cases h; done) | (cases t <;> rfl)
theorem sole_ok {t e : Expr} {line : Nat} {env : Env} (h : xComp e = false) : swapsWithSole [t] e line env = pure false := swap_ok h
end Net
end

section
set_option Elab.async false
set_option linter.all false
set_option maxRecDepth 100000
/-! N35: does a small program mirror a piece of syntax? Expressions. -/
namespace Net
open PySem PySem.Spec PyProof.Rows L2 LamX NdefX
/-- what is known of the names where a piece of syntax stands -/
structure Cg where
  N : List Str
  sc : Scope
  fn : Str → Bool
  fs : Nat → Option (Str × Nat)
  free : List Str
  lam : Bool
def Cg.loc (g : Cg) (x : Str) : Bool := decide (g.sc.names.lookup x = some .local) || (decide (g.sc.names.lookup x = some .cell))
def Cg.vis (g : Cg) (x : Str) : Bool := g.loc x || decide (g.sc.names.lookup x = some .free)
def Cg.put (g : Cg) (x : Str) : Bool := g.loc x && (g.fn x || decide (g.sc.names.lookup x = some .local))
def Cg.glob (g : Cg) (x : Str) : Bool := decide (g.sc.names.lookup x = some .globalImplicit) && !(x == ("__debug__" : Str))
def Cg.blt (g : Cg) (x : Str) : Bool := g.glob x && decide (x ∈ g.free)
/-- a comprehension's block -/
def Cg.blk (g : Cg) (scope : Scope) : Cg := { g with sc := relS scope g.sc, fn := fun x => scope.names.lookup x == some .cell, lam := false }
def T.slots' : T → List Nat := T.slots
mutual
def chkG (g : Cg) : T → Expr → Bool
  | .nm i, x => match x with
    | .Name n _ => decide (g.N[i]? = some n) && g.put n
    | _ => false
  | .tp ts, x => match x with
    | .Tuple es _ _ => chkGs g ts es
    | _ => false
def chkGs (g : Cg) : List T → List Expr → Bool
  | [], es => match es with
    | [] => true
    | _ => false
  | t :: ts, es => match es with
    | e :: r => !xStar e && chkG g t e && chkGs g ts r
    | _ => false
end
/-- a comprehension's own names and their slots -/
def ownOf (N : List Str) (scope : Scope) : List (Str × Nat) := (scope.names.filter fun y => decide (y.2 = .local) || decide (y.2 = .cell)).map fun y => (y.1, N.idxOf y.1)
def lamArgs (params : Arguments) (one : Str) : Bool := match params with
  | ⟨[], [⟨a, none, _⟩], none, [], [], none, []⟩ => decide (a = one)
  | _ => false
/-- a method's call -/
def mOk (o : Expr) (apos cpos : Pos) : Bool := !xCall0 o && (apos.endLine == cpos.line)
def nmIs (x y : Str) : Bool := decide (x = y)
mutual
/-- t: as a test -/
def chk (g : Cg) (t : Bool) : E → Expr → Bool
  | .var i, x => match x with
    | .Name n _ => decide (g.N[i]? = some n) && g.vis n && !(n == ("__debug__" : Str)) && !(n == ("__classdict__" : Str))
    | _ => false
  | .non, x => match x with
    | .Constant .none _ _ => true
    | _ => false
  | .bl b, x => match x with
    | .Constant (.bool k) _ _ => decide (k = b)
    | _ => false
  | .int i, x => match x with
    | .Constant (.int k) _ _ => decide (k = i)
    | _ => false
  | .str z, x => match x with
    | .Constant (.str k) _ _ => decide (k = z)
    | _ => false
  | .tup ees, x => match x with
    | .Tuple es _ _ => chkA g ees es
    | _ => false
  | .new c, x => !t && chkC g c x
  | .newM c, x => !t && chkC g c x
  | .bin op ea eb, x => match x with
    | .BinOp a o b _ => decide (o = op.py) && chk g false ea a && chk g false eb b
    | _ => false
  | .neg ea, x => match x with
    | .UnaryOp .USub a _ => chk g false ea a
    | _ => false
  | .not ea, x => match x with
    | .UnaryOp .Not a _ => chk g t ea a
    | _ => false
  | .and es, x => match x with
    | .BoolOp .And vs _ => chkV g t es vs
    | _ => false
  | .or es, x => match x with
    | .BoolOp .Or vs _ => chkV g t es vs
    | _ => false
  | .cmp op ea eb, x => match x with
    | .Compare a [o] [b] _ => decide (o = op.py) && chk g false ea a && chk g false eb b && !xSet b
    | _ => false
  | .cmp2 op op2 ea eb ec, x => match x with
    | .Compare a [o, o2] [b, d] _ => decide (o = op.py) && decide (o2 = op2.py) && chk g false ea a && chk g false eb b && chk g false ec d && !xSet d
    | _ => false
  | .ite ec ea eb, x => match x with
    | .IfExp d a b _ => !t && chk g true ec d && chk g false ea a && chk g false eb b
    | _ => false
  | .ix ea ei, x => match x with
    | .Subscript a i _ => chk g false ea a && chk g false ei i && !xSlice i
    | _ => false
  | .sl ea lo hi, x => match x with
    | .Subscript a (.Slice l h none _) _ => chk g false ea a && chkP g lo l && chkP g hi h
    | _ => false
  | .call f ees, x => match x with
    | .Call (.Name n _) es [] _ => (match g.fs f with
      | some (m, k) => nmIs m n && decide (es.length = k)
      | none => false) && g.glob n && chkA g ees es && es.all fun e => !xStar e
    | _ => false
  | .b1 f ea, x => match x with
    | .Call (.Name n _) [a] [] _ => nmIs n f.nm && g.blt n && chk g false ea a && !xStar a
    | _ => false
  | .index eo ea, x => match x with
    | .Call (.Attribute o m ap) [a] [] cp => nmIs m "index" && mOk o ap cp && chk g false eo o && chk g false ea a && !xStar a
    | _ => false
  | .get eo ea, x => match x with
    | .Call (.Attribute o m ap) [a] [] cp => nmIs m "get" && mOk o ap cp && chk g false eo o && chk g false ea a && !xStar a
    | _ => false
  | .append eo ea, x => match x with
    | .Call (.Attribute o m ap) [a] [] cp => nmIs m "append" && mOk o ap cp && chk g false eo o && chk g false ea a && !xStar a
    | _ => false
  | .extend eo ea, x => match x with
    | .Call (.Attribute o m ap) [a] [] cp => nmIs m "extend" && mOk o ap cp && chk g false eo o && chk g false ea a && !xStar a
    | _ => false
  | .setdef eo ea eb, x => match x with
    | .Call (.Attribute o m ap) [a, b] [] cp => nmIs m "setdefault" && mOk o ap cp && chk g false eo o && chk g false ea a && chk g false eb b && !xStar a && !xStar b
    | _ => false
  | .insert eo ea eb, x => match x with
    | .Call (.Attribute o m ap) [a, b] [] cp => nmIs m "insert" && mOk o ap cp && chk g false eo o && chk g false ea a && chk g false eb b && !xStar a && !xStar b
    | _ => false
def chkA (g : Cg) : Es → List Expr → Bool
  | .nil, xs => match xs with
    | [] => true
    | _ => false
  | .cons e es, xs => match xs with
    | x :: r => !xStar x && chk g false e x && chkA g es r
    | _ => false
  | .star e es, xs => match xs with
    | .Starred x _ :: r => chk g false e x && chkA g es r
    | _ => false
def chkV (g : Cg) (t : Bool) : Es → List Expr → Bool
  | .cons e .nil, xs => match xs with
    | [x] => chk g t e x
    | _ => false
  | .cons e es, xs => match xs with
    | x :: r => chk g t e x && chkV g t es r
    | _ => false
  | _, _ => false
def chkC (g : Cg) : C → Expr → Bool
  | .lst es, x => match x with
    | .List xs _ => chkA g es xs
    | _ => false
  | .dic0, x => match x with
    | .Dict [] [] _ => true
    | _ => false
  | .comp tt it ec ee own, x => match x with
    | .ListComp elt [⟨tg, iter, ifs, 0⟩] scope _ => blkC g.N g.sc scope (ownOf g.N scope) && decide (own = (ownOf g.N scope).map (·.2)) && tt.slots.all (fun i => decide (i ∈ own)) && chkI g it tg iter && chkG (g.blk scope) tt tg && (match ifs with
        | [] => (match ec with | .bl true => true | _ => false)
        | [y] => chk (g.blk scope) true ec y
        | _ => false) && chk (g.blk scope) false ee elt && !xSet iter
    | _ => false
  | .comp2 tt it ec t2 it2 ec2 ee own own2, x => match x with
    | .ListComp elt [⟨tg, iter, ifs, 0⟩, ⟨tg2, iter2, ifs2, 0⟩] scope _ => blkC g.N g.sc scope (ownOf g.N scope) && decide (own = (ownOf g.N scope).map (·.2)) && own2.all (fun i => decide (i ∈ own)) && tt.slots.all (fun i => decide (i ∈ own)) && t2.slots.all (fun i => decide (i ∈ own2)) && chkI g it tg iter && chkG (g.blk scope) tt tg && (match ifs with
        | [] => (match ec with | .bl true => true | _ => false)
        | [y] => chk (g.blk scope) true ec y
        | _ => false) && chkI (g.blk scope) it2 tg2 iter2 && chkG (g.blk scope) t2 tg2 && (match ifs2 with
        | [] => (match ec2 with | .bl true => true | _ => false)
        | [y] => chk (g.blk scope) true ec2 y
        | _ => false) && chk (g.blk scope) false ee elt && !xSet iter && !xSet iter2
    | _ => false
  | .cat ea eb, x => match x with
    | .BinOp a .Add b _ => chk g false ea a && chk g false eb b
    | _ => false
  | .sl ea lo hi, x => match x with
    | .Subscript a (.Slice l h none _) _ => chk g false ea a && chkP g lo l && chkP g hi h
    | _ => false
  | .list it, x => match it with
    | .seq ea => (match x with
      | .Call (.Name n _) [a] [] _ => nmIs n "list" && g.blt n && chk g false ea a && !xStar a
      | _ => false)
    | .rng1 ea => (match x with
      | .Call (.Name n _) [.Call (.Name m _) [a] [] _] [] _ => nmIs n "list" && g.blt n && nmIs m "range" && g.blt m && chk g false ea a && !xStar a
      | _ => false)
    | .rng2 ea eb => (match x with
      | .Call (.Name n _) [.Call (.Name m _) [a, b] [] _] [] _ => nmIs n "list" && g.blt n && nmIs m "range" && g.blt m && chk g false ea a && !xStar a && chk g false eb b && !xStar b
      | _ => false)
    | _ => false
  | .sorted ea, x => match x with
    | .Call (.Name n _) [a] [] _ => nmIs n "sorted" && g.blt n && chk g false ea a && !xStar a
    | _ => false
  | .sortedSet ea, x => match x with
    | .Call (.Name n _) [.Call (.Name m _) [a] [] _] [] _ => nmIs n "sorted" && g.blt n && nmIs m "set" && g.blt m && chk g false ea a && !xStar a
    | _ => false
  | .sortedBy ea js ek, x => match x with
    | .Call (.Name n _) [a] [⟨some kw, .Lambda params body scope _, _⟩] _ => g.lam && nmIs n "sorted" && nmIs kw "key" && g.blt n && chk g false ea a && !xStar a && (match params with
      | ⟨[], [⟨one, none, _⟩], none, [], [], none, []⟩ =>
        let fr := (scope.names.filter fun y => decide (y.2 = .free)).map (·.1)
        nscB (one :: fr) [one] fr scope && decide (js.length = fr.length) && ndefB g.sc scope fr && decide (js.map (fun j => g.N[j]?) = fr.map some) &&
          chk { g with N := one :: fr, sc := scope, fn := fun _ => false, lam := false } false ek body
      | _ => false)
    | _ => false
  | .dict it, x => match it with
    | .seq ea => (match x with
      | .Call (.Name n _) [a] [] _ => nmIs n "dict" && g.blt n && chk g false ea a && !xStar a
      | _ => false)
    | .zip ea eb => (match x with
      | .Call (.Name n _) [.Call (.Name m _) [a, b] [] _] [] _ => nmIs n "dict" && g.blt n && nmIs m "zip" && g.blt m && chk g false ea a && !xStar a && chk g false eb b && !xStar b
      | .Call (.Name n _) [.Call (.Name l _) [.Call (.Name m _) [a, b] [] _] [] _] [] _ => nmIs n "dict" && g.blt n && nmIs l "list" && g.blt l && nmIs m "zip" && g.blt m && chk g false ea a && !xStar a && chk g false eb b && !xStar b
      | _ => false)
    | _ => false
def chkP (g : Cg) : Po → Option Expr → Bool
  | .no, x => match x with
    | none => true
    | _ => false
  | .at e, x => match x with
    | some y => chk g false e y
    | _ => false
def chkI (g : Cg) : I → Expr → Expr → Bool
  | .seq e, _, x => chk g false e x
  | .rng1 ea, _, x => match x with
    | .Call (.Name n _) [a] [] _ => nmIs n "range" && g.blt n && chk g false ea a && !xStar a
    | _ => false
  | .rng2 ea eb, _, x => match x with
    | .Call (.Name n _) [a, b] [] _ => nmIs n "range" && g.blt n && chk g false ea a && !xStar a && chk g false eb b && !xStar b
    | _ => false
  | .enum ea, tg, x => match x with
    | .Call (.Name n _) [a] [] _ => xTup tg && nmIs n "enumerate" && g.blt n && chk g false ea a && !xStar a
    | _ => false
  | .zip ea eb, tg, x => match x with
    | .Call (.Name n _) [a, b] [] _ => xTup tg && nmIs n "zip" && g.blt n && chk g false ea a && !xStar a && chk g false eb b && !xStar b
    | _ => false
end
end Net
end

section
set_option Elab.async false
set_option linter.all false
set_option maxRecDepth 100000
/-! N36: what the checker takes is sound: expressions. -/
namespace Net
open PySem PySem.Spec PyProof.Rows L2 LamX NdefX
variable [TabL]
/-- the context is as g tells; lv: how deep calls may go from here -/
structure Fits (g : Cg) (lv : Nat) (c : Ct) (X : Cx) : Prop where
  ok : COk c X
  N : X.N = g.N
  sc : X.env.scope = g.sc
  fn : ∀ x, g.fn x = true → X.fn x = true
  free : ∀ x ∈ g.free, X.mg x = none
  room : Room (4 * lv) X.A
  fs : ∀ f x n, g.fs f = some (x, n) → ∃ (fa : Addr) (fd : FuncData) (ps : List Str), FnG X.prog X.w X.K X.mg X.base lv fa fd ps (spF c.K c.cl (c.F f)) ∧ X.mg x = some (.ref fa) ∧ PySem.W.keepIn X.K (.ref fa) = true ∧ Binds X.K fd ps [] ∧ ∀ ds M, c.F f ds M ≠ .bad → ds.length = ps.length
  lam : g.lam = true → Room (4 * lv + 3) X.A ∧ ∃ cc P, TabB X.base X.mg cc P ∧ X.env.code = .ref cc ∧ (P, lamQ X) ∈ TabL.T ∧ ∀ z ∈ TabL.T, z.1 = P → z.2 = lamQ X
section
variable {g : Cg} {lv : Nat} {c : Ct} {X : Cx}
theorem Fits.blk (f : Fits g lv c X) (s : Shared) (H : Hp) (scope : Scope) (C : Addr) (cl : List (Str × Addr)) (fp : List Addr) : Fits (g.blk scope) lv c.hush (X.blk s H scope (compEnvC scope cl C X.env) fp) :=
  ⟨f.ok.blk _ _ _ _ _, f.N, by show relabel scope X.env = relS scope g.sc; rw [← f.sc]; rfl, fun x h => h, f.free, f.room, f.fs, fun h => by cases h⟩
theorem Fits.inLam (f : Fits g lv c X) {N' : List Str} {params : Arguments} {scope : Scope} {fa c' : Addr} {s : Shared} {H : Hp} (ok : COk c.hush (lamX X N' params scope fa c' s H)) (room : Room (4 * lv) (lamX X N' params scope fa c' s H).A) :
    Fits { g with N := N', sc := scope, fn := fun _ => false, lam := false } lv c.hush (lamX X N' params scope fa c' s H) :=
  ⟨ok, rfl, rfl, fun x h => (by cases h), f.free, room, f.fs, fun h => by cases h⟩
theorem Fits.gl (f : Fits g lv c X) {x : Str} (h : g.glob x = true) : Gl X x ∧ (x == ("__debug__" : Str)) = false := by
  unfold Cg.glob at h
  simp only [Bool.and_eq_true, decide_eq_true_eq, Bool.not_eq_true'] at h
  exact ⟨by unfold Gl Env.kindOf; rw [f.sc]; exact h.1, h.2⟩
theorem Fits.bl (f : Fits g lv c X) {x : Str} (h : g.blt x = true) : Gl X x ∧ X.mg x = none := by
  unfold Cg.blt at h
  rw [Bool.and_eq_true, decide_eq_true_eq] at h
  exact ⟨(f.gl h.1).1, f.free x h.2⟩
theorem Fits.vi (f : Fits g lv c X) {x : Str} (h : g.vis x = true) : Vis X.env.scope x := by
  unfold Cg.vis Cg.loc at h
  simp only [Bool.or_eq_true, decide_eq_true_eq] at h
  unfold Vis
  rw [f.sc]
  rcases h with (h | h) | h
  · exact .inl h
  · exact .inr (.inl h)
  · exact .inr (.inr h)
theorem Fits.pu (f : Fits g lv c X) {x : Str} (h : g.put x = true) : L2.Loc X.env.scope x ∧ (X.fn x = true ∨ X.env.scope.names.lookup x = some .local) := by
  unfold Cg.put Cg.loc at h
  simp only [Bool.and_eq_true, Bool.or_eq_true, decide_eq_true_eq] at h
  unfold L2.Loc
  rw [f.sc]
  exact ⟨h.1, h.2.imp (f.fn x) id⟩
theorem and2 {a b : Bool} (h : (a && b) = true) : a = true ∧ b = true := by simpa using h
theorem nmIs_ok {x y : Str} (h : nmIs x y = true) : x = y := of_decide_eq_true h
theorem not_ok {b : Bool} (h : (!b) = true) : b = false := by simpa using h
mutual
theorem chkG_ok (f : Fits g lv c X) : ∀ (t : T) (x : Expr), chkG g t x = true → PG X x (tG c t)
  | .nm i, x, h => by
    unfold chkG at h
    split at h
    · obtain ⟨h1, h2⟩ := and2 h
      obtain ⟨l, p⟩ := f.pu h2
      exact sg_nm f.ok (by rw [f.N]; exact of_decide_eq_true h1) l p
    · cases h
  | .tp ts, x, h => by
    unfold chkG at h
    split at h
    · rename_i es _ _
      obtain ⟨a, b, d⟩ := chkGs_ok f ts es h
      exact sg_tp f.ok a b d
    · cases h
theorem chkGs_ok (f : Fits g lv c X) : ∀ (ts : List T) (xs : List Expr), chkGs g ts xs = true → PGs X xs (tGs c ts) ∧ (assignEach xs X.env).length = ts.length ∧ (assignEach xs X.env).findIdx? (·.1) = none
  | [], xs, h => by
    unfold chkGs at h
    split at h
    · exact ⟨sgs_nil, rfl, rfl⟩
    · cases h
  | t :: ts, xs, h => by
    unfold chkGs at h
    split at h
    · rename_i e r
      obtain ⟨h1, h3⟩ := and2 h
      obtain ⟨h1, h2⟩ := and2 h1
      have ae : assignEach (e :: r) X.env = (false, assign e X.env) :: assignEach r X.env := by
        have := not_ok h1
        cases e <;> first | rfl | cases this
      obtain ⟨a, b, d⟩ := chkGs_ok f ts r h3
      refine ⟨sgs_cons (chkG_ok f t e h2) a (by rw [ae]; rfl), by rw [ae, List.length_cons, List.length_cons, b], by rw [ae, List.findIdx?_cons]; simp [d]⟩
    · cases h
end
end
end Net
end

section
set_option Elab.async false
set_option linter.all false
set_option maxRecDepth 100000
set_option maxHeartbeats 4000000
/-! N37: what the checker takes is sound: expressions. -/
namespace Net
open PySem PySem.Spec PyProof.Rows L2 LamX NdefX
variable [TabL]
theorem both {g : Cg} {c : Ct} {X : Cx} {x : Expr} {e : E} (key : ∀ t, chk g t e x = true → PE X x (tE c e) ∧ xPart x = false) : (chk g false e x = true → PE X x (tE c e)) ∧ (chk g true e x = true → PT X x (tT c e)) :=
  ⟨fun h => (key _ h).1, fun h => st_val (key _ h).1 fun w => true_ok (key _ h).2 w⟩
theorem splA {X : Cx} {a : Expr} {es : List Expr} (h : (!xStar a) = true) : starEach (a :: es) X.env = (false, eval a X.env) :: starEach es X.env := star_ok (not_ok h)
theorem nostar {env : Env} {pos : Pos} : ∀ {es : List Expr}, es.all (fun e => !xStar e) = true → (backTo pos (starEach es env)).any (·.1) = false
  | [], _ => rfl
  | e :: es, h => by
    rw [List.all_cons] at h
    obtain ⟨h1, h2⟩ := and2 h
    rw [star_ok (not_ok h1)]
    exact nostar (es := es) h2
section
variable {X : Cx} {o a b : Expr} {m : Str} {ap cp : Pos}
theorem mo1 (h : mOk o ap cp = true) (s : (!xStar a) = true) : MOk X o m ap a [] cp := by
  obtain ⟨h1, h2⟩ := and2 h
  have st := splA (X := X) (es := []) s
  exact ⟨base_ok (not_ok h1), by rw [st]; rfl, h2, st, rfl⟩
theorem mo2 (h : mOk o ap cp = true) (s : (!xStar a) = true) (s2 : (!xStar b) = true) : MOk X o m ap a [b] cp := by
  obtain ⟨h1, h2⟩ := and2 h
  have st2 := splA (X := X) (es := []) s2
  have st := splA (X := X) (es := [b]) s
  exact ⟨base_ok (not_ok h1), by rw [st, st2]; rfl, h2, st, by rw [st2]; rfl⟩
theorem m1 (h : mOk o ap cp = true) (s : (!xStar a) = true) : M1 X o m ap a cp := by
  obtain ⟨h1, h2⟩ := and2 h
  have st := splA (X := X) (es := []) s
  exact ⟨base_ok (not_ok h1), by rw [st]; rfl, h2, by rw [st]; rfl⟩
theorem m2 (h : mOk o ap cp = true) (s : (!xStar a) = true) (s2 : (!xStar b) = true) : M2 X o m ap a b cp := by
  obtain ⟨h1, h2⟩ := and2 h
  have st2 := splA (X := X) (es := []) s2
  have st := splA (X := X) (es := [b]) s
  exact ⟨base_ok (not_ok h1), by rw [st, st2]; rfl, h2, by rw [st, st2]; rfl⟩
end
theorem bind_one {q : Str} {body : Expr} {scope : Scope} {cl : List (Str × Addr)} {pm cv ctv v : Value} {one : Str} {ap : Pos} : bindArgs (PySem.W.kla_fn "<lambda>" q ⟨[], [⟨one, none, ap⟩], none, [], [], none, []⟩ body scope cl pm cv ctv) ⟨[v], []⟩ = pure [(one, v)] := by
  unfold bindArgs
  simp [seqItems?]
  rfl
mutual
theorem chk_ok {g : Cg} {lv : Nat} {c : Ct} {X : Cx} (f : Fits g lv c X) : ∀ (e : E) (x : Expr), (chk g false e x = true → PE X x (tE c e)) ∧ (chk g true e x = true → PT X x (tT c e))
  | .var i, x => both fun t h => by
    unfold chk at h
    split at h
    · obtain ⟨h, h4⟩ := and2 h
      obtain ⟨h, h3⟩ := and2 h
      obtain ⟨h1, h2⟩ := and2 h
      exact ⟨se_var (by rw [f.N]; exact of_decide_eq_true h1) (f.vi h2) (not_ok h3) (not_ok h4), rfl⟩
    · cases h
  | .non, x => both fun t h => by
    unfold chk at h
    split at h
    · exact ⟨se_non, rfl⟩
    · cases h
  | .bl b, x => both fun t h => by
    unfold chk at h
    split at h
    · obtain rfl := of_decide_eq_true h; exact ⟨se_bl, rfl⟩
    · cases h
  | .int b, x => both fun t h => by
    unfold chk at h
    split at h
    · obtain rfl := of_decide_eq_true h; exact ⟨se_int, rfl⟩
    · cases h
  | .str b, x => both fun t h => by
    unfold chk at h
    split at h
    · obtain rfl := of_decide_eq_true h; exact ⟨se_str, rfl⟩
    · cases h
  | .tup ees, x => both fun t h => by
    unfold chk at h
    split at h
    · exact ⟨se_tup (chkA_ok f ees _ h), rfl⟩
    · cases h
  | .new ce, x => ⟨fun h => (by
    unfold chk at h
    exact se_new (chkC_ok f ce x (and2 h).2)), fun h => (by unfold chk at h; cases (and2 h).1)⟩
  | .newM ce, x => ⟨fun h => (by
    unfold chk at h
    exact se_newM (chkC_ok f ce x (and2 h).2)), fun h => (by unfold chk at h; cases (and2 h).1)⟩
  | .bin op ea eb, x => both fun t h => by
    unfold chk at h
    split at h
    · obtain ⟨h, h3⟩ := and2 h
      obtain ⟨h1, h2⟩ := and2 h
      obtain rfl := of_decide_eq_true h1
      exact ⟨se_bin f.ok op ((chk_ok f ea _).1 h2) ((chk_ok f eb _).1 h3), rfl⟩
    · cases h
  | .neg ea, x => both fun t h => by
    unfold chk at h
    split at h
    · exact ⟨se_neg ((chk_ok f ea _).1 h), rfl⟩
    · cases h
  | .not ea, x => ⟨fun h => (by
    unfold chk at h
    split at h
    · exact se_not ((chk_ok f ea _).1 h)
    · cases h), fun h => (by
    unfold chk at h
    split at h
    · exact st_not ((chk_ok f ea _).2 h)
    · cases h)⟩
  | .and es, x => ⟨fun h => (by
    unfold chk at h
    split at h
    · exact se_and ((chkV_ok f es _ _).1 h).1
    · cases h), fun h => (by
    unfold chk at h
    split at h
    · exact st_and ((chkV_ok f es _ _).2 h).1
    · cases h)⟩
  | .or es, x => ⟨fun h => (by
    unfold chk at h
    split at h
    · exact se_or ((chkV_ok f es _ _).1 h).2
    · cases h), fun h => (by
    unfold chk at h
    split at h
    · exact st_or ((chkV_ok f es _ _).2 h).2
    · cases h)⟩
  | .cmp op ea eb, x => by
    have key : ∀ t, chk g t (.cmp op ea eb) x = true → PE X x (tE c (.cmp op ea eb)) ∧ PT X x (tT c (.cmp op ea eb)) := fun t h => by
      unfold chk at h
      split at h
      · obtain ⟨h, h4⟩ := and2 h
        obtain ⟨h, h3⟩ := and2 h
        obtain ⟨h1, h2⟩ := and2 h
        obtain rfl := of_decide_eq_true h1
        exact ⟨se_cmp f.ok op ((chk_ok f ea _).1 h2) ((chk_ok f eb _).1 h3) (marks_ok (not_ok h4)), st_cmp f.ok op ((chk_ok f ea _).1 h2) ((chk_ok f eb _).1 h3) (marks_ok (not_ok h4))⟩
      · cases h
    exact ⟨fun h => (key _ h).1, fun h => (key _ h).2⟩
  | .cmp2 op op2 ea eb ec, x => by
    have key : ∀ t, chk g t (.cmp2 op op2 ea eb ec) x = true → PE X x (tE c (.cmp2 op op2 ea eb ec)) ∧ PT X x (tT c (.cmp2 op op2 ea eb ec)) := fun t h => by
      unfold chk at h
      split at h
      · obtain ⟨h, h6⟩ := and2 h
        obtain ⟨h, h5⟩ := and2 h
        obtain ⟨h, h4⟩ := and2 h
        obtain ⟨h, h3⟩ := and2 h
        obtain ⟨h1, h2⟩ := and2 h
        obtain rfl := of_decide_eq_true h1
        obtain rfl := of_decide_eq_true h2
        exact ⟨se_cmp2 f.ok op op2 ((chk_ok f ea _).1 h3) ((chk_ok f eb _).1 h4) ((chk_ok f ec _).1 h5) (marks2_ok (not_ok h6)), st_cmp2 f.ok op op2 ((chk_ok f ea _).1 h3) ((chk_ok f eb _).1 h4) ((chk_ok f ec _).1 h5) (marks2_ok (not_ok h6))⟩
      · cases h
    exact ⟨fun h => (key _ h).1, fun h => (key _ h).2⟩
  | .ite ec ea eb, x => ⟨fun h => (by
    unfold chk at h
    split at h
    · obtain ⟨h, h4⟩ := and2 h
      obtain ⟨h, h3⟩ := and2 h
      obtain ⟨h1, h2⟩ := and2 h
      exact se_ite ((chk_ok f ec _).2 h2) ((chk_ok f ea _).1 h3) ((chk_ok f eb _).1 h4)
    · cases h), fun h => (by
    unfold chk at h
    split at h
    · obtain ⟨h, h4⟩ := and2 h
      obtain ⟨h, h3⟩ := and2 h
      obtain ⟨h1, h2⟩ := and2 h
      cases h1
    · cases h)⟩
  | .ix ea ei, x => both fun t h => by
    unfold chk at h
    split at h
    · obtain ⟨h, h3⟩ := and2 h
      obtain ⟨h1, h2⟩ := and2 h
      exact ⟨se_ix f.ok ((chk_ok f ea _).1 h1) ((chk_ok f ei _).1 h2) (ix_ok (not_ok h3)), rfl⟩
    · cases h
  | .sl ea lo hi, x => both fun t h => by
    unfold chk at h
    split at h
    · obtain ⟨h, h3⟩ := and2 h
      obtain ⟨h1, h2⟩ := and2 h
      exact ⟨se_sl f.ok ((chk_ok f ea _).1 h1) (chkP_ok f lo _ h2) (chkP_ok f hi _ h3), rfl⟩
    · cases h
  | .call fi ees, x => both fun t h => by
    unfold chk at h
    split at h
    · rename_i n p es pos
      obtain ⟨h, h4⟩ := and2 h
      obtain ⟨h, h3⟩ := and2 h
      obtain ⟨h1, h2⟩ := and2 h
      split at h1
      · rename_i m k efs
        obtain ⟨h5, h6⟩ := and2 h1
        obtain rfl := nmIs_ok h5
        obtain ⟨fa, fd, ps, F, hm, hk, hb, hn⟩ := f.fs _ _ _ efs
        obtain ⟨gl, db⟩ := f.gl h2
        have pa := chkA_ok f ees es h3
        refine ⟨?_, rfl⟩
        cases es with
        | nil =>
          cases ees with
          | nil => exact se_call0 f.ok F f.room gl hm hk hb hn db
          | cons e r => unfold chkA at h3; cases h3
          | star e r => unfold chkA at h3; cases h3
        | cons e r =>
          rw [List.all_cons] at h4
          exact se_call f.ok F f.room gl hm hk hb hn pa db (splA (and2 h4).1) (nostar (and2 h4).2)
      · cases h1
    · cases h
  | .b1 b ea, x => both fun t h => by
    unfold chk at h
    split at h
    · obtain ⟨h, h4⟩ := and2 h
      obtain ⟨h, h3⟩ := and2 h
      obtain ⟨h1, h2⟩ := and2 h
      obtain rfl := nmIs_ok h1
      obtain ⟨gl, mg⟩ := f.bl h2
      exact ⟨se_b1 f.ok f.ok.gd b rfl gl mg (by cases b <;> rfl) ((chk_ok f ea _).1 h3) (by cases b <;> decide) (by cases b <;> decide) (splA h4), rfl⟩
    · cases h
  | .index eo ea, x => both fun t h => by
    unfold chk at h
    split at h
    · obtain ⟨h, h5⟩ := and2 h
      obtain ⟨h, h4⟩ := and2 h
      obtain ⟨h, h3⟩ := and2 h
      obtain ⟨h1, h2⟩ := and2 h
      obtain rfl := nmIs_ok h1
      exact ⟨se_index f.ok (mo1 h2 h5) ((chk_ok f eo _).1 h3) ((chk_ok f ea _).1 h4), rfl⟩
    · cases h
  | .get eo ea, x => both fun t h => by
    unfold chk at h
    split at h
    · obtain ⟨h, h5⟩ := and2 h
      obtain ⟨h, h4⟩ := and2 h
      obtain ⟨h, h3⟩ := and2 h
      obtain ⟨h1, h2⟩ := and2 h
      obtain rfl := nmIs_ok h1
      exact ⟨se_get f.ok (m1 h2 h5) ((chk_ok f eo _).1 h3) ((chk_ok f ea _).1 h4), rfl⟩
    · cases h
  | .append eo ea, x => both fun t h => by
    unfold chk at h
    split at h
    · obtain ⟨h, h5⟩ := and2 h
      obtain ⟨h, h4⟩ := and2 h
      obtain ⟨h, h3⟩ := and2 h
      obtain ⟨h1, h2⟩ := and2 h
      obtain rfl := nmIs_ok h1
      exact ⟨se_append f.ok (mo1 h2 h5) ((chk_ok f eo _).1 h3) ((chk_ok f ea _).1 h4), rfl⟩
    · cases h
  | .extend eo ea, x => both fun t h => by
    unfold chk at h
    split at h
    · obtain ⟨h, h5⟩ := and2 h
      obtain ⟨h, h4⟩ := and2 h
      obtain ⟨h, h3⟩ := and2 h
      obtain ⟨h1, h2⟩ := and2 h
      obtain rfl := nmIs_ok h1
      exact ⟨se_extend f.ok (mo1 h2 h5) ((chk_ok f eo _).1 h3) ((chk_ok f ea _).1 h4), rfl⟩
    · cases h
  | .setdef eo ea eb, x => both fun t h => by
    unfold chk at h
    split at h
    · obtain ⟨h, h7⟩ := and2 h
      obtain ⟨h, h6⟩ := and2 h
      obtain ⟨h, h5⟩ := and2 h
      obtain ⟨h, h4⟩ := and2 h
      obtain ⟨h, h3⟩ := and2 h
      obtain ⟨h1, h2⟩ := and2 h
      obtain rfl := nmIs_ok h1
      exact ⟨se_setdef f.ok (m2 h2 h6 h7) ((chk_ok f eo _).1 h3) ((chk_ok f ea _).1 h4) ((chk_ok f eb _).1 h5), rfl⟩
    · cases h
  | .insert eo ea eb, x => both fun t h => by
    unfold chk at h
    split at h
    · obtain ⟨h, h7⟩ := and2 h
      obtain ⟨h, h6⟩ := and2 h
      obtain ⟨h, h5⟩ := and2 h
      obtain ⟨h, h4⟩ := and2 h
      obtain ⟨h, h3⟩ := and2 h
      obtain ⟨h1, h2⟩ := and2 h
      obtain rfl := nmIs_ok h1
      exact ⟨se_insert f.ok (mo2 h2 h6 h7) (splA h7) ((chk_ok f eo _).1 h3) ((chk_ok f ea _).1 h4) ((chk_ok f eb _).1 h5), rfl⟩
    · cases h
theorem chkA_ok {g : Cg} {lv : Nat} {c : Ct} {X : Cx} (f : Fits g lv c X) : ∀ (es : Es) (xs : List Expr), chkA g es xs = true → PA X xs (tA c es)
  | .nil, xs, h => by
    unfold chkA at h
    split at h
    · exact sa_nil
    · cases h
  | .cons e es, xs, h => by
    unfold chkA at h
    split at h
    · obtain ⟨h, h3⟩ := and2 h
      obtain ⟨h1, h2⟩ := and2 h
      exact sa_cons ((chk_ok f e _).1 h2) (chkA_ok f es _ h3) (splA h1)
    · cases h
  | .star e es, xs, h => by
    unfold chkA at h
    split at h
    · obtain ⟨h1, h2⟩ := and2 h
      exact sa_star f.ok ((chk_ok f e _).1 h1) (chkA_ok f es _ h2) rfl
    · cases h
theorem chkV_ok {g : Cg} {lv : Nat} {c : Ct} {X : Cx} (f : Fits g lv c X) : ∀ (es : Es) (xs : List Expr) (pos : Pos), (chkV g false es xs = true → PE X (.BoolOp .And xs pos) (tAn c es) ∧ PE X (.BoolOp .Or xs pos) (tOn c es)) ∧ (chkV g true es xs = true → PW X (.BoolOp .And xs pos) (tAnT c es) ∧ PW X (.BoolOp .Or xs pos) (tOnT c es))
  | .nil, xs, pos => ⟨fun h => (by unfold chkV at h; cases h), fun h => (by unfold chkV at h; cases h)⟩
  | .star e es, xs, pos => ⟨fun h => (by unfold chkV at h; cases h), fun h => (by unfold chkV at h; cases h)⟩
  | .cons e .nil, xs, pos => ⟨fun h => (by
    unfold chkV at h
    split at h
    · exact ⟨sv_and1 ((chk_ok f e _).1 h), sv_or1 ((chk_ok f e _).1 h)⟩
    · cases h), fun h => (by
    unfold chkV at h
    split at h
    · exact ⟨sw_and1 ((chk_ok f e _).2 h), sw_or1 ((chk_ok f e _).2 h)⟩
    · cases h)⟩
  | .cons e (.star e2 es), xs, pos => by
    have no : ∀ t, chkV g t (.cons e (.star e2 es)) xs = true → False := fun t h => by
      unfold chkV at h
      split at h
      · have h := (and2 h).2
        unfold chkV at h
        cases h
      · cases h
    exact ⟨fun h => (no _ h).elim, fun h => (no _ h).elim⟩
  | .cons e (.cons e2 es), xs, pos => ⟨fun h => (by
    unfold chkV at h
    split at h
    · rename_i x r
      obtain ⟨h1, h2⟩ := and2 h
      cases r with
      | nil => cases es <;> (unfold chkV at h2; cases h2)
      | cons b r => exact ⟨sv_and ((chk_ok f e _).1 h1) ((chkV_ok f (.cons e2 es) _ pos).1 h2).1, sv_or ((chk_ok f e _).1 h1) ((chkV_ok f (.cons e2 es) _ pos).1 h2).2⟩
    · cases h), fun h => (by
    unfold chkV at h
    split at h
    · rename_i x r
      obtain ⟨h1, h2⟩ := and2 h
      cases r with
      | nil => cases es <;> (unfold chkV at h2; cases h2)
      | cons b r => exact ⟨sw_and ((chk_ok f e _).2 h1) ((chkV_ok f (.cons e2 es) _ pos).2 h2).1, sw_or ((chk_ok f e _).2 h1) ((chkV_ok f (.cons e2 es) _ pos).2 h2).2⟩
    · cases h)⟩
theorem chkP_ok {g : Cg} {lv : Nat} {c : Ct} {X : Cx} (f : Fits g lv c X) : ∀ (p : Po) (x : Option Expr), chkP g p x = true → PO X x (tPo c p)
  | .no, x, h => by
    unfold chkP at h
    split at h
    · exact sp_no
    · cases h
  | .at e, x, h => by
    unfold chkP at h
    split at h
    · exact sp_at ((chk_ok f e _).1 h)
    · cases h
theorem chkI_ok {g : Cg} {lv : Nat} {c : Ct} {X : Cx} (f : Fits g lv c X) : ∀ (i : I) (tg x : Expr), chkI g i tg x = true → PI X tg x (tI c i)
  | .seq e, tg, x, h => by
    unfold chkI at h
    exact si_seq f.ok ((chk_ok f e x).1 h)
  | .rng1 ea, tg, x, h => by
    unfold chkI at h
    split at h
    · obtain ⟨h, h4⟩ := and2 h
      obtain ⟨h, h3⟩ := and2 h
      obtain ⟨h1, h2⟩ := and2 h
      obtain rfl := nmIs_ok h1
      obtain ⟨gl, mg⟩ := f.bl h2
      exact si_rng1 f.ok gl mg ((chk_ok f ea _).1 h3) (splA h4)
    · cases h
  | .rng2 ea eb, tg, x, h => by
    unfold chkI at h
    split at h
    · obtain ⟨h, h6⟩ := and2 h
      obtain ⟨h, h5⟩ := and2 h
      obtain ⟨h, h4⟩ := and2 h
      obtain ⟨h, h3⟩ := and2 h
      obtain ⟨h1, h2⟩ := and2 h
      obtain rfl := nmIs_ok h1
      obtain ⟨gl, mg⟩ := f.bl h2
      have s2 := splA (X := X) (es := []) h6
      exact si_rng2 f.ok gl mg ((chk_ok f ea _).1 h3) ((chk_ok f eb _).1 h5) (by rw [splA h4, s2]; rfl) s2
    · cases h
  | .enum ea, tg, x, h => by
    unfold chkI at h
    split at h
    · obtain ⟨h, h4⟩ := and2 h
      obtain ⟨h, h3⟩ := and2 h
      obtain ⟨h, h2⟩ := and2 h
      obtain ⟨h0, h1⟩ := and2 h
      obtain rfl := nmIs_ok h1
      obtain ⟨gl, mg⟩ := f.bl h2
      cases tg <;> first | (cases h0; done) | skip
      exact si_enum f.ok gl mg ((chk_ok f ea _).1 h3) (splA h4)
    · cases h
  | .zip ea eb, tg, x, h => by
    unfold chkI at h
    split at h
    · obtain ⟨h, h6⟩ := and2 h
      obtain ⟨h, h5⟩ := and2 h
      obtain ⟨h, h4⟩ := and2 h
      obtain ⟨h, h3⟩ := and2 h
      obtain ⟨h, h2⟩ := and2 h
      obtain ⟨h0, h1⟩ := and2 h
      obtain rfl := nmIs_ok h1
      obtain ⟨gl, mg⟩ := f.bl h2
      have s2 := splA (X := X) (es := []) h6
      cases tg <;> first | (cases h0; done) | skip
      first
        | exact si_zip f.ok gl mg ((chk_ok f ea _).1 h3) ((chk_ok f eb _).1 h5) (by rw [splA h4]) s2 (by rw [s2]; rfl)
        | exact si_zip f.ok gl mg ((chk_ok f ea _).1 h3) ((chk_ok f eb _).1 h5) (by rw [splA h4, s2]; rfl) s2
        | exact si_zip f.ok gl mg ((chk_ok f ea _).1 h3) ((chk_ok f eb _).1 h5) (by rw [splA h4, s2]; rfl)
    · cases h
theorem chkC_ok {g : Cg} {lv : Nat} {c : Ct} {X : Cx} (f : Fits g lv c X) : ∀ (e : C) (x : Expr), chkC g e x = true → PE X x (tCe c e)
  | .lst es, x, h => by
    unfold chkC at h
    split at h
    · exact sc_lst (chkA_ok f es _ h)
    · cases h
  | .dic0, x, h => by
    unfold chkC at h
    split at h
    · exact sc_dic0
    · cases h
  | .comp tt it ec ee own, x, h => by
    unfold chkC at h
    split at h
    · rename_i elt tg iter ifs scope pos
      obtain ⟨h, h8⟩ := and2 h
      obtain ⟨h, h7⟩ := and2 h
      obtain ⟨h, h6⟩ := and2 h
      obtain ⟨h, h5⟩ := and2 h
      obtain ⟨h, h4⟩ := and2 h
      obtain ⟨h, h3⟩ := and2 h
      obtain ⟨h1, h2⟩ := and2 h
      obtain rfl := of_decide_eq_true h2
      refine sc_comp f.ok (chkI_ok f it _ _ h4) (by rw [f.N, f.sc]; exact blkOk_by h1) (fun i hi => of_decide_eq_true (List.all_eq_true.mp h3 i hi)) (fun s H C cl fp => chkG_ok (f.blk s H scope C cl fp) tt tg h5) (fun s H C cl fp => ?_) (fun s H C cl fp => (chk_ok (f.blk s H scope C cl fp) ee elt).1 h7) (set_ok (not_ok h8))
      split at h6
      · split at h6
        · exact pts_yes
        · cases h6
      · exact pts_one ((chk_ok (f.blk s H scope C cl fp) ec _).2 h6)
      · cases h6
    · cases h
  | .comp2 tt it ec t2 it2 ec2 ee own own2, x, h => by
    unfold chkC at h
    split at h
    · rename_i elt tg iter ifs tg2 iter2 ifs2 scope pos
      obtain ⟨h, k6⟩ := and2 h
      obtain ⟨h, k5⟩ := and2 h
      obtain ⟨h, k4⟩ := and2 h
      obtain ⟨h, k3⟩ := and2 h
      obtain ⟨h, k2⟩ := and2 h
      obtain ⟨h, k1⟩ := and2 h
      obtain ⟨h, h8⟩ := and2 h
      obtain ⟨h, h7⟩ := and2 h
      obtain ⟨h, h6⟩ := and2 h
      obtain ⟨h, h5⟩ := and2 h
      obtain ⟨h, h4⟩ := and2 h
      obtain ⟨h, h3⟩ := and2 h
      obtain ⟨h1, h2⟩ := and2 h
      obtain rfl := of_decide_eq_true h2
      refine sc_comp2 f.ok (chkI_ok f it _ _ h6) (by rw [f.N, f.sc]; exact blkOk_by h1) (fun i hi => of_decide_eq_true (List.all_eq_true.mp h3 i hi)) (fun i hi => of_decide_eq_true (List.all_eq_true.mp h4 i hi)) (fun i hi => of_decide_eq_true (List.all_eq_true.mp h5 i hi))
        (fun s H C cl fp => chkG_ok (f.blk s H scope C cl fp) tt tg h7) (fun s H C cl fp => ?_) (fun s H C cl fp => chkI_ok (f.blk s H scope C cl fp) it2 _ _ k1) (fun s H C cl fp => chkG_ok (f.blk s H scope C cl fp) t2 tg2 k2) (fun s H C cl fp => ?_)
        (fun s H C cl fp => (chk_ok (f.blk s H scope C cl fp) ee elt).1 k4) (set_ok (not_ok k5)) (fun env => set_ok (not_ok k6))
      · split at h8
        · split at h8
          · exact pts_yes
          · cases h8
        · exact pts_one ((chk_ok (f.blk s H scope C cl fp) ec _).2 h8)
        · cases h8
      · split at k3
        · split at k3
          · exact pts_yes
          · cases k3
        · exact pts_one ((chk_ok (f.blk s H scope C cl fp) ec2 _).2 k3)
        · cases k3
    · cases h
  | .cat ea eb, x, h => by
    unfold chkC at h
    split at h
    · obtain ⟨h1, h2⟩ := and2 h
      exact sc_cat ((chk_ok f ea _).1 h1) ((chk_ok f eb _).1 h2)
    · cases h
  | .sl ea lo hi, x, h => by
    unfold chkC at h
    split at h
    · obtain ⟨h, h3⟩ := and2 h
      obtain ⟨h1, h2⟩ := and2 h
      exact sc_sl f.ok ((chk_ok f ea _).1 h1) (chkP_ok f lo _ h2) (chkP_ok f hi _ h3)
    · cases h
  | .sorted ea, x, h => by
    unfold chkC at h
    split at h
    · obtain ⟨h, h4⟩ := and2 h
      obtain ⟨h, h3⟩ := and2 h
      obtain ⟨h1, h2⟩ := and2 h
      obtain rfl := nmIs_ok h1
      obtain ⟨gl, mg⟩ := f.bl h2
      exact sc_sorted f.ok gl mg ((chk_ok f ea _).1 h3) (splA h4)
    · cases h
  | .sortedSet ea, x, h => by
    unfold chkC at h
    split at h
    · obtain ⟨h, h6⟩ := and2 h
      obtain ⟨h, h5⟩ := and2 h
      obtain ⟨h, h4⟩ := and2 h
      obtain ⟨h, h3⟩ := and2 h
      obtain ⟨h1, h2⟩ := and2 h
      obtain rfl := nmIs_ok h1
      obtain rfl := nmIs_ok h3
      obtain ⟨gl, mg⟩ := f.bl h2
      obtain ⟨gl2, mg2⟩ := f.bl h4
      exact sc_sortSet f.ok gl mg gl2 mg2 ((chk_ok f ea _).1 h5) (splA h6) rfl
    · cases h
  | .sortedBy ea js ek, x, h => by
    unfold chkC at h
    split at h
    · rename_i n p a kw params body scope lpos kpos pos
      obtain ⟨h, h7⟩ := and2 h
      obtain ⟨h, h6⟩ := and2 h
      obtain ⟨h, h5⟩ := and2 h
      obtain ⟨h, h4⟩ := and2 h
      obtain ⟨h, h3⟩ := and2 h
      obtain ⟨h1, h2⟩ := and2 h
      obtain rfl := nmIs_ok h2
      obtain rfl := nmIs_ok h3
      obtain ⟨gl, mg⟩ := f.bl h4
      obtain ⟨room, cc, P, B, ec, inT, only⟩ := f.lam h1
      split at h7
      · rename_i one apos
        dsimp only at h7
        obtain ⟨h7, k5⟩ := and2 h7
        obtain ⟨h7, k4⟩ := and2 h7
        obtain ⟨h7, k3⟩ := and2 h7
        obtain ⟨k1, k2⟩ := and2 h7
        refine sc_sortedBy f.ok gl mg ((chk_ok f ea _).1 h5) (splA h6) room B ec inT only rfl (nscope_by k1) (by rw [List.length_cons, of_decide_eq_true k2]) (by rw [f.sc]; exact ndef_free k3) (ndef_fr k3) (by rw [f.N]; exact of_decide_eq_true k4) (fun q cl pm cv ctv v => bind_one) fun fa c' s H okY rm => (chk_ok (f.inLam okY rm) ek body).1 k5
      · cases h7
    · cases h
  | .list it, x, h => by
    unfold chkC at h
    split at h
    · split at h
      · obtain ⟨h, h4⟩ := and2 h
        obtain ⟨h, h3⟩ := and2 h
        obtain ⟨h1, h2⟩ := and2 h
        obtain rfl := nmIs_ok h1
        obtain ⟨gl, mg⟩ := f.bl h2
        exact sc_listS f.ok gl mg ((chk_ok f _ _).1 h3) (splA h4)
      · cases h
    · split at h
      · obtain ⟨h, h6⟩ := and2 h
        obtain ⟨h, h5⟩ := and2 h
        obtain ⟨h, h4⟩ := and2 h
        obtain ⟨h, h3⟩ := and2 h
        obtain ⟨h1, h2⟩ := and2 h
        obtain rfl := nmIs_ok h1
        obtain rfl := nmIs_ok h3
        obtain ⟨gl, mg⟩ := f.bl h2
        obtain ⟨gl2, mg2⟩ := f.bl h4
        exact sc_listR1 f.ok gl mg gl2 mg2 ((chk_ok f _ _).1 h5) (splA h6) rfl
      · cases h
    · split at h
      · obtain ⟨h, h8⟩ := and2 h
        obtain ⟨h, h7⟩ := and2 h
        obtain ⟨h, h6⟩ := and2 h
        obtain ⟨h, h5⟩ := and2 h
        obtain ⟨h, h4⟩ := and2 h
        obtain ⟨h, h3⟩ := and2 h
        obtain ⟨h1, h2⟩ := and2 h
        obtain rfl := nmIs_ok h1
        obtain rfl := nmIs_ok h3
        obtain ⟨gl, mg⟩ := f.bl h2
        obtain ⟨gl2, mg2⟩ := f.bl h4
        have s2 := splA (X := X) (es := []) h8
        exact sc_listR2 f.ok gl mg gl2 mg2 ((chk_ok f _ _).1 h5) ((chk_ok f _ _).1 h7) (splA h6) s2 (by rw [s2]; rfl) rfl
      · cases h
    · cases h
  | .dict it, x, h => by
    unfold chkC at h
    split at h
    · split at h
      · obtain ⟨h, h4⟩ := and2 h
        obtain ⟨h, h3⟩ := and2 h
        obtain ⟨h1, h2⟩ := and2 h
        obtain rfl := nmIs_ok h1
        obtain ⟨gl, mg⟩ := f.bl h2
        exact sc_dictS f.ok gl mg ((chk_ok f _ _).1 h3) (splA h4)
      · cases h
    · split at h
      · obtain ⟨h, h8⟩ := and2 h
        obtain ⟨h, h7⟩ := and2 h
        obtain ⟨h, h6⟩ := and2 h
        obtain ⟨h, h5⟩ := and2 h
        obtain ⟨h, h4⟩ := and2 h
        obtain ⟨h, h3⟩ := and2 h
        obtain ⟨h1, h2⟩ := and2 h
        obtain rfl := nmIs_ok h1
        obtain rfl := nmIs_ok h3
        obtain ⟨gl, mg⟩ := f.bl h2
        obtain ⟨gl2, mg2⟩ := f.bl h4
        have s2 := splA (X := X) (es := []) h8
        exact sc_dictZ f.ok gl mg gl2 mg2 ((chk_ok f _ _).1 h5) ((chk_ok f _ _).1 h7) (splA h6) s2 (by rw [s2]; rfl) rfl
      · obtain ⟨h, h8⟩ := and2 h
        obtain ⟨h, h7⟩ := and2 h
        obtain ⟨h, h6⟩ := and2 h
        obtain ⟨h, h5⟩ := and2 h
        obtain ⟨h, h4⟩ := and2 h
        obtain ⟨h, h3⟩ := and2 h
        obtain ⟨h, l2⟩ := and2 h
        obtain ⟨h, l1⟩ := and2 h
        obtain ⟨h1, h2⟩ := and2 h
        obtain rfl := nmIs_ok h1
        obtain rfl := nmIs_ok h3
        obtain rfl := nmIs_ok l1
        obtain ⟨gl, mg⟩ := f.bl h2
        obtain ⟨gl2, mg2⟩ := f.bl h4
        obtain ⟨gl3, mg3⟩ := f.bl l2
        have s2 := splA (X := X) (es := []) h8
        exact sc_dictLZ f.ok gl mg gl3 mg3 gl2 mg2 ((chk_ok f _ _).1 h5) ((chk_ok f _ _).1 h7) (splA h6) s2 (by rw [s2]; rfl) rfl rfl
      · cases h
    · cases h
end
end Net
end

section
set_option Elab.async false
set_option linter.all false
set_option maxRecDepth 100000
/-! N38: statements: what their shape tells. -/
namespace Net
open PySem PySem.Spec PyProof.Rows L2 LamX NdefX
theorem asg_ok {o i : Expr} {p : Pos} {env : Env} (h : xSlice i = false) (v : Value) : assign (.Subscript o i p) env v = (do
    let ov ← holding [v] (eval o env)
    let iv ← holding [v, ov] (eval i env)
    standAt p
    holding [v, ov, iv] (setItem ov iv v)
    release [v, ov, iv] []) := by
  cases i <;> first | rfl | skip
  case Slice a b st q => cases st <;> first | rfl | cases h
/-- a list comprehension stored at once in a name -/
def swB (sc : Scope) (y : Str) (py pos : Pos) (scope : Scope) : Bool :=
  ((if sc.kind.isAnnotationScope then ScopeKind.function else sc.kind) == .function) && (sc.names.lookup y == some .local) && (py.line == pos.line) && !(scope.names.any fun (n, k) => n == y && (k == .local || k == .cell))
theorem sw_ok {elt : Expr} {gens : List Comprehension} {scope : Scope} {pos py : Pos} {y : Str} {line : Nat} {env : Env} (h : swB env.scope y py pos scope = true) : swapsWith (.ListComp elt gens scope pos) (some (.Name y py)) line env = pure true := by
  unfold swB at h
  unfold swapsWith Env.blockKind Env.kindOf
  show pure (_ && _ && _ && _) = pure true
  exact congrArg pure h
theorem sw_no {elt : Expr} {gens : List Comprehension} {scope : Scope} {pos py : Pos} {y : Str} {line : Nat} {env : Env} (h : swB env.scope y py pos scope = false) : swapsWith (.ListComp elt gens scope pos) (some (.Name y py)) line env = pure false := by
  unfold swB at h
  unfold swapsWith Env.blockKind Env.kindOf
  show pure (_ && _ && _ && _) = pure false
  exact congrArg pure h
end Net
end

section
set_option Elab.async false
set_option linter.all false
set_option maxRecDepth 100000
/-! N39: the checker of statements. -/
namespace Net
open PySem PySem.Spec PyProof.Rows L2 LamX NdefX
/-! ### what may stand in a suite behind except -/
mutual
def chkK (g : Cg) : E → Expr → Bool
  | .var i, x => match x with
    | .Name n _ => decide (g.N[i]? = some n) && g.vis n && !(n == ("__debug__" : Str)) && !(n == ("__classdict__" : Str))
    | _ => false
  | .non, x => match x with
    | .Constant .none _ _ => true
    | _ => false
  | .bl b, x => match x with
    | .Constant (.bool k) _ _ => decide (k = b)
    | _ => false
  | .int i, x => match x with
    | .Constant (.int k) _ _ => decide (k = i)
    | _ => false
  | .str z, x => match x with
    | .Constant (.str k) _ _ => decide (k = z)
    | _ => false
  | .tup ees, x => match x with
    | .Tuple es _ _ => chkKs g ees es
    | _ => false
  | _, _ => false
def chkKs (g : Cg) : Es → List Expr → Bool
  | .nil, xs => match xs with
    | [] => true
    | _ => false
  | .cons e es, xs => match xs with
    | x :: r => !xStar x && chkK g e x && chkKs g es r
    | _ => false
  | _, _ => false
end
def chkH (g : Cg) : S → Stmt → Bool
  | .ret e, x => match x with
    | .Return (some y) _ => chkK g e y
    | _ => false
  | .pass, x => match x with
    | .Pass _ => true
    | _ => false
  | .cont, x => match x with
    | .Continue _ => true
    | _ => false
  | .brk, x => match x with
    | .Break _ => true
    | _ => false
  | _, _ => false
def chkHs (g : Cg) : Ss → List Stmt → Bool
  | .nil, xs => match xs with
    | [] => true
    | _ => false
  | .cons s ss, xs => match xs with
    | x :: r => chkH g s x && chkHs g ss r
    | _ => false
/-- two names, not both plain locals: the stores are not swapped -/
def noSw (sc : Scope) (es : List Expr) : Bool := match es with
  | [.Name a _, .Name b _] => !(decide (sc.names.lookup a = some .local) && decide (sc.names.lookup b = some .local))
  | _ => false
/-- what is stored in a name -/
def chkSt (g : Cg) (e : E) (y : Str) (py : Pos) (x : Expr) : Bool := match x with
  | .ListComp elt gens scope pos => if swB g.sc y py pos scope then (match e with
      | .new (.comp tt it ec ee own) => chkC g (.comp tt it ec ee own) x
      | .newM (.comp tt it ec ee own) => chkC g (.comp tt it ec ee own) x
      | .new (.comp2 tt it ec t2 it2 ec2 ee own own2) => chkC g (.comp2 tt it ec t2 it2 ec2 ee own own2) x
      | .newM (.comp2 tt it ec t2 it2 ec2 ee own own2) => chkC g (.comp2 tt it ec t2 it2 ec2 ee own own2) x
      | _ => false) else chk g false e x
  | _ => !xComp x && chk g false e x
mutual
def chkS (g : Cg) (ex : Nat → Option Str) : S → Stmt → Bool
  | .expr e, s => match s with
    | .Expr x _ => !xComp x && chk g false e x
    | _ => false
  | .set t e, s => match s with
    | .Assign [.Name n pn] x _ => (match t with
      | .nm j => decide (g.N[j]? = some n) && g.put n && chkSt g e n pn x
      | _ => false)
    | .Assign [.Tuple es k pt] x _ => (match t with
      | .tp ts => chkG g (.tp ts) (.Tuple es k pt) && chk g false e x && !xComp x && (!xTup x || noSw g.sc es)
      | _ => false)
    | _ => false
  | .par i j ea eb, s => match s with
    | .Assign [.Tuple [.Name x px, .Name y py] _ pt] (.Tuple [a, b] _ _) _ => decide (g.N[i]? = some x) && decide (g.N[j]? = some y) && decide (i ≠ j) && decide (g.sc.names.lookup x = some .local) && decide (g.sc.names.lookup y = some .local) && chk g false ea a && chk g false eb b && !xStar a && !xStar b &&
        ((if g.sc.kind.isAnnotationScope then ScopeKind.function else g.sc.kind) == .function) && decide (px.line = py.line) && !([a, b].all (foldedForSure 8)) && !([a, b].all (constantsAlone 8)) && !(x == y)
    | _ => false
  | .setIx eo ei ee, s => match s with
    | .Assign [.Subscript o i _] x _ => chk g false eo o && chk g false ei i && chk g false ee x && !xSlice i && !xComp x && !xTup x
    | _ => false
  | .augIx eo ei ee, s => match s with
    | .AugAssign (.Subscript o i _) .Add x _ => chk g false eo o && chk g false ei i && chk g false ee x && !xSlice i
    | _ => false
  | .aug j sub e, s => match s with
    | .AugAssign (.Name n _) op x _ => decide (g.N[j]? = some n) && g.put n && decide (op = if sub then .Sub else .Add) && chk g false e x
    | _ => false
  | .ret e, s => match s with
    | .Return (some x) _ => chk g false e x
    | .Return none _ => (match e with | .non => true | _ => false)
    | _ => false
  | .ite ec a b, s => match s with
    | .If x p q _ => chk g true ec x && chkSs g ex a p && chkSs g ex b q
    | _ => false
  | .loop t it body, s => match s with
    | .For tg iter b [] _ => chkI g it tg iter && chkG g t tg && chkSs g ex body b && !xSet iter
    | _ => false
  | .while ec body, s => match s with
    | .While x b [] _ => chk g true ec x && chkSs g ex body b
    | _ => false
  | .raise k, s => match s with
    | .Raise (some (.Call (.Name n _) [] [] _)) none _ => (match ex k with | some m => nmIs m n | none => false) && g.glob n
    | _ => false
  | .try body k h, s => match s with
    | .Try b [.ExceptHandler (some (.Name n _)) none (h0 :: hs) _] [] [] _ => (match ex k with | some m => nmIs m n | none => false) && g.glob n && chkSs g ex body b && chkHs g h (h0 :: hs)
    | _ => false
  | .pass, s => match s with
    | .Pass _ => true
    | .Expr (.Constant (.str _) _ _) _ => true
    | _ => false
  | .brk, s => match s with
    | .Break _ => true
    | _ => false
  | .cont, s => match s with
    | .Continue _ => true
    | _ => false
def chkSs (g : Cg) (ex : Nat → Option Str) : Ss → List Stmt → Bool
  | .nil, xs => match xs with
    | [] => true
    | _ => false
  | .cons s ss, xs => match xs with
    | x :: r => chkS g ex s x && chkSs g ex ss r
    | _ => false
end
end Net
end

section
set_option Elab.async false
set_option linter.all false
set_option maxRecDepth 100000
set_option maxHeartbeats 4000000
/-! N40: what the checker of statements takes is sound. -/
namespace Net
open PySem PySem.Spec PyProof.Rows L2 LamX NdefX
variable [TabL]
/-- the exceptions that are raised and caught here -/
structure FitsX (ex : Nat → Option Str) (cl : Nat → Option Value) (X : Cx) : Prop where
  rs : ∀ k x, ex k = some x → ∃ (C : Addr) (bmB : List Value) (B newId initId : String), ExcBaseFacts B newId initId bmB ∧ PySem.W.excIn X.K C bmB newId = true ∧ X.mg x = some (.ref C) ∧ PySem.W.keepIn X.K (.ref C) = true ∧ Raises X (.ref C) ∧ cl k = some (.ref C) ∧
    ∀ k' cls, cl k' = some cls → PySem.W.exmOne X.K cls (.ref C) = some (decide (k' = k))
  st : X.stack = X.env :: X.outer
  fr : X.env.frame = some X.env.locals
/-- names and slots alone -/
structure FitsN (g : Cg) (X : Cx) : Prop where
  N : X.N = g.N
  sc : X.env.scope = g.sc
section
variable {g : Cg} {c : Ct} {X : Cx}
mutual
theorem chkK_ok (f : FitsN g X) : ∀ (e : E) (x : Expr), chkK g e x = true → PE X x (tE c e)
  | .var i, x, h => by
    unfold chkK at h
    split at h
    · rename_i n _
      obtain ⟨h, h4⟩ := and2 h
      obtain ⟨h, h3⟩ := and2 h
      obtain ⟨h1, h2⟩ := and2 h
      have vi : Vis X.env.scope n := by
        unfold Cg.vis Cg.loc at h2
        simp only [Bool.or_eq_true, decide_eq_true_eq] at h2
        unfold Vis
        rw [f.sc]
        rcases h2 with (h | h) | h
        · exact .inl h
        · exact .inr (.inl h)
        · exact .inr (.inr h)
      exact se_var (by rw [f.N]; exact of_decide_eq_true h1) vi (not_ok h3) (not_ok h4)
    · cases h
  | .non, x, h => by
    unfold chkK at h
    split at h
    · exact se_non
    · cases h
  | .bl b, x, h => by
    unfold chkK at h
    split at h
    · obtain rfl := of_decide_eq_true h; exact se_bl
    · cases h
  | .int b, x, h => by
    unfold chkK at h
    split at h
    · obtain rfl := of_decide_eq_true h; exact se_int
    · cases h
  | .str b, x, h => by
    unfold chkK at h
    split at h
    · obtain rfl := of_decide_eq_true h; exact se_str
    · cases h
  | .tup ees, x, h => by
    unfold chkK at h
    split at h
    · exact se_tup (chkKs_ok f ees _ h)
    · cases h
  | .new _, _, h | .newM _, _, h | .bin _ _ _, _, h | .neg _, _, h | .not _, _, h | .and _, _, h | .or _, _, h | .cmp _ _ _, _, h | .cmp2 _ _ _ _ _, _, h | .ite _ _ _, _, h | .ix _ _, _, h | .sl _ _ _, _, h | .call _ _, _, h | .b1 _ _, _, h
  | .index _ _, _, h | .get _ _, _, h | .setdef _ _ _, _, h | .append _ _, _, h | .extend _ _, _, h | .insert _ _ _, _, h => by unfold chkK at h; cases h
theorem chkKs_ok (f : FitsN g X) : ∀ (es : Es) (xs : List Expr), chkKs g es xs = true → PA X xs (tA c es)
  | .nil, xs, h => by
    unfold chkKs at h
    split at h
    · exact sa_nil
    · cases h
  | .cons e es, xs, h => by
    unfold chkKs at h
    split at h
    · obtain ⟨h, h3⟩ := and2 h
      obtain ⟨h1, h2⟩ := and2 h
      exact sa_cons (chkK_ok f e _ h2) (chkKs_ok f es _ h3) (splA h1)
    · cases h
  | .star e es, xs, h => by unfold chkKs at h; cases h
end
theorem chkH_ok (f : FitsN g X) : ∀ (s : S) (x : Stmt), chkH g s x = true → PS X x (tS c s)
  | .ret e, x, h => by
    dsimp only [chkH] at h
    split at h
    · exact ss_ret (chkK_ok f e _ h)
    · cases h
  | .pass, x, h => by
    dsimp only [chkH] at h
    split at h
    · exact ss_pass
    · cases h
  | .cont, x, h => by
    dsimp only [chkH] at h
    split at h
    · exact ss_cont
    · cases h
  | .brk, x, h => by
    dsimp only [chkH] at h
    split at h
    · exact ss_brk
    · cases h
  | .expr _, _, h | .set _ _, _, h | .par _ _ _ _, _, h | .setIx _ _ _, _, h | .augIx _ _ _, _, h | .aug _ _ _, _, h | .ite _ _ _, _, h | .loop _ _ _, _, h | .while _ _, _, h | .raise _, _, h | .try _ _ _, _, h => by dsimp only [chkH] at h; cases h
theorem chkHs_ok (f : FitsN g X) : ∀ (ss : Ss) (xs : List Stmt), chkHs g ss xs = true → PSs X xs (tSs c ss)
  | .nil, xs, h => by
    unfold chkHs at h
    split at h
    · exact ss_nil
    · cases h
  | .cons s ss, xs, h => by
    unfold chkHs at h
    split at h
    · obtain ⟨h1, h2⟩ := and2 h
      exact ss_cons (chkH_ok f s _ h1) (chkHs_ok f ss _ h2)
    · cases h
end
end Net
end

section
set_option Elab.async false
set_option linter.all false
set_option maxRecDepth 100000
set_option maxHeartbeats 4000000
/-! N41: what the checker of statements takes is sound. -/
namespace Net
open PySem PySem.Spec PyProof.Rows L2 LamX NdefX
variable [TabL]
section
variable {g : Cg} {lv : Nat} {c : Ct} {X : Cx} {ex : Nat → Option Str}
theorem Fits.tr (f : Fits g lv c X) {W : WX} {pn : List (Addr × Obj)} {xe : Value → Shared → Prop} (ok : COk { c with W := W } (X.tr pn xe)) : Fits g lv { c with W := W } (X.tr pn xe) := ⟨ok, f.N, f.sc, f.fn, f.free, f.room, f.fs, f.lam⟩
theorem FitsX.tr {cl : Nat → Option Value} (f : FitsX ex cl X) {pn : List (Addr × Obj)} {xe : Value → Shared → Prop} : FitsX ex cl (X.tr pn xe) := ⟨f.rs, f.st, f.fr⟩
theorem comp_in (f : Fits g lv c X) {tt : T} {it : I} {ec ee : E} {own : List Nat} {x : Expr} (h : chkC g (.comp tt it ec ee own) x = true) : ∃ elt tg iter ifs scope pos own', x = .ListComp elt [⟨tg, iter, ifs, 0⟩] scope pos ∧ own = own'.map (·.2) ∧ PI X tg iter (tI c it) ∧ BlkOk X.N X.env.scope scope own' ∧ (∀ i ∈ tt.slots, i ∈ own'.map (·.2)) ∧
    (∀ (s : Shared) (H : Hp) (C : Addr) (cl : List (Str × Addr)) (fp : List Addr), PG (X.blk s H scope (compEnvC scope cl C X.env) fp) tg (tG c.hush tt)) ∧ (∀ (s : Shared) (H : Hp) (C : Addr) (cl : List (Str × Addr)) (fp : List Addr), PTs (X.blk s H scope (compEnvC scope cl C X.env) fp) ifs (tT c.hush ec)) ∧
    (∀ (s : Shared) (H : Hp) (C : Addr) (cl : List (Str × Addr)) (fp : List Addr), PE (X.blk s H scope (compEnvC scope cl C X.env) fp) elt (tE c.hush ee)) ∧ ∀ x, foldedSetIterable iter X.env x = pure x := by
  unfold chkC at h
  split at h
  · rename_i elt tg iter ifs scope pos
    obtain ⟨h, h8⟩ := and2 h
    obtain ⟨h, h7⟩ := and2 h
    obtain ⟨h, h6⟩ := and2 h
    obtain ⟨h, h5⟩ := and2 h
    obtain ⟨h, h4⟩ := and2 h
    obtain ⟨h, h3⟩ := and2 h
    obtain ⟨h1, h2⟩ := and2 h
    obtain rfl := of_decide_eq_true h2
    refine ⟨elt, tg, iter, ifs, scope, pos, _, rfl, rfl, chkI_ok f it _ _ h4, by rw [f.N, f.sc]; exact blkOk_by h1, fun i hi => of_decide_eq_true (List.all_eq_true.mp h3 i hi), fun s H C cl fp => chkG_ok (f.blk s H scope C cl fp) tt tg h5, fun s H C cl fp => ?_, fun s H C cl fp => (chk_ok (f.blk s H scope C cl fp) ee elt).1 h7, set_ok (not_ok h8)⟩
    split at h6
    · split at h6
      · exact pts_yes
      · cases h6
    · exact pts_one ((chk_ok (f.blk s H scope C cl fp) ec _).2 h6)
    · cases h6
  · cases h
theorem comp2_in (f : Fits g lv c X) {tt t2 : T} {it it2 : I} {ec ec2 ee : E} {own own2 : List Nat} {x : Expr} (h : chkC g (.comp2 tt it ec t2 it2 ec2 ee own own2) x = true) : ∃ elt tg iter ifs tg2 iter2 ifs2 scope pos own', x = .ListComp elt [⟨tg, iter, ifs, 0⟩, ⟨tg2, iter2, ifs2, 0⟩] scope pos ∧ own = own'.map (·.2) ∧ PI X tg iter (tI c it) ∧ BlkOk X.N X.env.scope scope own' ∧ (∀ i ∈ own2, i ∈ own'.map (·.2)) ∧ (∀ i ∈ tt.slots, i ∈ own'.map (·.2)) ∧ (∀ i ∈ t2.slots, i ∈ own2) ∧
    (∀ (s : Shared) (H : Hp) (C : Addr) (cl : List (Str × Addr)) (fp : List Addr), PG (X.blk s H scope (compEnvC scope cl C X.env) fp) tg (tG c.hush tt)) ∧ (∀ (s : Shared) (H : Hp) (C : Addr) (cl : List (Str × Addr)) (fp : List Addr), PTs (X.blk s H scope (compEnvC scope cl C X.env) fp) ifs (tT c.hush ec)) ∧
    (∀ (s : Shared) (H : Hp) (C : Addr) (cl : List (Str × Addr)) (fp : List Addr), PI (X.blk s H scope (compEnvC scope cl C X.env) fp) tg2 iter2 (tI c.hush it2)) ∧
    (∀ (s : Shared) (H : Hp) (C : Addr) (cl : List (Str × Addr)) (fp : List Addr), PG (X.blk s H scope (compEnvC scope cl C X.env) fp) tg2 (tG c.hush t2)) ∧ (∀ (s : Shared) (H : Hp) (C : Addr) (cl : List (Str × Addr)) (fp : List Addr), PTs (X.blk s H scope (compEnvC scope cl C X.env) fp) ifs2 (tT c.hush ec2)) ∧
    (∀ (s : Shared) (H : Hp) (C : Addr) (cl : List (Str × Addr)) (fp : List Addr), PE (X.blk s H scope (compEnvC scope cl C X.env) fp) elt (tE c.hush ee)) ∧ (∀ x, foldedSetIterable iter X.env x = pure x) ∧ ∀ env x, foldedSetIterable iter2 env x = pure x := by
  unfold chkC at h
  split at h
  · rename_i elt tg iter ifs tg2 iter2 ifs2 scope pos
    obtain ⟨h, k6⟩ := and2 h
    obtain ⟨h, k5⟩ := and2 h
    obtain ⟨h, k4⟩ := and2 h
    obtain ⟨h, k3⟩ := and2 h
    obtain ⟨h, k2⟩ := and2 h
    obtain ⟨h, k1⟩ := and2 h
    obtain ⟨h, h8⟩ := and2 h
    obtain ⟨h, h7⟩ := and2 h
    obtain ⟨h, h6⟩ := and2 h
    obtain ⟨h, h5⟩ := and2 h
    obtain ⟨h, h4⟩ := and2 h
    obtain ⟨h, h3⟩ := and2 h
    obtain ⟨h1, h2⟩ := and2 h
    obtain rfl := of_decide_eq_true h2
    refine ⟨elt, tg, iter, ifs, tg2, iter2, ifs2, scope, pos, _, rfl, rfl, chkI_ok f it _ _ h6, by rw [f.N, f.sc]; exact blkOk_by h1, fun i hi => of_decide_eq_true (List.all_eq_true.mp h3 i hi), fun i hi => of_decide_eq_true (List.all_eq_true.mp h4 i hi), fun i hi => of_decide_eq_true (List.all_eq_true.mp h5 i hi),
      fun s H C cl fp => chkG_ok (f.blk s H scope C cl fp) tt tg h7, fun s H C cl fp => ?_, fun s H C cl fp => chkI_ok (f.blk s H scope C cl fp) it2 _ _ k1, fun s H C cl fp => chkG_ok (f.blk s H scope C cl fp) t2 tg2 k2, fun s H C cl fp => ?_, fun s H C cl fp => (chk_ok (f.blk s H scope C cl fp) ee elt).1 k4, set_ok (not_ok k5), fun env => set_ok (not_ok k6)⟩
    · split at h8
      · split at h8
        · exact pts_yes
        · cases h8
      · exact pts_one ((chk_ok (f.blk s H scope C cl fp) ec _).2 h8)
      · cases h8
    · split at k3
      · split at k3
        · exact pts_yes
        · cases k3
      · exact pts_one ((chk_ok (f.blk s H scope C cl fp) ec2 _).2 k3)
      · cases k3
  · cases h
theorem chkSt_ok (f : Fits g lv c X) {j : Nat} {e : E} {y : Str} {py pos : Pos} {x : Expr} (hi : g.N[j]? = some y) (hp : g.put y = true) (h : chkSt g e y py x = true) : PS X (.Assign [.Name y py] x pos) (tS c (.set (.nm j) e)) := by
  obtain ⟨l, p⟩ := f.pu hp
  have hi' : X.N[j]? = some y := by rw [f.N]; exact hi
  unfold chkSt at h
  split at h
  · rename_i elt gens scope cpos
    split at h
    · rename_i hs
      have yl : X.env.scope.names.lookup y = some .local := by
        unfold swB at hs
        simp only [Bool.and_eq_true, beq_iff_eq] at hs
        rw [f.sc]; exact hs.1.1.2
      split at h
      · obtain ⟨elt', tg, iter, ifs, scope', pos', own', ex, rfl, a1, a2, a3, a4, a5, a6, a7⟩ := comp_in f h
        cases ex
        exact ss_setLc false f.ok hi' yl (sw_ok (by rw [f.sc]; exact hs)) a1 a2 a3 a4 a5 a6 a7
      · obtain ⟨elt', tg, iter, ifs, scope', pos', own', ex, rfl, a1, a2, a3, a4, a5, a6, a7⟩ := comp_in f h
        cases ex
        exact ss_setLc true f.ok hi' yl (sw_ok (by rw [f.sc]; exact hs)) a1 a2 a3 a4 a5 a6 a7
      · obtain ⟨elt', tg, iter, ifs, tg2, iter2, ifs2, scope', pos', own', ex, rfl, a1, a2, a3, a4, a5, a6, a7, a8, a9, b1, b2, b3, b4⟩ := comp2_in f h
        cases ex
        exact ss_setLc2 false f.ok hi' yl (sw_ok (by rw [f.sc]; exact hs)) a1 a2 a3 a4 a5 a6 a7 a8 a9 b1 b2 b3 b4
      · obtain ⟨elt', tg, iter, ifs, tg2, iter2, ifs2, scope', pos', own', ex, rfl, a1, a2, a3, a4, a5, a6, a7, a8, a9, b1, b2, b3, b4⟩ := comp2_in f h
        cases ex
        exact ss_setLc2 true f.ok hi' yl (sw_ok (by rw [f.sc]; exact hs)) a1 a2 a3 a4 a5 a6 a7 a8 a9 b1 b2 b3 b4
      · cases h
    · rename_i hs
      exact ss_setN f.ok hi' l p ((chk_ok f e _).1 h) (sw_no (by rw [f.sc]; simpa using hs))
  · obtain ⟨h1, h2⟩ := and2 h
    exact ss_setN f.ok hi' l p ((chk_ok f e _).1 h2) (swap_ok (not_ok h1))
end
end Net
end

section
set_option Elab.async false
set_option linter.all false
set_option maxRecDepth 100000
set_option maxHeartbeats 4000000
/-! N42: what the checker of statements takes is sound: all statements. -/
namespace Net
open PySem PySem.Spec PyProof.Rows L2 LamX NdefX
variable [TabL]
theorem par_ok {x y : Str} {px py pt pt2 : Pos} {kt k2 : Nat} {a b : Expr} {env : Env} (h1 : ((if env.scope.kind.isAnnotationScope then ScopeKind.function else env.scope.kind) == .function) = true) (hx : env.scope.names.lookup x = some .local) (hy : env.scope.names.lookup y = some .local)
    (hl : px.line = py.line) (sa : xStar a = false) (sb : xStar b = false) (f1 : [a, b].all (foldedForSure 8) = false) (f2 : [a, b].all (constantsAlone 8) = false) (ne : (x == y) = false) :
    swappedStores [.Tuple [.Name x px, .Name y py] kt pt] (.Tuple [a, b] k2 pt2) env = pure (some [x, y]) := by
  have k1 : (env.blockKind != .function) = false := by
    unfold Env.blockKind
    simpa [bne] using h1
  have hx' : env.kindOf x = some .local := hx
  have hy' : env.kindOf y = some .local := hy
  have hp : (Expr.Name x px).pos = px := rfl
  have nxy : ¬ x = y := by simpa using ne
  have nyx : (y == x) = false := by
    cases q : (y == x) with
    | false => rfl
    | true => exact absurd (eq_of_beq q).symm nxy
  unfold swappedStores
  simp [k1, hx', hy', hl, hp, f1, f2, ne, nyx, List.filterMap, List.eraseDups, List.eraseDupsBy, List.eraseDupsBy.loop]
  rintro (h | h)
  · cases a <;> first | (cases h; done) | (cases sa)
  · cases b <;> first | (cases h; done) | (cases sb)
theorem noSw_ok {es : List Expr} {k : Nat} {p : Pos} {v : Expr} {env : Env} (h : noSw env.scope es = true) : swappedStores [.Tuple es k p] v env = pure none := by
  unfold noSw at h
  split at h
  · rename_i a pa b pb
    have hk : ∀ x, env.kindOf x = env.scope.names.lookup x := fun x => rfl
    cases v with
    | Tuple vs k2 p2 =>
      unfold swappedStores
      simp only [hk, pure_bind, List.filterMap_cons, List.filterMap_nil]
      have nb : ((env.scope.names.lookup a == some .local) = false) ∨ ((env.scope.names.lookup b == some .local) = false) := by
        simp only [Bool.not_eq_true', Bool.and_eq_false_iff, decide_eq_false_iff_not] at h
        rcases h with h | h
        · left; rw [beq_eq_false_iff_ne]; exact h
        · right; rw [beq_eq_false_iff_ne]; exact h
      rcases nb with nb | nb <;> simp [nb] <;> (repeat' split) <;> simp_all
    | _ => rfl
  · cases h
mutual
theorem chkS_ok {g : Cg} {lv : Nat} {ex : Nat → Option Str} : ∀ (s : S) {c : Ct} {X : Cx}, Fits g lv c X → FitsX ex c.cl X → ∀ (x : Stmt), chkS g ex s x = true → PS X x (tS c s)
  | .expr e, c, X, f, fx, x, h => by
    unfold chkS at h
    split at h
    · obtain ⟨h1, h2⟩ := and2 h
      exact ss_expr ((chk_ok f e _).1 h2) (swap_ok (not_ok h1))
    · cases h
  | .set t e, c, X, f, fx, x, h => by
    unfold chkS at h
    split at h
    · split at h
      · obtain ⟨h, h3⟩ := and2 h
        obtain ⟨h1, h2⟩ := and2 h
        exact chkSt_ok f (of_decide_eq_true h1) h2 h3
      · cases h
    · split at h
      · obtain ⟨h, h4⟩ := and2 h
        obtain ⟨h, h3⟩ := and2 h
        obtain ⟨h1, h2⟩ := and2 h
        refine ss_setT (chkG_ok f _ _ h1) ((chk_ok f e _).1 h2) (sole_ok (not_ok h3)) ?_ rfl
        rcases Bool.or_eq_true_iff.mp h4 with h4 | h4
        · exact stores_ok (not_ok h4)
        · exact noSw_ok (by rw [f.sc]; exact h4)
      · cases h
    · cases h
  | .par i j ea eb, c, X, f, fx, x, h => by
    unfold chkS at h
    split at h
    · obtain ⟨h, k5⟩ := and2 h
      obtain ⟨h, k4⟩ := and2 h
      obtain ⟨h, k3⟩ := and2 h
      obtain ⟨h, k2⟩ := and2 h
      obtain ⟨h, k1⟩ := and2 h
      obtain ⟨h, h9⟩ := and2 h
      obtain ⟨h, h8⟩ := and2 h
      obtain ⟨h, h7⟩ := and2 h
      obtain ⟨h, h6⟩ := and2 h
      obtain ⟨h, h5⟩ := and2 h
      obtain ⟨h, h4⟩ := and2 h
      obtain ⟨h, h3⟩ := and2 h
      obtain ⟨h1, h2⟩ := and2 h
      have hx := of_decide_eq_true h4
      have hy := of_decide_eq_true h5
      rw [← f.sc] at hx hy k1
      exact ss_par f.ok (by rw [f.N]; exact of_decide_eq_true h1) (by rw [f.N]; exact of_decide_eq_true h2) (of_decide_eq_true h3) hx hy ((chk_ok f ea _).1 h6) ((chk_ok f eb _).1 h7) (splA h8) (splA h9) (par_ok k1 hx hy (of_decide_eq_true k2) (not_ok h8) (not_ok h9) (not_ok k3) (not_ok k4) (not_ok k5)) rfl
    · cases h
  | .setIx eo ei ee, c, X, f, fx, x, h => by
    unfold chkS at h
    split at h
    · obtain ⟨h, h6⟩ := and2 h
      obtain ⟨h, h5⟩ := and2 h
      obtain ⟨h, h4⟩ := and2 h
      obtain ⟨h, h3⟩ := and2 h
      obtain ⟨h1, h2⟩ := and2 h
      exact ss_setIx f.ok ((chk_ok f eo _).1 h1) ((chk_ok f ei _).1 h2) ((chk_ok f ee _).1 h3) (asg_ok (not_ok h4)) (sole_ok (not_ok h5)) (stores_ok (not_ok h6)) rfl
    · cases h
  | .augIx eo ei ee, c, X, f, fx, x, h => by
    unfold chkS at h
    split at h
    · obtain ⟨h, h4⟩ := and2 h
      obtain ⟨h, h3⟩ := and2 h
      obtain ⟨h1, h2⟩ := and2 h
      exact ss_augIx f.ok ((chk_ok f eo _).1 h1) ((chk_ok f ei _).1 h2) ((chk_ok f ee _).1 h3) (aug_ok (not_ok h4))
    · cases h
  | .aug j sub e, c, X, f, fx, x, h => by
    unfold chkS at h
    split at h
    · obtain ⟨h, h4⟩ := and2 h
      obtain ⟨h, h3⟩ := and2 h
      obtain ⟨h1, h2⟩ := and2 h
      obtain ⟨l, p⟩ := f.pu h2
      obtain rfl := of_decide_eq_true h3
      exact ss_aug f.ok sub (by rw [f.N]; exact of_decide_eq_true h1) l p ((chk_ok f e _).1 h4)
    · cases h
  | .ret e, c, X, f, fx, x, h => by
    unfold chkS at h
    split at h
    · exact ss_ret ((chk_ok f e _).1 h)
    · split at h
      · exact ss_ret0
      · cases h
    · cases h
  | .ite ec a b, c, X, f, fx, x, h => by
    unfold chkS at h
    split at h
    · obtain ⟨h, h3⟩ := and2 h
      obtain ⟨h1, h2⟩ := and2 h
      exact ss_ite ((chk_ok f ec _).2 h1) (chkSs_ok a f fx _ h2) (chkSs_ok b f fx _ h3)
    · cases h
  | .loop t it body, c, X, f, fx, x, h => by
    unfold chkS at h
    split at h
    · obtain ⟨h, h4⟩ := and2 h
      obtain ⟨h, h3⟩ := and2 h
      obtain ⟨h1, h2⟩ := and2 h
      exact ss_loop f.ok (chkI_ok f it _ _ h1) (chkG_ok f t _ h2) (chkSs_ok body f fx _ h3) (set_ok (not_ok h4))
    · cases h
  | .while ec body, c, X, f, fx, x, h => by
    unfold chkS at h
    split at h
    · obtain ⟨h1, h2⟩ := and2 h
      exact ss_while f.ok ((chk_ok f ec _).2 h1) (chkSs_ok body f fx _ h2)
    · cases h
  | .raise k, c, X, f, fx, x, h => by
    unfold chkS at h
    split at h
    · obtain ⟨h1, h2⟩ := and2 h
      split at h1
      · rename_i m em
        obtain rfl := nmIs_ok h1
        obtain ⟨gl, db⟩ := f.gl h2
        obtain ⟨C, bmB, B, n1, n2, F, q, gC, kC, r, ek, _⟩ := fx.rs k _ em
        exact ss_raise f.ok F q gC kC r gl db ek
      · cases h1
    · cases h
  | .try body k hd, c, X, f, fx, x, h => by
    unfold chkS at h
    split at h
    · obtain ⟨h, h4⟩ := and2 h
      obtain ⟨h, h3⟩ := and2 h
      obtain ⟨h1, h2⟩ := and2 h
      split at h1
      · rename_i m em
        obtain rfl := nmIs_ok h1
        obtain ⟨gl, db⟩ := f.gl h2
        obtain ⟨C, bmB, B, n1, n2, F, q, gC, kC, r, ek, he⟩ := fx.rs k _ em
        exact ss_try f.ok fx.st fx.fr ⟨gl, db, .inl gC⟩ (fun W pn xe ok => chkSs_ok body (f.tr ok) fx.tr _ h3) (fun a pn => chkHs_ok (X := X.suite a pn) ⟨f.N, f.sc⟩ hd _ h4) he
      · cases h1
    · cases h
  | .pass, c, X, f, fx, x, h => by
    unfold chkS at h
    split at h
    · exact ss_pass
    · exact ss_doc
    · cases h
  | .brk, c, X, f, fx, x, h => by
    unfold chkS at h
    split at h
    · exact ss_brk
    · cases h
  | .cont, c, X, f, fx, x, h => by
    unfold chkS at h
    split at h
    · exact ss_cont
    · cases h
theorem chkSs_ok {g : Cg} {lv : Nat} {ex : Nat → Option Str} : ∀ (ss : Ss) {c : Ct} {X : Cx}, Fits g lv c X → FitsX ex c.cl X → ∀ (xs : List Stmt), chkSs g ex ss xs = true → PSs X xs (tSs c ss)
  | .nil, c, X, f, fx, xs, h => by
    unfold chkSs at h
    split at h
    · exact ss_nil
    · cases h
  | .cons s ss, c, X, f, fx, xs, h => by
    unfold chkSs at h
    split at h
    · obtain ⟨h1, h2⟩ := and2 h
      exact ss_cons (chkS_ok s f fx _ h1) (chkSs_ok ss f fx _ h2)
    · cases h
end
end Net
end

section
set_option Elab.async false
set_option linter.all false
set_option maxRecDepth 100000
set_option maxHeartbeats 4000000
/-! N43: a whole program: rows, their check, all levels. -/
namespace Net
open PySem PySem.Spec PyProof.Rows L2 LamX NdefX
/-! ### binding -/
theorem lookup_zip_none {x : Str} : ∀ {ps : List Str} {us : List Value}, x ∉ ps → (ps.zip us).lookup x = none
  | [], _, _ => rfl
  | p :: ps, [], _ => rfl
  | p :: ps, u :: us, h => by
    rw [List.zip_cons_cons, List.lookup_cons]
    have : (x == p) = false := by
      rw [beq_eq_false_iff_ne]
      exact fun z => h (by rw [z]; exact List.mem_cons_self)
    rw [this]
    exact lookup_zip_none fun z => h (List.mem_cons_of_mem _ z)
theorem zip_back : ∀ {ps : List Str} {us : List Value} (l : List (Str × Value)), ps.Nodup → us.length = ps.length → (∀ x ∈ ps, l.lookup x = (ps.zip us).lookup x) → ps.filterMap (fun n => (l.lookup n).map (n, ·)) = ps.zip us
  | [], [], _, _, _, _ => rfl
  | p :: ps, u :: us, l, nd, hl, h => by
    obtain ⟨n1, n2⟩ := List.nodup_cons.mp nd
    have h1 := h p List.mem_cons_self
    rw [List.zip_cons_cons, List.lookup_cons, beq_self_eq_true] at h1
    rw [List.filterMap_cons, h1]
    show (p, u) :: _ = _
    rw [zip_back l n2 (by simpa using hl) fun x hx => ?_]
    · rfl
    · rw [h x (List.mem_cons_of_mem _ hx), List.zip_cons_cons, List.lookup_cons]
      have : (x == p) = false := by
        rw [beq_eq_false_iff_ne]
        rintro rfl
        exact n1 hx
      rw [this]
theorem bind_pos {x qual : Str} {as : List Arg} {body : List Stmt} {sc : Scope} {kV doc pm : Value} {an : Option Addr} {cdv ct : Value} {us : List Value} (nd : (as.map (·.arg)).Nodup) (hl : us.length = (as.map (·.arg)).length) :
    bindArgs (PySem.W.fnOf x qual ⟨[], as, none, [], [], none, []⟩ body sc .none kV doc pm an cdv ct) ⟨us, []⟩ = pure ((as.map (·.arg)).zip us) := by
  have hf : (as.map (·.arg)).filter (fun n => (((as.map (·.arg)).zip us).lookup n).isNone) = [] := by
    rw [List.filter_eq_nil_iff]
    intro n hn
    obtain ⟨i, hi, e⟩ := List.getElem_of_mem hn
    have : (((as.map (·.arg)).zip us).lookup n) ≠ none := by
      intro z
      have := List.lookup_eq_none_iff.mp z (n, us[i]'(by omega)) (by
        rw [List.mem_iff_getElem]
        exact ⟨i, by simp; simp at hi hl; omega, by simp at e ⊢; exact e⟩)
      simp at this
    cases q : (((as.map (·.arg)).zip us).lookup n) with
    | none => exact absurd q this
    | some v => simp
  have hz := zip_back ((as.map (·.arg)).zip us) nd hl fun x _ => rfl
  have l2 : us.length = as.length := by simpa using hl
  unfold bindArgs PySem.W.fnOf
  have ht : List.take (as.map (·.arg)).length (as.map (·.arg)) = as.map (·.arg) := List.take_length
  have h0 : (([] : List Arg).map (·.arg) ++ as.map (·.arg)) = as.map (·.arg) := rfl
  simp only [seqItems?, l2]
  simp only [h0, List.drop_nil, List.length_nil, Nat.sub_zero, ht, hf]
  have ns : notAStandIn Value.none = pure () := rfl
  rw [ns]
  simp only [pure_bind]
  simp [l2]
  rw [← List.filterMap_map] at *
  have hc : (!(List.filter (fun n => (List.lookup n ((List.map (fun x => x.arg) as).zip us)).isNone) (List.take ((List.map (fun x => x.arg) as).length - (List.drop (0 - (List.map (fun x => x.arg) as).length) ([] : List Value)).length) (List.map (fun x => x.arg) as))).isEmpty) = false := by
    rw [List.drop_nil, List.length_nil, Nat.sub_zero, ht, hf]; rfl
  rw [hz]
  exact if_neg (by rw [hc]; exact Bool.false_ne_true)

/-! ### a program -/
structure Row where
  fi : FI
  N : List Str
  lam : Bool
  st : Stmt
def Row.P (r : Row) : List Str := (defArgs r.st).args.map (·.arg)
def argsB : Arguments → Bool
  | ⟨[], _, none, [], [], none, []⟩ => true
  | _ => false
theorem argsB_ok {a : Arguments} (h : argsB a = true) : a = ⟨[], a.args, none, [], [], none, []⟩ := by
  unfold argsB at h
  split at h
  · rfl
  · cases h
def fscB (N P : List Str) (sc : Scope) : Bool :=
  decide (sc.kind = .function) && !sc.isCoroutine && !sc.isGenerator && decide N.Nodup && decide (N.take P.length = P) && P.all (fun x => decide (sc.names.lookup x = some .local) || decide (sc.names.lookup x = some .cell)) && sc.names.all fun y => !decide (y.2 = .free)
theorem fscB_ok {N P : List Str} {sc : Scope} (h : fscB N P sc = true) : FnScope N P sc := by
  unfold fscB at h
  simp only [Bool.and_eq_true, Bool.not_eq_true', decide_eq_true_eq, List.all_eq_true, Bool.or_eq_true, decide_eq_false_iff_not] at h
  obtain ⟨⟨⟨⟨⟨⟨h1, h2⟩, h3⟩, h4⟩, h5⟩, h6⟩, h7⟩ := h
  exact ⟨h1, h2, h3, h4, h5, h6, h7⟩
def gOf (rows : List Row) (free : List Str) (r : Row) : Cg := ⟨r.N, defScope r.st, fun _ => true, fun f => (rows[f]?).map fun r => (r.fi.nm, r.P.length), free, r.lam⟩
def tbOf (rows : List Row) : Nat → Option FI := fun f => (rows[f]?).map (·.fi)
def chkRow (rows : List Row) (free : List Str) (ex : Nat → Option Str) (r : Row) : Bool :=
  argsB (defArgs r.st) && decide (r.fi.ps = r.P.length) && decide (r.fi.sz = r.N.length) && fscB r.N r.P (defScope r.st) && chkSs (gOf rows free r) ex r.fi.body (defBody r.st)
abbrev lamNm (x : Str) : Str := x ++ ".<locals>." ++ "<lambda>"
section
variable [TabL]
/-- what is told of a def behind the top -/
structure DefAt (K : PySem.W.Frag) (mg : Str → Option Value) (base : Heap) (r : Row) (fa : Addr) (fd : FuncData) : Prop where
  fn : FunD K r.fi.nm r.fi.nm (defArgs r.st) (defBody r.st) (defScope r.st) [] [] fa fd
  glo : mg r.fi.nm = some (.ref fa)
  lam : r.lam = true → ∃ cc P, fd.code = .ref cc ∧ TabB base mg cc P ∧ (P, lamNm r.fi.nm) ∈ TabL.T ∧ ∀ z ∈ TabL.T, z.1 = P → z.2 = lamNm r.fi.nm
structure Stage (K : PySem.W.Frag) (mg : Str → Option Value) (base : Heap) (rows : List Row) (free : List Str) (ex : Nat → Option Str) (cl : Nat → Option Value) : Prop where
  free : ∀ x ∈ free, mg x = none
  def_ : ∀ (f : Nat) (r : Row), rows[f]? = some r → ∃ fa fd, DefAt K mg base r fa fd
  exc : ∀ k x, ex k = some x → ∃ (C : Addr) (bmB : List Value) (B newId initId : String), ExcBaseFacts B newId initId bmB ∧ PySem.W.excIn K C bmB newId = true ∧ mg x = some (.ref C) ∧ PySem.W.keepIn K (.ref C) = true ∧ PySem.W.subIn K (.ref C) (.type "BaseException") = some true ∧
    PySem.W.typeIn K (.ref C) = some (.type "type") ∧ cl k = some (.ref C) ∧ ∀ k' cls, cl k' = some cls → PySem.W.exmOne K cls (.ref C) = some (decide (k' = k))
theorem DefAt.binds {K : PySem.W.Frag} {mg : Str → Option Value} {base : Heap} {rows : List Row} {free : List Str} {ex : Nat → Option Str} {r : Row} {fa : Addr} {fd : FuncData} (d : DefAt K mg base r fa fd) (h : chkRow rows free ex r = true) : Binds K fd r.P [] := by
  unfold chkRow at h
  obtain ⟨h, h5⟩ := and2 h
  obtain ⟨h, h4⟩ := and2 h
  obtain ⟨h, h3⟩ := and2 h
  obtain ⟨h1, h2⟩ := and2 h
  have nd : r.P.Nodup := by
    have S := fscB_ok h4
    rw [← S.pre]
    exact S.nd.sublist (List.take_sublist _ _)
  have e := argsB_ok h1
  have F := d.fn
  rw [e] at F
  exact F.bindsN fun kV doc pm an cdv ct us hl => bind_pos nd hl
theorem DefAt.bindsA {K : PySem.W.Frag} {mg : Str → Option Value} {base : Heap} {rows : List Row} {free : List Str} {ex : Nat → Option Str} {r : Row} {fa : Addr} {fd : FuncData} (d : DefAt K mg base r fa fd) (h : chkRow rows free ex r = true) {x : Str} (hp : r.P = [x]) (s : Shared) (u : Value) : BindsTo s fd ⟨[u], []⟩ [(x, u)] := by
  unfold chkRow at h
  obtain ⟨h, h5⟩ := and2 h
  obtain ⟨h, h4⟩ := and2 h
  obtain ⟨h, h3⟩ := and2 h
  obtain ⟨h1, h2⟩ := and2 h
  have nd : r.P.Nodup := by
    have S := fscB_ok h4
    rw [← S.pre]
    exact S.nd.sublist (List.take_sublist _ _)
  have e := argsB_ok h1
  have F := d.fn
  rw [e] at F
  have := FunD.bindsA (ps := r.P) F (fun kV doc pm an cdv ct us hl => bind_pos nd hl) s [u] (by rw [hp]; rfl)
  rw [hp] at this
  exact this
theorem callF_len {rows : List Row} {free : List Str} {ex : Nat → Option Str} (hc : ∀ (f : Nat) (r : Row), rows[f]? = some r → chkRow rows free ex r = true) {W : Nat} {f : Nat} {r : Row} (e : rows[f]? = some r) : ∀ {k : Nat} {ds : List D} {M : Mem}, callF (tbOf rows) W k f ds M ≠ .bad → ds.length = r.P.length
  | 0, ds, M, h => by unfold callF at h; exact absurd rfl h
  | k + 1, ds, M, h => by
    have e2 : tbOf rows f = some r.fi := by unfold tbOf; rw [e]; rfl
    have hr := hc f r e
    unfold chkRow at hr
    obtain ⟨hr, _⟩ := and2 hr
    obtain ⟨hr, _⟩ := and2 hr
    obtain ⟨hr, _⟩ := and2 hr
    obtain ⟨_, h2⟩ := and2 hr
    unfold callF at h
    rw [e2] at h
    dsimp only at h
    split at h
    · rename_i z; rw [z]; exact of_decide_eq_true h2
    · exact absurd rfl h
theorem levels {P : Program} {w : World} {K : PySem.W.Frag} {mg : Str → Option Value} {base : Heap} {rows : List Row} {free : List Str} {ex : Nat → Option Str} {cl : Nat → Option Value} {W : Nat} (S : Stage K mg base rows free ex cl)
    (hc : ∀ (f : Nat) (r : Row), rows[f]? = some r → chkRow rows free ex r = true) : ∀ (k f : Nat) (r : Row) (fa : Addr) (fd : FuncData), rows[f]? = some r → DefAt K mg base r fa fd → FnG P w K mg base k fa fd r.P (spF K cl (callF (tbOf rows) W k f))
  | 0, f, r, fa, fd, e, d => fnG_zero
  | k + 1, f, r, fa, fd, e, d => by
    have ih := levels (P := P) (w := w) (W := W) S hc k
    have hr := hc f r e
    have hr0 := hr
    unfold chkRow at hr
    obtain ⟨hr, h5⟩ := and2 hr
    obtain ⟨hr, h4⟩ := and2 hr
    obtain ⟨hr, h3⟩ := and2 hr
    obtain ⟨h1, h2⟩ := and2 hr
    have e2 : tbOf rows f = some r.fi := by unfold tbOf; rw [e]; rfl
    refine fnG_of d.fn (fscB_ok h4) e2 (of_decide_eq_true h2) (of_decide_eq_true h3) fun cdv ec A outer s H E rm ok => ?_
    refine chkSs_ok (g := gOf rows free r) (lv := k) (ex := ex) r.fi.body ⟨ok, rfl, rfl, fun _ _ => rfl, S.free, rm.mono (by omega), fun f' x n hf => ?_, fun hl => ⟨rm, ?_⟩⟩ ⟨fun k' x hx => ?_, rfl, rfl⟩ _ h5
    · cases e' : rows[f']? with
      | none =>
        have hf : (rows[f']?).map (fun r => (r.fi.nm, r.P.length)) = some (x, n) := hf
        rw [e'] at hf; cases hf
      | some r' =>
        have hf : (rows[f']?).map (fun r => (r.fi.nm, r.P.length)) = some (x, n) := hf
        rw [e'] at hf; cases hf
        obtain ⟨fa', fd', d'⟩ := S.def_ f' r' e'
        exact ⟨fa', fd', r'.P, ih f' r' fa' fd' e' d', d'.glo, d'.fn.kp, d'.binds (hc f' r' e'), fun ds M hb => callF_len hc e' hb⟩
    · obtain ⟨cc, Pt, z1, z2, z3, z4⟩ := d.lam hl
      refine ⟨cc, Pt, z2, ?_, z3, z4⟩
      exact ec.symm.trans z1
    · obtain ⟨C, bmB, B, n1, n2, F, q, gC, kC, r1, r2, ek, he⟩ := S.exc k' x hx
      exact ⟨C, bmB, B, n1, n2, F, q, gC, kC, raises_own r1 r2, ek, he⟩
end
end Net
end

section
set_option Elab.async false
set_option linter.all false
set_option maxRecDepth 100000
set_option maxHeartbeats 4000000
/-! N44: the head of a whole program, and the law's end. -/
namespace Net
open PySem PySem.Spec PyProof.Rows L2 LamX NdefX
theorem an2 {a b : Bool} (h : (a && b) = true) : a = true ∧ b = true := by simpa using h
/-! ### code objects and their tables -/
def tblO (o : Option Obj) : Bool := match o with
  | some ⟨.none, none, .fields ps, sl⟩ => ps.isEmpty && sl.isEmpty
  | _ => false
theorem tblO_ok {o : Option Obj} (h : tblO o = true) : o = some { cls := .none, data := .fields #[] } := by
  unfold tblO at h
  split at h
  · obtain ⟨h1, h2⟩ := an2 h
    rw [Array.isEmpty_iff.mp h1, Array.isEmpty_iff.mp h2]
  · cases h
def strB : Value → Bool
  | .str _ _ => true
  | _ => false
def intB : Value → Bool
  | .int _ _ => true
  | _ => false
def boolB : Value → Bool
  | .bool _ => true
  | _ => false
def codeTab (g : Addr → Option Obj) (K : PySem.W.Frag) (x : Str) : Option (Addr × Addr) := match K.lookup (He.ga K x) with
  | some ⟨_, _, .func fd, _⟩ => (match fd.code with
    | .ref c => (match g c with
      | some ⟨.type t, _, .fields vs, _⟩ => (match (vs[11]? : Option Value) with
        | some (.ref P) => (match decide (t = "code") && strB (vs.getD 18 .none) && intB (vs.getD 7 .none) && boolB (vs.getD 9 .none) && intB (vs.getD 10 .none) && !decide (c = P) && tblO (g P) && (K.lookup P).isNone with
          | true => some (c, P)
          | false => none)
        | _ => none)
      | _ => none)
    | _ => none)
  | _ => none
theorem codeTab_ok {h : Heap} {K : PySem.W.Frag} {x : Str} {c P : Addr} (e : codeTab h.get? K x = some (c, P)) : TabHd K h c P ∧ ∃ oc od fd osl, K.lookup (He.ga K x) = some ⟨oc, od, .func fd, osl⟩ ∧ fd.code = .ref c := by
  unfold codeTab at e
  split at e
  · rename_i oc od fd osl e1
    split at e
    · rename_i c' ec
      split at e
      · rename_i t dt vs sl ev
        split at e
        · rename_i P' eP
          split at e
          · rename_i hb
            cases e
            simp only [Bool.and_eq_true, decide_eq_true_eq, Bool.not_eq_true', decide_eq_false_iff_not] at hb
            obtain ⟨⟨⟨⟨⟨⟨⟨rfl, h1⟩, h2⟩, h3⟩, h4⟩, h5⟩, h6⟩, h7⟩ := hb
            have g1 : ∃ f t, vs.getD 18 .none = .str f t := by cases q : vs.getD 18 .none <;> rw [q] at h1 <;> first | exact ⟨_, _, rfl⟩ | cases h1
            have g2 : ∃ f t, vs.getD 7 .none = .int f t := by cases q : vs.getD 7 .none <;> rw [q] at h2 <;> first | exact ⟨_, _, rfl⟩ | cases h2
            have g3 : ∃ f, vs.getD 9 .none = .bool f := by cases q : vs.getD 9 .none <;> rw [q] at h3 <;> first | exact ⟨_, rfl⟩ | cases h3
            have g4 : ∃ f t, vs.getD 10 .none = .int f t := by cases q : vs.getD 10 .none <;> rw [q] at h4 <;> first | exact ⟨_, _, rfl⟩ | cases h4
            obtain ⟨f1, t1, q1⟩ := g1
            obtain ⟨f2, t2, q2⟩ := g2
            obtain ⟨f3, q3⟩ := g3
            obtain ⟨f4, t4, q4⟩ := g4
            have q0 : vs.getD 11 .none = .ref P := by
              rw [Array.getD_eq_getD_getElem?, eP]; rfl
            refine ⟨⟨tblO_ok h6, ?_, _, vs, f1, t1, f2, t2, f3, f4, t4, ev, rfl, rfl, eP, q0, q1, q2, q3, q4, h5⟩, oc, od, fd, osl, e1, ec⟩
            cases q : K.lookup P with
            | none => rfl
            | some o => rw [q] at h7; cases h7
          · cases e
        · cases e
      · cases e
    · cases e
  · cases e
/-! ### the hook -/
def asN (g : Addr → Option Obj) (n : Nat) : List Addr := (He.asD g n).filter fun a => !tblO (g a)
def tabsB (g : Addr → Option Obj) (K : PySem.W.Frag) (lams : List Str) : Bool := lams.all (fun x => (codeTab g K x).isSome) && decide ((lams.map fun x => ((codeTab g K x).getD (0, 0)).2).Nodup)
abbrev AlN : Type := He.AlD × Bool
def obsN (n : Nat) (fa : List He.Fa) (fn : List He.DefD) (lams : List Str) (g : Addr → Option Obj) : AlN := (He.obsD fa fn (He.frG g (asN g n)), tabsB g (He.frG g (asN g n)) lams)
def valN (fn : List He.DefD) : AlN := (He.valD fn, true)
theorem TabHd.keeps {K : PySem.W.Frag} {h h' : Heap} {c P : Addr} (t : TabHd K h c P) (k : ∀ b o, h.get? b = some o → h'.get? b = some o) : TabHd K h' c P := ⟨k _ _ t.empty, t.out, t.code.keeps k⟩
def SaysN (fa : List He.Fa) (fn : List He.DefD) (lams : List Str) (h : Heap) : Prop := ∃ K : PySem.W.Frag, K.In h ∧ He.SaysD fa fn K ∧ ∃ ct : Str → Addr × Addr,
  (∀ x ∈ lams, TabHd K h (ct x).1 (ct x).2 ∧ ∃ oc od fd osl, K.lookup (He.ga K x) = some ⟨oc, od, .func fd, osl⟩ ∧ fd.code = .ref (ct x).1) ∧ (lams.map fun x => (ct x).2).Nodup
theorem saysN_of {n : Nat} {fa : List He.Fa} {fn : List He.DefD} {lams : List Str} {h : Heap} (e : obsN n fa fn lams h.get? = valN fn) : SaysN fa fn lams h := by
  have e1 := congrArg (fun z : AlN => z.1) e
  have e2 : tabsB h.get? (He.frG h.get? (asN h.get? n)) lams = true := congrArg (fun z : AlN => z.2) e
  unfold tabsB at e2
  obtain ⟨a1, a2⟩ := an2 e2
  refine ⟨_, He.frG_in, e1, fun x => (codeTab h.get? (He.frG h.get? (asN h.get? n)) x).getD (0, 0), fun x hx => ?_, of_decide_eq_true a2⟩
  have := List.all_eq_true.mp a1 x hx
  obtain ⟨⟨c, P⟩, q⟩ := Option.isSome_iff_exists.mp this
  dsimp only
  rw [q]
  exact codeTab_ok q
def hookN (n : Nat) (fa : List He.Fa) (fn : List He.DefD) (lams : List Str) : PySem.W.Hook where
  α := AlN
  obs := fun s => obsN n fa fn lams s.heap.get?
  val := fun _ => valN fn
  says := fun _ h => SaysN fa fn lams h
  of := fun _ _ e => saysN_of e
  keeps := fun _ _ _ ⟨K, hK, c, ct, h1, h2⟩ k => ⟨K, PySem.W.Frag.In.keeps hK k, c, ct, fun x hx => ⟨(h1 x hx).1.keeps k, (h1 x hx).2⟩, h2⟩
theorem obsN_eq {n : Nat} {fa : List He.Fa} {fn : List He.DefD} {lams : List Str} {g : Addr → Option Obj} {s : Shared} (h : ∀ a, g a = s.heap.get? a) : obsN n fa fn lams g = (hookN n fa fn lams).obs s := by
  have e : g = s.heap.get? := funext h
  rw [e] <;> rfl
/-! ### a program's head -/
def rowD (r : Row) : He.DefD := ⟨(r.fi.nm, none), r.fi.nm, r.fi.nm, defArgs r.st, defBody r.st, defScope r.st, [], []⟩
def fnN (rows : List Row) : List He.DefD := rows.map rowD
def faN (rows : List Row) (free exs : List Str) : List He.Fa := rows.map (fun r => .glo r.fi.nm) ++ (free.map .free ++ (exs.map .glo ++ (exs.map .exc ++ exs.flatMap fun x => exs.map fun y => .exm x y (decide (x = y)))))
def lamsN (rows : List Row) : List Str := (rows.filter (·.lam)).map (·.fi.nm)
def exN (exs : List Str) : Nat → Option Str := fun k => exs[k]?
theorem says_fact {fa : List He.Fa} {fn : List He.DefD} {K : PySem.W.Frag} (c : He.SaysD fa fn K) {f : He.Fa} (h : f ∈ fa) : f.ok K = true := by
  obtain ⟨i, hi⟩ := List.getElem?_of_mem h
  exact c.fact i hi
theorem net_walk {l : PySem.W.OpenLaw} {n k fl W : Nat} {rows : List Row} {free exs : List Str} {q : Program} {loose : List Str} {XP : (Str → Option Value) → Heap → Prop} {d : DefRec} {x : Str} {r : Row}
    (hn : l.most = some n) (hn2 : n ≤ sizeLine) (hdf : d.params.defaults = []) (room : Room (4 * k) callerA)
    (hc : rows.all (chkRow rows free (exN exs)) = true) (hnd : exs.Nodup) (el : rows[fl]? = some r) (hx : r.P = [x]) (hnm : r.fi.nm = d.name)
    (ans : ∀ ns : List Int, ns.length ≤ n → ∃ M, callF (tbOf rows) W k fl [.scr ns] [] = .ok (.bl true) M) :
    PySem.W.WalkO q loose XP (fun (_ : World) h => SaysN (faN rows free exs) (fnN rows) (lamsN rows) h) l.row.toRowW d [] (fun f vs => PySem.call f vs) := by
  have hc' : ∀ (f : Nat) (r : Row), rows[f]? = some r → chkRow rows free (exN exs) r = true := fun f r e => List.all_eq_true.mp hc r (List.mem_of_getElem? e)
  letI t0 : TabL := ⟨[]⟩
  refine walk_G (k := k) (f := fl) (W := W) (tb := tbOf rows) (x := x) hn hn2 hdf room (fun w mg fa h Y G em => ?_) ans
  obtain ⟨K, KX, c, ct, h1, h2⟩ := Y
  let cl : Nat → Option Value := fun k => (exs[k]?).map fun x => .ref (He.ga K x)
  let tl : TabL := ⟨(lamsN rows).map fun x => ((ct x).2, lamNm x)⟩
  have glo : ∀ r ∈ rows, mg r.fi.nm = some (.ref (He.ga K r.fi.nm)) := fun r hr => He.glo_ok KX G (says_fact c (f := .glo r.fi.nm) (by
    unfold faN; exact List.mem_append.mpr (.inl (List.mem_map.mpr ⟨r, hr, rfl⟩))))
  have exf : ∀ f : He.Fa, f ∈ free.map He.Fa.free ++ (exs.map He.Fa.glo ++ (exs.map He.Fa.exc ++ exs.flatMap fun x => exs.map fun y => He.Fa.exm x y (decide (x = y)))) → f.ok K = true := fun f hf => says_fact c (by
    unfold faN; exact List.mem_append.mpr (.inr hf))
  have stage : ∀ base : Heap, K.In base → base.Ns mainGlobals mg → (∀ p ∈ (lamsN rows).map ct, TabB base mg p.1 p.2) → @Stage tl K mg base rows free (exN exs) cl := fun base hb hg ht => by
    refine @Stage.mk tl K mg base rows free (exN exs) cl (fun x hx => ?_) (fun f r e => ?_) fun k x e => ?_
    · exact He.free_ok KX G (exf (.free x) (List.mem_append.mpr (.inl (List.mem_map.mpr ⟨x, hx, rfl⟩))))
    · have e' : (fnN rows)[f]? = some (rowD r) := by unfold fnN; rw [List.getElem?_map, e]; rfl
      obtain ⟨fd, F⟩ := c.def_ f e'
      refine ⟨He.ga K r.fi.nm, fd, ⟨F, glo r (List.mem_of_getElem? e), fun hl => ?_⟩⟩
      have hm : r.fi.nm ∈ lamsN rows := List.mem_map.mpr ⟨r, List.mem_filter.mpr ⟨List.mem_of_getElem? e, hl⟩, rfl⟩
      obtain ⟨_, oc, od, fd', osl, lk, ec⟩ := h1 _ hm
      obtain ⟨oc2, od2, dV, kV, doc, pm, an, cdv, ctt, osl2, efd, lk2, _⟩ := F.ex
      have lk2 : K.lookup (He.ga K r.fi.nm) = some ⟨oc2, od2, .func fd, osl2⟩ := lk2
      rw [lk] at lk2
      cases lk2
      refine ⟨_, _, ec, ht _ (List.mem_map.mpr ⟨_, hm, rfl⟩), List.mem_map.mpr ⟨_, hm, rfl⟩, fun z hz e2 => ?_⟩
      obtain ⟨y, hy, rfl⟩ := List.mem_map.mp hz
      have : y = r.fi.nm := by
        have inj : ∀ (l : List Str), (l.map fun x => (ct x).2).Nodup → ∀ a ∈ l, ∀ b ∈ l, (ct a).2 = (ct b).2 → a = b := by
          intro l
          induction l with
          | nil => intro _ a ha; cases ha
          | cons u us ih =>
            intro nd a ha b hb e
            rw [List.map_cons, List.nodup_cons] at nd
            rcases List.mem_cons.mp ha with a1 | a1
            · rcases List.mem_cons.mp hb with b1 | b1
              · rw [a1, b1]
              · have m : (ct u).2 ∈ us.map (fun x => (ct x).2) := List.mem_map.mpr ⟨b, b1, by rw [← e, a1]⟩
                exact absurd m nd.1
            · rcases List.mem_cons.mp hb with b1 | b1
              · have m : (ct u).2 ∈ us.map (fun x => (ct x).2) := List.mem_map.mpr ⟨a, a1, by rw [e, b1]⟩
                exact absurd m nd.1
              · exact ih nd.2 a a1 b b1 e
        exact inj _ h2 y hy _ hm e2
      rw [this]
    · have hx : x ∈ exs := List.mem_of_getElem? e
      obtain ⟨a1, a2, a3, a4⟩ := He.exc_ok (exf (.exc x) (List.mem_append.mpr (.inr (List.mem_append.mpr (.inr (List.mem_append.mpr (.inl (List.mem_map.mpr ⟨x, hx, rfl⟩))))))))
      refine ⟨He.ga K x, _, _, _, _, F.excBase_ValueError, a1, He.glo_ok KX G (exf (.glo x) (List.mem_append.mpr (.inr (List.mem_append.mpr (.inl (List.mem_map.mpr ⟨x, hx, rfl⟩)))))), a2, a3, a4, ?_, fun k' cls e2 => ?_⟩
      · show (exs[k]?).map _ = _
        have e : exs[k]? = some x := e
        rw [e]; rfl
      · have e : exs[k]? = some x := e
        have e2 : (exs[k']?).map (fun x => Value.ref (He.ga K x)) = some cls := e2
        cases e3 : exs[k']? with
        | none => rw [e3] at e2; cases e2
        | some y =>
          rw [e3] at e2; cases e2
          have hy : y ∈ exs := List.mem_of_getElem? e3
          have := He.exm_ok (exf (.exm y x (decide (y = x))) (List.mem_append.mpr (.inr (List.mem_append.mpr (.inr (List.mem_append.mpr (.inr (List.mem_flatMap.mpr ⟨y, hy, List.mem_map.mpr ⟨x, hx, rfl⟩⟩))))))))
          rw [this]
          have : decide (y = x) = decide (k' = k) := by
            rw [decide_eq_decide]
            constructor
            · rintro rfl
              obtain ⟨i1, i2⟩ := List.getElem?_eq_some_iff.mp e
              obtain ⟨j1, j2⟩ := List.getElem?_eq_some_iff.mp e3
              exact (List.getElem_inj hnd).mp (j2.trans i2.symm)
            · rintro rfl
              rw [e] at e3; cases e3; rfl
          rw [this]
  have e' : (fnN rows)[fl]? = some (rowD r) := by unfold fnN; rw [List.getElem?_map, el]; rfl
  obtain ⟨fd, F⟩ := c.def_ fl e'
  have ea : fa = He.ga K r.fi.nm := by
    have := glo r (List.mem_of_getElem? el)
    rw [hnm, em] at this
    cases this; rw [hnm]
  subst ea
  have F : FunD K r.fi.nm r.fi.nm (defArgs r.st) (defBody r.st) (defScope r.st) [] [] (He.ga K r.fi.nm) fd := F
  refine ⟨K, fd, cl, (lamsN rows).map ct, tl, KX, fun p hp => ?_, fun z hz => ?_, fun s u => ?_, fun base hb hg ht => ?_⟩
  · obtain ⟨y, hy, rfl⟩ := List.mem_map.mp hp
    exact (h1 y hy).1
  · obtain ⟨y, hy, rfl⟩ := List.mem_map.mp hz
    exact List.mem_map.mpr ⟨_, List.mem_map.mpr ⟨y, hy, rfl⟩, rfl⟩
  · have := FunD.bindsA (ps := [x]) F (fun kV doc pm an cdv ct us hl => ?_) s [u] rfl
    · exact this
    · have hr := hc' fl r el
      unfold chkRow at hr
      obtain ⟨hr, h5⟩ := an2 hr
      obtain ⟨hr, h4⟩ := an2 hr
      obtain ⟨hr, h3⟩ := an2 hr
      obtain ⟨k1, k2⟩ := an2 hr
      have nd : r.P.Nodup := by rw [hx]; simp
      rw [argsB_ok k1, ← hx]
      exact bind_pos nd (by rw [← hx] at hl; exact hl)
  · have S := stage base hb hg ht
    obtain ⟨fa2, fd2, D2⟩ := @Stage.def_ tl _ _ _ _ _ _ _ S fl r el
    have e1 : fa2 = He.ga K r.fi.nm := by
      have h := @DefAt.glo tl _ _ _ _ _ _ D2
      rw [glo r (List.mem_of_getElem? el)] at h
      cases h; rfl
    subst e1
    have e2 : fd2 = fd := by
      have F2 := @DefAt.fn tl _ _ _ _ _ _ D2
      obtain ⟨_, _, _, _, _, _, _, _, _, _, _, lk, _⟩ := F.ex
      obtain ⟨_, _, _, _, _, _, _, _, _, _, _, lk2, _⟩ := F2.ex
      rw [lk] at lk2
      cases lk2; rfl
    subst e2
    have := @levels tl l.prog w K mg base rows free (exN exs) cl W S hc' k fl r _ _ el D2
    rw [hx] at this
    exact this
end Net
end

section
set_option Elab.async false
set_option linter.all false
set_option maxRecDepth 100000
/-! M2: how the small language runs: loops, comprehensions, ends of calls. -/
namespace Net
open PySem L2

@[simp] theorem rs_ok {α β : Type} (a : α) (M : Mem) (f : α → Mem → Rs β) : (Rs.ok a M).bind f = f a M := rfl
@[simp] theorem rs_st {α : Type} (ρ : Fr) (a : α) (M : Mem) (f : α → Mem → Rt) : (Rs.ok a M).st ρ f = f a M := rfl
@[simp] theorem rs_of {α : Type} (M : Mem) (a : α) : Rs.of M (some a) = .ok a M := rfl
theorem still_refl {g : List Nat} {M : Mem} : Still g M M := fun _ _ => rfl
theorem still_nil {M M' : Mem} : Still [] M M' := fun _ h => (nomatch h)
section
variable {g : List Nat} {M0 : Mem} {α : Type} {enc : α → D}
/-- a comprehension whose turns change nothing -/
theorem compL_pure {step : D → Mem → Rs (Option D)} {f : α → Option D} : ∀ (xs : List α) (acc : List D), (∀ x, x ∈ xs → step (enc x) M0 = .ok (f x) M0) → compL g M0 step (xs.map enc) acc M0 = .ok (acc ++ xs.filterMap f) M0
  | [], acc, _ => by simp [compL]
  | x :: xs, acc, h => by
    rw [List.map_cons, compL, h x List.mem_cons_self]
    simp only [if_pos still_refl]
    rw [compL_pure xs _ fun y hy => h y (List.mem_cons_of_mem _ hy)]
    cases q : f x <;> simp [q]
theorem compLL_pure {step : D → List D → Mem → Rs (List D)} {f : α → List D} : ∀ (xs : List α) (acc : List D), (∀ x, x ∈ xs → ∀ acc, step (enc x) acc M0 = .ok (acc ++ f x) M0) → compLL g M0 step (xs.map enc) acc M0 = .ok (acc ++ xs.flatMap f) M0
  | [], acc, _ => by simp [compLL]
  | x :: xs, acc, h => by
    rw [List.map_cons, compLL, h x List.mem_cons_self]
    simp only [if_pos still_refl]
    rw [compLL_pure xs _ fun y hy => h y (List.mem_cons_of_mem _ hy)]
    simp
/-- a comprehension with a state -/
theorem compL_inv {step : D → Mem → Rs (Option D)} (I : List α → List D → Mem → Prop) : ∀ (xs pre : List α) (acc : List D) (M : Mem), I pre acc M →
    (∀ pre x acc M, x ∈ xs → I pre acc M → ∃ o M', step (enc x) M = .ok o M' ∧ Still g M0 M' ∧ I (pre ++ [x]) (acc ++ o.toList) M') → ∃ ds M', compL g M0 step (xs.map enc) acc M = .ok ds M' ∧ I (pre ++ xs) ds M'
  | [], pre, acc, M, h, _ => ⟨acc, M, by simp [compL], by simpa using h⟩
  | x :: xs, pre, acc, M, h, hs => by
    obtain ⟨o, M', e, st, i⟩ := hs pre x acc M List.mem_cons_self h
    obtain ⟨ds, M2, e2, i2⟩ := compL_inv I xs (pre ++ [x]) _ M' i fun pre y acc M hy => hs pre y acc M (List.mem_cons_of_mem _ hy)
    refine ⟨ds, M2, ?_, by simpa using i2⟩
    rw [List.map_cons, compL, e]
    simp only [if_pos st]
    exact e2
/-- a loop that goes to its end -/
theorem loopL_inv {step : D → Fr → Mem → Rt} (I : List α → Fr → Mem → Prop) : ∀ (xs pre : List α) (ρ : Fr) (M : Mem), I pre ρ M →
    (∀ pre x ρ M, x ∈ xs → I pre ρ M → ∃ ρ' M', (step (enc x) ρ M = .next ρ' M' ∨ step (enc x) ρ M = .cont ρ' M') ∧ Still g M0 M' ∧ I (pre ++ [x]) ρ' M') → ∃ ρ' M', loopL g M0 step (xs.map enc) ρ M = .next ρ' M' ∧ I (pre ++ xs) ρ' M'
  | [], pre, ρ, M, h, _ => ⟨ρ, M, by simp [loopL], by simpa using h⟩
  | x :: xs, pre, ρ, M, h, hs => by
    obtain ⟨ρ', M', e, st, i⟩ := hs pre x ρ M List.mem_cons_self h
    obtain ⟨ρ2, M2, e2, i2⟩ := loopL_inv I xs (pre ++ [x]) ρ' M' i fun pre y ρ M hy => hs pre y ρ M (List.mem_cons_of_mem _ hy)
    refine ⟨ρ2, M2, ?_, by simpa using i2⟩
    rw [List.map_cons, loopL]
    rcases e with e | e <;> rw [e] <;> simp only [if_pos st] <;> exact e2
/-- a loop that may return -/
theorem loopL_ret {step : D → Fr → Mem → Rt} (I : List α → Fr → Mem → Prop) (Q : Rt → Prop) : ∀ (xs pre : List α) (ρ : Fr) (M : Mem), I pre ρ M →
    (∀ pre x post ρ M, pre ++ x :: post = pre ++ x :: post → x ∈ xs → I pre ρ M → (∃ d M', step (enc x) ρ M = .ret d M' ∧ Q (.ret d M')) ∨ ∃ ρ' M', (step (enc x) ρ M = .next ρ' M' ∨ step (enc x) ρ M = .cont ρ' M') ∧ Still g M0 M' ∧ I (pre ++ [x]) ρ' M') →
    (∃ d M', loopL g M0 step (xs.map enc) ρ M = .ret d M' ∧ Q (.ret d M')) ∨ ∃ ρ' M', loopL g M0 step (xs.map enc) ρ M = .next ρ' M' ∧ I (pre ++ xs) ρ' M'
  | [], pre, ρ, M, h, _ => .inr ⟨ρ, M, by simp [loopL], by simpa using h⟩
  | x :: xs, pre, ρ, M, h, hs => by
    rcases hs pre x [] ρ M rfl List.mem_cons_self h with ⟨d, M', e, q⟩ | ⟨ρ', M', e, st, i⟩
    · refine .inl ⟨d, M', ?_, q⟩
      rw [List.map_cons, loopL, e]
    · have e0 : loopL g M0 step ((x :: xs).map enc) ρ M = loopL g M0 step (xs.map enc) ρ' M' := by
        rw [List.map_cons, loopL]
        rcases e with e | e <;> rw [e] <;> simp only [if_pos st]
      rw [e0]
      rcases loopL_ret I Q xs (pre ++ [x]) ρ' M' i fun pre y post ρ M _ hy => hs pre y post ρ M rfl (List.mem_cons_of_mem _ hy) with z | ⟨ρ2, M2, e2, i2⟩
      · exact .inl z
      · exact .inr ⟨ρ2, M2, e2, by simpa using i2⟩
end
/-! ### data without objects that may change -/
mutual
theorem un_mono {n m : Nat} (h : n ≤ m) : ∀ d : D, d.under n = true → d.under m = true
  | .non, _ => rfl
  | .bl _, _ => rfl
  | .int _, _ => rfl
  | .str _, _ => rfl
  | .scr _, _ => rfl
  | .loc k, q => decide_eq_true (Nat.lt_of_lt_of_le (of_decide_eq_true (show decide (k < n) = true from q)) h)
  | .tup ds, q => unL_mono h ds q
  | .lst ds, q => unL_mono h ds q
  | .dic ds, q => unK_mono h ds q
theorem unL_mono {n m : Nat} (h : n ≤ m) : ∀ ds : List D, D.underL n ds = true → D.underL m ds = true
  | [], _ => rfl
  | d :: ds, q => by
    unfold D.underL at q ⊢
    rw [Bool.and_eq_true] at q ⊢
    exact ⟨un_mono h d q.1, unL_mono h ds q.2⟩
theorem unK_mono {n m : Nat} (h : n ≤ m) : ∀ ds : List (Key × D), D.underK n ds = true → D.underK m ds = true
  | [], _ => rfl
  | (k, d) :: ds, q => by
    unfold D.underK at q ⊢
    rw [Bool.and_eq_true] at q ⊢
    exact ⟨un_mono h d q.1, unK_mono h ds q.2⟩
end
def D.pure (d : D) : Bool := d.under 0
theorem pure_un {d : D} (h : d.pure = true) {n : Nat} : d.under n = true := un_mono (Nat.zero_le n) d h
theorem frz_pure {M : Mem} {n k : Nat} {d : D} (h : d.under n = true) : frz M n k d = some d := by
  cases k <;> (unfold frz; rw [if_pos h])
theorem leave_ret {M : Mem} {n : Nat} {d : D} (h : d.under n = true) : leave false n (.ret d M) = .ok d (M.take n) := by
  unfold leave; simp only [Bool.false_eq_true, if_false, frz_pure h]
@[simp] theorem leave_ret0 {M : Mem} {d : D} (h : d.pure = true) : leave false M.length (.ret d M) = .ok d M := by
  rw [leave_ret (pure_un h), List.take_length]
@[simp] theorem pure_non : D.pure .non = true := rfl
@[simp] theorem pure_bl {b : Bool} : D.pure (.bl b) = true := rfl
@[simp] theorem pure_int {b : Int} : D.pure (.int b) = true := rfl
@[simp] theorem pure_str {b : Str} : D.pure (.str b) = true := rfl
theorem underL_all {n : Nat} {ds : List D} : D.underL n ds = ds.all (·.under n) := by
  induction ds with
  | nil => rfl
  | cons d ds ih => unfold D.underL; rw [ih]; rfl
@[simp] theorem pure_tup {ds : List D} : D.pure (.tup ds) = ds.all D.pure := by
  unfold D.pure; show D.underL 0 ds = _; rw [underL_all]
@[simp] theorem pure_lst {ds : List D} : D.pure (.lst ds) = ds.all D.pure := by
  unfold D.pure; show D.underL 0 ds = _; rw [underL_all]
theorem call_eq {tb : Nat → Option FI} {W k f : Nat} {fi : FI} {ds : List D} {M : Mem} (h : tb f = some fi) (hl : ds.length = fi.ps) :
    callF tb W (k + 1) f ds M = leave fi.keep M.length (exs (callF tb W k) M.length W fi.body (startD fi.sz ds) M) := by
  rw [callF, h]
  simp only [if_pos hl]

/-! ### one construct after the other -/
def iteD {β : Type} (bad : β) (d : D) (a b : β) : β := match d with
  | .bl true => a
  | .bl false => b
  | _ => bad
@[simp] theorem iteD_t {β : Type} {z a b : β} : iteD z (.bl true) a b = a := rfl
@[simp] theorem iteD_f {β : Type} {z a b : β} : iteD z (.bl false) a b = b := rfl
theorem iteD_b {β : Type} {z a b : β} {c : Bool} : iteD z (.bl c) a b = if c = true then a else b := by cases c <;> rfl
section
variable (F : Nat → List D → Mem → Rs D) (base W : Nat)
noncomputable def stepC (t : T) (c e : E) (ρ : Fr) (d : D) (M : Mem) : Rs (Option D) := match asg t d ρ with
  | none => .bad
  | some ρ' => (ev F base c ρ' M).bind fun k M => iteD .bad k ((ev F base e ρ' M).bind fun y M => .ok (some y) M) (.ok none M)
noncomputable def stepD (t2 : T) (c2 e : E) (ρ1 : Fr) (d2 : D) (acc : List D) (M : Mem) : Rs (List D) := match asg t2 d2 ρ1 with
  | none => .bad
  | some ρ2 => (ev F base c2 ρ2 M).bind fun k M => iteD .bad k ((ev F base e ρ2 M).bind fun y M => if acc.length < sizeLine then .ok (acc ++ [y]) M else .bad) (.ok acc M)
noncomputable def stepC2 (t : T) (c : E) (t2 : T) (it2 : I) (c2 e : E) (own2 : List Nat) (ρ : Fr) (d : D) (acc : List D) (M : Mem) : Rs (List D) := match asg t d ρ with
  | none => .bad
  | some ρ1 => (ev F base c ρ1 M).bind fun k M => iteD .bad k ((evI F base it2 ρ1 M).bind fun z2 M1 => compLL z2.2 M1 (stepD F base t2 c2 e (wipeD ρ1 own2)) z2.1 acc M1) (.ok acc M)
noncomputable def stepL (t : T) (body : Ss) (d : D) (ρ : Fr) (M : Mem) : Rt := match asg t d ρ with
  | some ρ' => exs F base W body ρ' M
  | none => .bad
variable {F base W}
theorem evC_comp {t : T} {it : I} {c e : E} {own : List Nat} {ρ : Fr} {M : Mem} : evC F base (.comp t it c e own) ρ M = (evI F base it ρ M).bind fun z M0 => (compL z.2 M0 (stepC F base t c e (wipeD ρ own)) z.1 [] M0).bind fun ds M => .ok (.lst ds) M := by
  rw [evC]; rfl
theorem evC_comp2 {t : T} {it : I} {c : E} {t2 : T} {it2 : I} {c2 e : E} {own own2 : List Nat} {ρ : Fr} {M : Mem} : evC F base (.comp2 t it c t2 it2 c2 e own own2) ρ M = (evI F base it ρ M).bind fun z M0 => (compLL z.2 M0 (stepC2 F base t c t2 it2 c2 e own2 (wipeD ρ own)) z.1 [] M0).bind fun ds M => .ok (.lst ds) M := by
  rw [evC]
  refine congrArg (fun st : D → List D → Mem → Rs (List D) => (evI F base it ρ M).bind fun z M0 => (compLL z.2 M0 st z.1 [] M0).bind fun ds M => Rs.ok (Cell.lst ds) M) ?_
  funext d acc M
  unfold stepC2
  cases asg t d (wipeD ρ own) with
  | none => rfl
  | some ρ1 =>
    refine congrArg (fun f : D → Mem → Rs (List D) => (ev F base c ρ1 M).bind f) ?_
    funext k M
    cases k <;> first | rfl | (rename_i b; cases b <;> rfl)
theorem evC_lst {es : Es} {ρ : Fr} {M : Mem} : evC F base (.lst es) ρ M = (evs F base es ρ M).bind fun ds M => if ds.length ≤ sizeLine then .ok (.lst ds) M else .bad := by rw [evC]
theorem evC_dic {ρ : Fr} {M : Mem} : evC F base .dic0 ρ M = .ok (.dic []) M := by rw [evC]
theorem evC_list {it : I} {ρ : Fr} {M : Mem} : evC F base (.list it) ρ M = (evI F base it ρ M).bind fun z M => .ok (.lst z.1) M := by rw [evC]
theorem ex_loop {t : T} {it : I} {b : Ss} {ρ : Fr} {M : Mem} : ex F base W (.loop t it b) ρ M = (evI F base it ρ M).st ρ fun z M => loopL z.2 M (stepL F base W t b) z.1 ρ M := by
  rw [ex]; rfl
theorem ex_while {c : E} {b : Ss} {ρ : Fr} {M : Mem} : ex F base W (.while c b) ρ M = whileL (fun ρ M => ev F base c ρ M) (fun ρ M => exs F base W b ρ M) W ρ M := by rw [ex]
theorem ev_var {i : Nat} {ρ : Fr} {M : Mem} {d : D} (h : ρ[i]? = some (some d)) : ev F base (.var i) ρ M = .ok d M := by rw [ev, h]
theorem ev_non {ρ : Fr} {M : Mem} : ev F base .non ρ M = .ok .non M := by rw [ev]
theorem ev_bl {b : Bool} {ρ : Fr} {M : Mem} : ev F base (.bl b) ρ M = .ok (.bl b) M := by rw [ev]
theorem ev_int {b : Int} {ρ : Fr} {M : Mem} : ev F base (.int b) ρ M = .ok (.int b) M := by rw [ev]
theorem ev_str {b : Str} {ρ : Fr} {M : Mem} : ev F base (.str b) ρ M = .ok (.str b) M := by rw [ev]
theorem ev_tup {es : Es} {ρ : Fr} {M : Mem} : ev F base (.tup es) ρ M = (evs F base es ρ M).bind fun ds M => if ds.length ≤ sizeLine then .ok (.tup ds) M else .bad := by rw [ev]
theorem ev_new {c : C} {ρ : Fr} {M : Mem} : ev F base (.new c) ρ M = (evC F base c ρ M).bind fun c M => .ok c.frz M := by rw [ev]
theorem ev_newM {c : C} {ρ : Fr} {M : Mem} : ev F base (.newM c) ρ M = (evC F base c ρ M).bind fun c M => .ok (.loc M.length) (M ++ [c]) := by rw [ev]
theorem ev_bin {op : BOp} {a b : E} {ρ : Fr} {M : Mem} : ev F base (.bin op a b) ρ M = (ev F base a ρ M).bind fun x M => (ev F base b ρ M).bind fun y M => .of M (bop M op x y) := by rw [ev]
theorem ev_cmp {op : COp} {a b : E} {ρ : Fr} {M : Mem} : ev F base (.cmp op a b) ρ M = (ev F base a ρ M).bind fun x M => (ev F base b ρ M).bind fun y M => .of M ((cop M op x y).map .bl) := by rw [ev]
theorem ev_ix {a b : E} {ρ : Fr} {M : Mem} : ev F base (.ix a b) ρ M = (ev F base a ρ M).bind fun x M => (ev F base b ρ M).bind fun y M => .of M (ixD M x y) := by rw [ev]
theorem ev_call {f : Nat} {es : Es} {ρ : Fr} {M : Mem} : ev F base (.call f es) ρ M = (evs F base es ρ M).bind fun ds M => F f ds M := by rw [ev]
theorem ev_b1 {f : B1} {a : E} {ρ : Fr} {M : Mem} : ev F base (.b1 f a) ρ M = (ev F base a ρ M).bind fun x M => .of M (b1 M f x) := by rw [ev]
theorem evs_nil {ρ : Fr} {M : Mem} : evs F base .nil ρ M = .ok [] M := by rw [evs]
theorem evs_cons {e : E} {es : Es} {ρ : Fr} {M : Mem} : evs F base (.cons e es) ρ M = (ev F base e ρ M).bind fun d M => (evs F base es ρ M).bind fun ds M => .ok (d :: ds) M := by rw [evs]
theorem evs_star {e : E} {es : Es} {ρ : Fr} {M : Mem} : evs F base (.star e es) ρ M = (ev F base e ρ M).bind fun d M => match d.items M with
    | some xs => (evs F base es ρ M).bind fun ds M => .ok (xs ++ ds) M
    | none => .bad := by rw [evs] <;> rfl
theorem exs_nil {ρ : Fr} {M : Mem} : exs F base W .nil ρ M = .next ρ M := by rw [exs]
/-- a suite goes on -/
def Rt.go : Rt → (Fr → Mem → Rt) → Rt
  | .next ρ M, f => f ρ M
  | r, _ => r
theorem exs_cons {s : S} {ss : Ss} {ρ : Fr} {M : Mem} : exs F base W (.cons s ss) ρ M = (ex F base W s ρ M).go fun ρ M => exs F base W ss ρ M := by
  rw [exs]
  cases ex F base W s ρ M <;> rfl
theorem exs_one {s : S} {ρ : Fr} {M : Mem} : exs F base W (.cons s .nil) ρ M = ex F base W s ρ M := by
  rw [exs_cons]
  cases ex F base W s ρ M <;> first | rfl | (rw [Rt.go, exs_nil])
theorem go_next {ρ : Fr} {M : Mem} {f : Fr → Mem → Rt} : (Rt.next ρ M).go f = f ρ M := rfl
theorem go_ret {d : D} {M : Mem} {f : Fr → Mem → Rt} : (Rt.ret d M).go f = .ret d M := rfl
theorem ex_ret {e : E} {ρ : Fr} {M : Mem} : ex F base W (.ret e) ρ M = (ev F base e ρ M).st ρ fun d M => .ret d M := by rw [ex]
theorem ex_set {t : T} {e : E} {ρ : Fr} {M : Mem} : ex F base W (.set t e) ρ M = (ev F base e ρ M).st ρ fun d M => match asg t d ρ with
    | some ρ' => .next ρ' M
    | none => .bad := by rw [ex] <;> rfl
theorem ex_expr {e : E} {ρ : Fr} {M : Mem} : ex F base W (.expr e) ρ M = (ev F base e ρ M).st ρ fun _ M => .next ρ M := by rw [ex]
theorem ex_ite {c : E} {a b : Ss} {ρ : Fr} {M : Mem} : ex F base W (.ite c a b) ρ M = (ev F base c ρ M).st ρ fun x M => iteD .bad x (exs F base W a ρ M) (exs F base W b ρ M) := by rw [ex] <;> rfl
theorem evI_seq {e : E} {ρ : Fr} {M : Mem} : evI F base (.seq e) ρ M = (ev F base e ρ M).bind fun d M => match d.items M with
    | some ds => .ok (ds, d.deps) M
    | none => .bad := by rw [evI] <;> rfl
theorem evI_enum {e : E} {ρ : Fr} {M : Mem} : evI F base (.enum e) ρ M = (ev F base e ρ M).bind fun d M => match d.items M with
    | some ds => .ok (ds.zipIdx.map fun p => .tup [.int p.2, p.1], d.deps) M
    | none => .bad := by rw [evI] <;> rfl
theorem evI_zip {a b : E} {ρ : Fr} {M : Mem} : evI F base (.zip a b) ρ M = (ev F base a ρ M).bind fun d M => (ev F base b ρ M).bind fun e M => match d.items M, e.items M with
    | some xs, some ys => .ok ((xs.zip ys).map fun p => .tup [p.1, p.2], d.deps ++ e.deps) M
    | _, _ => .bad := by rw [evI] <;> rfl
end

section
variable {M : Mem} {ds : List D} {a b c d : D} {n : Nat} {kvs : List (Key × D)}
theorem items_tup : D.items M (.tup ds) = some ds := rfl
theorem items_lst : D.items M (.lst ds) = some ds := rfl
theorem items_loc : D.items M (.loc n) = D.seq M (.loc n) := rfl
theorem seq_loc : D.seq M (.loc n) = match M[n]? with
    | some (.lst ds) => some ds
    | _ => none := rfl
theorem dict_loc : D.dict M (.loc n) = match M[n]? with
    | some (.dic ds) => some ds
    | _ => none := rfl
theorem seq_tup : D.seq M (.tup ds) = none := rfl
theorem seq_lst : D.seq M (.lst ds) = some ds := rfl
theorem dict_tup : D.dict M (.tup ds) = none := rfl
theorem dict_lst : D.dict M (.lst ds) = none := rfl
theorem dict_dic : D.dict M (.dic kvs) = some kvs := rfl
theorem deps_tup : D.deps (.tup ds) = [] := rfl
theorem deps_lst : D.deps (.lst ds) = [] := rfl
theorem deps_loc : D.deps (.loc n) = [n] := rfl
theorem frz_lst : (Cell.lst ds).frz = .lst ds := rfl
theorem frz_dic : (Cell.dic kvs).frz = .dic kvs := rfl
theorem atI_nat {α : Type} {xs : List α} {n : Nat} : atI xs (n : Int) = xs[n]? := by
  unfold atI ixN
  rw [if_pos (by omega)]
  by_cases h : n < xs.length
  · rw [if_pos (by omega)]; simp
  · rw [if_neg (by omega), List.getElem?_eq_none (by omega)]; rfl
theorem ix_nat {i : Nat} : ixD M (.tup ds) (.int i) = ds[i]? := atI_nat
theorem ix_nat_l {i : Nat} : ixD M (.lst ds) (.int i) = ds[i]? := atI_nat
theorem ix_t0 : ixD M (.tup (a :: ds)) (.int 0) = some a := ix_nat (i := 0)
theorem ix_t1 : ixD M (.tup (a :: b :: ds)) (.int 1) = some b := ix_nat (i := 1)
theorem ix_t2 : ixD M (.tup (a :: b :: c :: ds)) (.int 2) = some c := ix_nat (i := 2)
theorem ix_l0 : ixD M (.lst (a :: ds)) (.int 0) = some a := ix_nat_l (i := 0)
theorem b1_tuple : b1 M .tuple d = (d.items M).map .tup := rfl
theorem b1_len : b1 M .len d = lenD M d := rfl
theorem len_tup : lenD M (.tup ds) = some (.int ds.length) := rfl
theorem len_lst : lenD M (.lst ds) = some (.int ds.length) := rfl
theorem asg_nm {i : Nat} {ρ : Fr} (h : i < ρ.length) : asg (.nm i) d ρ = some (ρ.set i (some d)) := by unfold asg; rw [if_pos h]
theorem asg_tp {ts : List T} {ρ : Fr} : asg (.tp ts) (.tup ds) ρ = asgs ts ds ρ := by unfold asg; rfl
theorem asgs_nil {ρ : Fr} : asgs [] [] ρ = some ρ := by unfold asgs; rfl
theorem asgs_cons {t : T} {ts : List T} {ρ : Fr} : asgs (t :: ts) (d :: ds) ρ = match asg t d ρ with
    | some ρ => asgs ts ds ρ
    | none => none := by rw [asgs] <;> rfl
theorem all_pure_map {α : Type} {f : α → D} {l : List α} (h : ∀ x, x ∈ l → (f x).pure = true) : (l.map f).all D.pure = true := by
  rw [List.all_map]; exact List.all_eq_true.mpr h
end
end Net
end

section
set_option Elab.async false
set_option linter.all false
set_option maxRecDepth 100000
/-! M3: questions as data; comparisons. -/
namespace Net
open PySem L2
structure Atm where
  w : Str
  n : Str
  cs : List Str
structure Rng where
  c : Str
  lo : Option Int
  hi : Option Int
structure Qn where
  cols : List Str
  ats : List Atm
  rgs : List Rng
def oI : Option Int → D
  | none => .non
  | some i => .int i
def Atm.d (a : Atm) : D := .tup [.str a.w, .str a.n, .tup (a.cs.map .str)]
def Rng.d (r : Rng) : D := .tup [.str r.c, oI r.lo, oI r.hi]
def Qn.d (q : Qn) : D := .tup [.tup (q.cols.map .str), .tup (q.ats.map Atm.d), .tup (q.rgs.map Rng.d)]
/-! ### comparisons -/
theorem pdL_strs (l : List Str) : D.pdL (l.map .str) = some (l.map .str) := by
  induction l with
  | nil => rfl
  | cons a l ih => rw [List.map_cons, D.pdL, ih]; rfl
theorem flat_strs (l : List Str) : (l.map D.str).all D.flat = true := by
  rw [List.all_map]; exact List.all_eq_true.mpr fun _ _ => rfl
theorem eqv_str (x y : Str) : PyData.eqv (.str x) (.str y) = decide (x = y) := by
  unfold PyData.eqv
  by_cases h : x = y
  · rw [decide_eq_true h, h]; exact beq_self_eq_true y
  · rw [decide_eq_false h]; exact beq_eq_false_iff_ne.mpr h
theorem eqv_int (x y : Int) : PyData.eqv (.int x) (.int y) = decide (x = y) := by
  unfold PyData.eqv
  by_cases h : x = y
  · rw [decide_eq_true h, h]; exact beq_self_eq_true y
  · rw [decide_eq_false h]; exact beq_eq_false_iff_ne.mpr h
@[simp] theorem in_strs (M : Mem) (x : Str) (l : List Str) : inD M (.str x) (.tup (l.map .str)) = some (decide (x ∈ l)) := by
  unfold inD
  simp only [D.pd0, pdL_strs, flat_strs, D.flat, Bool.and_self, if_true]
  congr 1
  rw [List.any_map]
  induction l with
  | nil => simp
  | cons a l ih => simp only [List.any_cons, ih, Function.comp, eqv_str, List.mem_cons, eq_comm (a := x)]; by_cases h : a = x <;> simp [h]
theorem pdL_ints (l : List Int) : D.pdL (l.map .int) = some (l.map .int) := by
  induction l with
  | nil => rfl
  | cons a l ih => rw [List.map_cons, D.pdL, ih]; rfl
theorem flat_ints (l : List Int) : (l.map D.int).all D.flat = true := by
  rw [List.all_map]; exact List.all_eq_true.mpr fun _ _ => rfl
@[simp] theorem in_ints (M : Mem) (x : Int) (l : List Int) : inD M (.int x) (.tup (l.map .int)) = some (decide (x ∈ l)) := by
  unfold inD
  simp only [D.pd0, pdL_ints, flat_ints, D.flat, Bool.and_self, if_true]
  congr 1
  rw [List.any_map]
  induction l with
  | nil => simp
  | cons a l ih => simp only [List.any_cons, ih, Function.comp, eqv_int, List.mem_cons, eq_comm (a := x)]; by_cases h : a = x <;> simp [h]
/-- the indexes of the atoms that have a column -/
def Qn.of (q : Qn) (c : Str) : List Nat := (q.ats.zipIdx.filter fun p => decide (c ∈ p.1.cs)).map (·.2)
def nats (l : List Nat) : List D := l.map fun (n : Nat) => .int (n : Int)
end Net
end

section
set_option Elab.async false
set_option linter.all false
set_option maxRecDepth 100000
/-! M4: nested questions: what stands above what. -/
namespace Net
open PySem L2 Fo
abbrev sts (l : List Str) : List D := l.map D.str
theorem Qn.mem_of {q : Qn} {c : Str} {i : Nat} : i ∈ q.of c ↔ ∃ a, q.ats[i]? = some a ∧ c ∈ a.cs := by
  unfold Qn.of
  simp only [List.mem_map, List.mem_filter, decide_eq_true_eq]
  constructor
  · rintro ⟨⟨a, j⟩, ⟨h1, h2⟩, rfl⟩
    exact ⟨a, by simpa using List.mem_zipIdx_iff_getElem?.mp h1, h2⟩
  · rintro ⟨a, h1, h2⟩
    exact ⟨(a, i), ⟨List.mem_zipIdx_iff_getElem?.mpr (by simpa using h1), h2⟩, rfl⟩
theorem Qn.of_range (q : Qn) (c : Str) : q.of c = (List.range q.ats.length).filter fun i => decide (∃ a, q.ats[i]? = some a ∧ c ∈ a.cs) := by
  unfold Qn.of
  have : ∀ (l : List Atm) (n : Nat), ((l.zipIdx n).filter (fun p => decide (c ∈ p.1.cs))).map (·.2) = (List.range' n l.length).filter fun i => decide (∃ a, l[i - n]? = some a ∧ c ∈ a.cs) := by
    intro l
    induction l with
    | nil => intro n; rfl
    | cons a l ih =>
      intro n
      rw [List.zipIdx_cons, List.length_cons, List.range'_succ, List.filter_cons, List.filter_cons]
      have e : (List.range' (n + 1) l.length).filter (fun i => decide (∃ b, (a :: l)[i - n]? = some b ∧ c ∈ b.cs)) = (List.range' (n + 1) l.length).filter fun i => decide (∃ b, l[i - (n + 1)]? = some b ∧ c ∈ b.cs) := by
        apply List.filter_congr
        intro i hi
        have hi := (List.mem_range'_1.mp hi).1
        have : i - n = (i - (n + 1)) + 1 := by omega
        rw [this, List.getElem?_cons_succ]
      rw [e, ← ih (n + 1)]
      simp only [Nat.sub_self, List.getElem?_cons_zero, Option.some.injEq, exists_eq_left']
      by_cases h : c ∈ a.cs <;> simp [h]
  have h := this q.ats 0
  rw [h, List.range_eq_range']
  rfl
theorem Qn.of_nd (q : Qn) (c : Str) : (q.of c).Nodup := by rw [q.of_range]; exact List.nodup_range.filter _
theorem Qn.of_ext {q : Qn} {x y : Str} (h : ∀ i, i ∈ q.of x ↔ i ∈ q.of y) : q.of x = q.of y := by
  rw [q.of_range, q.of_range]
  apply List.filter_congr
  intro i _
  rw [decide_eq_decide, ← Qn.mem_of, ← Qn.mem_of]
  exact h i
def Qn.ix (q : Qn) (c : Str) : Nat := q.cols.idxOf c
def Qn.ab (q : Qn) (x y : Str) : Bool := if q.of x = q.of y then decide (q.ix x < q.ix y) else (q.of y).all fun i => decide (i ∈ q.of x)
theorem Qn.ix_inj {q : Qn} {x y : Str} (hx : x ∈ q.cols) (hy : y ∈ q.cols) (e : q.ix x = q.ix y) : x = y := by
  unfold Qn.ix at e
  have h1 := List.getElem_idxOf (List.idxOf_lt_length_of_mem hx)
  have h2 := List.getElem_idxOf (List.idxOf_lt_length_of_mem hy)
  rw [← h1, ← h2]
  congr 1
structure NQ (q : Qn) : Prop where
  nd : q.cols.Nodup
  ne : q.cols ≠ []
  ok : ∀ c, c ∈ q.cols → PyData.strOk c = true
  has : ∀ c, c ∈ q.cols → q.of c ≠ []
  nest : ∀ x y i, x ∈ q.cols → y ∈ q.cols → i ∈ q.of x → i ∈ q.of y → (∀ j, j ∈ q.of x → j ∈ q.of y) ∨ ∀ j, j ∈ q.of y → j ∈ q.of x
theorem Qn.ab_sub {q : Qn} {x y : Str} (h : q.ab x y = true) : ∀ i, i ∈ q.of y → i ∈ q.of x := by
  unfold Qn.ab at h
  split at h
  · rename_i e; rw [e]; exact fun _ z => z
  · intro i hi
    exact of_decide_eq_true (List.all_eq_true.mp h i hi)
theorem Qn.ab_of {q : Qn} {x y : Str} (h : ∀ i, i ∈ q.of y → i ∈ q.of x) (n : q.of x ≠ q.of y) : q.ab x y = true := by
  unfold Qn.ab
  rw [if_neg n]
  exact List.all_eq_true.mpr fun i hi => decide_eq_true (h i hi)
theorem NQ.abv {q : Qn} (N : NQ q) : Abv q.cols q.ab where
  nd := N.nd
  irr := fun x _ => by unfold Qn.ab; rw [if_pos rfl]; exact decide_eq_false (Nat.lt_irrefl _)
  tr := fun x y z hx hy hz h1 h2 => by
    by_cases e : q.of x = q.of z
    · have e1 : q.of x = q.of y := Qn.of_ext fun i => ⟨fun h => Qn.ab_sub h2 i (e ▸ h), Qn.ab_sub h1 i⟩
      unfold Qn.ab at h1 h2 ⊢
      rw [if_pos e1] at h1
      rw [if_pos (e1.symm.trans e)] at h2
      rw [if_pos e]
      have := of_decide_eq_true h1
      have := of_decide_eq_true h2
      exact decide_eq_true (by omega)
    · exact Qn.ab_of (fun i hi => Qn.ab_sub h1 i (Qn.ab_sub h2 i hi)) e
  ch := fun x y z hx hy hz h1 h2 => by
    obtain ⟨i, hi⟩ := List.exists_mem_of_ne_nil _ (N.has z hz)
    by_cases e : q.of x = q.of y
    · rcases Nat.lt_trichotomy (q.ix x) (q.ix y) with h | h | h
      · right; left; unfold Qn.ab; rw [if_pos e]; exact decide_eq_true h
      · left; exact Qn.ix_inj hx hy h
      · right; right; unfold Qn.ab; rw [if_pos e.symm]; exact decide_eq_true h
    · rcases N.nest x y i hx hy (Qn.ab_sub h1 i hi) (Qn.ab_sub h2 i hi) with h | h
      · right; right; exact Qn.ab_of h (Ne.symm e)
      · right; left; exact Qn.ab_of h e
/-- the law's own words for it -/
def Qn.ab2 (q : Qn) (x y : Str) : Bool :=
  if x = y ∨ (q.of y).filter (fun i => decide (i ∉ q.of x)) ≠ [] then false else decide ((q.of y).length < (q.of x).length) || decide (q.ix x < q.ix y)
theorem Qn.ab2_eq {q : Qn} {x y : Str} : q.ab2 x y = q.ab x y := by
  unfold Qn.ab2
  by_cases e : x = y
  · subst e
    rw [if_pos (.inl rfl)]
    unfold Qn.ab
    rw [if_pos rfl]
    exact (decide_eq_false (Nat.lt_irrefl _)).symm
  · by_cases f : (q.of y).filter (fun i => decide (i ∉ q.of x)) = []
    · rw [if_neg (by rintro (h | h); exact e h; exact h f)]
      have sub : ∀ i, i ∈ q.of y → i ∈ q.of x := fun i hi => by
        have := List.filter_eq_nil_iff.mp f i hi
        simpa using this
      by_cases g : q.of x = q.of y
      · unfold Qn.ab
        rw [if_pos g, g]
        simp
      · rw [Qn.ab_of sub g]
        have : (q.of y).length < (q.of x).length := by
          apply Classical.byContradiction
          intro n
          refine g (Qn.of_ext fun i => ⟨fun hi => ?_, sub i⟩)
          apply Classical.byContradiction
          intro hn
          have := len_le_of_sub (l1 := i :: q.of y) (l2 := q.of x) (List.nodup_cons.mpr ⟨hn, q.of_nd y⟩) fun z hz => by
            rcases List.mem_cons.mp hz with rfl | hz
            · exact hi
            · exact sub z hz
          rw [List.length_cons] at this
          omega
        rw [decide_eq_true this]; rfl
    · rw [if_pos (.inr f)]
      symm
      cases h : q.ab x y with
      | false => rfl
      | true =>
        refine absurd (List.filter_eq_nil_iff.mpr fun i hi => ?_) f
        simpa using Qn.ab_sub h i hi
abbrev Qn.up (q : Qn) (c : Str) : List Str := Fo.up q.cols q.ab c
abbrev Qn.rk (q : Qn) (c : Str) : Nat := Fo.rk q.cols q.ab c
abbrev Qn.pth (q : Qn) (c : Str) : List Str := Fo.pth q.cols q.ab q.cols.length c
abbrev Qn.par (q : Qn) (c : Str) : Option Str := Fo.par q.cols q.ab c
abbrev Qn.kids (q : Qn) (c : Str) : List Str := Fo.kids q.cols q.ab c
abbrev Qn.roots (q : Qn) : List Str := Fo.roots q.cols q.ab
/-! ### sorts by keys -/
theorem sortBy_map {α β : Type} (f : α → β) (ns : List Int) (l : List α) : sortBy ns (l.map f) = (sortBy ns l).map f := by
  unfold sortBy
  have e : ns.zip (l.map f) = (ns.zip l).map fun p => (p.1, f p.2) := by
    rw [List.zip_map_right]; rfl
  rw [e, ← List.map_mergeSort (r := fun p q => decide (p.1 ≤ q.1)) (f := fun p : Int × α => (p.1, f p.2)) (fun _ _ _ _ => rfl), List.map_map, List.map_map]
  rfl
theorem sortBy_perm {α : Type} {ns : List Int} {l : List α} (h : ns.length = l.length) : (sortBy ns l).Perm l := by
  unfold sortBy
  have := ((ns.zip l).mergeSort_perm fun p q => decide (p.1 ≤ q.1)).map (·.2)
  refine this.trans ?_
  rw [show ((ns.zip l).map fun x => x.2) = (ns.zip l).map Prod.snd from rfl, List.map_snd_zip (by omega)]
theorem sortBy_sorted {α : Type} (f : α → Int) (l : List α) : (sortBy (l.map f) l).Pairwise fun a b => f a ≤ f b := by
  unfold sortBy
  have e : (l.map f).zip l = l.map fun x => (f x, x) := by
    induction l with
    | nil => rfl
    | cons a l ih => simp [ih]
  have hp := List.pairwise_mergeSort (le := fun (p q : Int × α) => decide (p.1 ≤ q.1)) (fun a b c h1 h2 => by simp at *; omega) (fun a b => by simp; omega) ((l.map f).zip l)
  have key : ∀ p, p ∈ ((l.map f).zip l).mergeSort (fun p q => decide (p.1 ≤ q.1)) → p.1 = f p.2 := fun p hp => by
    rw [List.mem_mergeSort, e] at hp
    obtain ⟨x, _, rfl⟩ := List.mem_map.mp hp
    rfl
  rw [List.pairwise_map]
  refine hp.imp_of_mem fun {a b} ha hb h => ?_
  rw [← key a ha, ← key b hb]
  exact of_decide_eq_true h
theorem NQ.path_sort {q : Qn} (N : NQ q) {c : Str} (hc : c ∈ q.cols) : sortBy ((q.up c).map fun x => (q.rk x : Int)) (q.up c) = q.pth c := by
  refine pth_uniq N.abv hc (Nat.le_of_lt (rk_len N.abv hc)) (sortBy_perm (by simp)) ?_
  exact (sortBy_sorted _ _).imp fun h => by exact_mod_cast h
end Net
end

section
set_option Elab.async false
set_option linter.all false
set_option maxRecDepth 100000
/-! M5: plain data: equality, membership. -/
namespace Net
open PySem L2
/-! plain: no truths, dicts, objects -/
mutual
def D.pl : D → Bool
  | .non => true
  | .int _ => true
  | .str x => PyData.strOk x
  | .tup ds => D.plL ds
  | .lst ds => D.plL ds
  | _ => false
def D.plL : List D → Bool
  | [] => true
  | d :: ds => d.pl && D.plL ds
end
mutual
def D.dp : D → Nat
  | .tup ds => D.dpL ds + 1
  | .lst ds => D.dpL ds + 1
  | _ => 0
def D.dpL : List D → Nat
  | [] => 0
  | d :: ds => max d.dp (D.dpL ds)
end
theorem plL_iff {ds : List D} : D.plL ds = true ↔ ∀ d, d ∈ ds → d.pl = true := by
  induction ds with
  | nil => simp [D.plL]
  | cons d ds ih => simp [D.plL, ih]
theorem pl_tup {ds : List D} : D.pl (.tup ds) = true ↔ ∀ d, d ∈ ds → d.pl = true := plL_iff
theorem pl_lst {ds : List D} : D.pl (.lst ds) = true ↔ ∀ d, d ∈ ds → d.pl = true := plL_iff
theorem dpL_le {ds : List D} {n : Nat} : D.dpL ds ≤ n ↔ ∀ d, d ∈ ds → d.dp ≤ n := by
  induction ds with
  | nil => simp [D.dpL]
  | cons d ds ih => simp [D.dpL, ← ih]; omega
theorem dp_tup {ds : List D} {n : Nat} (h : ∀ d, d ∈ ds → d.dp ≤ n) : D.dp (.tup ds) ≤ n + 1 := by
  have := dpL_le.mpr h
  show D.dpL ds + 1 ≤ _
  omega
theorem dp_lst {ds : List D} {n : Nat} (h : ∀ d, d ∈ ds → d.dp ≤ n) : D.dp (.lst ds) ≤ n + 1 := dp_tup (ds := ds) h
mutual
theorem pl_pd : ∀ {d : D}, d.pl = true → ∃ p, d.pd0 = some p ∧ p.canLay0 = true ∧ p.depth = d.dp
  | .non, _ => ⟨_, rfl, rfl, rfl⟩
  | .int _, _ => ⟨_, rfl, rfl, rfl⟩
  | .str x, h => ⟨_, rfl, h, rfl⟩
  | .tup ds, h => by
    obtain ⟨ps, h1, h2, h3⟩ := plL_pd (ds := ds) h
    exact ⟨.tuple ps, by show (D.pdL ds).map _ = _; rw [h1]; rfl, h2, congrArg (· + 1) h3⟩
  | .lst ds, h => by
    obtain ⟨ps, h1, h2, h3⟩ := plL_pd (ds := ds) h
    exact ⟨.list ps, by show (D.pdL ds).map _ = _; rw [h1]; rfl, h2, congrArg (· + 1) h3⟩
  | .bl _, h | .dic _, h | .scr _, h | .loc _, h => (Bool.false_ne_true h).elim
theorem plL_pd : ∀ {ds : List D}, D.plL ds = true → ∃ ps, D.pdL ds = some ps ∧ PyData.canLayAll0 ps = true ∧ PyData.depthAll ps = D.dpL ds
  | [], _ => ⟨[], rfl, rfl, rfl⟩
  | d :: ds, h => by
    unfold D.plL at h
    rw [Bool.and_eq_true] at h
    obtain ⟨p, h1, h2, h3⟩ := pl_pd h.1
    obtain ⟨ps, k1, k2, k3⟩ := plL_pd h.2
    refine ⟨p :: ps, ?_, ?_, ?_⟩
    · unfold D.pdL; rw [h1, k1]
    · unfold PyData.canLayAll0; rw [h2, k2]; rfl
    · unfold PyData.depthAll D.dpL; rw [h3, k3]
end
mutual
theorem eqv_pl : ∀ {d e : D} {p q : PyData}, d.pl = true → e.pl = true → d.pd0 = some p → e.pd0 = some q → (PyData.eqv p q = true ↔ d = e)
  | .non, e, p, q, _, he, h1, h2 => by
    cases h1
    cases e <;> first | (exact (Bool.false_ne_true he).elim) | skip
    · cases h2; simp [PyData.eqv]
    · cases h2; simp [PyData.eqv]
    · cases h2; simp [PyData.eqv]
    · obtain ⟨ps, k, _⟩ := plL_pd he; have h2 : (D.pdL _).map PyData.tuple = some q := h2; rw [k] at h2; cases h2; simp [PyData.eqv]
    · obtain ⟨ps, k, _⟩ := plL_pd he; have h2 : (D.pdL _).map PyData.list = some q := h2; rw [k] at h2; cases h2; simp [PyData.eqv]
  | .int i, e, p, q, _, he, h1, h2 => by
    cases h1
    cases e <;> first | (exact (Bool.false_ne_true he).elim) | skip
    · cases h2; simp [PyData.eqv]
    · cases h2; simp [PyData.eqv]
    · cases h2; simp [PyData.eqv]
    · obtain ⟨ps, k, _⟩ := plL_pd he; have h2 : (D.pdL _).map PyData.tuple = some q := h2; rw [k] at h2; cases h2; simp [PyData.eqv]
    · obtain ⟨ps, k, _⟩ := plL_pd he; have h2 : (D.pdL _).map PyData.list = some q := h2; rw [k] at h2; cases h2; simp [PyData.eqv]
  | .str x, e, p, q, _, he, h1, h2 => by
    cases h1
    cases e <;> first | (exact (Bool.false_ne_true he).elim) | skip
    · cases h2; simp [PyData.eqv]
    · cases h2; simp [PyData.eqv]
    · cases h2; rw [eqv_str]; simp
    · obtain ⟨ps, k, _⟩ := plL_pd he; have h2 : (D.pdL _).map PyData.tuple = some q := h2; rw [k] at h2; cases h2; simp [PyData.eqv]
    · obtain ⟨ps, k, _⟩ := plL_pd he; have h2 : (D.pdL _).map PyData.list = some q := h2; rw [k] at h2; cases h2; simp [PyData.eqv]
  | .tup ds, e, p, q, hd, he, h1, h2 => by
    obtain ⟨ps, k1, _⟩ := plL_pd hd
    have h1 : (D.pdL ds).map PyData.tuple = some p := h1
    rw [k1] at h1; cases h1
    cases e <;> first | (exact (Bool.false_ne_true he).elim) | skip
    · cases h2; simp [PyData.eqv]
    · cases h2; simp [PyData.eqv]
    · cases h2; simp [PyData.eqv]
    · rename_i es
      obtain ⟨qs, k, _⟩ := plL_pd he
      have h2 : (D.pdL es).map PyData.tuple = some q := h2
      rw [k] at h2; cases h2
      rw [PyData.eqv, eqvL_pl hd he k1 k, D.tup.injEq]
    · obtain ⟨ps, k, _⟩ := plL_pd he; have h2 : (D.pdL _).map PyData.list = some q := h2; rw [k] at h2; cases h2; simp [PyData.eqv]
  | .lst ds, e, p, q, hd, he, h1, h2 => by
    obtain ⟨ps, k1, _⟩ := plL_pd hd
    have h1 : (D.pdL ds).map PyData.list = some p := h1
    rw [k1] at h1; cases h1
    cases e <;> first | (exact (Bool.false_ne_true he).elim) | skip
    · cases h2; simp [PyData.eqv]
    · cases h2; simp [PyData.eqv]
    · cases h2; simp [PyData.eqv]
    · obtain ⟨ps, k, _⟩ := plL_pd he; have h2 : (D.pdL _).map PyData.tuple = some q := h2; rw [k] at h2; cases h2; simp [PyData.eqv]
    · rename_i es
      obtain ⟨qs, k, _⟩ := plL_pd he
      have h2 : (D.pdL es).map PyData.list = some q := h2
      rw [k] at h2; cases h2
      rw [PyData.eqv, eqvL_pl hd he k1 k, D.lst.injEq]
  | .bl _, _, _, _, h, _, _, _ | .dic _, _, _, _, h, _, _, _ | .scr _, _, _, _, h, _, _, _ | .loc _, _, _, _, h, _, _, _ => (Bool.false_ne_true h).elim
theorem eqvL_pl : ∀ {ds es : List D} {ps qs : List PyData}, D.plL ds = true → D.plL es = true → D.pdL ds = some ps → D.pdL es = some qs → (PyData.eqvAll ps qs = true ↔ ds = es)
  | [], [], ps, qs, _, _, h1, h2 => by cases h1; cases h2; simp [PyData.eqvAll]
  | [], e :: es, ps, qs, _, he, h1, h2 => by
    cases h1
    obtain ⟨qs', k, _⟩ := plL_pd he
    rw [k] at h2; cases h2
    unfold D.plL at he
    rw [Bool.and_eq_true] at he
    obtain ⟨p, h1, _⟩ := pl_pd he.1
    obtain ⟨ps, k1, _⟩ := plL_pd he.2
    unfold D.pdL at k
    rw [h1, k1] at k; cases k
    simp [PyData.eqvAll]
  | d :: ds, [], ps, qs, hd, _, h1, h2 => by
    cases h2
    unfold D.plL at hd
    rw [Bool.and_eq_true] at hd
    obtain ⟨p, e1, _⟩ := pl_pd hd.1
    obtain ⟨ps, k1, _⟩ := plL_pd hd.2
    unfold D.pdL at h1
    rw [e1, k1] at h1; cases h1
    simp [PyData.eqvAll]
  | d :: ds, e :: es, ps, qs, hd, he, h1, h2 => by
    unfold D.plL at hd he
    rw [Bool.and_eq_true] at hd he
    obtain ⟨p, e1, _⟩ := pl_pd hd.1
    obtain ⟨ps', k1, _⟩ := plL_pd hd.2
    obtain ⟨q, e2, _⟩ := pl_pd he.1
    obtain ⟨qs', k2, _⟩ := plL_pd he.2
    unfold D.pdL at h1 h2
    rw [e1, k1] at h1; cases h1
    rw [e2, k2] at h2; cases h2
    rw [PyData.eqvAll, Bool.and_eq_true, eqv_pl hd.1 he.1 e1 e2, eqvL_pl hd.2 he.2 k1 k2, List.cons.injEq]
end
theorem pd_pl {M : Mem} {d : D} (h : d.pl = true) : d.pd M = d.pd0 := by
  cases d <;> first | rfl | (exact (Bool.false_ne_true h).elim)
theorem eqD_pl {M : Mem} {d e : D} {b : Bool} (hd : d.pl = true) (he : e.pl = true) (h1 : d.dp ≤ 64) (h2 : e.dp ≤ 64) (hb : b = true ↔ d = e) : eqD M d e = some b := by
  obtain ⟨p, e1, c1, d1⟩ := pl_pd hd
  obtain ⟨q, e2, c2, d2⟩ := pl_pd he
  unfold eqD
  rw [pd_pl hd, pd_pl he, e1, e2]
  dsimp only
  rw [if_pos]
  · have := eqv_pl hd he e1 e2
    cases b <;> cases z : PyData.eqv p q <;> simp_all
  · unfold SeqAt.shaped
    rw [c1, c2, d1, d2, decide_eq_true h1, decide_eq_true h2]
    exact ⟨rfl, rfl⟩
theorem any_pl {d : D} {p : PyData} (hd : d.pl = true) (e1 : d.pd0 = some p) : ∀ {es : List D} {qs : List PyData}, D.plL es = true → D.pdL es = some qs → ((qs.any fun z => PyData.eqv z p) = true ↔ d ∈ es)
  | [], qs, _, h => by cases h; simp
  | e :: es, qs, he, h => by
    unfold D.plL at he
    rw [Bool.and_eq_true] at he
    obtain ⟨q, e2, _⟩ := pl_pd he.1
    obtain ⟨qs', k2, _⟩ := plL_pd he.2
    unfold D.pdL at h
    rw [e2, k2] at h; cases h
    rw [List.any_cons, Bool.or_eq_true, eqv_pl he.1 hd e2 e1, any_pl hd e1 he.2 k2, List.mem_cons, eq_comm (a := d)]
theorem inD_lst {M : Mem} {d : D} {es : List D} {b : Bool} (hd : d.pl = true) (he : D.pl (.lst es) = true) (h1 : d.dp ≤ 64) (h2 : D.dp (.lst es) ≤ 64) (hb : b = true ↔ d ∈ es) : inD M d (.lst es) = some b := by
  obtain ⟨p, e1, c1, d1⟩ := pl_pd hd
  obtain ⟨qs, e2, c2, d2⟩ := plL_pd (ds := es) he
  unfold inD
  dsimp only [D.dict]
  rw [pd_pl hd, pd_pl he, e1, show D.pd0 (.lst es) = some (.list qs) from by show (D.pdL es).map _ = _; rw [e2]; rfl]
  dsimp only
  rw [if_pos]
  · have := any_pl hd e1 he e2
    cases b <;> cases z : (qs.any fun z => PyData.eqv z p) <;> simp_all
  · unfold SeqAt.shaped
    have e3 : PyData.canLay0 (.list qs) = true := c2
    have e4 : PyData.depth (.list qs) = D.dp (.lst es) := congrArg (· + 1) d2
    rw [c1, d1, e3, e4, decide_eq_true h1, decide_eq_true h2]
    exact ⟨rfl, rfl⟩
/-! ### numbers -/
theorem nats_pl (l : List Nat) : D.plL (nats l) = true := plL_iff.mpr fun d hd => by obtain ⟨n, _, rfl⟩ := List.mem_map.mp hd; rfl
theorem nats_dp (l : List Nat) : D.dpL (nats l) ≤ 0 := dpL_le.mpr fun d hd => by obtain ⟨n, _, rfl⟩ := List.mem_map.mp hd; exact Nat.le_refl _
theorem nats_inj {l l' : List Nat} : nats l = nats l' ↔ l = l' := by
  unfold nats
  constructor
  · intro h
    exact List.map_inj_right (fun a b e => by cases e; rfl) |>.mp h
  · rintro rfl; rfl
theorem eq_nats {M : Mem} {l l' : List Nat} : eqD M (.tup (nats l)) (.tup (nats l')) = some (decide (l = l')) := by
  have h1 := nats_dp l
  have h2 := nats_dp l'
  refine eqD_pl (nats_pl l) (nats_pl l') (show D.dpL (nats l) + 1 ≤ 64 by omega) (show D.dpL (nats l') + 1 ≤ 64 by omega) ?_
  rw [decide_eq_true_eq, D.tup.injEq, nats_inj]
theorem mem_nats {l : List Nat} {n : Nat} : (.int (n : Int) : D) ∈ nats l ↔ n ∈ l := by
  unfold nats
  constructor
  · intro h
    obtain ⟨m, hm, e⟩ := List.mem_map.mp h
    cases e; exact hm
  · intro h; exact List.mem_map.mpr ⟨n, h, rfl⟩
theorem in_nats {M : Mem} {l : List Nat} {n : Nat} : inD M (.int n) (.tup (nats l)) = some (decide (n ∈ l)) := by
  have e : nats l = (l.map (fun n : Nat => (n : Int))).map .int := by unfold nats; rw [List.map_map]; rfl
  rw [e, in_ints]
  congr 1
  rw [decide_eq_decide]
  constructor
  · intro h
    obtain ⟨m, hm, e⟩ := List.mem_map.mp h
    have : m = n := by omega
    rw [← this]; exact hm
  · intro h; exact List.mem_map.mpr ⟨n, h, rfl⟩
theorem in_nats_l {M : Mem} {l : List Nat} {n : Nat} : inD M (.int n) (.lst (nats l)) = some (decide (n ∈ l)) := by
  have h1 := nats_dp l
  refine inD_lst rfl (nats_pl l) (Nat.zero_le _) (show D.dpL (nats l) + 1 ≤ 64 by omega) ?_
  rw [decide_eq_true_eq, mem_nats]
end Net
namespace Net
open PySem L2
section
variable {M : Mem} {q : Qn} {a : Atm} {r : Rng}
theorem q_ix0 : ixD M q.d (.int 0) = some (.tup (sts q.cols)) := ix_t0
theorem q_ix1 : ixD M q.d (.int 1) = some (.tup (q.ats.map Atm.d)) := ix_t1
theorem q_ix2 : ixD M q.d (.int 2) = some (.tup (q.rgs.map Rng.d)) := ix_t2
theorem a_ix2 : ixD M a.d (.int 2) = some (.tup (sts a.cs)) := ix_t2
end
theorem pure_sts (l : List Str) : (sts l).all D.pure = true := all_pure_map fun _ _ => rfl
theorem pure_nats (l : List Nat) : (nats l).all D.pure = true := all_pure_map fun _ _ => rfl
/-- columns.index(c) -/
theorem find_ix {l : List Str} {c : Str} (h : c ∈ l) : (sts l).findIdx? (fun d => match d with | .str w => decide (w = c) | _ => false) = some (l.idxOf c) := by
  induction l with
  | nil => cases h
  | cons a l ih =>
    rw [sts, List.map_cons, List.findIdx?_cons]
    by_cases e : a = c
    · subst e; simp
    · have hm : c ∈ l := by
        rcases List.mem_cons.mp h with z | z
        · exact absurd z.symm e
        · exact z
      have ih' := ih hm
      unfold sts at ih'
      rw [if_neg (by simpa using e), ih', List.idxOf_cons, show (a == c) = false from beq_eq_false_iff_ne.mpr e]
      rfl
theorem all_str (l : List Str) : (sts l).all (fun d => match d with | .str _ => true | _ => false) = true := by
  rw [List.all_map]; exact List.all_eq_true.mpr fun _ _ => rfl
def bls (l : List Bool) : List D := l.map .bl
theorem bools_bls (l : List Bool) : boolsOf (bls l) = some l := by
  induction l with
  | nil => rfl
  | cons a l ih => show (boolsOf (bls l)).map _ = _; rw [ih]; rfl
theorem b1_all {M : Mem} {l : List Bool} : b1 M .all (.lst (bls l)) = some (.bl (l.all id)) := by
  show (boolsOf (bls l)).map _ = _; rw [bools_bls]; rfl
theorem filterMap_some {α β : Type} (f : α → β) (l : List α) : l.filterMap (fun x => some (f x)) = l.map f := by
  induction l with
  | nil => rfl
  | cons a l ih => simp [ih]
theorem filterMap_ite {α β : Type} (p : α → Bool) (f : α → β) (l : List α) : l.filterMap (fun x => if p x = true then some (f x) else none) = (l.filter p).map f := by
  induction l with
  | nil => rfl
  | cons a l ih => by_cases h : p a = true <;> simp [h, ih]
end Net
namespace Net
open PySem L2
theorem sz0 : (0 ≤ sizeLine) = True := eq_true (Nat.zero_le _)
theorem sz1 : (1 ≤ sizeLine) = True := eq_true (by decide)
theorem sz2 : (2 ≤ sizeLine) = True := eq_true (by decide)
theorem sz3 : (3 ≤ sizeLine) = True := eq_true (by decide)
theorem sz4 : (4 ≤ sizeLine) = True := eq_true (by decide)
theorem sz5 : (5 ≤ sizeLine) = True := eq_true (by decide)
theorem sz6 : (6 ≤ sizeLine) = True := eq_true (by decide)
theorem sz8 : (8 ≤ sizeLine) = True := eq_true (by decide)
theorem lt_int {M : Mem} {i j : Int} : cop M .lt (.int i) (.int j) = some (decide (i < j)) := rfl
theorem gt_int {M : Mem} {i j : Int} : cop M .gt (.int i) (.int j) = some (decide (j < i)) := rfl
theorem le_int {M : Mem} {i j : Int} : cop M .le (.int i) (.int j) = some (decide (i ≤ j)) := rfl
theorem ge_int {M : Mem} {i j : Int} : cop M .ge (.int i) (.int j) = some (decide (j ≤ i)) := rfl
theorem cop_eq {M : Mem} {x y : D} : cop M .eq x y = eqD M x y := rfl
theorem cop_ne {M : Mem} {x y : D} : cop M .ne x y = (eqD M x y).map (!·) := rfl
theorem cop_in {M : Mem} {x y : D} : cop M .isin x y = inD M x y := rfl
theorem cop_ni {M : Mem} {x y : D} : cop M .notin x y = (inD M x y).map (!·) := rfl
theorem cop_is {M : Mem} {x : D} : cop M .isN x .non = some (isNon x) := rfl
theorem cop_isn {M : Mem} {x : D} : cop M .notN x .non = some (!isNon x) := rfl
theorem comp_map {α β : Type} (f : α → D) (g : β → α) (l : List β) : (l.map g).map f = l.map fun x => f (g x) := List.map_map ..
theorem leave_lst {M : Mem} {n : Nat} {ds : List D} (h : ds.all D.pure = true) : leave false M.length (.ret (.lst ds) M) = .ok (.lst ds) M := leave_ret0 (by rw [pure_lst]; exact h)
theorem leave_tup {M : Mem} {n : Nat} {ds : List D} (h : ds.all D.pure = true) : leave false M.length (.ret (.tup ds) M) = .ok (.tup ds) M := leave_ret0 (by rw [pure_tup]; exact h)
theorem keysL_pure {step : D → Mem → Rs D} {M : Mem} {α : Type} {enc : α → D} {f : α → Int} : ∀ (xs : List α) (acc : List Int), (∀ x, x ∈ xs → step (enc x) M = .ok (.int (f x)) M) → keysL step (xs.map enc) acc M = .ok (acc ++ xs.map f) M
  | [], acc, _ => by simp [keysL]
  | x :: xs, acc, h => by
    rw [List.map_cons, keysL, h x List.mem_cons_self]
    dsimp only
    rw [keysL_pure xs _ fun y hy => h y (List.mem_cons_of_mem _ hy)]
    simp
section
variable {F : Nat → List D → Mem → Rs D} {base W : Nat}
noncomputable def stepK (k : E) (ρ : Fr) (d : D) (M : Mem) : Rs D := ev F base k (some d :: ρ) M
theorem evC_sortedBy {a k : E} {js : List Nat} {ρ : Fr} {M : Mem} : evC F base (.sortedBy a js k) ρ M = (ev F base a ρ M).bind fun x M => match x.seq M with
    | some ds => (keysL (@stepK F base k (js.map (slotD ρ))) ds [] M).bind fun ns M => .ok (.lst (sortBy ns ds)) M
    | none => .bad := by rw [evC] <;> rfl
theorem evC_sorted {a : E} {ρ : Fr} {M : Mem} : evC F base (.sorted a) ρ M = (ev F base a ρ M).bind fun x M => match x.seq M with
  | some ds => .of M ((sortD ds).map .lst)
  | none => match x.dict M with
    | some kvs => match intsOf (keysD kvs) with
      | some ns => if ns.length < 64 then .of M ((sortD (ns.map .int)).map .lst) else .bad
      | none => .bad
    | none => .bad := by rw [evC] <;> rfl
theorem evC_sortedSet {a : E} {ρ : Fr} {M : Mem} : evC F base (.sortedSet a) ρ M = (ev F base a ρ M).bind fun x M => match x.seq M with
  | some ds => match intsOf ds with
    | some ns => if ns.length < 4000 ∧ (dedupI ns).length < 64 then .of M ((sortD ((dedupI ns).map .int)).map .lst) else .bad
    | none => .bad
  | none => .bad := by rw [evC] <;> rfl
theorem evC_dict {it : I} {ρ : Fr} {M : Mem} : evC F base (.dict it) ρ M = (evI F base it ρ M).bind fun z M => match pairsD z.1 with
    | some ps => .ok (.dic (mergeD [] ps)) M
    | none => .bad := by rw [evC] <;> rfl
theorem evI_rng1 {a : E} {ρ : Fr} {M : Mem} : evI F base (.rng1 a) ρ M = (ev F base a ρ M).bind fun x M => match x with
    | .int j => if rngOk 0 j then .ok (rngD 0 j, []) M else .bad
    | _ => .bad := by rw [evI] <;> rfl
theorem evAnd1 {e : E} {ρ : Fr} {M : Mem} : evAnd F base (.cons e .nil) ρ M = ev F base e ρ M := by rw [evAnd]
theorem evOr1 {e : E} {ρ : Fr} {M : Mem} : evOr F base (.cons e .nil) ρ M = ev F base e ρ M := by rw [evOr]
theorem evAnd2 {e f : E} {es : Es} {ρ : Fr} {M : Mem} : evAnd F base (.cons e (.cons f es)) ρ M = (ev F base e ρ M).bind fun d M => iteD .bad d (evAnd F base (.cons f es) ρ M) (.ok (.bl false) M) := by rw [evAnd]; rfl; intro h; cases h
theorem evOr2 {e f : E} {es : Es} {ρ : Fr} {M : Mem} : evOr F base (.cons e (.cons f es)) ρ M = (ev F base e ρ M).bind fun d M => iteD .bad d (.ok (.bl true) M) (evOr F base (.cons f es) ρ M) := by
  rw [evOr]
  · congr 1; funext d M; cases d <;> first | rfl | (rename_i b; cases b <;> rfl)
  · intro h; cases h
end

def oS : Option Str → D
  | none => .non
  | some x => .str x
theorem eq_os {M : Mem} {p : Option Str} {c : Str} (hp : ∀ x, p = some x → PyData.strOk x = true) (hc : PyData.strOk c = true) : eqD M (oS p) (.str c) = some (decide (p = some c)) := by
  cases p with
  | none => refine eqD_pl rfl hc (Nat.zero_le _) (Nat.zero_le _) ?_; simp [oS]
  | some x => refine eqD_pl (hp x rfl) hc (Nat.zero_le _) (Nat.zero_le _) ?_; simp [oS]
theorem is_os {p : Option Str} : isNon (oS p) = decide (p = none) := by cases p <;> rfl
theorem ix_m2 {M : Mem} {l : List D} {a b : D} : ixD M (.tup (l ++ [a, b])) (.int (-2)) = some a := by
  show atI (l ++ [a, b]) (-2) = some a
  unfold atI ixN
  have hl : (l ++ [a, b]).length = l.length + 2 := by simp
  rw [if_neg (by omega), if_pos (by omega), hl]
  show (l ++ [a, b])[(-2 + ((l.length + 2 : Nat) : Int)).toNat]? = some a
  rw [show (-2 + ((l.length + 2 : Nat) : Int)).toNat = l.length by omega]
  simp
theorem ix_m2l {M : Mem} {l : List D} {a b : D} : ixD M (.lst (l ++ [a, b])) (.int (-2)) = some a := ix_m2 (M := M)
end Net
namespace Net
open PySem L2
section
variable {F : Nat → List D → Mem → Rs D} {base W : Nat}
theorem ev_v {i : Nat} {ρ : Fr} {M : Mem} : ev F base (.var i) ρ M = match ρ[i]? with
    | some (some d) => .ok d M
    | _ => .bad := by rw [ev] <;> rfl
theorem ev_neg {a : E} {ρ : Fr} {M : Mem} : ev F base (.neg a) ρ M = (ev F base a ρ M).bind fun x M => match x with
    | .int i => .ok (.int (-i)) M
    | _ => .bad := by rw [ev] <;> rfl
theorem ev_not {a : E} {ρ : Fr} {M : Mem} : ev F base (.not a) ρ M = (ev F base a ρ M).bind fun x M => match x with
    | .bl b => .ok (.bl (!b)) M
    | _ => .bad := by rw [ev] <;> rfl
theorem ev_and {es : Es} {ρ : Fr} {M : Mem} : ev F base (.and es) ρ M = evAnd F base es ρ M := by rw [ev]
theorem ev_or {es : Es} {ρ : Fr} {M : Mem} : ev F base (.or es) ρ M = evOr F base es ρ M := by rw [ev]
theorem ev_ite {c a b : E} {ρ : Fr} {M : Mem} : ev F base (.ite c a b) ρ M = (ev F base c ρ M).bind fun x M => iteD .bad x (ev F base a ρ M) (ev F base b ρ M) := by rw [ev] <;> rfl
theorem ev_sl {a : E} {lo hi : Po} {ρ : Fr} {M : Mem} : ev F base (.sl a lo hi) ρ M = (ev F base a ρ M).bind fun x M => (evP F base lo ρ M).bind fun l M => (evP F base hi ρ M).bind fun h M => .of M (slV M x l h) := by rw [ev]
def isStr : D → Bool
  | .str _ => true
  | _ => false
def isThe (z : Str) : D → Bool
  | .str w => decide (w = z)
  | _ => false
def idxR (o : Option (List D)) (y : D) (M : Mem) : Rs D := match o, y with
    | some ds, .str z => match ds.findIdx? (isThe z) with
      | some j => if ds.all isStr then .ok (.int j) M else .bad
      | none => .bad
    | _, _ => .bad
theorem ev_index {a x : E} {ρ : Fr} {M : Mem} : ev F base (.index a x) ρ M = (ev F base a ρ M).bind fun o M => if (o.items M).isSome = false then .bad else (ev F base x ρ M).bind fun y M => idxR (o.items M) y M := by
  rw [ev]; rfl
theorem idxR_sts {l : List Str} {c : Str} {M : Mem} (h : c ∈ l) : idxR (some (sts l)) (.str c) M = .ok (.int (l.idxOf c)) M := by
  have e := find_ix h
  have e2 := all_str l
  unfold idxR
  have e : (sts l).findIdx? (isThe c) = some (l.idxOf c) := e
  have e2 : (sts l).all isStr = true := e2
  dsimp only
  rw [e, e2]; rfl
theorem ev_get {a k : E} {ρ : Fr} {M : Mem} : ev F base (.get a k) ρ M = (ev F base a ρ M).bind fun o M => if (o.dict M).isSome = false then .bad else (ev F base k ρ M).bind fun y M => match o.dict M, y.key with
    | some kvs, some k => .ok ((kget kvs k).getD .non) M
    | _, _ => .bad := by rw [ev] <;> rfl
def setdefR (base : Nat) (o z : D) (k : Option Key) (M : Mem) : Rs D := match o, k with
    | .loc n, some k => match M[n]? with
      | some (.dic kvs) => if kvs.length < sizeLine then match kget kvs k with
          | some d => .ok d M
          | none => if mayPut base n z then .ok z (setM M n (.dic (kvs ++ [(k, z)]))) else .bad
        else .bad
      | _ => .bad
    | _, _ => .bad
theorem ev_setdef {a k v : E} {ρ : Fr} {M : Mem} : ev F base (.setdef a k v) ρ M = (ev F base a ρ M).bind fun o M => if (o.dict M).isSome = false then .bad else (ev F base k ρ M).bind fun y M => (ev F base v ρ M).bind fun z M => setdefR base o z y.key M := by
  rw [ev]; rfl
def appendR (base : Nat) (o y : D) (M : Mem) : Rs D := match o with
    | .loc n => match M[n]? with
      | some (.lst ds) => if mayPut base n y && decide (ds.length < sizeLine) then .ok .non (setM M n (.lst (ds ++ [y]))) else .bad
      | _ => .bad
    | _ => .bad
theorem ev_append {a x : E} {ρ : Fr} {M : Mem} : ev F base (.append a x) ρ M = (ev F base a ρ M).bind fun o M => if (o.seq M).isSome = false then .bad else (ev F base x ρ M).bind fun y M => appendR base o y M := by
  rw [ev]; rfl
def extendR (base : Nat) (o : D) (zs : Option (List D)) (M : Mem) : Rs D := match o, zs with
    | .loc n, some zs => match M[n]? with
      | some (.lst ds) => if (decide (base ≤ n) || D.underL n zs) && decide (ds.length + zs.length ≤ sizeLine) then .ok .non (setM M n (.lst (ds ++ zs))) else .bad
      | _ => .bad
    | _, _ => .bad
theorem ev_extend {a x : E} {ρ : Fr} {M : Mem} : ev F base (.extend a x) ρ M = (ev F base a ρ M).bind fun o M => if (o.seq M).isSome = false then .bad else (ev F base x ρ M).bind fun y M => extendR base o (y.seq M) M := by
  rw [ev]; rfl
def insertR (base : Nat) (o j y : D) (M : Mem) : Rs D := match o, j with
    | .loc n, .int i => match M[n]? with
      | some (.lst ds) => if mayPut base n y && decide (ds.length < sizeLine ∧ 0 ≤ i ∧ i < 2 ^ 63) then .ok .non (setM M n (.lst (ds.take i.toNat ++ y :: ds.drop i.toNat))) else .bad
      | _ => .bad
    | _, _ => .bad
theorem ev_insert {a i x : E} {ρ : Fr} {M : Mem} : ev F base (.insert a i x) ρ M = (ev F base a ρ M).bind fun o M => if (o.seq M).isSome = false then .bad else (ev F base i ρ M).bind fun j M => (ev F base x ρ M).bind fun y M => insertR base o j y M := by
  rw [ev]; rfl
end
end Net
end

section
set_option Elab.async false
set_option linter.all false
set_option maxRecDepth 100000
/-! M6: lists of one's own, sorts. -/
namespace Net
open PySem L2
section
variable {M Z : Mem} {c c' : Cell} {ds : List D} {d : D} {n : Nat}
theorem mem_at : (M ++ [c])[M.length]? = some c := by simp
theorem mem_at' : (M ++ c :: Z)[M.length]? = some c := by simp
theorem setM_at : setM (M ++ [c]) M.length c' = M ++ [c'] := by unfold setM; simp
theorem seq_at : D.seq (M ++ [.lst ds]) (.loc M.length) = some ds := by rw [seq_loc, mem_at]
theorem items_at : D.items (M ++ [.lst ds]) (.loc M.length) = some ds := seq_at
theorem dict_at : D.dict (M ++ [.lst ds]) (.loc M.length) = none := by rw [dict_loc, mem_at]
theorem append_at (h : ds.length < sizeLine) : appendR M.length (.loc M.length) d (M ++ [.lst ds]) = .ok .non (M ++ [.lst (ds ++ [d])]) := by
  unfold appendR mayPut
  dsimp only
  rw [mem_at]
  dsimp only
  rw [decide_eq_true (Nat.le_refl _), decide_eq_true h, setM_at]
  rfl
theorem extend_at {es : List D} (h : ds.length + es.length ≤ sizeLine) : extendR M.length (.loc M.length) (some es) (M ++ [.lst ds]) = .ok .non (M ++ [.lst (ds ++ es)]) := by
  unfold extendR
  dsimp only
  rw [mem_at]
  dsimp only
  rw [decide_eq_true (Nat.le_refl _), decide_eq_true h, setM_at]
  rfl
theorem mapO_pure {M : Mem} {n k : Nat} : ∀ {ds : List D}, ds.all D.pure = true → mapO (frz M n k) ds = some ds
  | [], _ => rfl
  | d :: ds, h => by
    rw [List.all_cons, Bool.and_eq_true] at h
    unfold mapO
    rw [frz_pure (pure_un h.1), mapO_pure h.2]
theorem leave_pure (h : d.pure = true) : leave false M.length (.ret d (M ++ Z)) = .ok d M := by
  rw [leave_ret (pure_un h), List.take_left]
theorem leave_loc (h : ds.all D.pure = true) : leave false M.length (.ret (.loc M.length) (M ++ [.lst ds])) = .ok (.lst ds) M := by
  unfold leave
  have e : frz (M ++ [.lst ds]) M.length 8 (.loc M.length) = some (.lst ds) := by
    unfold frz
    have u : D.under M.length (.loc M.length) = false := decide_eq_false (Nat.lt_irrefl _)
    rw [u, if_neg Bool.false_ne_true]
    dsimp only
    rw [mem_at]
    dsimp only
    rw [mapO_pure h]; rfl
  simp only [Bool.false_eq_true, if_false, e, List.take_left]
end
/-! ### sorts -/
theorem sortD_like {ds : List D} (h : ∀ d e, d ∈ ds → e ∈ ds → d.like e = true) : sortD ds = some (ds.mergeSort leD) := by
  cases ds with
  | nil => simp [sortD]
  | cons d r =>
    have : ((d :: r).all fun x => d.like x) = true := List.all_eq_true.mpr fun x hx => h d x List.mem_cons_self hx
    unfold sortD
    exact if_pos this
theorem sort_perm (ds : List D) : (ds.mergeSort leD).Perm ds := List.mergeSort_perm ..
theorem sort_pair (ds : List D) : (ds.mergeSort leD).Pairwise fun a b => leD a b = true := List.pairwise_mergeSort leD_trans leD_total ds
/-- a sorted arrangement of data that enc gives -/
theorem sort_enc {α : Type} {enc : α → D} {l : List α} : ∃ l' : List α, (l.map enc).mergeSort leD = l'.map enc ∧ l'.Perm l ∧ l'.Pairwise fun a b => leD (enc a) (enc b) = true := by
  refine ⟨l.mergeSort fun a b => leD (enc a) (enc b), ?_, List.mergeSort_perm .., List.pairwise_mergeSort (le := fun a b => leD (enc a) (enc b)) (fun a b c h1 h2 => leD_trans (enc a) (enc b) (enc c) h1 h2) (fun a b => leD_total (enc a) (enc b)) l⟩
  exact (List.map_mergeSort (r := fun a b => leD (enc a) (enc b)) (s := leD) (f := enc) (fun _ _ _ _ => rfl)).symm
theorem le_key {i j : Int} {x y : Str} (h : leD (.tup [.int i, .str x]) (.tup [.int j, .str y]) = true) : i ≤ j := by
  unfold leD cmpD cmpDs cmpD cmpI at h
  split at h
  · omega
  · split at h
    · cases h
    · omega
theorem le_int_iff {i j : Int} : leD (.int i) (.int j) = true ↔ i ≤ j := by
  unfold leD cmpD cmpI
  split
  · simp [Ordering.isLE]; omega
  · split
    · simp [Ordering.isLE]; omega
    · simp [Ordering.isLE]; omega
end Net
namespace Net
open PySem L2
theorem eq_str2 {M : Mem} {x y : Str} (hx : PyData.strOk x = true) (hy : PyData.strOk y = true) : eqD M (.str x) (.str y) = some (decide (x = y)) :=
  eqD_pl hx hy (Nat.zero_le _) (Nat.zero_le _) (by simp)
theorem eq_nil {M : Mem} {ds : List D} (h : D.plL ds = true) (hd : D.dp (.lst ds) ≤ 64) : eqD M (.lst ds) (.lst []) = some (decide (ds = [])) :=
  eqD_pl h rfl hd (by decide) (by simp)
theorem eq_nil_nats {M : Mem} {l : List Nat} : eqD M (.lst (nats l)) (.lst []) = some (decide (l = [])) := by
  have h1 := nats_dp l
  rw [eq_nil (nats_pl l) (show D.dpL (nats l) + 1 ≤ 64 by omega)]
  congr 1
  rw [decide_eq_decide]
  unfold nats
  simp
theorem bop_lst {M : Mem} {a b : List D} (h : a.length + b.length ≤ sizeLine) : bop M .add (.lst a) (.lst b) = some (.lst (a ++ b)) := by
  show (cat a b).map D.lst = _
  unfold cat
  rw [if_pos h]; rfl
theorem bop_tup {M : Mem} {a b : List D} (h : a.length + b.length ≤ sizeLine) : bop M .add (.tup a) (.tup b) = some (.tup (a ++ b)) := by
  show (cat a b).map D.tup = _
  unfold cat
  rw [if_pos h]; rfl
theorem bop_add {M : Mem} {i j : Int} : bop M .add (.int i) (.int j) = some (.int (i + j)) := rfl
theorem bop_sub {M : Mem} {i j : Int} : bop M .sub (.int i) (.int j) = some (.int (i - j)) := rfl
theorem isNon_tup {ds : List D} : isNon (.tup ds) = false := rfl
theorem isNon_non : isNon .non = true := rfl
theorem isNon_int {i : Int} : isNon (.int i) = false := rfl
theorem sizeLine_eq : sizeLine = 16777216 := rfl
end Net
namespace Net
open PySem L2
def Nx (r : Rt) (Q : Fr → Mem → Prop) : Prop := match r with
  | .next ρ M => Q ρ M
  | .cont ρ M => Q ρ M
  | _ => False
theorem nx_next {ρ : Fr} {M : Mem} {Q : Fr → Mem → Prop} : Nx (.next ρ M) Q = Q ρ M := rfl
theorem nx_cont {ρ : Fr} {M : Mem} {Q : Fr → Mem → Prop} : Nx (.cont ρ M) Q = Q ρ M := rfl
def Ok {α : Type} (r : Rs α) (Q : α → Mem → Prop) : Prop := match r with
  | .ok a M => Q a M
  | _ => False
theorem ok_ok {α : Type} {a : α} {M : Mem} {Q : α → Mem → Prop} : Ok (.ok a M) Q = Q a M := rfl
theorem Ok.get {α : Type} {r : Rs α} {Q : α → Mem → Prop} (h : Ok r Q) : ∃ a M, r = .ok a M ∧ Q a M := by
  cases r with
  | ok a M => exact ⟨a, M, rfl, h⟩
  | exc => exact h.elim
  | bad => exact h.elim
section
variable {g : List Nat} {M0 : Mem} {α : Type} {enc : α → D}
theorem loopL_run {step : D → Fr → Mem → Rt} (I : List α → Fr → Mem → Prop) (xs : List α) {ρ : Fr} {M : Mem} (h : I [] ρ M)
    (hs : ∀ pre x post ρ M, xs = pre ++ x :: post → I pre ρ M → Nx (step (enc x) ρ M) fun ρ' M' => Still g M0 M' ∧ I (pre ++ [x]) ρ' M') : ∃ ρ' M', loopL g M0 step (xs.map enc) ρ M = .next ρ' M' ∧ I xs ρ' M' := by
  have go : ∀ (post pre : List α) (ρ : Fr) (M : Mem), xs = pre ++ post → I pre ρ M → ∃ ρ' M', loopL g M0 step (post.map enc) ρ M = .next ρ' M' ∧ I xs ρ' M' := by
    intro post
    induction post with
    | nil => intro pre ρ M e i; rw [List.append_nil] at e; subst e; exact ⟨ρ, M, by simp [loopL], i⟩
    | cons x post ih =>
      intro pre ρ M e i
      have q := hs pre x post ρ M e i
      rw [List.map_cons, loopL]
      cases z : step (enc x) ρ M with
      | next ρ' M' =>
        rw [z] at q
        simp only [if_pos q.1]
        exact ih (pre ++ [x]) ρ' M' (by simp [e]) q.2
      | cont ρ' M' =>
        rw [z] at q
        simp only [if_pos q.1]
        exact ih (pre ++ [x]) ρ' M' (by simp [e]) q.2
      | _ => rw [z] at q; exact q.elim
  exact go xs [] ρ M rfl h
theorem compL_run {step : D → Mem → Rs (Option D)} (I : List α → List D → Mem → Prop) (xs : List α) {M : Mem} (h : I [] [] M)
    (hs : ∀ pre x post acc M, xs = pre ++ x :: post → I pre acc M → Ok (step (enc x) M) fun o M' => Still g M0 M' ∧ I (pre ++ [x]) (acc ++ o.toList) M') : ∃ ds M', compL g M0 step (xs.map enc) [] M = .ok ds M' ∧ I xs ds M' := by
  have go : ∀ (post pre : List α) (acc : List D) (M : Mem), xs = pre ++ post → I pre acc M → ∃ ds M', compL g M0 step (post.map enc) acc M = .ok ds M' ∧ I xs ds M' := by
    intro post
    induction post with
    | nil => intro pre acc M e i; rw [List.append_nil] at e; subst e; exact ⟨acc, M, by simp [compL], i⟩
    | cons x post ih =>
      intro pre acc M e i
      have q := hs pre x post acc M e i
      rw [List.map_cons, compL]
      cases z : step (enc x) M with
      | ok o M' =>
        rw [z] at q
        simp only [if_pos q.1]
        exact ih (pre ++ [x]) _ M' (by simp [e]) q.2
      | _ => rw [z] at q; exact q.elim
  exact go xs [] [] M rfl h
end
theorem still1 {n : Nat} {M M' : Mem} (h : M'[n]? = M[n]?) : Still [n] M M' := fun m hm => by rw [List.mem_singleton.mp hm]; exact h
end Net
namespace Net
open PySem L2
theorem eq_oss {M : Mem} {p q : Option Str} (hp : ∀ x, p = some x → PyData.strOk x = true) (hq : ∀ x, q = some x → PyData.strOk x = true) : eqD M (oS p) (oS q) = some (decide (p = q)) := by
  cases q with
  | some c => exact eq_os hp (hq c rfl)
  | none => cases p with
    | none => refine eqD_pl rfl rfl (Nat.zero_le _) (Nat.zero_le _) ?_; simp
    | some x => refine eqD_pl (hp x rfl) rfl (Nat.zero_le _) (Nat.zero_le _) ?_; simp [oS]
end Net
end

section
set_option Elab.async false
set_option linter.all false
/-! M7: shapes over a forest, and their points. -/
namespace Fo
variable {α : Type} [DecidableEq α]
def Shp : Fo α → Type
  | .nil => Unit
  | .cons _ k r => List (Int × Shp k) × Shp r
/-- all of one with all of the other -/
def pr (A B : List (List Int)) : List (List Int) := A.flatMap fun a => B.map fun b => a ++ b
theorem mem_pr {A B : List (List Int)} {l : List Int} : l ∈ pr A B ↔ ∃ a b, a ∈ A ∧ b ∈ B ∧ l = a ++ b := by
  unfold pr
  simp only [List.mem_flatMap, List.mem_map]
  constructor
  · rintro ⟨a, ha, b, hb, rfl⟩; exact ⟨a, b, ha, hb, rfl⟩
  · rintro ⟨a, b, ha, hb, rfl⟩; exact ⟨a, ha, b, hb, rfl⟩
theorem pr_assoc (A B C : List (List Int)) : pr (pr A B) C = pr A (pr B C) := by
  unfold pr
  rw [List.flatMap_assoc]
  congr 1
  funext a
  rw [List.flatMap_map, List.map_flatMap]
  congr 1
  funext b
  rw [List.map_map]
  congr 1
  funext c
  simp
theorem pr_one (A : List (List Int)) : pr [[]] A = A := by
  unfold pr; simp
theorem pr_nilr (A : List (List Int)) : pr A [[]] = A := by
  unfold pr; simp
theorem pr_length (A B : List (List Int)) : (pr A B).length = A.length * B.length := by
  unfold pr
  induction A with
  | nil => simp
  | cons a A ih => rw [List.flatMap_cons, List.length_append, ih, List.length_map, List.length_cons, Nat.add_mul, Nat.one_mul, Nat.add_comm]
def pts : (F : Fo α) → Shp F → List (List Int)
  | .nil, _ => [[]]
  | .cons _ k r, s => pr (s.1.flatMap fun p => (pts k p.2).map fun l => p.1 :: l) (pts r s.2)
/-- the lines of a branch -/
def brp (k : Fo α) (b : List (Int × Shp k)) : List (List Int) := b.flatMap fun p => (pts k p.2).map fun l => p.1 :: l
theorem pts_cons {c : α} {k r : Fo α} {s : Shp (.cons c k r)} : pts (.cons c k r) s = pr (brp k s.1) (pts r s.2) := rfl
theorem mem_brp {k : Fo α} {b : List (Int × Shp k)} {l : List Int} : l ∈ brp k b ↔ ∃ p m, p ∈ b ∧ m ∈ pts k p.2 ∧ l = p.1 :: m := by
  unfold brp
  simp only [List.mem_flatMap, List.mem_map]
  constructor
  · rintro ⟨p, hp, m, hm, rfl⟩; exact ⟨p, m, hp, hm, rfl⟩
  · rintro ⟨p, m, hp, hm, rfl⟩; exact ⟨p, hp, m, hm, rfl⟩
def plc : (F : Fo α) → Shp F → Nat
  | .nil, _ => 0
  | .cons _ k r, s => (s.1.map fun p => 1 + plc k p.2).sum + plc r s.2
def num : (F : Fo α) → Shp F → Nat
  | .nil, _ => 1
  | .cons _ k r, s => (s.1.map fun p => num k p.2).sum * num r s.2
theorem num_len : ∀ (F : Fo α) (s : Shp F), num F s = (pts F s).length
  | .nil, _ => rfl
  | .cons c k r, s => by
    rw [pts_cons, pr_length, ← num_len r]
    show (s.1.map fun p => num k p.2).sum * _ = _
    congr 1
    unfold brp
    rw [List.length_flatMap]
    congr 1
    apply List.map_congr_left
    intro p _
    rw [List.length_map, num_len k]
theorem pts_len : ∀ (F : Fo α) (s : Shp F) (l : List Int), l ∈ pts F s → l.length = F.pre.length
  | .nil, _, l, h => by rw [List.mem_singleton.mp h]; rfl
  | .cons c k r, s, l, h => by
    rw [pts_cons] at h
    obtain ⟨a, b, ha, hb, rfl⟩ := mem_pr.mp h
    obtain ⟨p, m, hp, hm, rfl⟩ := mem_brp.mp ha
    have h1 := pts_len k _ _ hm
    have h2 := pts_len r _ _ hb
    unfold Fo.pre
    simp [h1, h2]
def Wf : (F : Fo α) → Shp F → Prop
  | .nil, _ => True
  | .cons _ k r, s => s.1 ≠ [] ∧ (s.1.map (·.1)).Pairwise (· < ·) ∧ (∀ p, p ∈ s.1 → Wf k p.2) ∧ Wf r s.2
theorem pts_ne : ∀ (F : Fo α) (s : Shp F), Wf F s → pts F s ≠ []
  | .nil, _, _ => by unfold pts; simp
  | .cons c k r, s, h => by
    obtain ⟨h1, h2, h3, h4⟩ := h
    obtain ⟨p, hp⟩ := List.exists_mem_of_ne_nil _ h1
    obtain ⟨m, hm⟩ := List.exists_mem_of_ne_nil _ (pts_ne k _ (h3 p hp))
    obtain ⟨y, hy⟩ := List.exists_mem_of_ne_nil _ (pts_ne r _ h4)
    rw [pts_cons]
    exact List.ne_nil_of_mem (mem_pr.mpr ⟨_, y, mem_brp.mpr ⟨p, m, hp, hm, rfl⟩, hy, rfl⟩)
theorem pr_nodup {A B : List (List Int)} {n : Nat} (ha : A.Nodup) (hb : B.Nodup) (hn : ∀ a, a ∈ A → a.length = n) : (pr A B).Nodup := by
  unfold pr
  induction A with
  | nil => simp
  | cons a A ih =>
    obtain ⟨a1, a2⟩ := List.nodup_cons.mp ha
    rw [List.flatMap_cons, List.nodup_append]
    refine ⟨?_, ih a2 fun x hx => hn x (List.mem_cons_of_mem _ hx), fun x hx y hy e => ?_⟩
    · exact List.Pairwise.map _ (fun x y h e => h (List.append_cancel_left e)) hb
    · obtain ⟨b, _, rfl⟩ := List.mem_map.mp hx
      obtain ⟨a', b', ha', hb', e2⟩ := (mem_pr (A := A) (B := B)).mp hy
      subst e
      have := List.append_inj_left e2 (by rw [hn a List.mem_cons_self, hn a' (List.mem_cons_of_mem _ ha')])
      exact a1 (this ▸ ha')
theorem pw_ne {l : List Int} (h : l.Pairwise (· < ·)) : l.Nodup := h.imp fun h e => by omega
theorem pts_nodup : ∀ (F : Fo α) (s : Shp F), Wf F s → (pts F s).Nodup
  | .nil, _, _ => by unfold pts; simp
  | .cons c k r, s, h => by
    obtain ⟨h1, h2, h3, h4⟩ := h
    rw [pts_cons]
    refine pr_nodup (n := k.pre.length + 1) ?_ (pts_nodup r _ h4) fun a ha => ?_
    · have : ∀ b : List (Int × Shp k), (b.map (·.1)).Nodup → (∀ p, p ∈ b → Wf k p.2) → (brp k b).Nodup := by
        intro b
        induction b with
        | nil => intro _ _; unfold brp; simp
        | cons p b ih =>
          intro nd wf
          rw [List.map_cons] at nd
          obtain ⟨n1, n2⟩ := List.nodup_cons.mp nd
          have ih := ih n2 fun x hx => wf x (List.mem_cons_of_mem _ hx)
          unfold brp at ih ⊢
          rw [List.flatMap_cons, List.nodup_append]
          refine ⟨List.Pairwise.map _ (fun x y h e => h (List.cons.inj e).2) (pts_nodup k _ (wf p List.mem_cons_self)), ih, fun x hx y hy e => ?_⟩
          obtain ⟨m, _, rfl⟩ := List.mem_map.mp hx
          obtain ⟨p', m', hp', _, e2⟩ := mem_brp.mp hy
          subst e
          have := (List.cons.inj e2).1
          exact n1 (List.mem_map.mpr ⟨p', hp', this.symm⟩)
      exact this s.1 (pw_ne h2) h3
    · obtain ⟨p, m, hp, hm, rfl⟩ := mem_brp.mp ha
      have := pts_len k _ _ hm
      simp [this]
/-! ### the shape of rows -/
/-- the values, ascending, each once -/
def vals (l : List Int) : List Int := (Net.dedupI l).mergeSort fun a b => decide (a ≤ b)
theorem mem_dedup {l : List Int} {x : Int} : x ∈ Net.dedupI l ↔ x ∈ l := by
  induction l with
  | nil => rfl
  | cons a l ih =>
    unfold Net.dedupI
    split
    · rename_i h
      rw [List.mem_cons, ih]
      constructor
      · exact .inr
      · rintro (rfl | h2)
        · exact ih.mp h
        · exact h2
    · rw [List.mem_cons, List.mem_cons, ih]
theorem dedup_nd (l : List Int) : (Net.dedupI l).Nodup := by
  induction l with
  | nil => exact List.nodup_nil
  | cons a l ih =>
    unfold Net.dedupI
    split
    · exact ih
    · rename_i h; exact List.nodup_cons.mpr ⟨h, ih⟩
theorem mem_vals {l : List Int} {x : Int} : x ∈ vals l ↔ x ∈ l := by
  unfold vals; rw [List.mem_mergeSort, mem_dedup]
theorem vals_lt (l : List Int) : (vals l).Pairwise (· < ·) := by
  have h1 := List.pairwise_mergeSort (le := fun a b : Int => decide (a ≤ b)) (fun a b c h1 h2 => by simp at *; omega) (fun a b => by simp; omega) (Net.dedupI l)
  have h2 : (vals l).Nodup := (List.mergeSort_perm _ _).nodup_iff.mpr (dedup_nd l)
  refine (List.pairwise_and_iff.mpr ⟨h1, h2⟩).imp fun ⟨a, b⟩ => ?_
  have := of_decide_eq_true a
  omega
theorem lt_uniq : ∀ {l1 l2 : List Int}, l1.Pairwise (· < ·) → l2.Pairwise (· < ·) → (∀ x, x ∈ l1 ↔ x ∈ l2) → l1 = l2
  | [], [], _, _, _ => rfl
  | [], b :: l2, _, _, h => by have := (h b).mpr List.mem_cons_self; cases this
  | a :: l1, [], _, _, h => by have := (h a).mp List.mem_cons_self; cases this
  | a :: l1, b :: l2, h1, h2, h => by
    obtain ⟨a1, a2⟩ := List.pairwise_cons.mp h1
    obtain ⟨b1, b2⟩ := List.pairwise_cons.mp h2
    have e : a = b := by
      rcases List.mem_cons.mp ((h a).mp List.mem_cons_self) with z | z
      · exact z
      · rcases List.mem_cons.mp ((h b).mpr List.mem_cons_self) with w | w
        · exact w.symm
        · have := b1 _ z; have := a1 _ w; omega
    subst e
    rw [lt_uniq a2 b2 fun x => ?_]
    constructor
    · intro hx
      rcases List.mem_cons.mp ((h x).mp (List.mem_cons_of_mem _ hx)) with rfl | z
      · have := a1 _ hx; omega
      · exact z
    · intro hx
      rcases List.mem_cons.mp ((h x).mpr (List.mem_cons_of_mem _ hx)) with rfl | z
      · have := b1 _ hx; omega
      · exact z
abbrev Env (α : Type) := α → Int
def shd : (F : Fo α) → List (Env α) → Shp F
  | .nil, _ => ()
  | .cons c k r, R => ((vals (R.map fun e => e c)).map fun v => (v, shd k (R.filter fun e => decide (e c = v))), shd r R)
def lin (F : Fo α) (e : Env α) : List Int := F.pre.map e
theorem lin_cons {c : α} {k r : Fo α} {e : Env α} : lin (.cons c k r) e = (e c :: lin k e) ++ lin r e := by
  show (c :: (k.pre ++ r.pre)).map e = _
  simp [lin]
theorem shd_wf : ∀ (F : Fo α) (R : List (Env α)), R ≠ [] → Wf F (shd F R)
  | .nil, _, _ => trivial
  | .cons c k r, R, h => by
    refine ⟨?_, ?_, fun p hp => ?_, shd_wf r R h⟩
    · obtain ⟨e, he⟩ := List.exists_mem_of_ne_nil _ h
      have : e c ∈ vals (R.map fun e => e c) := mem_vals.mpr (List.mem_map.mpr ⟨e, he, rfl⟩)
      intro z
      have z : (vals (R.map fun e => e c)).map (fun v => (v, shd k (R.filter fun e => decide (e c = v)))) = [] := z
      rw [List.map_eq_nil_iff.mp z] at this; cases this
    · show (List.map _ ((vals (R.map fun e => e c)).map fun v => (v, shd k (R.filter fun e => decide (e c = v))))).Pairwise _
      rw [List.map_map]
      have : (vals (R.map fun e => e c)).map ((fun p : Int × Shp k => p.1) ∘ fun v => (v, shd k (R.filter fun e => decide (e c = v)))) = vals (R.map fun e => e c) := by
        conv => rhs; rw [← List.map_id (vals (R.map fun e => e c))]
        rfl
      rw [this]
      exact vals_lt _
    · obtain ⟨v, hv, rfl⟩ := List.mem_map.mp hp
      obtain ⟨e, he, ev⟩ := List.mem_map.mp (mem_vals.mp hv)
      exact shd_wf k _ (List.ne_nil_of_mem (List.mem_filter.mpr ⟨he, decide_eq_true ev⟩))
/-- the rows are among its points -/
theorem shd_has : ∀ (F : Fo α) (R : List (Env α)) (e : Env α), e ∈ R → lin F e ∈ pts F (shd F R)
  | .nil, _, _, _ => by unfold pts lin; simp [Fo.pre]
  | .cons c k r, R, e, h => by
    rw [lin_cons, pts_cons]
    refine mem_pr.mpr ⟨_, _, mem_brp.mpr ⟨(e c, shd k (R.filter fun x => decide (x c = e c))), lin k e, ?_, shd_has k _ e (List.mem_filter.mpr ⟨h, decide_eq_true rfl⟩), rfl⟩, shd_has r R e h, rfl⟩
    exact List.mem_map.mpr ⟨e c, mem_vals.mpr (List.mem_map.mpr ⟨e, h, rfl⟩), rfl⟩
theorem br_key {k : Fo α} : ∀ {b : List (Int × Shp k)} {p q : Int × Shp k}, (b.map (·.1)).Pairwise (· < ·) → p ∈ b → q ∈ b → p.1 = q.1 → p = q
  | [], _, _, _, h, _, _ => by cases h
  | a :: b, p, q, hp, h1, h2, e => by
    rw [List.map_cons] at hp
    obtain ⟨a1, a2⟩ := List.pairwise_cons.mp hp
    rcases List.mem_cons.mp h1 with z1 | z1
    · rcases List.mem_cons.mp h2 with z2 | z2
      · rw [z1, z2]
      · have := a1 _ (List.mem_map.mpr ⟨q, z2, rfl⟩)
        rw [z1] at e
        omega
    · rcases List.mem_cons.mp h2 with z2 | z2
      · have := a1 _ (List.mem_map.mpr ⟨p, z1, rfl⟩)
        rw [z2] at e
        omega
      · exact br_key a2 z1 z2 e
/-- rows that are just its points give the shape -/
theorem shd_eq : ∀ (F : Fo α) (s : Shp F) (R : List (Env α)), Wf F s → (∀ l, l ∈ pts F s ↔ ∃ e, e ∈ R ∧ lin F e = l) → shd F R = s
  | .nil, _, _, _, _ => rfl
  | .cons c k r, s, R, wf, h => by
    obtain ⟨h1, h2, h3, h4⟩ := wf
    have hr : ∀ l, l ∈ pts r s.2 ↔ ∃ e, e ∈ R ∧ lin r e = l := fun l => by
      constructor
      · intro hl
        obtain ⟨p, hp⟩ := List.exists_mem_of_ne_nil _ h1
        obtain ⟨m, hm⟩ := List.exists_mem_of_ne_nil _ (pts_ne k _ (h3 p hp))
        obtain ⟨e, he, ee⟩ := (h _).mp (by rw [pts_cons]; exact mem_pr.mpr ⟨_, l, mem_brp.mpr ⟨p, m, hp, hm, rfl⟩, hl, rfl⟩)
        rw [lin_cons] at ee
        refine ⟨e, he, List.append_inj_right ee ?_⟩
        have := pts_len k _ _ hm
        simp [lin, this]
      · rintro ⟨e, he, rfl⟩
        have := (h _).mpr ⟨e, he, rfl⟩
        rw [lin_cons, pts_cons] at this
        obtain ⟨a, b, ha, hb, e2⟩ := mem_pr.mp this
        obtain ⟨p, m, hp, hm, rfl⟩ := mem_brp.mp ha
        have hl := pts_len k _ _ hm
        rw [List.append_inj_right e2 (by simp [lin, hl])]
        exact hb
    have hk : ∀ e, e ∈ R → ∃ p, p ∈ s.1 ∧ p.1 = e c ∧ lin k e ∈ pts k p.2 := fun e he => by
      have := (h _).mpr ⟨e, he, rfl⟩
      rw [lin_cons, pts_cons] at this
      obtain ⟨a, b, ha, hb, e2⟩ := mem_pr.mp this
      obtain ⟨p, m, hp, hm, rfl⟩ := mem_brp.mp ha
      have hl := pts_len k _ _ hm
      have e3 := List.append_inj_left e2 (by simp [lin, hl])
      obtain ⟨e4, e5⟩ := List.cons.inj e3
      exact ⟨p, hp, e4.symm, e5 ▸ hm⟩
    have kh : ∀ p, p ∈ s.1 → ∀ m, m ∈ pts k p.2 → ∃ e, e ∈ R ∧ e c = p.1 ∧ lin k e = m := fun p hp m hm => by
      obtain ⟨y, hy⟩ := List.exists_mem_of_ne_nil _ (pts_ne r _ h4)
      obtain ⟨e, he, ee⟩ := (h _).mp (by rw [pts_cons]; exact mem_pr.mpr ⟨_, y, mem_brp.mpr ⟨p, m, hp, hm, rfl⟩, hy, rfl⟩)
      rw [lin_cons] at ee
      have hl := pts_len k _ _ hm
      have e3 := List.append_inj_left ee (by simp [lin, hl])
      obtain ⟨e4, e5⟩ := List.cons.inj e3
      exact ⟨e, he, e4, e5⟩
    have hv : vals (R.map fun e => e c) = s.1.map (·.1) := lt_uniq (vals_lt _) h2 fun x => by
      rw [mem_vals, List.mem_map, List.mem_map]
      constructor
      · rintro ⟨e, he, rfl⟩
        obtain ⟨p, hp, e1, _⟩ := hk e he
        exact ⟨p, hp, e1⟩
      · rintro ⟨p, hp, rfl⟩
        obtain ⟨m, hm⟩ := List.exists_mem_of_ne_nil _ (pts_ne k _ (h3 p hp))
        obtain ⟨e, he, e1, _⟩ := kh p hp m hm
        exact ⟨e, he, e1⟩
    show (_, _) = (s.1, s.2)
    have e2 := shd_eq r s.2 R h4 hr
    rw [e2, hv, List.map_map]
    have e1 : s.1.map ((fun v => (v, shd k (R.filter fun e => decide (e c = v)))) ∘ fun p : Int × Shp k => p.1) = s.1 := by
      conv => rhs; rw [← List.map_id s.1]
      apply List.map_congr_left
      intro p hp
      show (p.1, shd k (R.filter fun e => decide (e c = p.1))) = p
      rw [shd_eq k p.2 (R.filter fun e => decide (e c = p.1)) (h3 p hp) fun l => ?_]
      constructor
      · intro hl
        obtain ⟨e, he, a1, a2⟩ := kh p hp l hl
        exact ⟨e, List.mem_filter.mpr ⟨he, decide_eq_true a1⟩, a2⟩
      · rintro ⟨e, he, rfl⟩
        obtain ⟨he, a1⟩ := List.mem_filter.mp he
        obtain ⟨p', hp', b1, b2⟩ := hk e he
        have := br_key h2 hp hp' ((of_decide_eq_true a1).symm.trans b1.symm)
        rw [this]; exact b2
    rw [e1]

/-- as many points as rows: just these -/
theorem num_rows {F : Fo α} {R : List (Env α)} (hR : R ≠ []) (nd : (R.map (lin F)).Nodup) : num F (shd F R) = R.length ↔ ∀ l, l ∈ pts F (shd F R) ↔ l ∈ R.map (lin F) := by
  have wf := shd_wf F R hR
  have n2 := pts_nodup F _ wf
  have sub : ∀ l, l ∈ R.map (lin F) → l ∈ pts F (shd F R) := fun l hl => by
    obtain ⟨e, he, rfl⟩ := List.mem_map.mp hl
    exact shd_has F R e he
  rw [num_len]
  constructor
  · intro e l
    refine ⟨fun hl => ?_, sub l⟩
    apply Classical.byContradiction
    intro hn
    have := len_le_of_sub (l1 := l :: R.map (lin F)) (l2 := pts F (shd F R)) (List.nodup_cons.mpr ⟨hn, nd⟩) fun x hx => by
      rcases List.mem_cons.mp hx with rfl | hx
      · exact hl
      · exact sub x hx
    rw [List.length_cons, List.length_map, e] at this
    omega
  · intro h
    have a := len_le_of_sub n2 fun x hx => (h x).mp hx
    have b := len_le_of_sub nd sub
    rw [List.length_map] at a b
    omega
def hasI : (F : Fo α) → Shp F → Env α → Bool
  | .nil, _, _ => true
  | .cons c k r, s, e => (match s.1.find? fun p => decide (p.1 = e c) with
    | none => false
    | some p => hasI k p.2 e) && hasI r s.2 e
theorem hasI_ok : ∀ (F : Fo α) (s : Shp F) (e : Env α), Wf F s → (hasI F s e = true ↔ lin F e ∈ pts F s)
  | .nil, _, _, _ => by unfold hasI pts lin; simp [Fo.pre]
  | .cons c k r, s, e, wf => by
    obtain ⟨h1, h2, h3, h4⟩ := wf
    rw [lin_cons, pts_cons, mem_pr]
    show ((match s.1.find? fun p => decide (p.1 = e c) with
    | none => false
    | some p => hasI k p.2 e) && hasI r s.2 e) = true ↔ _
    rw [Bool.and_eq_true, hasI_ok r s.2 e h4]
    constructor
    · rintro ⟨a, b⟩
      cases z : s.1.find? fun p => decide (p.1 = e c) with
      | none => rw [z] at a; cases a
      | some p =>
        rw [z] at a
        have hp := List.mem_of_find?_eq_some z
        have hv : p.1 = e c := of_decide_eq_true (List.find?_some (p := fun p : Int × Shp k => decide (p.1 = e c)) z)
        exact ⟨_, _, mem_brp.mpr ⟨p, lin k e, hp, (hasI_ok k p.2 e (h3 p hp)).mp a, by rw [hv]⟩, b, rfl⟩
    · rintro ⟨a, b, ha, hb, e2⟩
      obtain ⟨p, m, hp, hm, rfl⟩ := mem_brp.mp ha
      have hl := pts_len k _ _ hm
      have e3 := List.append_inj_left e2 (by simp [lin, hl])
      have e4 := List.append_inj_right e2 (by simp [lin, hl])
      obtain ⟨e5, e6⟩ := List.cons.inj e3
      refine ⟨?_, e4 ▸ hb⟩
      cases z : s.1.find? fun p => decide (p.1 = e c) with
      | none =>
        have := List.find?_eq_none.mp z p hp
        simp [e5] at this
      | some p' =>
        have hp' := List.mem_of_find?_eq_some z
        have hv : p'.1 = e c := of_decide_eq_true (List.find?_some (p := fun p : Int × Shp k => decide (p.1 = e c)) z)
        have : p' = p := br_key h2 hp' hp (hv.trans e5)
        subst this
        exact (hasI_ok k p'.2 e (h3 p' hp)).mpr (e6 ▸ hm)
theorem cnt_sum : ∀ (vs l : List Int), vs.Nodup → (vs.map fun v => (l.filter fun x => decide (x = v)).length).sum ≤ l.length
  | [], l, _ => by simp
  | v :: vs, l, nd => by
    obtain ⟨n1, n2⟩ := List.nodup_cons.mp nd
    have ih := cnt_sum vs (l.filter fun x => !decide (x = v)) n2
    have e : vs.map (fun w => (l.filter fun x => decide (x = w)).length) = vs.map fun w => ((l.filter fun x => !decide (x = v)).filter fun x => decide (x = w)).length := by
      apply List.map_congr_left
      intro w hw
      rw [List.filter_filter]
      congr 1
      apply List.filter_congr
      intro x _
      by_cases h : x = w
      · have : x ≠ v := fun z => n1 (by rw [← z, h]; exact hw)
        simp [h] at this ⊢
        exact this
      · simp [h]
    have s : ∀ l : List Int, (l.filter fun x => decide (x = v)).length + (l.filter fun x => !decide (x = v)).length = l.length := by
      intro l
      induction l with
      | nil => rfl
      | cons a l ih => by_cases h : a = v <;> simp [h] <;> omega
    have := s l
    rw [List.map_cons, List.sum_cons, e]
    omega
theorem sum_split (l : List Int) {vs : List Int} (nd : vs.Nodup) {f : Int → Nat} (n : Nat) (hf : ∀ v, v ∈ vs → f v ≤ n * (l.filter fun x => decide (x = v)).length) : (vs.map f).sum ≤ n * l.length := by
  have h1 := cnt_sum vs l nd
  have h2 : (vs.map f).sum ≤ (vs.map fun v => n * (l.filter fun x => decide (x = v)).length).sum := by
    clear h1 nd
    induction vs with
    | nil => simp
    | cons v vs ih =>
      have := ih fun v hv => hf v (List.mem_cons_of_mem _ hv)
      have := hf v List.mem_cons_self
      simp only [List.map_cons, List.sum_cons]
      omega
  have h3 : (vs.map fun v => n * (l.filter fun x => decide (x = v)).length).sum = n * (vs.map fun v => (l.filter fun x => decide (x = v)).length).sum := by
    clear h1 h2 hf nd
    induction vs with
    | nil => simp
    | cons v vs ih => simp only [List.map_cons, List.sum_cons, ih, Nat.mul_add]
  rw [h3] at h2
  exact Nat.le_trans h2 (Nat.mul_le_mul_left _ h1)
end Fo
end

section
set_option Elab.async false
set_option linter.all false
set_option maxRecDepth 100000
/-! M8: shapes as data; how big they are. -/
namespace Fo
open PySem L2 Net
variable {α : Type} [DecidableEq α]
def dsh : (F : Fo α) → Shp F → List D
  | .nil, _ => []
  | .cons _ k r, s => .tup (s.1.map fun p => .tup [.int p.1, .tup (dsh k p.2)]) :: dsh r s.2
def plD (k : Fo α) (p : Int × Shp k) : D := .tup [.int p.1, .tup (dsh k p.2)]
theorem dsh_cons {c : α} {k r : Fo α} {s : Shp (.cons c k r)} : dsh (.cons c k r) s = .tup (s.1.map (plD k)) :: dsh r s.2 := rfl
def oSh (F : Fo α) : Option (Shp F) → D
  | none => .non
  | some s => .tup (dsh F s)
theorem dsh_pure : ∀ (F : Fo α) (s : Shp F), (dsh F s).all D.pure = true
  | .nil, _ => rfl
  | .cons c k r, s => by
    rw [dsh_cons, List.all_cons, dsh_pure r, pure_tup, Bool.and_true]
    refine all_pure_map fun p _ => ?_
    unfold plD
    rw [pure_tup]
    simp [dsh_pure k p.2]
/-- no branch has more than m values -/
def Bd (m : Nat) : (F : Fo α) → Shp F → Prop
  | .nil, _ => True
  | .cons _ k r, s => s.1.length ≤ m ∧ (∀ p, p ∈ s.1 → Bd m k p.2) ∧ Bd m r s.2
theorem sum_le {β : Type} (l : List β) (f : β → Nat) (n : Nat) (h : ∀ x, x ∈ l → f x ≤ n) : (l.map f).sum ≤ l.length * n := by
  induction l with
  | nil => simp
  | cons a l ih =>
    rw [List.map_cons, List.sum_cons, List.length_cons, Nat.add_mul]
    have := h a List.mem_cons_self
    have := ih fun x hx => h x (List.mem_cons_of_mem _ hx)
    omega
def Fo.sz (F : Fo α) : Nat := F.pre.length
theorem sz_cons {c : α} {k r : Fo α} : Fo.sz (.cons c k r) = Fo.sz k + Fo.sz r + 1 := by
  show (c :: (k.pre ++ r.pre)).length = _
  simp [Fo.sz]
theorem pow_two (m a b : Nat) (hm : 1 ≤ m) : m * m ^ a * m ^ b = m ^ (a + b + 1) := by
  rw [Nat.pow_succ, Nat.pow_add, Nat.mul_comm m, Nat.mul_assoc, Nat.mul_assoc, Nat.mul_comm m]
theorem num_le {m : Nat} (hm : 1 ≤ m) : ∀ (F : Fo α) (s : Shp F), Bd m F s → num F s ≤ m ^ Fo.sz F
  | .nil, _, _ => Nat.le_refl _
  | .cons c k r, s, h => by
    obtain ⟨h1, h2, h3⟩ := h
    have a := sum_le s.1 (fun p => num k p.2) (m ^ Fo.sz k) fun p hp => num_le hm k p.2 (h2 p hp)
    have b := num_le hm r s.2 h3
    rw [sz_cons, ← pow_two m _ _ hm]
    show (s.1.map fun p => num k p.2).sum * num r s.2 ≤ _
    exact Nat.mul_le_mul (Nat.le_trans a (Nat.mul_le_mul_right _ h1)) b
theorem plc_le {m : Nat} : ∀ (F : Fo α) (s : Shp F), Bd m F s → plc F s + 1 ≤ (m + 1) ^ Fo.sz F
  | .nil, _, _ => Nat.le_refl _
  | .cons c k r, s, h => by
    obtain ⟨h1, h2, h3⟩ := h
    have a := sum_le s.1 (fun p => 1 + plc k p.2) ((m + 1) ^ Fo.sz k) fun p hp => by have := plc_le k p.2 (h2 p hp); omega
    have b := plc_le r s.2 h3
    rw [sz_cons, ← pow_two (m + 1) _ _ (by omega)]
    show (s.1.map fun p => 1 + plc k p.2).sum + plc r s.2 + 1 ≤ _
    have a2 : (s.1.map fun p => 1 + plc k p.2).sum ≤ m * (m + 1) ^ Fo.sz k := Nat.le_trans a (Nat.mul_le_mul_right _ h1)
    have p1 : 0 < (m + 1) ^ Fo.sz k := Nat.pow_pos (by omega)
    have p2 : 0 < (m + 1) ^ Fo.sz r := Nat.pow_pos (by omega)
    generalize (m + 1) ^ Fo.sz k = x at *
    generalize (m + 1) ^ Fo.sz r = y at *
    have e : (m + 1) * x * y = m * x * y + x * y := by rw [Nat.add_mul, Nat.add_mul, Nat.one_mul]
    rw [e]
    have q1 : m * x ≤ m * x * y := Nat.le_mul_of_pos_right _ p2
    have q2 : y ≤ x * y := Nat.le_mul_of_pos_left _ p1
    omega
/-- rows among the points of a shape, and one more -/
theorem shd_bd {m : Nat} : ∀ (F : Fo α) (s : Option (Shp F)) (e : Env α) (R : List (Env α)), (∀ t, s = some t → Wf F t ∧ Bd m F t) → (∀ x, x ∈ R → lin F x = lin F e ∨ ∃ t, s = some t ∧ lin F x ∈ pts F t) → Bd (m + 1) F (shd F R)
  | .nil, _, _, _, _, _ => trivial
  | .cons c k r, s, e, R, hs, h => by
    -- what is known of a row
    have hx : ∀ x, x ∈ R → (x c = e c ∧ lin k x = lin k e ∧ lin r x = lin r e) ∨ ∃ t p, s = some t ∧ p ∈ t.1 ∧ x c = p.1 ∧ lin k x ∈ pts k p.2 ∧ lin r x ∈ pts r t.2 := fun x hx => by
      rcases h x hx with z | ⟨t, ht, z⟩
      · rw [lin_cons, lin_cons] at z
        have z1 := List.append_inj_left z (by simp [lin])
        have z2 := List.append_inj_right z (by simp [lin])
        obtain ⟨z3, z4⟩ := List.cons.inj z1
        exact .inl ⟨z3, z4, z2⟩
      · rw [lin_cons, pts_cons] at z
        obtain ⟨a, b, ha, hb, e2⟩ := mem_pr.mp z
        obtain ⟨p, q, hp, hq, rfl⟩ := mem_brp.mp ha
        have hl := pts_len k _ _ hq
        have z1 := List.append_inj_left e2 (by simp [lin, hl])
        have z2 := List.append_inj_right e2 (by simp [lin, hl])
        obtain ⟨z3, z4⟩ := List.cons.inj z1
        exact .inr ⟨t, p, ht, hp, z3, z4 ▸ hq, z2 ▸ hb⟩
    refine ⟨?_, fun p hp => ?_, ?_⟩
    · show ((vals (R.map fun e => e c)).map fun v => (v, shd k (R.filter fun e => decide (e c = v)))).length ≤ _
      rw [List.length_map]
      cases s with
      | none =>
        have := len_le_of_sub (l2 := [e c]) (pw_ne (vals_lt (R.map fun e => e c))) fun v hv => by
          obtain ⟨x, hx1, rfl⟩ := List.mem_map.mp (mem_vals.mp hv)
          rcases hx x hx1 with ⟨z, _⟩ | ⟨t, _, z, _⟩
          · simp [z]
          · cases z
        simp at this; omega
      | some t =>
        have hb := (hs t rfl).2.1
        have := len_le_of_sub (l2 := e c :: t.1.map (·.1)) (pw_ne (vals_lt (R.map fun e => e c))) fun v hv => by
          obtain ⟨x, hx1, rfl⟩ := List.mem_map.mp (mem_vals.mp hv)
          rcases hx x hx1 with ⟨z, _⟩ | ⟨t', p, z, hp, z2, _⟩
          · simp [z]
          · cases z
            exact List.mem_cons_of_mem _ (List.mem_map.mpr ⟨p, hp, z2.symm⟩)
        simp at this; omega
    · obtain ⟨v, hv, rfl⟩ := List.mem_map.mp hp
      show Bd (m + 1) k (shd k (R.filter fun e => decide (e c = v)))
      -- the branch's shape at v, if there is one
      by_cases hk : ∃ t p, s = some t ∧ p ∈ t.1 ∧ p.1 = v
      · obtain ⟨t, p, hst, hpp, rfl⟩ := hk
        obtain ⟨wf, bd⟩ := hs t hst
        refine shd_bd k (some p.2) e _ (fun t' ht' => by cases ht'; exact ⟨wf.2.2.1 p hpp, bd.2.1 p hpp⟩) fun x hx1 => ?_
        obtain ⟨x1, x2⟩ := List.mem_filter.mp hx1
        have x2 := of_decide_eq_true x2
        rcases hx x x1 with ⟨_, z, _⟩ | ⟨t', p', ht', hp', z2, z3, _⟩
        · exact .inl z
        · rw [hst] at ht'; cases ht'
          have : p' = p := br_key wf.2.1 hp' hpp (z2.symm.trans x2)
          subst this
          exact .inr ⟨_, rfl, z3⟩
      · refine shd_bd k none e _ (fun t' ht' => by cases ht') fun x hx1 => ?_
        obtain ⟨x1, x2⟩ := List.mem_filter.mp hx1
        have x2 := of_decide_eq_true x2
        rcases hx x x1 with ⟨_, z, _⟩ | ⟨t', p', ht', hp', z2, z3, _⟩
        · exact .inl z
        · exact absurd ⟨t', p', ht', hp', z2.symm.trans x2⟩ hk
    · refine shd_bd r (s.map (·.2)) e R (fun t ht => ?_) fun x hx1 => ?_
      · cases s with
        | none => cases ht
        | some t' => cases ht; exact ⟨(hs t' rfl).1.2.2.2, (hs t' rfl).2.2.2⟩
      · rcases hx x hx1 with ⟨_, _, z⟩ | ⟨t', p', ht', hp', z2, z3, z4⟩
        · exact .inl z
        · refine .inr ⟨t'.2, ?_, z4⟩
          rw [ht']; rfl
end Fo
namespace Net
open PySem L2 Fo
theorem compLL_app {g : List Nat} {M0 : Mem} {α : Type} {enc : α → D} {step : D → List D → Mem → Rs (List D)} {f : α → List D} : ∀ (xs : List α) (acc : List D), (∀ x, x ∈ xs → ∀ acc, acc.length + (f x).length ≤ sizeLine → step (enc x) acc M0 = .ok (acc ++ f x) M0) → acc.length + (xs.flatMap f).length ≤ sizeLine → compLL g M0 step (xs.map enc) acc M0 = .ok (acc ++ xs.flatMap f) M0
  | [], acc, _, _ => by simp [compLL]
  | x :: xs, acc, h, hl => by
    rw [List.flatMap_cons, List.length_append] at hl
    rw [List.map_cons, compLL, h x List.mem_cons_self acc (by omega)]
    simp only [if_pos still_refl]
    rw [compLL_app xs _ (fun y hy => h y (List.mem_cons_of_mem _ hy)) (by rw [List.length_append]; omega)]
    simp
theorem compLL_one {g : List Nat} {M0 : Mem} {α : Type} {enc : α → D} {step : D → List D → Mem → Rs (List D)} {f : α → D} (xs : List α) (acc : List D) (h : ∀ x, x ∈ xs → ∀ acc, acc.length < sizeLine → step (enc x) acc M0 = .ok (acc ++ [f x]) M0) (hl : acc.length + xs.length ≤ sizeLine) : compLL g M0 step (xs.map enc) acc M0 = .ok (acc ++ xs.map f) M0 := by
  have e : xs.flatMap (fun x => [f x]) = xs.map f := by
    induction xs with
    | nil => rfl
    | cons a l ih => rw [List.flatMap_cons, ih (fun x hx => h x (List.mem_cons_of_mem _ hx)) (by simp at hl; omega)]; rfl
  have := compLL_app (g := g) (M0 := M0) (enc := enc) (step := step) (f := fun x => [f x]) xs acc (fun x hx acc hl => h x hx acc (by simp at hl; omega)) (by rw [e, List.length_map]; exact hl)
  rw [e] at this
  exact this
theorem cLL_nil {g : List Nat} {M0 : Mem} {step : D → List D → Mem → Rs (List D)} {acc : List D} : compLL g M0 step [] acc M0 = .ok acc M0 := by simp [compLL]
theorem cLL_cons {g : List Nat} {M0 : Mem} {step : D → List D → Mem → Rs (List D)} {d : D} {ds acc acc' : List D} (h : step d acc M0 = .ok acc' M0) : compLL g M0 step (d :: ds) acc M0 = compLL g M0 step ds acc' M0 := by
  rw [compLL, h]; simp only [if_pos still_refl]
theorem lL_nil {g : List Nat} {M0 M : Mem} {step : D → Fr → Mem → Rt} {ρ : Fr} : loopL g M0 step [] ρ M = .next ρ M := by simp [loopL]
theorem lL_cons {g : List Nat} {M0 : Mem} {step : D → Fr → Mem → Rt} {d : D} {ds : List D} {ρ ρ' : Fr} (h : step d ρ M0 = .next ρ' M0) : loopL g M0 step (d :: ds) ρ M0 = loopL g M0 step ds ρ' M0 := by
  rw [loopL, h]; simp only [if_pos still_refl]
theorem intsOf_ints (l : List Int) : intsOf (l.map .int) = some l := by
  induction l with
  | nil => rfl
  | cons a l ih => show (intsOf (l.map .int)).map _ = _; rw [ih]; rfl
theorem b1_sum {M : Mem} {l : List Int} : b1 M .sum (.lst (l.map .int)) = some (.int l.sum) := by
  show (intsOf (l.map .int)).map _ = _; rw [intsOf_ints]; rfl
theorem b1_sum_nats {M : Mem} {l : List Nat} : b1 M .sum (.lst (nats l)) = some (.int (l.sum : Nat)) := by
  have e : nats l = (l.map (fun n : Nat => (n : Int))).map .int := by unfold nats; rw [List.map_map]; rfl
  rw [e, b1_sum]
  congr 2
  induction l with
  | nil => rfl
  | cons a l ih =>
    rw [List.map_cons, List.sum_cons, List.sum_cons, ih (by unfold nats; rw [List.map_map]; rfl)]
    omega
theorem sz_of_len {n m : Nat} (h : m = n) (hn : n ≤ sizeLine) : m ≤ sizeLine := h ▸ hn
/-- a question with its forest -/
structure QF (q : Qn) (F : Fo Str) : Prop where
  N : NQ q
  heads : F.heads = q.roots
  fits : F.Fits q.kids
  perm : F.pre.Perm q.cols
  dep : F.depth ≤ 6
  len : q.cols.length ≤ 6
theorem QF.hz {q : Qn} {F : Fo Str} (Q : QF q F) : q.cols.length < sizeLine := by have := Q.len; rw [sizeLine_eq]; omega
theorem QF.mem {q : Qn} {F : Fo Str} (Q : QF q F) : ∀ c, c ∈ F.pre → c ∈ q.cols := fun c h => Q.perm.mem_iff.mp h
theorem QF.psz {q : Qn} {F : Fo Str} (Q : QF q F) : F.pre.length ≤ 6 := by rw [Q.perm.length_eq]; exact Q.len
theorem qf_of {q : Qn} (N : NQ q) (hl : q.cols.length ≤ 6) : ∃ F, QF q F := by
  obtain ⟨F, h1, h2, h3, h4⟩ := forest N.abv
  exact ⟨F, N, h1, h2, h3, Nat.le_trans h4 hl, hl⟩
end Net
namespace Fo
open PySem L2 Net
variable {α : Type} [DecidableEq α]
def ptD (l : List Int) : D := .tup (l.map .int)
def rowsD (A : List (List Int)) : List D := A.map ptD
theorem pure_row (l : List Int) : (ptD l).pure = true := by
  unfold ptD; rw [pure_tup]; exact all_pure_map fun _ _ => rfl
theorem pure_rows (A : List (List Int)) : (rowsD A).all D.pure = true := all_pure_map fun l _ => pure_row l
theorem rowsD_pr (A B : List (List Int)) : (A.flatMap fun a => B.map fun b => ptD (a ++ b)) = rowsD (pr A B) := by
  unfold rowsD pr
  rw [List.map_flatMap]
  congr 1
  funext a
  rw [List.map_map]; rfl
theorem brp_len {m : Nat} (hm : 1 ≤ m) {k : Fo α} {b : List (Int × Shp k)} (h : b.length ≤ m) (hb : ∀ p, p ∈ b → Bd m k p.2) : (brp k b).length ≤ m * m ^ Fo.sz k := by
  unfold brp
  rw [List.length_flatMap]
  have := sum_le b (fun p => ((pts k p.2).map fun l => p.1 :: l).length) (m ^ Fo.sz k) fun p hp => by
    rw [List.length_map, ← num_len]; exact num_le hm k p.2 (hb p hp)
  exact Nat.le_trans this (Nat.mul_le_mul_right _ h)
theorem pow5 {n : Nat} (h : n ≤ 6) : 5 ^ n ≤ 15625 := Nat.pow_le_pow_right (by decide) h
theorem pow6 {n : Nat} (h : n ≤ 6) : 6 ^ n ≤ 46656 := Nat.pow_le_pow_right (by decide) h
end Fo
namespace Fo
open PySem L2 Net
def srt (A : List (List Int)) : List (List Int) := A.mergeSort fun a b => leD (ptD a) (ptD b)
theorem srt_perm (A : List (List Int)) : (srt A).Perm A := List.mergeSort_perm ..
theorem like_pt {a b : List Int} (ha : a ≠ []) (h : a.length = b.length) : (ptD a).like (ptD b) = true := by
  have e : ∀ l : List Int, (l.map D.int).map D.kd = List.replicate l.length Kd.int := by
    intro l
    induction l with
    | nil => rfl
    | cons x l ih => rw [List.map_cons, List.map_cons, ih]; rfl
  unfold ptD D.like
  simp only [e, h, decide_true, Bool.and_true]
  rw [Bool.and_eq_true]
  constructor
  · cases a with
    | nil => exact absurd rfl ha
    | cons x l => rfl
  · rw [List.all_eq_true]
    intro x hx
    rw [List.eq_of_mem_replicate hx]; rfl
theorem sortD_pts {A : List (List Int)} {n : Nat} (hn : 0 < n) (h : ∀ a, a ∈ A → a.length = n) : sortD (rowsD A) = some (rowsD (srt A)) := by
  rw [sortD_like]
  · unfold rowsD srt
    rw [← List.map_mergeSort (r := fun a b => leD (ptD a) (ptD b)) (s := leD) (f := ptD) (fun _ _ _ _ => rfl)]
  · intro d e hd he
    obtain ⟨a, ha, rfl⟩ := List.mem_map.mp hd
    obtain ⟨b, hb, rfl⟩ := List.mem_map.mp he
    refine like_pt (fun z => ?_) (by rw [h a ha, h b hb])
    have := h a ha
    rw [z] at this; simp at this; omega
theorem cmp_ints : ∀ (a b : List Int), cmpDs (a.map .int) (b.map .int) = .eq → a = b
  | [], [], _ => rfl
  | [], _ :: _, h => by cases h
  | _ :: _, [], h => by cases h
  | x :: a, y :: b, h => by
    have h : (cmpI x y).then (cmpDs (a.map .int) (b.map .int)) = .eq := h
    unfold cmpI at h
    by_cases h1 : x < y
    · rw [if_pos h1] at h; cases h
    · by_cases h2 : y < x
      · rw [if_neg h1, if_pos h2] at h; cases h
      · rw [if_neg h1, if_neg h2] at h
        have hh : cmpDs (a.map D.int) (b.map D.int) = .eq := h
        have : x = y := by omega
        subst this
        rw [cmp_ints a b hh]
theorem le_antisym {a b : List Int} (h1 : leD (ptD a) (ptD b) = true) (h2 : leD (ptD b) (ptD a) = true) : a = b := by
  have s := cmpD_swap (ptD a) (ptD b)
  have e : cmpD (ptD a) (ptD b) = .eq := by
    unfold leD at h1 h2
    rw [s] at h2
    cases z : cmpD (ptD a) (ptD b) <;> rw [z] at h1 h2 <;> first | rfl | (cases h1; done) | (cases h2; done)
  exact cmp_ints a b e
theorem srt_sorted (A : List (List Int)) : (srt A).Pairwise fun a b => leD (ptD a) (ptD b) = true :=
  List.pairwise_mergeSort (le := fun a b => leD (ptD a) (ptD b)) (fun a b c h1 h2 => leD_trans _ _ _ h1 h2) (fun a b => leD_total _ _) A
theorem sorted_uniq : ∀ {l1 l2 : List (List Int)}, l1.Perm l2 → l1.Pairwise (fun a b => leD (ptD a) (ptD b) = true) → l2.Pairwise (fun a b => leD (ptD a) (ptD b) = true) → l1 = l2
  | [], l2, p, _, _ => p.nil_eq
  | a :: l1, [], p, _, _ => by simpa using p.length_eq
  | a :: l1, b :: l2, p, h1, h2 => by
    obtain ⟨a1, a2⟩ := List.pairwise_cons.mp h1
    obtain ⟨b1, b2⟩ := List.pairwise_cons.mp h2
    have e : a = b := by
      rcases List.mem_cons.mp (p.mem_iff.mp List.mem_cons_self) with z | z
      · exact z
      · rcases List.mem_cons.mp (p.mem_iff.mpr List.mem_cons_self) with w | w
        · exact w.symm
        · exact le_antisym (a1 _ w) (b1 _ z)
    subst e
    rw [sorted_uniq p.cons_inv a2 b2]
theorem srt_eq {A B : List (List Int)} (h : A.Perm B) : srt A = srt B := sorted_uniq ((srt_perm A).trans (h.trans (srt_perm B).symm)) (srt_sorted A) (srt_sorted B)
theorem srt_self {A : List (List Int)} (h : A.Pairwise fun a b => leD (ptD a) (ptD b) = true) : srt A = A := sorted_uniq (srt_perm A) (srt_sorted A) h
end Fo
namespace Net
open PySem L2 Fo
/-- the columns' places in the line -/
def pos (q : Qn) (F : Fo Str) : List Nat := q.cols.map fun c => F.pre.idxOf c
def off (q : Qn) (F : Fo Str) (l : List Int) : List Int := (pos q F).map fun i => l.getD i 0
theorem off_len {q : Qn} {F : Fo Str} {l : List Int} : (off q F l).length = q.cols.length := by unfold off pos; simp
/-- the points of a shape, ascending -/
def pnt (q : Qn) (F : Fo Str) (s : Option (Shp F)) : List (List Int) := match s with
  | none => []
  | some t => srt ((pts F t).map (off q F))
end Net
namespace Net
open PySem L2 Fo
theorem bop_mul {M : Mem} {i j : Int} (h : i.natAbs < 2 ^ 64 ∨ j.natAbs < 2 ^ 64) : bop M .mul (.int i) (.int j) = some (.int (i * j)) := by
  have e : bInt .mul i j = some (i * j) := by
    unfold bInt
    exact if_pos (.inr h)
  show (bInt .mul i j).map _ = _
  rw [e]; rfl
theorem bop_mod {M : Mem} {i j : Int} (h : 0 < j) : bop M .mod (.int i) (.int j) = some (.int (i % j)) := by
  have e : bInt .mod i j = some (i % j) := if_pos h
  show (bInt .mod i j).map _ = _
  rw [e]; rfl
theorem bop_fdiv {M : Mem} {i j : Int} (h : 0 < j) (h2 : j.natAbs.log2 < 9000) : bop M .fdiv (.int i) (.int j) = some (.int (i / j)) := by
  have e : bInt .fdiv i j = some (i / j) := if_pos ⟨h, h2⟩
  show (bInt .fdiv i j).map _ = _
  rw [e]; rfl
theorem bop_pow {M : Mem} {i j : Int} (h : 0 ≤ j ∧ j ≤ 1000000 ∧ i.natAbs < 2 ^ 64) : bop M .pow (.int i) (.int j) = some (.int (i ^ j.toNat)) := by
  have e : bInt .pow i j = some (i ^ j.toNat) := if_pos h
  show (bInt .pow i j).map _ = _
  rw [e]; rfl
end Net
end

section
set_option Elab.async false
set_option linter.all false
set_option maxRecDepth 100000
/-! M9: rows as dicts, groups of rows. -/
namespace Net
open PySem L2 Fo
def envD (cols : List Str) (e : Env Str) : D := .dic (cols.map fun c => (.inr c, .int (e c)))
theorem kget_map {α : Type} (l : List α) (k : α → Key) (f : α → D) (inj : ∀ a b, a ∈ l → b ∈ l → k a = k b → a = b) {a : α} (h : a ∈ l) : kget (l.map fun a => (k a, f a)) (k a) = some (f a) := by
  unfold kget
  induction l with
  | nil => cases h
  | cons b l ih =>
    rw [List.map_cons, List.find?_cons]
    by_cases e : k b = k a
    · have := inj b a List.mem_cons_self h e
      subst this
      simp
    · have hm : a ∈ l := by
        rcases List.mem_cons.mp h with z | z
        · exact absurd (by rw [z]) e
        · exact z
      rw [decide_eq_false e]
      exact ih (fun x y hx hy => inj x y (List.mem_cons_of_mem _ hx) (List.mem_cons_of_mem _ hy)) hm
theorem kget_none {α : Type} (l : List α) (k : α → Key) (f : α → D) {x : Key} (h : ∀ a, a ∈ l → k a ≠ x) : kget (l.map fun a => (k a, f a)) x = none := by
  unfold kget
  rw [Option.map_eq_none_iff, List.find?_eq_none]
  intro p hp
  obtain ⟨a, ha, rfl⟩ := List.mem_map.mp hp
  simpa using h a ha
theorem env_get {M : Mem} {cols : List Str} {e : Env Str} {c : Str} (h : c ∈ cols) : ixD M (envD cols e) (.str c) = some (.int (e c)) := by
  show (D.key (.str c)).bind (fun k => kget _ k) = _
  exact kget_map cols (fun c => .inr c) (fun c => .int (e c)) (fun a b _ _ h => Sum.inr.inj h) h
theorem items_app {M Z : Mem} {d : D} {ds : List D} (h : d.items M = some ds) : d.items (M ++ Z) = some ds := by
  cases d with
  | loc n =>
    have h : D.seq M (.loc n) = some ds := h
    show D.seq (M ++ Z) (.loc n) = some ds
    rw [seq_loc] at h ⊢
    cases z : M[n]? with
    | none => rw [z] at h; cases h
    | some c =>
      have hn := (List.getElem?_eq_some_iff.mp z).1
      rw [List.getElem?_append_left hn, z]
      rw [z] at h; exact h
  | _ => exact h
theorem deps_lt {M : Mem} {d : D} {ds : List D} (h : d.items M = some ds) : ∀ n, n ∈ d.deps → n < M.length := fun n hn => by
  cases d with
  | loc m =>
    have h : D.seq M (.loc m) = some ds := h
    rw [List.mem_singleton.mp hn]
    rw [seq_loc] at h
    cases z : M[m]? with
    | none => rw [z] at h; cases h
    | some c => exact (List.getElem?_eq_some_iff.mp z).1
  | _ => cases hn
theorem still_app {g : List Nat} {M Z Z' : Mem} (h : ∀ n, n ∈ g → n < M.length) : Still g (M ++ Z) (M ++ Z') := fun n hn => by
  rw [List.getElem?_append_left (h n hn), List.getElem?_append_left (h n hn)]
theorem setM_mid {M Z : Mem} {c c' : Cell} : setM (M ++ c :: Z) M.length c' = M ++ c' :: Z := by unfold setM; simp
theorem append_mid {M Z : Mem} {ds : List D} {d : D} {base : Nat} (hb : base ≤ M.length) (h : ds.length < sizeLine) : appendR base (.loc M.length) d (M ++ .lst ds :: Z) = .ok .non (M ++ .lst (ds ++ [d]) :: Z) := by
  unfold appendR mayPut
  dsimp only
  rw [mem_at']
  dsimp only
  rw [decide_eq_true hb, decide_eq_true h, setM_mid]
  rfl
theorem seq_mid {M Z : Mem} {ds : List D} : D.seq (M ++ .lst ds :: Z) (.loc M.length) = some ds := by rw [seq_loc, mem_at']
theorem items_mid {M Z : Mem} {ds : List D} : D.items (M ++ .lst ds :: Z) (.loc M.length) = some ds := seq_mid
theorem dict_mid {M Z : Mem} {kvs : List (Key × D)} : D.dict (M ++ .dic kvs :: Z) (.loc M.length) = some kvs := by rw [dict_loc, mem_at']
theorem seq_mid_d {M Z : Mem} {kvs : List (Key × D)} : D.seq (M ++ .dic kvs :: Z) (.loc M.length) = none := by rw [seq_loc, mem_at']
/-- groups of the rows at a column: M1 what was there ahead of the dict -/
structure Grp (cols : List Str) (c : Str) (M1 : Mem) (pre : List (Env Str)) (M' : Mem) (vs : List Int) (n : Int → Nat) (Z : Mem) : Prop where
  mem : M' = M1 ++ .dic (vs.map fun v => (.inl v, .loc (n v))) :: Z
  nd : vs.Nodup
  vl : ∀ v, v ∈ vs ↔ v ∈ pre.map fun e => e c
  at_ : ∀ v, v ∈ vs → M1.length < n v ∧ M'[n v]? = some (.lst ((pre.filter fun e => decide (e c = v)).map (envD cols)))
  inj : ∀ v w, v ∈ vs → w ∈ vs → n v = n w → v = w
theorem Grp.nil {cols : List Str} {c : Str} {M1 : Mem} : Grp cols c M1 [] (M1 ++ [.dic []]) [] (fun _ => 0) [] :=
  ⟨rfl, List.nodup_nil, fun v => by simp, fun v h => (nomatch h), fun v w h => (nomatch h)⟩
theorem Grp.len {cols : List Str} {c : Str} {M1 : Mem} {pre : List (Env Str)} {M' : Mem} {vs : List Int} {n : Int → Nat} {Z : Mem} (G : Grp cols c M1 pre M' vs n Z) : vs.length ≤ pre.length := by
  have := len_le_of_sub G.nd fun v hv => (G.vl v).mp hv
  simpa using this
/-- a row more: groups.setdefault(v, []) .. .append(row) -/
theorem Grp.step {cols : List Str} {c : Str} {M1 : Mem} {pre : List (Env Str)} {M' : Mem} {vs : List Int} {n : Int → Nat} {Z : Mem} {base : Nat} (G : Grp cols c M1 pre M' vs n Z) (hb : base ≤ M1.length) (hl : pre.length < sizeLine) (x : Env Str) :
    ∃ o M2, setdefR base (.loc M1.length) (.loc M'.length) (some (.inl (x c))) (M' ++ [.lst []]) = .ok o M2 ∧ (D.seq M2 o).isSome = true ∧ ∃ M3 vs' n' Z', appendR base o (envD cols x) M2 = .ok .non M3 ∧ Grp cols c M1 (pre ++ [x]) M3 vs' n' Z' := by
  have hML : M'.length = M1.length + 1 + Z.length := by rw [G.mem]; simp; omega
  have hg : (M' ++ [Cell.lst []])[M1.length]? = some (.dic (vs.map fun v => (.inl v, .loc (n v)))) := by
    rw [List.getElem?_append_left (by omega), G.mem]; exact mem_at'
  have hlen := G.len
  by_cases hv : x c ∈ vs
  · -- the value is there
    obtain ⟨a1, a2⟩ := G.at_ _ hv
    have hn : n (x c) < M'.length := (List.getElem?_eq_some_iff.mp a2).1
    have a3 : (M' ++ [Cell.lst []])[n (x c)]? = some (.lst ((pre.filter fun e => decide (e c = x c)).map (envD cols))) := by rw [List.getElem?_append_left hn]; exact a2
    have fl : (pre.filter fun e => decide (e c = x c)).length < sizeLine := Nat.lt_of_le_of_lt (List.length_filter_le _ _) hl
    refine ⟨.loc (n (x c)), M' ++ [.lst []], ?_, ?_, (M' ++ [Cell.lst []]).set (n (x c)) (Cell.lst ((pre.filter fun e : Env Str => decide (e c = x c)).map (envD cols) ++ [envD cols x])), vs, n, (Z ++ [Cell.lst []]).set (n (x c) - (M1.length + 1)) (Cell.lst ((pre.filter fun e : Env Str => decide (e c = x c)).map (envD cols) ++ [envD cols x])), ?_, ?_, G.nd, ?_, ?_, G.inj⟩
    · unfold setdefR
      dsimp only
      rw [hg]
      dsimp only
      rw [if_pos (by rw [List.length_map]; omega), kget_map vs (fun v => .inl v) (fun v => .loc (n v)) (fun a b _ _ h => Sum.inl.inj h) hv]
    · rw [seq_loc, a3]; rfl
    · unfold appendR mayPut setM
      dsimp only
      rw [a3]
      dsimp only
      rw [decide_eq_true (by omega : base ≤ n (x c)), decide_eq_true (by rw [List.length_map]; exact fl)]
      rfl
    · rw [G.mem, List.append_assoc, List.cons_append, List.set_append, if_neg (by omega)]
      congr 1
      rw [show n (x c) - M1.length = (n (x c) - (M1.length + 1)) + 1 by omega, List.set_cons_succ]
    · intro v
      rw [G.vl, List.map_append, List.mem_append]
      constructor
      · exact .inl
      · rintro (h | h)
        · exact h
        · simp at h; rw [h]; exact (G.vl _).mp hv
    · intro v hv2
      obtain ⟨b1, b2⟩ := G.at_ v hv2
      refine ⟨b1, ?_⟩
      by_cases e : v = x c
      · subst e
        rw [List.getElem?_set_self (by simp; omega), List.filter_append]
        simp
      · have ne : n (x c) ≠ n v := fun z => e (G.inj v (x c) hv2 hv z.symm)
        rw [List.getElem?_set_ne ne, List.getElem?_append_left (List.getElem?_eq_some_iff.mp b2).1, b2, List.filter_append]
        have : decide (x c = v) = false := decide_eq_false fun z => e z.symm
        simp [this]
  · -- a new one
    let n' : Int → Nat := fun v => if v = x c then M'.length else n v
    have en : n' (x c) = M'.length := if_pos rfl
    have eo : ∀ v, v ∈ vs → n' v = n v := fun v h => if_neg fun (z : v = x c) => hv (z ▸ h)
    have hsz : vs.length < sizeLine := by omega
    have hmap : vs.map (fun v => ((.inl v, .loc (n v)) : Key × D)) ++ [(.inl (x c), .loc M'.length)] = (vs ++ [x c]).map fun v => (.inl v, .loc (n' v)) := by
      rw [List.map_append]
      congr 1
      · apply List.map_congr_left
        intro v h
        rw [eo v h]
      · simp [en]
    have nope : (pre.filter fun e => decide (e c = x c)) = [] := List.filter_eq_nil_iff.mpr fun e he => by
      simp only [decide_eq_true_eq]
      intro z
      exact hv ((G.vl _).mpr (List.mem_map.mpr ⟨e, he, z⟩))
    have e2 : setM (M' ++ [.lst []]) M1.length (.dic ((vs ++ [x c]).map fun v => (.inl v, .loc (n' v)))) = M1 ++ .dic ((vs ++ [x c]).map fun v => (.inl v, .loc (n' v))) :: (Z ++ [.lst []]) := by
      rw [G.mem, List.append_assoc, List.cons_append]; exact setM_mid
    have l2 : (M1 ++ Cell.dic ((vs ++ [x c]).map fun v => (.inl v, .loc (n' v))) :: Z).length = M'.length := by simp; omega
    refine ⟨.loc M'.length, M1 ++ .dic ((vs ++ [x c]).map fun v => (.inl v, .loc (n' v))) :: (Z ++ [.lst []]), ?_, ?_, M1 ++ .dic ((vs ++ [x c]).map fun v => (.inl v, .loc (n' v))) :: (Z ++ [.lst [envD cols x]]), vs ++ [x c], n', Z ++ [.lst [envD cols x]], ?_, rfl, ?_, ?_, ?_, ?_⟩
    · unfold setdefR
      dsimp only
      rw [hg]
      dsimp only
      rw [if_pos (by rw [List.length_map]; exact hsz), kget_none vs (fun v => .inl v) (fun v => .loc (n v)) (fun v h z => hv (by rw [← Sum.inl.inj z]; exact h))]
      dsimp only
      unfold mayPut
      rw [decide_eq_true hb, Bool.true_or, if_pos rfl, hmap, e2]
    · rw [seq_loc, ← List.cons_append, ← List.append_assoc, ← l2, mem_at]; rfl
    · rw [← List.cons_append, ← List.append_assoc, ← l2, append_mid (Z := []) (by omega) (by decide), ← List.cons_append, ← List.append_assoc]
      rfl
    · rw [List.nodup_append]
      refine ⟨G.nd, by simp, fun a ha b hb z => ?_⟩
      rw [List.mem_singleton.mp hb] at z
      exact hv (z ▸ ha)
    · intro v
      rw [List.mem_append, G.vl, List.map_append, List.mem_append]
      simp
    · intro v hv2
      rw [← List.cons_append, ← List.append_assoc]
      rcases List.mem_append.mp hv2 with h | h
      · obtain ⟨b1, b2⟩ := G.at_ v h
        rw [eo v h]
        refine ⟨b1, ?_⟩
        have hn : n v < M'.length := (List.getElem?_eq_some_iff.mp b2).1
        rw [List.getElem?_append_left (by rw [l2]; exact hn), List.filter_append]
        have : decide (x c = v) = false := decide_eq_false fun z => hv (z ▸ h)
        rw [List.filter_cons, this]
        rw [G.mem, List.getElem?_append_right (by omega)] at b2
        rw [List.getElem?_append_right (by omega)]
        obtain ⟨m, hm⟩ : ∃ m, n v - M1.length = m + 1 := ⟨n v - M1.length - 1, by omega⟩
        rw [hm, List.getElem?_cons_succ] at b2 ⊢
        rw [b2]
        simp
      · have hvx : v = x c := List.mem_singleton.mp h
        subst hvx
        rw [en]
        refine ⟨by omega, ?_⟩
        rw [← l2, mem_at, List.filter_append, nope]
        simp
    · intro v w hv2 hw2 z
      rcases List.mem_append.mp hv2 with h | h <;> rcases List.mem_append.mp hw2 with h' | h'
      · rw [eo v h, eo w h'] at z; exact G.inj v w h h' z
      · rw [List.mem_singleton.mp h', en, eo v h] at z
        have := (List.getElem?_eq_some_iff.mp (G.at_ v h).2).1
        omega
      · rw [List.mem_singleton.mp h, en, eo w h'] at z
        have := (List.getElem?_eq_some_iff.mp (G.at_ w h').2).1
        omega
      · rw [List.mem_singleton.mp h, List.mem_singleton.mp h']
end Net
namespace Net
open PySem L2 Fo
theorem lL_step {g : List Nat} {M0 M M' : Mem} {step : D → Fr → Mem → Rt} {d : D} {ds : List D} {ρ ρ' : Fr} (h : step d ρ M = .next ρ' M') (st : Still g M0 M') : loopL g M0 step (d :: ds) ρ M = loopL g M0 step ds ρ' M' := by
  rw [loopL, h]; simp only [if_pos st]
theorem nx_get {r : Rt} {Q : Fr → Mem → Prop} (h : Nx r Q) : ∃ ρ M, (r = .next ρ M ∨ r = .cont ρ M) ∧ Q ρ M := by
  cases r with
  | next ρ M => exact ⟨ρ, M, .inl rfl, h⟩
  | cont ρ M => exact ⟨ρ, M, .inr rfl, h⟩
  | _ => exact h.elim
theorem keysI (vs : List Int) (n : Int → Nat) : intsOf (keysD (vs.map fun v => (.inl v, .loc (n v)))) = some vs := by
  unfold keysD
  rw [List.map_map]
  exact intsOf_ints vs
theorem sort_vals {vs l : List Int} (nd : vs.Nodup) (h : ∀ v, v ∈ vs ↔ v ∈ l) : sortD (vs.map .int) = some ((vals l).map .int) := by
  haveI : TabL := ⟨[]⟩
  refine sortD_ints (perm_of_nodup (pw_ne (vals_lt l)) nd fun v => by rw [mem_vals, h]) ((vals_lt l).imp fun h => by omega)
theorem heads_le {α : Type} : ∀ F : Fo α, F.heads.length ≤ F.pre.length
  | .nil => Nat.le_refl _
  | .cons c k r => by
    have := heads_le r
    show (c :: r.heads).length ≤ (c :: (k.pre ++ r.pre)).length
    simp; omega
theorem dsh_len {α : Type} [DecidableEq α] : ∀ (F : Fo α) (s : Shp F), (dsh F s).length = F.heads.length
  | .nil, _ => rfl
  | .cons c k r, s => by
    have := dsh_len r s.2
    show (_ :: dsh r s.2).length = (c :: r.heads).length
    simp [this]
end Net
namespace Net
open PySem L2 Fo
theorem mergeD_nd : ∀ (more kvs : List (Key × D)), ((kvs ++ more).map (·.1)).Nodup → mergeD kvs more = kvs ++ more
  | [], kvs, _ => by simp [mergeD]
  | p :: more, kvs, h => by
    have hk : kput kvs p.1 p.2 = kvs ++ [p] := by
      unfold kput
      rw [if_neg]
      intro z
      obtain ⟨x, hx, e⟩ := List.any_eq_true.mp z
      have e := of_decide_eq_true e
      rw [List.map_append, List.nodup_append] at h
      exact h.2.2 x.1 (List.mem_map.mpr ⟨x, hx, rfl⟩) p.1 (by simp) e
    show mergeD (kput kvs p.1 p.2) more = _
    rw [hk, mergeD_nd more (kvs ++ [p]) (by simpa using h)]
    simp
theorem pairsD_map {α : Type} (l : List α) (k : α → D) (key : α → Key) (f : α → D) (h : ∀ a, a ∈ l → (k a).key = some (key a)) : pairsD (l.map fun a => .tup [k a, f a]) = some (l.map fun a => (key a, f a)) := by
  induction l with
  | nil => rfl
  | cons a l ih =>
    rw [List.map_cons, pairsD, h a List.mem_cons_self, ih fun x hx => h x (List.mem_cons_of_mem _ hx)]
    rfl
def envp (cols : List Str) (p : List Int) : Env Str := fun c => p.getD (cols.idxOf c) 0
theorem zip_env {cols : List Str} {p : List Int} (nd : cols.Nodup) (h : p.length = cols.length) : cols.zip p = cols.map fun c => (c, envp cols p c) := by
  apply List.ext_getElem
  · simp [h]
  · intro i h1 h2
    have hi : i < cols.length := by simpa using h2
    rw [List.getElem_zip, List.getElem_map]
    unfold envp
    rw [List.getD_eq_getElem?_getD, nd.idxOf_getElem i hi, List.getElem?_eq_getElem (by omega)]
    rfl
theorem map_envp {cols : List Str} {p : List Int} (nd : cols.Nodup) (h : p.length = cols.length) : cols.map (envp cols p) = p := by
  have := congrArg (List.map Prod.snd) (zip_env nd h)
  rw [List.map_map] at this
  rw [List.map_snd_zip (by omega)] at this
  exact this.symm
/-- dict(zip(columns, point)) -/
theorem dict_point {cols : List Str} {p : List Int} (nd : cols.Nodup) (h : p.length = cols.length) : ∃ ps, pairsD (((sts cols).zip (p.map .int)).map fun x => .tup [x.1, x.2]) = some ps ∧ D.dic (mergeD [] ps) = envD cols (envp cols p) := by
  have e : (((sts cols).zip (p.map D.int)).map fun x => D.tup [x.1, x.2]) = (cols.map fun c => D.tup [.str c, .int (envp cols p c)]) := by
    rw [List.zip_map, zip_env nd h, List.map_map, List.map_map]
    rfl
  rw [e, pairsD_map cols (fun c => .str c) (fun c => .inr c) (fun c => .int (envp cols p c)) (fun c _ => rfl)]
  refine ⟨_, rfl, ?_⟩
  rw [mergeD_nd]
  · rfl
  · rw [List.nil_append, List.map_map]
    exact List.Pairwise.map _ (fun a b h z => h (Sum.inr.inj z)) nd
theorem rows_pl (A : List (List Int)) : D.plL (rowsD A) = true := plL_iff.mpr fun d hd => by
  obtain ⟨l, _, rfl⟩ := List.mem_map.mp hd
  exact pl_tup.mpr fun d hd => by obtain ⟨i, _, rfl⟩ := List.mem_map.mp hd; rfl
theorem pt_dp (l : List Int) : (ptD l).dp ≤ 1 := dp_tup (n := 0) fun d hd => by obtain ⟨i, _, rfl⟩ := List.mem_map.mp hd; exact Nat.le_refl _
theorem rows_dp (A : List (List Int)) : D.dpL (rowsD A) ≤ 1 := dpL_le.mpr fun d hd => by
  obtain ⟨l, _, rfl⟩ := List.mem_map.mp hd
  exact pt_dp l
theorem eq_rows_nil {M : Mem} {A : List (List Int)} : eqD M (.tup (rowsD A)) (.tup []) = some (decide (A = [])) := by
  have := rows_dp A
  refine eqD_pl (rows_pl A) rfl (show D.dpL (rowsD A) + 1 ≤ 64 by omega) (by decide) ?_
  rw [decide_eq_true_eq, D.tup.injEq]
  unfold rowsD
  simp
section
variable {F : Nat → List D → Mem → Rs D} {base W : Nat}
theorem ex_raise {c : Nat} {ρ : Fr} {M : Mem} : ex F base W (.raise c) ρ M = .exc c [] ρ M := by rw [ex]
theorem ex_pass {ρ : Fr} {M : Mem} : ex F base W .pass ρ M = .next ρ M := by rw [ex]
theorem ex_cont {ρ : Fr} {M : Mem} : ex F base W .cont ρ M = .cont ρ M := by rw [ex]
theorem go_exc {c : Nat} {fs : List (Str × D)} {ρ : Fr} {M : Mem} {f : Fr → Mem → Rt} : (Rt.exc c fs ρ M).go f = .exc c fs ρ M := rfl
theorem go_cont {ρ : Fr} {M : Mem} {f : Fr → Mem → Rt} : (Rt.cont ρ M).go f = .cont ρ M := rfl
def tryR (c : Nat) (r : Rt) (h : Fr → Mem → Rt) : Rt := match r with
  | .exc c' fs ρ' M' => if c' = c then (h ρ' M').calm else .exc c' fs ρ' M'
  | r => r
theorem ex_try {b h : Ss} {c : Nat} {ρ : Fr} {M : Mem} : ex F base W (.try b c h) ρ M = tryR c (exs F base W b ρ M) fun ρ M => exs F base W h ρ M := by
  rw [ex]
  cases exs F base W b ρ M <;> rfl
end
theorem leave_exc {M : Mem} {c : Nat} {ρ : Fr} : leave false M.length (.exc c [] ρ M) = .exc c [] M := by
  unfold leave
  simp [frzFs, mapO]
theorem cop_ne_int {M : Mem} {i j : Int} : eqD M (.int i) (.int j) = some (decide (i = j)) := eqD_pl rfl rfl (Nat.zero_le _) (Nat.zero_le _) (by simp)
end Net
namespace Net
open PySem L2 Fo
theorem lenRows {A : List (List Int)} : (rowsD A).length = A.length := List.length_map _
end Net
namespace Fo
open Net
theorem hasI_cons {α : Type} [DecidableEq α] {c : α} {k r : Fo α} {s : Shp (.cons c k r)} {e : Env α} : hasI (.cons c k r) s e = ((s.1.find? fun p => decide (p.1 = e c)).any (fun p => hasI k p.2 e) && hasI r s.2 e) := by
  rw [hasI]
  cases s.1.find? fun p => decide (p.1 = e c) <;> rfl
end Fo
end

section
set_option Elab.async false
set_option linter.all false
set_option maxRecDepth 100000
/-! M10: ranges; lists under way. -/
namespace Net
open PySem L2 Fo
def Smo (o : Option Int) : Prop := ∀ v, o = some v → -10 ≤ v ∧ v ≤ 10
def smoB : Option Int → Bool
  | none => true
  | some v => decide (-10 ≤ v ∧ v ≤ 10)
theorem smo_lit {o : Option Int} (h : smoB o = true) : Smo o := fun v e => by
  subst e
  exact of_decide_eq_true h
def RngOk (r : Rng) : Prop := (∀ lo hi, r.lo = some lo → r.hi = some hi → lo ≤ hi) ∧ Smo r.lo ∧ Smo r.hi
structure RQ (q : Qn) : Prop where
  col : ∀ r, r ∈ q.rgs → r.c ∈ q.cols
  le : ∀ r, r ∈ q.rgs → RngOk r
def Qn.rg (q : Qn) (c : Str) : Option Int × Option Int := match (q.rgs.filter fun r => decide (r.c = c)) with
  | [] => (none, none)
  | r :: _ => (r.lo, r.hi)
theorem RQ.rg_le {q : Qn} (R : RQ q) {c : Str} {lo hi : Int} (h1 : (q.rg c).1 = some lo) (h2 : (q.rg c).2 = some hi) : lo ≤ hi := by
  unfold Qn.rg at h1 h2
  cases z : q.rgs.filter fun r => decide (r.c = c) with
  | nil => rw [z] at h1; cases h1
  | cons r l =>
    rw [z] at h1 h2
    have : r ∈ q.rgs := (List.mem_filter.mp (by rw [z]; exact List.mem_cons_self)).1
    exact (R.le r this).1 lo hi h1 h2
theorem RQ.rg_sm {q : Qn} (R : RQ q) {c : Str} : Smo (q.rg c).1 ∧ Smo (q.rg c).2 := by
  unfold Qn.rg
  cases z : q.rgs.filter fun r => decide (r.c = c) with
  | nil => exact ⟨fun v e => (nomatch e), fun v e => (nomatch e)⟩
  | cons r l =>
    have : r ∈ q.rgs := (List.mem_filter.mp (by rw [z]; exact List.mem_cons_self)).1
    exact (R.le r this).2
def inB (g : Option Int × Option Int) (v : Int) : Bool := (match g.1 with | none => true | some lo => decide (lo ≤ v)) && (match g.2 with | none => true | some hi => decide (v ≤ hi))
theorem isNon_oI {o : Option Int} : isNon (oI o) = o.isNone := by cases o <;> rfl
theorem oI_pl {o : Option Int} : (oI o).pl = true := by cases o <;> rfl
theorem oI_dp {o : Option Int} : (oI o).dp ≤ 0 := by cases o <;> exact Nat.le_refl _
theorem oI_pure {o : Option Int} : (oI o).pure = true := by cases o <;> rfl
theorem extend_mid {M Z : Mem} {ds es : List D} {base : Nat} (hb : base ≤ M.length) (h : ds.length + es.length ≤ sizeLine) : extendR base (.loc M.length) (some es) (M ++ .lst ds :: Z) = .ok .non (M ++ .lst (ds ++ es) :: Z) := by
  unfold extendR
  dsimp only
  rw [mem_at']
  dsimp only
  rw [decide_eq_true hb, decide_eq_true h, setM_mid]
  rfl
end Net
namespace Net
open PySem L2 Fo
theorem ex_par {F : Nat → List D → Mem → Rs D} {base W i j : Nat} {a b : E} {ρ : Fr} {M : Mem} : ex F base W (.par i j a b) ρ M = (ev F base a ρ M).st ρ fun x M => (ev F base b ρ M).st ρ fun y M => if i < ρ.length ∧ j < ρ.length then .next ((ρ.set i (some x)).set j (some y)) M else .bad := by rw [ex]
theorem extend_mid2 {M Z : Mem} {c : Cell} {ds es : List D} {base : Nat} (hb : base ≤ M.length) (h : ds.length + es.length ≤ sizeLine) : extendR base (.loc (M.length + 1)) (some es) (M ++ c :: .lst ds :: Z) = .ok .non (M ++ c :: .lst (ds ++ es) :: Z) := by
  have := extend_mid (M := M ++ [c]) (Z := Z) (ds := ds) (es := es) (base := base) (by simp; omega) h
  simpa using this
theorem seq_mid2 {M Z : Mem} {c : Cell} {ds : List D} : D.seq (M ++ c :: .lst ds :: Z) (.loc (M.length + 1)) = some ds := by
  have := seq_mid (M := M ++ [c]) (Z := Z) (ds := ds)
  simpa using this
/-- a list that is there, made from n on -/
structure Own (n : Nat) (M : Mem) (fd : D) (ds : List D) : Prop where
  seq : D.seq M fd = some ds
  own : ∀ m, fd = .loc m → n ≤ m
theorem Own.items {n : Nat} {M : Mem} {fd : D} {ds : List D} (o : Own n M fd ds) : D.items M fd = some ds := by
  have := o.seq
  cases fd <;> first | exact this | (cases this)
theorem Own.leave {M Z : Mem} {fd : D} {ds : List D} (o : Own M.length (M ++ Z) fd ds) (h : ds.all D.pure = true) : leave false M.length (.ret fd (M ++ Z)) = .ok (.lst ds) M := by
  have h0 := o.seq
  have e : frz (M ++ Z) M.length 8 fd = some (.lst ds) := by
    cases fd with
    | lst es =>
      cases h0
      exact frz_pure (pure_un (by rw [pure_lst]; exact h))
    | loc m =>
      have hm := o.own m rfl
      unfold frz
      have u : D.under M.length (.loc m) = false := decide_eq_false (by omega)
      rw [u, if_neg Bool.false_ne_true]
      rw [seq_loc] at h0
      dsimp only
      cases z : (M ++ Z)[m]? with
      | none => rw [z] at h0; cases h0
      | some c =>
        rw [z] at h0
        cases c with
        | lst es =>
          cases h0
          dsimp only
          rw [mapO_pure h]; rfl
        | dic => cases h0
    | _ => cases h0
  unfold Net.leave
  simp only [Bool.false_eq_true, if_false, e, List.take_left]
theorem mid_len {M : Mem} {c : Cell} : (M ++ [c]).length = M.length + 1 := by simp
theorem mid_app {M Z : Mem} {c d : Cell} : M ++ [c] ++ (d :: Z) = M ++ c :: d :: Z := by simp
end Net
namespace Fo
open Net
def sprd {α : Type} [DecidableEq α] (F : Fo α) : Option (Shp F) → List (List Int)
  | none => []
  | some t => pts F t
theorem sprd_len {α : Type} [DecidableEq α] {F : Fo α} {s : Option (Shp F)} : ∀ l, l ∈ sprd F s → l.length = F.pre.length := by
  cases s with
  | none => intro l h; cases h
  | some t => exact pts_len F t
end Fo
namespace Net
open Fo
theorem pnt_eq {q : Qn} {F : Fo PySem.Str} {s : Option (Shp F)} : pnt q F s = srt ((sprd F s).map (off q F)) := by
  cases s with
  | none => simp [pnt, srt, sprd]
  | some t => rfl
end Net
namespace Net
open PySem L2 Fo
theorem eq_envs_nil {M : Mem} {cols : List Str} {R : List (Env Str)} : eqD M (.lst (R.map (envD cols))) (.lst []) = some (decide (R = [])) := by
  cases R with
  | nil => exact eqD_pl rfl rfl (show 0 + 1 ≤ 64 by omega) (by decide) (by simp)
  | cons e R =>
    have h : D.pd M (.lst ((e :: R).map (envD cols))) = none := by
      show (D.pdL (envD cols e :: R.map (envD cols))).map PyData.list = none
      unfold D.pdL envD
      rfl
    unfold eqD
    rw [h]
    simp [eqLen, D.seq]
theorem vals_len {l : List Int} : (vals l).length ≤ l.length := len_le_of_sub (pw_ne (vals_lt l)) fun x hx => mem_vals.mp hx
theorem dedup_len {l : List Int} : (dedupI l).length ≤ l.length := len_le_of_sub (Fo.dedup_nd l) fun x hx => Fo.mem_dedup.mp hx

theorem app_at2 {M : Mem} {ds : List D} {d : D} {base : Nat} (hb : base ≤ M.length) (h : ds.length < sizeLine) : appendR base (.loc M.length) d (M ++ [.lst ds]) = .ok .non (M ++ [.lst (ds ++ [d])]) := append_mid hb h
end Net
namespace Net
open PySem L2 Fo
theorem rows_inj {A B : List (List Int)} : rowsD A = rowsD B ↔ A = B := by
  unfold rowsD
  constructor
  · intro h
    refine (List.map_inj_right (fun a b e => ?_)).mp h
    have e := D.tup.inj e
    exact (List.map_inj_right (fun a b e => by cases e; rfl)).mp e
  · rintro rfl; rfl
theorem eq_rows {M : Mem} {A B : List (List Int)} : eqD M (.lst (rowsD A)) (.lst (rowsD B)) = some (decide (A = B)) := by
  have h1 := rows_dp A
  have h2 := rows_dp B
  refine eqD_pl (rows_pl A) (rows_pl B) (show D.dpL (rowsD A) + 1 ≤ 64 by omega) (show D.dpL (rowsD B) + 1 ≤ 64 by omega) ?_
  rw [decide_eq_true_eq, D.lst.injEq, rows_inj]
/-- the shape of a lot of points -/
def shp (q : Qn) (F : Fo Str) (P : List (List Int)) : Option (Shp F) := if P = [] then none else some (shd F (P.map (envp q.cols)))
end Net
namespace Net
open PySem L2 Fo
theorem exc_st {α : Type} {c : Nat} {fs : List (Str × D)} {M : Mem} {ρ : Fr} {f : α → Mem → Rt} : (Rs.exc c fs M : Rs α).st ρ f = .exc c fs ρ M := rfl
theorem exc_bind {α β : Type} {c : Nat} {fs : List (Str × D)} {M : Mem} {f : α → Mem → Rs β} : (Rs.exc c fs M : Rs α).bind f = .exc c fs M := rfl
theorem try_exc {c : Nat} {fs : List (Str × D)} {M : Mem} {ρ : Fr} {h : Fr → Mem → Rt} : tryR c (.exc c fs ρ M) h = (h ρ M).calm := if_pos rfl
theorem try_ret {c : Nat} {d : D} {M : Mem} {h : Fr → Mem → Rt} : tryR c (.ret d M) h = .ret d M := rfl
theorem try_next {c : Nat} {M : Mem} {ρ : Fr} {h : Fr → Mem → Rt} : tryR c (.next ρ M) h = .next ρ M := rfl
theorem calm_ret {d : D} {M : Mem} : (Rt.ret d M).calm = .ret d M := rfl
end Net
end

section
set_option Elab.async false
set_option linter.all false
set_option maxRecDepth 100000
/-! M11: the bag. -/
namespace Net
open PySem L2 Fo
def Bag (B : Cell) : Prop := ∃ (x y z : Int) (ns : List Int), B = .lst [.int x, .int y, .int z, .lst (ns.map .int)] ∧ ns.length ≤ 63
section
variable {F : Nat → List D → Mem → Rs D} {base W : Nat} {R : Mem} {ρ : Fr} {a b c d : D}
theorem ix_b0 : ixD (.lst [a, b, c, d] :: R) (.loc 0) (.int 0) = some a := rfl
theorem ix_b1 : ixD (.lst [a, b, c, d] :: R) (.loc 0) (.int 1) = some b := rfl
theorem ix_b2 : ixD (.lst [a, b, c, d] :: R) (.loc 0) (.int 2) = some c := rfl
theorem ix_b3 : ixD (.lst [a, b, c, d] :: R) (.loc 0) (.int 3) = some d := rfl
theorem set_bag0 {e : E} {v : Int} (h : ρ[0]? = some (some (.loc 0))) (he : ev F base e ρ (.lst [a, b, c, d] :: R) = .ok (.int v) (.lst [a, b, c, d] :: R)) : ex F base W (.setIx (.var 0) (.int 0) e) ρ (.lst [a, b, c, d] :: R) = .next ρ (.lst [.int v, b, c, d] :: R) := by
  rw [ex, he]
  simp only [rs_st, ev_v, h, ev_int, List.getElem?_cons_zero]
  have : mayPut base 0 (.int v) = true := by unfold mayPut; rw [show D.under 0 (.int v) = true from rfl, Bool.or_true]
  rw [this]
  rfl
theorem set_bag1 {e : E} {v : Int} (h : ρ[0]? = some (some (.loc 0))) (he : ev F base e ρ (.lst [a, b, c, d] :: R) = .ok (.int v) (.lst [a, b, c, d] :: R)) : ex F base W (.setIx (.var 0) (.int 1) e) ρ (.lst [a, b, c, d] :: R) = .next ρ (.lst [a, .int v, c, d] :: R) := by
  rw [ex, he]
  simp only [rs_st, ev_v, h, ev_int, List.getElem?_cons_zero]
  have : mayPut base 0 (.int v) = true := by unfold mayPut; rw [show D.under 0 (.int v) = true from rfl, Bool.or_true]
  rw [this]
  rfl
theorem aug_bag {z : Int} (h : ρ[0]? = some (some (.loc 0))) : ex F base W (.augIx (.var 0) (.int 2) (.int 1)) ρ (.lst [a, b, .int z, d] :: R) = .next ρ (.lst [a, b, .int (z + 1), d] :: R) := by
  rw [ex]
  simp only [rs_st, ev_v, h, ev_int, List.getElem?_cons_zero]
  rfl
end
theorem cutLmap {α β : Type} (f : α → β) (l : List α) (lo hi : Option Int) : cutL (l.map f) lo hi = (cutL l lo hi).map f := by
  unfold cutL
  rw [List.length_map, List.map_take, List.map_drop]
theorem cutL_len {α : Type} (l : List α) (lo hi : Option Int) : (cutL l lo hi).length ≤ l.length := by
  unfold cutL
  rw [List.length_take, List.length_drop]
  omega
theorem sl_lst {M : Mem} {ds : List D} {l h : Option Int} : slV M (.lst ds) l h = some (.lst (cutL ds l h)) := rfl
theorem b1_int {M : Mem} {i : Int} : b1 M .int (.int i) = some (.int i) := rfl
theorem first_int (l : List Int) : ∃ i, ixD M (.lst (l.map D.int ++ [.int 0])) (.int 0) = some (.int i) := by
  cases l with
  | nil => exact ⟨0, ix_l0⟩
  | cons a l => exact ⟨a, ix_l0⟩
section
variable {F : Nat → List D → Mem → Rs D} {base : Nat}
theorem evP_no {ρ : Fr} {M : Mem} : evP F base .no ρ M = .ok none M := by rw [evP]
theorem evP_at {e : E} {ρ : Fr} {M : Mem} : evP F base (.at e) ρ M = (ev F base e ρ M).bind fun d M => match d with
    | .int i => .ok (some i) M
    | _ => .bad := by rw [evP] <;> rfl
end
theorem insert_own {B : Cell} {R : Mem} {f : List D} {y : D} {v : Int} (hf : f.length < sizeLine) (h0 : 0 ≤ v) (h1 : v < 2 ^ 63) : insertR (R.length + 1) (.loc (R.length + 1)) (.int v) y (B :: (R ++ [.lst f])) = .ok .non (B :: (R ++ [.lst (f.take v.toNat ++ y :: f.drop v.toNat)])) := by
  unfold insertR mayPut
  dsimp only
  rw [show (B :: (R ++ [Cell.lst f]))[R.length + 1]? = some (.lst f) by simp]
  dsimp only
  rw [decide_eq_true (Nat.le_refl _), decide_eq_true ⟨hf, h0, h1⟩]
  unfold setM
  simp
theorem seq_own {B : Cell} {R : Mem} {f : List D} : D.seq (B :: (R ++ [.lst f])) (.loc (R.length + 1)) = some f := by
  rw [seq_loc, show (B :: (R ++ [Cell.lst f]))[R.length + 1]? = some (.lst f) by simp]
theorem lenD_own {B : Cell} {R : Mem} {f : List D} : lenD (B :: (R ++ [.lst f])) (.loc (R.length + 1)) = some (.int f.length) := by
  unfold lenD
  rw [show D.items (B :: (R ++ [.lst f])) (.loc (R.length + 1)) = some f from seq_own]
theorem append_own {B : Cell} {R : Mem} {f : List D} {y : D} (hf : f.length < sizeLine) : appendR (R.length + 1) (.loc (R.length + 1)) y (B :: (R ++ [.lst f])) = .ok .non (B :: (R ++ [.lst (f ++ [y])])) := by
  have := append_mid (M := B :: R) (Z := []) (ds := f) (d := y) (base := R.length + 1) (by simp) hf
  simpa using this
theorem leave_own {B' : Cell} {R : Mem} {f : List D} (h : f.all D.pure = true) : leave false (R.length + 1) (.ret (.loc (R.length + 1)) (B' :: (R ++ [.lst f]))) = .ok (.lst f) (B' :: R) := by
  have := leave_loc (M := B' :: R) (ds := f) h
  simpa using this
theorem leave_bag {B' : Cell} {R : Mem} {d : D} (h : d.pure = true) : leave false (R.length + 1) (.ret d (B' :: R)) = .ok d (B' :: R) := by
  have := leave_ret0 (M := B' :: R) (d := d) h
  simpa using this
theorem leave_bagZ {B' : Cell} {R Z : Mem} {d : D} (h : d.pure = true) : leave false (R.length + 1) (.ret d (B' :: (R ++ Z))) = .ok d (B' :: R) := by
  have := leave_pure (M := B' :: R) (Z := Z) (d := d) h
  simpa using this
theorem ins_perm (f : List D) (y : D) (n : Nat) : (f.take n ++ y :: f.drop n).Perm (f ++ [y]) := by
  have h1 : (f.take n ++ y :: f.drop n).Perm (y :: (f.take n ++ f.drop n)) := List.perm_middle
  rw [List.take_append_drop] at h1
  exact h1.trans (List.perm_append_comm (l₁ := [y]))
theorem ix_mem {M : Mem} {ds : List D} {v : Int} (h0 : 0 ≤ v) (h1 : v < ds.length) : ∃ d, ixD M (.lst ds) (.int v) = some d ∧ d ∈ ds := by
  have hv : v = ((v.toNat : Nat) : Int) := by omega
  rw [hv, ix_nat_l]
  have hn : v.toNat < ds.length := by omega
  exact ⟨ds[v.toNat], List.getElem?_eq_getElem hn, List.getElem_mem hn⟩
end Net
end

section
set_option Elab.async false
set_option linter.all false
set_option maxRecDepth 100000
/-! M12: drawn forests. -/
namespace Net
open PySem L2 Fo
def oN : Option Nat → D
  | none => .non
  | some j => .int (j : Int)
def pars (ps : List (Option Nat)) : List D := ps.map oN
def ParOk (ps : List (Option Nat)) : Prop := ∀ i j : Nat, ps[i]? = some (some j) → j < i
theorem oN_pure {o : Option Nat} : (oN o).pure = true := by cases o <;> rfl
theorem oN_pl {o : Option Nat} : (oN o).pl = true := by cases o <;> rfl
theorem oN_dp {o : Option Nat} : (oN o).dp ≤ 0 := by cases o <;> exact Nat.le_refl _
theorem pars_pure (ps : List (Option Nat)) : (pars ps).all D.pure = true := all_pure_map fun _ _ => oN_pure
/-- from the root down to i -/
def lnf (ps : List (Option Nat)) : Nat → Nat → List Nat
  | 0, i => [i]
  | n + 1, i => match ps[i]? with
    | some (some j) => lnf ps n j ++ [i]
    | _ => [i]
theorem rngD0 (n : Nat) : rngD 0 n = nats (List.range n) := by
  unfold rngD nats
  rw [show ((n : Int) - 0).toNat = n by omega]
  apply List.map_congr_left
  intro i _
  simp
theorem rngOk0 {n : Nat} (h : n ≤ 1000) : rngOk 0 n = true := by
  unfold rngOk
  refine decide_eq_true ⟨by decide, by decide, by omega, by omega, ?_⟩
  have : ((n : Int) - 0).toNat = n := by omega
  rw [this, Net.sizeLine_eq]; omega
theorem append_own2 {B c : Cell} {R : Mem} {f : List D} {y : D} (hf : f.length < sizeLine) : appendR (R.length + 1) (.loc (R.length + 2)) y (B :: (R ++ [c, .lst f])) = .ok .non (B :: (R ++ [c, .lst (f ++ [y])])) := by
  have := append_mid (M := B :: (R ++ [c])) (Z := []) (ds := f) (d := y) (base := R.length + 1) (by simp) hf
  simpa using this
theorem seq_own2 {B c : Cell} {R : Mem} {f : List D} : D.seq (B :: (R ++ [c, .lst f])) (.loc (R.length + 2)) = some f := by
  have := seq_mid (M := B :: (R ++ [c])) (Z := []) (ds := f)
  simpa using this
theorem seq_own1 {B : Cell} {R Z : Mem} {f : List D} : D.seq (B :: (R ++ .lst f :: Z)) (.loc (R.length + 1)) = some f := by
  have := seq_mid (M := B :: R) (Z := Z) (ds := f)
  simpa using this
/-! ### uppers in the drawn forest -/
theorem lnf_self (ps : List (Option Nat)) (n i : Nat) : i ∈ lnf ps n i := by
  cases n with
  | zero => simp [lnf]
  | succ n =>
    unfold lnf
    split <;> simp
theorem lnf_stable {ps : List (Option Nat)} (ok : ParOk ps) : ∀ (n m i : Nat), i ≤ n → i ≤ m → lnf ps n i = lnf ps m i
  | 0, 0, i, _, _ => rfl
  | 0, m + 1, i, h, _ => by
    have : i = 0 := by omega
    subst this
    unfold lnf
    split
    · rename_i j e
      have := ok 0 j e
      omega
    · rfl
  | n + 1, 0, i, _, h => by
    have : i = 0 := by omega
    subst this
    unfold lnf
    split
    · rename_i j e
      have := ok 0 j e
      omega
    · rfl
  | n + 1, m + 1, i, h1, h2 => by
    unfold lnf
    split
    · rename_i j e
      have := ok i j e
      rw [lnf_stable ok n m j (by omega) (by omega)]
    · rfl
/-- the line of i -/
def ln (ps : List (Option Nat)) (i : Nat) : List Nat := lnf ps i i
theorem ln_step {ps : List (Option Nat)} (ok : ParOk ps) {i j : Nat} (e : ps[i]? = some (some j)) : ln ps i = ln ps j ++ [i] := by
  have hj := ok i j e
  unfold ln
  obtain ⟨n, rfl⟩ : ∃ n, i = n + 1 := ⟨i - 1, by omega⟩
  rw [lnf, e]
  dsimp only
  rw [lnf_stable ok n j j (by omega) (Nat.le_refl _)]
theorem ln_root {ps : List (Option Nat)} {i : Nat} (e : ∀ j, ps[i]? ≠ some (some j)) : ln ps i = [i] := by
  unfold ln
  cases i with
  | zero => rfl
  | succ n =>
    unfold lnf
    split
    · rename_i j h; exact absurd h (e j)
    · rfl
theorem ln_le {ps : List (Option Nat)} (ok : ParOk ps) : ∀ (n i : Nat), i ≤ n → ∀ a, a ∈ ln ps i → a ≤ i := by
  intro n
  induction n with
  | zero =>
    intro i hi a ha
    have : i = 0 := by omega
    subst this
    rw [show ln ps 0 = [0] from rfl] at ha
    simp at ha; omega
  | succ n ih =>
    intro i hi a ha
    cases e : ps[i]? with
    | none => rw [ln_root (by rw [e]; exact fun j z => by cases z)] at ha; simp at ha; omega
    | some o => cases o with
      | none => rw [ln_root (by rw [e]; exact fun j z => by cases z)] at ha; simp at ha; omega
      | some j =>
        rw [ln_step ok e] at ha
        have hj := ok i j e
        rcases List.mem_append.mp ha with h | h
        · have := ih j (by omega) a h; omega
        · simp at h; omega
theorem ln_trans {ps : List (Option Nat)} (ok : ParOk ps) : ∀ (n e a b : Nat), e ≤ n → a ∈ ln ps b → b ∈ ln ps e → a ∈ ln ps e := by
  intro n
  induction n with
  | zero =>
    intro e a b he ha hb
    have : e = 0 := by omega
    subst this
    rw [show ln ps 0 = [0] from rfl] at hb
    simp at hb; subst hb
    exact ha
  | succ n ih =>
    intro e a b he ha hb
    cases z : ps[e]? with
    | none => rw [ln_root (by rw [z]; exact fun j z => by cases z)] at hb; simp at hb; subst hb; exact ha
    | some o => cases o with
      | none => rw [ln_root (by rw [z]; exact fun j z => by cases z)] at hb; simp at hb; subst hb; exact ha
      | some j =>
        have hj := ok e j z
        rw [ln_step ok z] at hb
        rcases List.mem_append.mp hb with h | h
        · rw [ln_step ok z]
          exact List.mem_append.mpr (.inl (ih j a b (by omega) ha h))
        · simp at h; subst h; exact ha
theorem ln_chain {ps : List (Option Nat)} (ok : ParOk ps) : ∀ (n e a b : Nat), e ≤ n → a ∈ ln ps e → b ∈ ln ps e → a ∈ ln ps b ∨ b ∈ ln ps a := by
  intro n
  induction n with
  | zero =>
    intro e a b he ha hb
    have : e = 0 := by omega
    subst this
    rw [show ln ps 0 = [0] from rfl] at ha hb
    simp at ha hb; subst ha; subst hb
    left; exact lnf_self _ _ _
  | succ n ih =>
    intro e a b he ha hb
    have root : (∀ j, ps[e]? ≠ some (some j)) → a ∈ ln ps b ∨ b ∈ ln ps a := fun h => by
      rw [ln_root h] at ha hb
      simp at ha hb; subst ha; subst hb
      left; exact lnf_self _ _ _
    cases z : ps[e]? with
    | none => exact root (by rw [z]; exact fun j z => by cases z)
    | some o => cases o with
      | none => exact root (by rw [z]; exact fun j z => by cases z)
      | some j =>
        have hj := ok e j z
        have ha0 := ha
        have hb0 := hb
        rw [ln_step ok z] at ha hb
        rcases List.mem_append.mp ha with h | h
        · rcases List.mem_append.mp hb with h' | h'
          · exact ih j a b (by omega) h h'
          · simp at h'; subst h'; exact .inl ha0
        · simp at h; subst h; exact .inr hb0
/-- each stands above an end that nobody has as parent -/
theorem ln_leaf {ps : List (Option Nat)} (ok : ParOk ps) : ∀ (m a : Nat), ps.length ≤ a + m → a < ps.length → ∃ e, e < ps.length ∧ a ∈ ln ps e ∧ some e ∉ ps := by
  intro m
  induction m with
  | zero => intro a h1 h2; omega
  | succ m ih =>
    intro a h1 h2
    by_cases h : some a ∈ ps
    · obtain ⟨c, hc, e⟩ := List.getElem_of_mem h
      have e' : ps[c]? = some (some a) := by rw [List.getElem?_eq_getElem hc, e]
      have hac := ok c a e'
      obtain ⟨x, x1, x2, x3⟩ := ih c (by omega) hc
      refine ⟨x, x1, ln_trans ok x x a c (Nat.le_refl _) ?_ x2, x3⟩
      rw [ln_step ok e']
      exact List.mem_append.mpr (.inl (lnf_self _ _ _))
    · exact ⟨a, h2, lnf_self _ _ _, h⟩
theorem ln_nd {ps : List (Option Nat)} (ok : ParOk ps) : ∀ (n i : Nat), i ≤ n → (ln ps i).Nodup := by
  intro n
  induction n with
  | zero =>
    intro i hi
    have : i = 0 := by omega
    subst this
    rw [show ln ps 0 = [0] from rfl]; simp
  | succ n ih =>
    intro i hi
    have root : (∀ j, ps[i]? ≠ some (some j)) → (ln ps i).Nodup := fun h => by rw [ln_root h]; simp
    cases z : ps[i]? with
    | none => exact root (by rw [z]; exact fun j z => by cases z)
    | some o => cases o with
      | none => exact root (by rw [z]; exact fun j z => by cases z)
      | some j =>
        have hj := ok i j z
        rw [ln_step ok z, List.nodup_append]
        refine ⟨ih j (by omega), by simp, fun a ha b hb e => ?_⟩
        have := ln_le ok j j (Nat.le_refl _) a ha
        simp at hb; omega
theorem ln_len {ps : List (Option Nat)} (ok : ParOk ps) (i : Nat) : (ln ps i).length ≤ i + 1 := by
  have := len_le_of_sub (l2 := List.range (i + 1)) (ln_nd ok i i (Nat.le_refl _)) fun a ha => by
    have := ln_le ok i i (Nat.le_refl _) a ha
    rw [List.mem_range]; omega
  simpa using this
end Net
namespace Net
open PySem L2 Fo
def unS : D → Str
  | .str s => s
  | _ => Str.ofString ""
theorem strs_perm {a b : List Str} (h : (sts a).Perm (sts b)) : a.Perm b := by
  have := h.map unS
  unfold sts at this
  rw [List.map_map, List.map_map] at this
  rw [show (unS ∘ D.str) = id from rfl, List.map_id, List.map_id] at this
  exact this
end Net
namespace Net
open PySem L2 Fo
def rngA (x : D) (M : Mem) : Rs (List D × List Nat) := match x with
    | .int j => if rngOk 0 j then .ok (rngD 0 j, []) M else .bad
    | _ => .bad
theorem rngR_ex : ∃ f : D → Mem → Rs (List D × List Nat), f = rngA := ⟨_, rfl⟩
/-- not to be opened: its bounds are too big to be counted out -/
noncomputable def rngR : D → Mem → Rs (List D × List Nat) := Classical.choose rngR_ex
theorem rngR_eq : rngR = rngA := Classical.choose_spec rngR_ex
theorem evI_rngR {F : Nat → List D → Mem → Rs D} {base : Nat} {a : E} {ρ : Fr} {M : Mem} : evI F base (.rng1 a) ρ M = (ev F base a ρ M).bind fun x M => rngR x M := by rw [rngR_eq, evI]; rfl
theorem rngR_ok {n : Nat} {M : Mem} (h : n ≤ 1000) : rngR (.int (n : Int)) M = .ok (nats (List.range n), []) M := by
  have e := rngOk0 h
  rw [rngR_eq]
  unfold rngA
  dsimp only
  rw [e, rngD0]
  rfl
end Net
end

section
set_option Elab.async false
set_option linter.all false
set_option maxRecDepth 100000
/-! M13: drawn questions are nested. -/
namespace Net
open PySem L2 Fo
theorem sts_perm {l : List Str} {ds : List D} (h : ds.Perm (sts l)) : ∃ l', ds = sts l' ∧ l'.Perm l := by
  have : ∀ l : List D, (∀ d, d ∈ l → ∃ s, d = D.str s) → ∃ cs : List Str, l = sts cs := by
    intro l
    induction l with
    | nil => intro _; exact ⟨[], rfl⟩
    | cons d l ih =>
      intro h
      obtain ⟨s, rfl⟩ := h d List.mem_cons_self
      obtain ⟨cs, rfl⟩ := ih fun x hx => h x (List.mem_cons_of_mem _ hx)
      exact ⟨s :: cs, rfl⟩
  obtain ⟨cs, e⟩ := this ds fun d hd => by
    obtain ⟨j, _, rfl⟩ := List.mem_map.mp (h.mem_iff.mp hd)
    exact ⟨_, rfl⟩
  subst e
  exact ⟨cs, rfl, strs_perm h⟩
def unT : D → Str × Str × List Str
  | .tup [.str w, .str n, .tup cs] => (w, n, cs.map unS)
  | _ => (Str.ofString "", Str.ofString "", [])
theorem unT_d (a : Atm) : (⟨(unT a.d).1, (unT a.d).2.1, (unT a.d).2.2⟩ : Atm) = a := by
  obtain ⟨w, n, cs⟩ := a
  unfold Atm.d unT
  dsimp only
  rw [List.map_map, show (unS ∘ D.str) = id from rfl, List.map_id]
theorem atm_perm {l : List Atm} {ds : List D} (h : ds.Perm (l.map Atm.d)) : ∃ l' : List Atm, ds = l'.map Atm.d ∧ l'.Perm l := by
  have hd : ∀ d, d ∈ ds → ∃ a : Atm, d = a.d := fun d hd => by
    obtain ⟨a, _, rfl⟩ := List.mem_map.mp (h.mem_iff.mp hd)
    exact ⟨a, rfl⟩
  have : ∀ l : List D, (∀ d, d ∈ l → ∃ s : Atm, d = s.d) → ∃ cs : List Atm, l = cs.map Atm.d := by
    intro l
    induction l with
    | nil => intro _; exact ⟨[], rfl⟩
    | cons d l ih =>
      intro h
      obtain ⟨s, rfl⟩ := h d List.mem_cons_self
      obtain ⟨cs, rfl⟩ := ih fun x hx => h x (List.mem_cons_of_mem _ hx)
      exact ⟨s :: cs, rfl⟩
  obtain ⟨cs, e⟩ := this ds hd
  subst e
  refine ⟨cs, rfl, ?_⟩
  have h2 := h.map fun d => (⟨(unT d).1, (unT d).2.1, (unT d).2.2⟩ : Atm)
  rw [List.map_map, List.map_map] at h2
  rw [show ((fun d => (⟨(unT d).1, (unT d).2.1, (unT d).2.2⟩ : Atm)) ∘ Atm.d) = id from funext unT_d, List.map_id, List.map_id] at h2
  exact h2
theorem cut_take {α : Type} (l : List α) {i : Int} (h : 0 ≤ i) : cutL l none (some i) = l.take i.toNat := by
  unfold cutL
  rw [HT.sIx_none, List.drop_zero, Nat.sub_zero]
  show l.take (if i < 0 then (i + (l.length : Int)).toNat else min i.toNat l.length) = _
  rw [if_neg (by omega)]
  rcases Nat.le_total i.toNat l.length with h | h
  · rw [Nat.min_eq_left h]
  · rw [Nat.min_eq_right h, List.take_length, List.take_of_length_le h]
def nmOf (nms : List Str) (j : Nat) : Str := nms.getD j (Str.ofString "")
theorem nm_inj {nms : List Str} (nd : nms.Nodup) {i j : Nat} (hi : i < nms.length) (hj : j < nms.length) (e : nmOf nms i = nmOf nms j) : i = j := by
  unfold nmOf at e
  rw [List.getD_eq_getElem?_getD, List.getD_eq_getElem?_getD, List.getElem?_eq_getElem hi, List.getElem?_eq_getElem hj] at e
  exact (List.getElem_inj nd).mp e
theorem nm_mem {nms : List Str} {c : Str} (h : c ∈ nms) : ∃ i, i < nms.length ∧ nmOf nms i = c := by
  obtain ⟨i, hi, e⟩ := List.getElem_of_mem h
  refine ⟨i, hi, ?_⟩
  unfold nmOf
  rw [List.getD_eq_getElem?_getD, List.getElem?_eq_getElem hi, ← e]; rfl
theorem nq_of {nms cols : List Str} {ps : List (Option Nat)} {ats : List Atm} {rgs : List Rng} (nd : nms.Nodup) (ne : nms ≠ []) (sok : ∀ c, c ∈ nms → PyData.strOk c = true) (ok : ParOk ps) (hl : ps.length = nms.length) (hc : cols.Perm nms)
    (ha : ∀ a, a ∈ ats → ∃ e, e < ps.length ∧ a.cs.Perm ((ln ps e).map (nmOf nms))) (hleaf : ∀ e, e < ps.length → some e ∉ ps → ∃ a, a ∈ ats ∧ a.cs.Perm ((ln ps e).map (nmOf nms))) : NQ ⟨cols, ats, rgs⟩ where
  nd := hc.nodup_iff.mpr nd
  ne := fun h => by
    have h : cols = [] := h
    rw [h] at hc
    exact ne hc.nil_eq.symm
  ok := fun c h => sok c (hc.mem_iff.mp h)
  has := fun c h => by
    obtain ⟨i, hi, rfl⟩ := nm_mem (hc.mem_iff.mp h)
    obtain ⟨e, e1, e2, e3⟩ := ln_leaf ok ps.length i (by omega) (by omega)
    obtain ⟨a, a1, a2⟩ := hleaf e e1 e3
    obtain ⟨j, hj, ej⟩ := List.getElem_of_mem a1
    exact List.ne_nil_of_mem (Qn.mem_of.mpr ⟨a, (by rw [← ej]; exact List.getElem?_eq_getElem hj : ats[j]? = some a), a2.mem_iff.mpr (List.mem_map.mpr ⟨i, e2, rfl⟩)⟩)
  nest := fun x y i hx hy h1 h2 => by
    obtain ⟨a, hai, hxa⟩ := Qn.mem_of.mp h1
    obtain ⟨a', hai', hya⟩ := Qn.mem_of.mp h2
    have hai0 : ats[i]? = some a := hai
    have hai1 : ats[i]? = some a' := hai'
    rw [hai0] at hai1
    cases hai1
    obtain ⟨e, e1, e2⟩ := ha a (List.mem_of_getElem? hai0)
    obtain ⟨u, hu, rfl⟩ := List.mem_map.mp (e2.mem_iff.mp hxa)
    obtain ⟨v, hv, rfl⟩ := List.mem_map.mp (e2.mem_iff.mp hya)
    have below : ∀ u v : Nat, u < nms.length → v < nms.length → u ∈ ln ps v → ∀ j, j ∈ Qn.of ⟨cols, ats, rgs⟩ (nmOf nms v) → j ∈ Qn.of ⟨cols, ats, rgs⟩ (nmOf nms u) := fun u v hu hv huv j hj => by
      obtain ⟨b, hb, hvb⟩ := Qn.mem_of.mp hj
      have hb : ats[j]? = some b := hb
      obtain ⟨e', f1, f2⟩ := ha b (List.mem_of_getElem? hb)
      obtain ⟨w, hw, ew⟩ := List.mem_map.mp (f2.mem_iff.mp hvb)
      have hwl := ln_le ok e' e' (Nat.le_refl _) w hw
      have := nm_inj nd (by omega) hv ew
      subst this
      exact Qn.mem_of.mpr ⟨b, hb, f2.mem_iff.mpr (List.mem_map.mpr ⟨u, ln_trans ok e' e' u w (Nat.le_refl _) huv hw, rfl⟩)⟩
    have hu2 := ln_le ok e e (Nat.le_refl _) u hu
    have hv2 := ln_le ok e e (Nat.le_refl _) v hv
    rcases ln_chain ok e e u v (Nat.le_refl _) hu hv with h | h
    · exact .inr (below u v (by omega) (by omega) h)
    · exact .inl (below v u (by omega) (by omega) h)
theorem rng_pure (r : Rng) : r.d.pure = true := by
  unfold Rng.d
  rw [pure_tup]
  simp [oI_pure]
theorem atm_pure (a : Atm) : a.d.pure = true := by
  unfold Atm.d
  rw [pure_tup]
  simp [List.all_map]
theorem qn_pure (q : Qn) : q.d.pure = true := by
  unfold Qn.d
  rw [pure_tup]
  simp only [List.all_cons, List.all_nil, pure_tup, Bool.and_true]
  rw [all_pure_map (fun _ _ => rfl), all_pure_map (fun a _ => atm_pure a), all_pure_map (fun r _ => rng_pure r)]
  rfl
theorem ln_has {ps : List (Option Nat)} {n : Nat} {M : Mem} (hn : ps.length ≤ 10) : inD M (.int (n : Int)) (.lst (pars ps)) = some (decide (some n ∈ ps)) := by
  refine inD_lst rfl (pl_lst.mpr fun d hd => by obtain ⟨o, _, rfl⟩ := List.mem_map.mp hd; exact oN_pl) (Nat.zero_le _) (Nat.le_trans (dp_lst (n := 0) fun d hd => by obtain ⟨o, _, rfl⟩ := List.mem_map.mp hd; exact oN_dp) (by decide)) ?_
  rw [decide_eq_true_eq]
  unfold pars
  constructor
  · intro h; exact List.mem_map.mpr ⟨some n, h, rfl⟩
  · intro h
    obtain ⟨o, ho, e⟩ := List.mem_map.mp h
    cases o with
    | none => cases e
    | some m =>
      have : m = n := by unfold oN at e; have := D.int.inj e; omega
      rw [← this]; exact ho
end Net
end

section
set_option Elab.async false
set_option linter.all false
set_option maxRecDepth 100000
/-! M14: the bag beside lists. -/
namespace Net
open PySem L2 Fo
theorem items_bag {B B' : Cell} {R Z : Mem} {d : D} {ds : List D} (h : D.items (B :: R) d = some ds) (hd : ∀ n, n ∈ d.deps → 0 < n) : D.items (B' :: (R ++ Z)) d = some ds := by
  cases d with
  | loc n =>
    have hn := hd n (by simp [D.deps])
    obtain ⟨m, rfl⟩ : ∃ m, n = m + 1 := ⟨n - 1, by omega⟩
    have h : D.seq (B :: R) (.loc (m + 1)) = some ds := h
    show D.seq (B' :: (R ++ Z)) (.loc (m + 1)) = some ds
    rw [seq_loc, List.getElem?_cons_succ] at h
    rw [seq_loc, List.getElem?_cons_succ]
    cases z : R[m]? with
    | none => rw [z] at h; cases h
    | some c =>
      rw [List.getElem?_append_left (List.getElem?_eq_some_iff.mp z).1, z]
      rw [z] at h; exact h
  | _ => exact h
theorem still_bag {B B' : Cell} {R Z Z' : Mem} {g : List Nat} (h : ∀ n, n ∈ g → 0 < n ∧ n < R.length + 1) : Still g (B :: (R ++ Z)) (B' :: (R ++ Z')) := fun n hn => by
  obtain ⟨h1, h2⟩ := h n hn
  obtain ⟨m, rfl⟩ : ∃ m, n = m + 1 := ⟨n - 1, by omega⟩
  rw [List.getElem?_cons_succ, List.getElem?_cons_succ, List.getElem?_append_left (by omega), List.getElem?_append_left (by omega)]
theorem deps_bag {B : Cell} {R : Mem} {d : D} {ds : List D} (h : D.items (B :: R) d = some ds) : ∀ n, n ∈ d.deps → n < R.length + 1 := fun n hn => by
  have := deps_lt h n hn
  simpa using this
def endD (p : Str × Nat) : D := .tup [.str p.1, .int (p.2 : Int)]
theorem bag_app {B c d : Cell} {R : Mem} : (B :: (R ++ [c])) ++ [d] = B :: (R ++ [c, d]) := by simp
theorem bag_len {B c : Cell} {R : Mem} : (B :: (R ++ [c])).length = R.length + 2 := by simp
theorem zip_ends (E : List (Str × Nat)) (ts : List Str) : (((E.map endD).zip (sts ts)).map fun p => D.tup [p.1, p.2]) = (E.zip ts).map fun p => .tup [endD p.1, .str p.2] := by
  rw [List.zip_map, List.map_map]
  rfl
end Net
end

section
set_option Elab.async false
set_option linter.all false
set_option maxRecDepth 100000
/-! M15: drawn shapes. -/
namespace Fo
open Net
variable {α : Type} [DecidableEq α]
def Vb : (F : Fo α) → Shp F → Prop
  | .nil, _ => True
  | .cons _ k r, s => (∀ p, p ∈ s.1 → (-20 ≤ p.1 ∧ p.1 ≤ 20) ∧ Vb k p.2) ∧ Vb r s.2
end Fo
namespace Net
open PySem L2 Fo
theorem cutL_sub {α : Type} (l : List α) (lo hi : Option Int) : ∀ x, x ∈ cutL l lo hi → x ∈ l := fun x h => by
  unfold cutL at h
  exact List.mem_of_mem_drop (List.mem_of_mem_take h)
def hiB (o : Option Int) (v : Int) : Bool := match o with
  | none => true
  | some h => decide (v ≤ h)
def begOf (g : Option Int × Option Int) : Int := match g.1 with
  | some l => l
  | none => match g.2 with
    | some h => h - 6
    | none => -2
theorem beg_sm {g : Option Int × Option Int} (h : Smo g.1 ∧ Smo g.2) : -16 ≤ begOf g ∧ begOf g ≤ 10 := by
  unfold begOf
  cases e : g.1 with
  | some l => have := h.1 l e; dsimp only; omega
  | none => cases e2 : g.2 with
    | some u => have := h.2 u e2; dsimp only; omega
    | none => dsimp only; omega
theorem eq_ints_nil {M : Mem} {l : List Int} : eqD M (.lst (l.map .int)) (.lst []) = some (decide (l = [])) := by
  have h1 : D.plL (l.map D.int) = true := plL_iff.mpr fun d hd => by obtain ⟨i, _, rfl⟩ := List.mem_map.mp hd; rfl
  have h2 : D.dp (.lst (l.map D.int)) ≤ 0 + 1 := dp_lst fun d hd => by obtain ⟨i, _, rfl⟩ := List.mem_map.mp hd; exact Nat.le_refl _
  rw [eq_nil h1 (by omega)]
  congr 1
  rw [decide_eq_decide]
  simp
end Net
end

section
set_option Elab.async false
set_option linter.all false
set_option maxRecDepth 100000
/-! M16: what is shown, and how long it is. -/
namespace Net
open PySem L2 Fo
theorem eq_str3 {M : Mem} {a b : Str} : eqD M (.str a) (.str b) = some (decide (a = b)) := by
  show (if SeqAt.shaped (.str a) = true ∧ SeqAt.shaped (.str b) = true then some (PyData.eqv (.str a) (.str b)) else eqStr (.str a) (.str b)) = _
  rw [eqv_str]
  split <;> rfl
/-! how long a piece of data is when it is shown, at most -/
mutual
def D.tl : D → Nat
  | .non => 4
  | .int _ => 30
  | .str x => (reprText x).length
  | .tup ds => D.tlL ds + 3
  | .lst ds => D.tlL ds + 3
  | _ => 0
def D.tlL : List D → Nat
  | [] => 0
  | d :: ds => d.tl + 2 + D.tlL ds
end
/-! small numbers -/
mutual
def D.sm : D → Bool
  | .int i => decide (i.natAbs < 2 ^ 20)
  | .tup ds => D.smL ds
  | .lst ds => D.smL ds
  | _ => true
def D.smL : List D → Bool
  | [] => true
  | d :: ds => d.sm && D.smL ds
end
theorem smL_iff {ds : List D} : D.smL ds = true ↔ ∀ d, d ∈ ds → d.sm = true := by
  induction ds with
  | nil => simp [D.smL]
  | cons d ds ih => simp [D.smL, ih]
theorem tlL_le {ds : List D} {n : Nat} (h : ∀ d, d ∈ ds → d.tl ≤ n) : D.tlL ds ≤ ds.length * (n + 2) := by
  induction ds with
  | nil => simp [D.tlL]
  | cons d ds ih =>
    have := h d List.mem_cons_self
    have := ih fun x hx => h x (List.mem_cons_of_mem _ hx)
    unfold D.tlL
    rw [List.length_cons, Nat.add_mul]
    omega
theorem join_len (sep : Str) : ∀ ts : List Str, (Str.join sep ts).length ≤ (ts.map fun t => t.length + sep.length).sum
  | [] => Nat.zero_le _
  | [x] => by
    show x.length ≤ _
    simp
  | x :: y :: r => by
    have := join_len sep (y :: r)
    show (x ++ sep ++ Str.join sep (y :: r)).length ≤ _
    rw [strLen_append, strLen_append, List.map_cons, List.sum_cons]
    omega
theorem textFrom_le : ∀ (ts : List Str) (k : Nat) (acc : Str), (textFrom k acc ts).length ≤ acc.length + (ts.map fun t => t.length + 2).sum
  | [], k, acc => by
    show acc.length ≤ _
    simp
  | t :: r, k, acc => by
    have := textFrom_le r (k + 1) (acc ++ (if k > 0 then ", " else "" : String) ++ t)
    show (textFrom (k + 1) (acc ++ (if k > 0 then ", " else "" : String) ++ t) r).length ≤ _
    have e : ((acc ++ (if k > 0 then ", " else "" : String) ++ t : Str)).length ≤ acc.length + 2 + t.length := by
      rw [strLen_append, strLen_append]
      by_cases h : k > 0
      · rw [if_pos h]
        have : (((", " : String)) : Str).length = 2 := rfl
        omega
      · rw [if_neg h]
        have : ((("" : String)) : Str).length = 0 := rfl
        omega
    rw [List.map_cons, List.sum_cons]
    omega
end Net
namespace Net
open PySem L2 Fo
theorem int_len {i : Int} (h : i.natAbs < 2 ^ 20) : ((toString i : String) : Str).length ≤ 30 ∧ PyData.showable (.int i) = true := by
  have h1 : i.natAbs.log2 < 20 := by
    by_cases h0 : i.natAbs = 0
    · rw [h0]; decide
    · exact (Nat.log2_lt h0).mpr h
  have e := int_text_length_le (k := 20) (by decide) h1
  refine ⟨?_, ?_⟩
  · show (Str.ofString (toString i)).length ≤ 30
    rw [ofString_length]; omega
  · unfold PyData.showable
    exact decide_eq_true (by omega)
mutual
theorem shown_pl : ∀ {d : D} {p : PyData}, d.pl = true → d.sm = true → d.pd0 = some p → p.showable = true ∧ p.shown.length ≤ d.tl
  | .non, p, _, _, h => by cases h; exact ⟨rfl, by decide⟩
  | .int i, p, _, hs, h => by
    cases h
    have := int_len (i := i) (of_decide_eq_true hs)
    exact ⟨this.2, by unfold PyData.shown; exact this.1⟩
  | .str x, p, _, _, h => by cases h; exact ⟨rfl, by unfold PyData.shown; exact Nat.le_refl _⟩
  | .tup ds, p, hp, hs, h => by
    obtain ⟨ps, k1, _⟩ := plL_pd (ds := ds) hp
    have h : (D.pdL ds).map PyData.tuple = some p := h
    rw [k1] at h; cases h
    obtain ⟨a, b⟩ := shownL_pl (ds := ds) hp hs k1
    refine ⟨by unfold PyData.showable; exact a, ?_⟩
    unfold PyData.shown tupleText
    rw [strLen_append, strLen_append]
    have j := join_len ((", " : String) : Str) (PyData.shownAll ps)
    have e1 : ((("(" : String) : Str)).length = 1 := rfl
    have e2 : ((", " : String) : Str).length = 2 := rfl
    have e3 : (((if (PyData.shownAll ps).length == 1 then ",)" else ")" : String) : Str)).length ≤ 2 := by split <;> decide
    rw [e2] at j
    have t : D.tl (.tup ds) = D.tlL ds + 3 := rfl
    rw [e1, t]
    omega
  | .lst ds, p, hp, hs, h => by
    obtain ⟨ps, k1, _⟩ := plL_pd (ds := ds) hp
    have h : (D.pdL ds).map PyData.list = some p := h
    rw [k1] at h; cases h
    obtain ⟨a, b⟩ := shownL_pl (ds := ds) hp hs k1
    refine ⟨by unfold PyData.showable; exact a, ?_⟩
    unfold PyData.shown listText
    rw [strLen_append]
    have j := textFrom_le (PyData.shownAll ps) 0 (("[" : String) : Str)
    have e1 : ((("[" : String) : Str)).length = 1 := rfl
    have e2 : ((("]" : String) : Str)).length = 1 := rfl
    have t : D.tl (.lst ds) = D.tlL ds + 3 := rfl
    rw [t]
    omega
  | .bl _, _, h, _, _ | .dic _, _, h, _, _ | .scr _, _, h, _, _ | .loc _, _, h, _, _ => (Bool.false_ne_true h).elim
theorem shownL_pl : ∀ {ds : List D} {ps : List PyData}, D.plL ds = true → D.smL ds = true → D.pdL ds = some ps → PyData.showableAll ps = true ∧ ((PyData.shownAll ps).map fun t => t.length + 2).sum ≤ D.tlL ds
  | [], ps, _, _, h => by cases h; exact ⟨rfl, Nat.le_refl _⟩
  | d :: ds, ps, hp, hs, h => by
    unfold D.plL at hp
    unfold D.smL at hs
    rw [Bool.and_eq_true] at hp hs
    obtain ⟨p, e1, _⟩ := pl_pd hp.1
    obtain ⟨qs, k1, _⟩ := plL_pd hp.2
    unfold D.pdL at h
    rw [e1, k1] at h; cases h
    obtain ⟨a1, a2⟩ := shown_pl hp.1 hs.1 e1
    obtain ⟨b1, b2⟩ := shownL_pl hp.2 hs.2 k1
    refine ⟨by unfold PyData.showableAll; rw [a1, b1]; rfl, ?_⟩
    unfold PyData.shownAll D.tlL
    rw [List.map_cons, List.sum_cons]
    omega
end
theorem repr_pl {d : D} (hp : d.pl = true) (hs : d.sm = true) (hd : d.dp ≤ 64) (hl : d.tl ≤ sizeLine) : ∃ x, ∀ M, b1 M .repr d = some (.str x) := by
  obtain ⟨p, e1, _, d1⟩ := pl_pd hp
  obtain ⟨a, b⟩ := shown_pl hp hs e1
  refine ⟨p.shown, fun M => ?_⟩
  show (d.pd M).bind _ = _
  rw [pd_pl hp, e1]
  exact if_pos ⟨a, by rw [d1]; exact hd, Nat.le_trans b hl⟩
theorem eqD_self {M : Mem} {d : D} (hp : d.pl = true) (hd : d.dp ≤ 64) : eqD M d d = some true := eqD_pl hp hp hd hd (by simp)
theorem repr_bl {b : Bool} : ∃ x, ∀ M, b1 M .repr (.bl b) = some (.str x) := by
  refine ⟨PyData.shown (.bool b), fun M => ?_⟩
  have e : (D.bl b).pd M = some (.bool b) := by unfold D.pd; rfl
  unfold b1
  rw [e]
  exact if_pos ⟨rfl, by cases b <;> decide, by cases b <;> decide⟩
theorem eqD_bl {M : Mem} {b : Bool} : eqD M (.bl b) (.bl b) = some true := by
  cases b <;> rfl
/-! shapes -/
theorem dsh_pl {α : Type} [DecidableEq α] : ∀ (F : Fo α) (s : Shp F), D.plL (dsh F s) = true
  | .nil, _ => rfl
  | .cons c k r, s => by
    rw [dsh_cons]
    refine plL_iff.mpr fun d hd => ?_
    rcases List.mem_cons.mp hd with rfl | hd
    · refine pl_tup.mpr fun d hd => ?_
      obtain ⟨p, _, rfl⟩ := List.mem_map.mp hd
      refine pl_tup.mpr fun d hd => ?_
      rcases List.mem_cons.mp hd with rfl | hd
      · rfl
      · rw [List.mem_singleton.mp hd]
        exact dsh_pl k p.2
    · exact plL_iff.mp (dsh_pl r s.2) d hd
theorem dsh_dp {α : Type} [DecidableEq α] : ∀ (F : Fo α) (s : Shp F), D.dpL (dsh F s) ≤ 3 * F.depth
  | .nil, _ => Nat.le_refl _
  | .cons c k r, s => by
    have hd' : (Fo.Fo.cons c k r).depth = max (k.depth + 1) r.depth := rfl
    rw [dsh_cons, hd']
    refine dpL_le.mpr fun d hd => ?_
    rcases List.mem_cons.mp hd with rfl | hd
    · refine Nat.le_trans (dp_tup (n := 3 * k.depth + 2) fun d hd => ?_) (by omega)
      obtain ⟨p, _, rfl⟩ := List.mem_map.mp hd
      refine dp_tup (n := 3 * k.depth + 1) fun d hd => ?_
      rcases List.mem_cons.mp hd with rfl | hd
      · exact Nat.zero_le _
      · rw [List.mem_singleton.mp hd]
        exact dp_tup fun d hd => dpL_le.mp (dsh_dp k p.2) d hd
    · have := dpL_le.mp (dsh_dp r s.2) d hd
      omega
theorem dsh_sm {α : Type} [DecidableEq α] : ∀ (F : Fo α) (s : Shp F), Vb F s → D.smL (dsh F s) = true
  | .nil, _, _ => rfl
  | .cons c k r, s, h => by
    rw [dsh_cons]
    refine smL_iff.mpr fun d hd => ?_
    rcases List.mem_cons.mp hd with rfl | hd
    · refine smL_iff.mpr fun d hd => ?_
      obtain ⟨p, hp, rfl⟩ := List.mem_map.mp hd
      obtain ⟨h1, h2⟩ := h.1 p hp
      refine smL_iff.mpr fun d hd => ?_
      rcases List.mem_cons.mp hd with rfl | hd
      · exact decide_eq_true (by omega)
      · rw [List.mem_singleton.mp hd]
        exact dsh_sm k p.2 h2
    · exact smL_iff.mp (dsh_sm r s.2 h.2) d hd
theorem dsh_tl {α : Type} [DecidableEq α] : ∀ (F : Fo α) (s : Shp F), Bd 5 F s → D.tlL (dsh F s) + 100 ≤ 100 * 6 ^ Fo.sz F
  | .nil, _, _ => Nat.le_refl _
  | .cons c k r, s, h => by
    obtain ⟨b1, b2, b3⟩ := h
    have ir := dsh_tl r s.2 b3
    have hb : D.tlL (s.1.map (plD k)) ≤ s.1.length * (100 * 6 ^ Fo.sz k - 100 + 40 + 2) := by
      have := tlL_le (ds := s.1.map (plD k)) (n := 100 * 6 ^ Fo.sz k - 100 + 40) fun d hd => by
        obtain ⟨p, hp, rfl⟩ := List.mem_map.mp hd
        have ik := dsh_tl k p.2 (b2 p hp)
        have e : D.tl (plD k p) = 30 + 2 + (D.tlL (dsh k p.2) + 3 + 2 + 0) + 3 := rfl
        rw [e]; omega
      rw [List.length_map] at this
      exact this
    have hb2 := Nat.le_trans hb (Nat.mul_le_mul_right _ b1)
    have e : D.tlL (dsh (.cons c k r) s) = D.tlL (s.1.map (plD k)) + 3 + 2 + D.tlL (dsh r s.2) := rfl
    rw [e, sz_cons, ← pow_two 6 _ _ (by decide)]
    have p1 : 0 < 6 ^ Fo.sz k := Nat.pow_pos (by decide)
    have p2 : 0 < 6 ^ Fo.sz r := Nat.pow_pos (by decide)
    generalize 6 ^ Fo.sz k = x at *
    generalize 6 ^ Fo.sz r = y at *
    have q1 : x ≤ x * y := Nat.le_mul_of_pos_right _ p2
    have q2 : y ≤ x * y := Nat.le_mul_of_pos_left _ p1
    have e2 : 100 * (6 * x * y) = 600 * (x * y) := by rw [Nat.mul_assoc, ← Nat.mul_assoc 100]
    rw [e2]
    omega
/-! points -/
theorem pt_tl {l : List Int} (h : l.length ≤ 6) : (ptD l).tl ≤ 200 := by
  have := tlL_le (ds := l.map D.int) (n := 30) fun d hd => by obtain ⟨i, _, rfl⟩ := List.mem_map.mp hd; exact Nat.le_refl _
  rw [List.length_map] at this
  show D.tlL (l.map D.int) + 3 ≤ 200
  omega
theorem rows_tl {A : List (List Int)} (h : ∀ l, l ∈ A → l.length ≤ 6) (hl : A.length ≤ 60) : D.tlL (rowsD A) ≤ 13000 := by
  have := tlL_le (ds := rowsD A) (n := 200) fun d hd => by obtain ⟨l, hl, rfl⟩ := List.mem_map.mp hd; exact pt_tl (h l hl)
  rw [lenRows] at this
  omega
theorem rows_sm {A : List (List Int)} (h : ∀ l, l ∈ A → ∀ v, v ∈ l → -20 ≤ v ∧ v ≤ 20) : D.smL (rowsD A) = true := smL_iff.mpr fun d hd => by
  obtain ⟨l, hl, rfl⟩ := List.mem_map.mp hd
  exact smL_iff.mpr fun d hd => by
    obtain ⟨v, hv, rfl⟩ := List.mem_map.mp hd
    have := h l hl v hv
    exact decide_eq_true (by omega)
end Net
end

section
set_option Elab.async false
set_option linter.all false
set_option maxRecDepth 100000
/-! M17: points and lines; what a lot of points tells. -/
namespace Net
open PySem L2 Fo
section
variable {q : Qn} {F : Fo Str} (Q : QF q F)
include Q
theorem pre_nd : F.pre.Nodup := Q.perm.nodup_iff.mpr Q.N.nd
theorem lin_off {l : List Int} (h : l.length = F.pre.length) : lin F (envp q.cols (off q F l)) = l := by
  unfold lin
  apply List.ext_getElem
  · rw [List.length_map, h]
  · intro i h1 h2
    rw [List.getElem_map]
    have hi : i < F.pre.length := by omega
    have hc : F.pre[i] ∈ q.cols := Q.mem _ (List.getElem_mem hi)
    have hx : q.cols.idxOf F.pre[i] < q.cols.length := List.idxOf_lt_length_of_mem hc
    unfold envp off pos
    rw [List.getD_eq_getElem?_getD, List.getElem?_map, List.getElem?_map, List.getElem?_eq_getElem hx, List.getElem_idxOf hx]
    show (some (l.getD (F.pre.idxOf F.pre[i]) 0)).getD 0 = _
    rw [(pre_nd Q).idxOf_getElem i hi]
    show l.getD i 0 = _
    rw [List.getD_eq_getElem?_getD, List.getElem?_eq_getElem h2]; rfl
theorem off_lin {p : List Int} (h : p.length = q.cols.length) : off q F (lin F (envp q.cols p)) = p := by
  unfold off pos lin
  rw [List.map_map]
  conv => rhs; rw [← map_envp Q.N.nd h]
  apply List.map_congr_left
  intro c hc
  have hm := Q.perm.mem_iff.mpr hc
  have hx : F.pre.idxOf c < F.pre.length := List.idxOf_lt_length_of_mem hm
  show (F.pre.map (envp q.cols p)).getD (F.pre.idxOf c) 0 = _
  rw [List.getD_eq_getElem?_getD, List.getElem?_map, List.getElem?_eq_getElem hx, List.getElem_idxOf hx]
  rfl
theorem off_inj {a b : List Int} (ha : a.length = F.pre.length) (hb : b.length = F.pre.length) (e : off q F a = off q F b) : a = b := by
  rw [← lin_off Q ha, ← lin_off Q hb, e]
theorem lin_inj {a b : List Int} (ha : a.length = q.cols.length) (hb : b.length = q.cols.length) (e : lin F (envp q.cols a) = lin F (envp q.cols b)) : a = b := by
  rw [← off_lin Q ha, ← off_lin Q hb, e]
theorem mem_pnt {t : Shp F} {p : List Int} (hp : p.length = q.cols.length) : p ∈ pnt q F (some t) ↔ lin F (envp q.cols p) ∈ pts F t := by
  unfold pnt
  rw [(srt_perm _).mem_iff, List.mem_map]
  constructor
  · rintro ⟨l, hl, e⟩
    rw [← e, lin_off Q (pts_len F t l hl)]
    exact hl
  · intro h
    exact ⟨_, h, off_lin Q hp⟩
theorem pnt_len {s : Option (Shp F)} {p : List Int} (h : p ∈ pnt q F s) : p.length = q.cols.length := by
  cases s with
  | none => cases h
  | some t =>
    obtain ⟨l, _, rfl⟩ := List.mem_map.mp ((srt_perm _).mem_iff.mp h)
    exact off_len
theorem pnt_nd {s : Option (Shp F)} (hw : ∀ t, s = some t → Wf F t) : (pnt q F s).Nodup := by
  cases s with
  | none => exact List.nodup_nil
  | some t =>
    unfold pnt
    rw [(srt_perm _).nodup_iff]
    have : ∀ A : List (List Int), A.Nodup → (∀ l, l ∈ A → l.length = F.pre.length) → (A.map (off q F)).Nodup := by
      intro A
      induction A with
      | nil => intro _ _; exact List.nodup_nil
      | cons a A ih =>
        intro nd hl
        obtain ⟨n1, n2⟩ := List.nodup_cons.mp nd
        rw [List.map_cons, List.nodup_cons]
        refine ⟨fun h => ?_, ih n2 fun l hl2 => hl l (List.mem_cons_of_mem _ hl2)⟩
        obtain ⟨b, hb, e⟩ := List.mem_map.mp h
        exact n1 (off_inj Q (hl b (List.mem_cons_of_mem _ hb)) (hl a List.mem_cons_self) e ▸ hb)
    exact this _ (pts_nodup F t (hw t rfl)) (pts_len F t)
theorem pnt_sorted {s : Option (Shp F)} : (pnt q F s).Pairwise fun a b => leD (ptD a) (ptD b) = true := by
  cases s with
  | none => exact .nil
  | some t => exact srt_sorted _
theorem pnt_nil {s : Option (Shp F)} (hw : ∀ t, s = some t → Wf F t) : pnt q F s = [] ↔ s = none := by
  cases s with
  | none => exact ⟨fun _ => rfl, fun _ => rfl⟩
  | some t =>
    constructor
    · intro h
      have h1 := (srt_perm ((pts F t).map (off q F))).length_eq
      have h : srt ((pts F t).map (off q F)) = [] := h
      rw [h, List.length_map] at h1
      exact absurd (List.eq_nil_of_length_eq_zero h1.symm) (pts_ne F t (hw t rfl))
    · intro h; cases h
/-- the points of a shape give it back -/
theorem shp_pnt {s : Option (Shp F)} (hw : ∀ t, s = some t → Wf F t) : shp q F (pnt q F s) = s := by
  unfold shp
  cases s with
  | none => rfl
  | some t =>
    have hne : pnt q F (some t) ≠ [] := fun h => by cases (pnt_nil Q hw).mp h
    rw [if_neg hne]
    congr 1
    refine shd_eq F t _ (hw t rfl) fun l => ?_
    constructor
    · intro hl
      have hll := pts_len F t l hl
      exact ⟨envp q.cols (off q F l), List.mem_map.mpr ⟨off q F l, (mem_pnt Q off_len).mpr (by rw [lin_off Q hll]; exact hl), rfl⟩, lin_off Q hll⟩
    · rintro ⟨e, he, rfl⟩
      obtain ⟨p, hp, rfl⟩ := List.mem_map.mp he
      exact (mem_pnt Q (pnt_len Q hp)).mp hp
/-- a lot of points: as many as the shape has, just if they are its points -/
theorem told_iff {P : List (List Int)} (hP : ∀ p, p ∈ P → p.length = q.cols.length) (nd : P.Nodup) (ne : P ≠ []) : num F (shd F (P.map (envp q.cols))) = P.length ↔ pnt q F (shp q F P) = srt P := by
  have hne : P.map (envp q.cols) ≠ [] := fun h => ne (List.map_eq_nil_iff.mp h)
  have hlin : ((P.map (envp q.cols)).map (lin F)).Nodup := by
    rw [List.map_map]
    have : ∀ A : List (List Int), A.Nodup → (∀ l, l ∈ A → l.length = q.cols.length) → (A.map (lin F ∘ envp q.cols)).Nodup := by
      intro A
      induction A with
      | nil => intro _ _; exact List.nodup_nil
      | cons a A ih =>
        intro nd hl
        obtain ⟨n1, n2⟩ := List.nodup_cons.mp nd
        rw [List.map_cons, List.nodup_cons]
        refine ⟨fun h => ?_, ih n2 fun l hl2 => hl l (List.mem_cons_of_mem _ hl2)⟩
        obtain ⟨b, hb, e⟩ := List.mem_map.mp h
        exact n1 (lin_inj Q (hl b (List.mem_cons_of_mem _ hb)) (hl a List.mem_cons_self) e ▸ hb)
    exact this P nd hP
  have wf := shd_wf F _ hne
  have key := num_rows hne hlin
  rw [List.length_map] at key
  rw [key]
  have hs : shp q F P = some (shd F (P.map (envp q.cols))) := if_neg ne
  rw [hs]
  constructor
  · intro h
    unfold pnt
    refine srt_eq (perm_of_nodup ?_ nd fun p => ?_)
    · have := pnt_nd Q (s := some (shd F (P.map (envp q.cols)))) fun t e => by cases e; exact wf
      unfold pnt at this
      rw [(srt_perm _).nodup_iff] at this
      exact this
    · constructor
      · intro hp
        obtain ⟨l, hl, rfl⟩ := List.mem_map.mp hp
        obtain ⟨e, he, e2⟩ := List.mem_map.mp ((h l).mp hl)
        obtain ⟨p', hp', rfl⟩ := List.mem_map.mp he
        rw [← e2, off_lin Q (hP p' hp')]
        exact hp'
      · intro hp
        refine List.mem_map.mpr ⟨lin F (envp q.cols p), (h _).mpr (List.mem_map.mpr ⟨_, List.mem_map.mpr ⟨p, hp, rfl⟩, rfl⟩), off_lin Q (hP p hp)⟩
  · intro h l
    have hm : ∀ p, p.length = q.cols.length → (p ∈ P ↔ lin F (envp q.cols p) ∈ pts F (shd F (P.map (envp q.cols)))) := fun p hp => by
      rw [← mem_pnt Q hp, h, (srt_perm P).mem_iff]
    constructor
    · intro hl
      have hll := pts_len F _ l hl
      have := (hm (off q F l) off_len).mpr (by rw [lin_off Q hll]; exact hl)
      exact List.mem_map.mpr ⟨_, List.mem_map.mpr ⟨_, this, rfl⟩, lin_off Q hll⟩
    · intro hl
      obtain ⟨e, he, rfl⟩ := List.mem_map.mp hl
      obtain ⟨p, hp, rfl⟩ := List.mem_map.mp he
      exact (hm p (hP p hp)).mp hp
/-- rows among the points of a shape, and one more: no branch is wide -/
theorem shp_bd {s : Option (Shp F)} (hw : ∀ t, s = some t → Wf F t ∧ Bd 4 F t) {p0 : List Int} {P : List (List Int)} (hP : ∀ p, p ∈ P → p.length = q.cols.length) (hs : ∀ p, p ∈ P → p = p0 ∨ p ∈ pnt q F s) : ∀ t, shp q F P = some t → Bd 5 F t := fun t ht => by
  unfold shp at ht
  split at ht
  · cases ht
  · cases ht
    refine shd_bd F s (envp q.cols p0) _ hw fun x hx => ?_
    obtain ⟨p, hp, rfl⟩ := List.mem_map.mp hx
    rcases hs p hp with rfl | h
    · exact .inl rfl
    · cases s with
      | none => cases h
      | some t => exact .inr ⟨t, rfl, (mem_pnt Q (hP p hp)).mp h⟩
theorem bd45 : ∀ {F : Fo Str} {t : Shp F}, Bd 4 F t → Bd 5 F t
  | .nil, _, _ => trivial
  | .cons _ _ _, _, ⟨h1, h2, h3⟩ => ⟨by omega, fun p hp => bd45 (h2 p hp), bd45 h3⟩
end
/-! small values -/
theorem pts_vb {α : Type} [DecidableEq α] : ∀ (F : Fo α) (s : Shp F), Vb F s → ∀ l, l ∈ pts F s → ∀ v, v ∈ l → -20 ≤ v ∧ v ≤ 20
  | .nil, _, _, l, hl, v, hv => by rw [List.mem_singleton.mp hl] at hv; cases hv
  | .cons c k r, s, h, l, hl, v, hv => by
    rw [pts_cons] at hl
    obtain ⟨a, b, ha, hb, rfl⟩ := mem_pr.mp hl
    obtain ⟨p, m, hp, hm, rfl⟩ := mem_brp.mp ha
    rcases List.mem_append.mp hv with hv | hv
    · rcases List.mem_cons.mp hv with rfl | hv
      · exact (h.1 p hp).1
      · exact pts_vb k p.2 (h.1 p hp).2 m hm v hv
    · exact pts_vb r s.2 h.2 b hb v hv
theorem shd_vb {α : Type} [DecidableEq α] : ∀ (F : Fo α) (R : List (Env α)), (∀ e, e ∈ R → ∀ c, c ∈ F.pre → -20 ≤ e c ∧ e c ≤ 20) → Vb F (shd F R)
  | .nil, _, _ => trivial
  | .cons c k r, R, h => by
    refine ⟨fun p hp => ?_, shd_vb r R fun e he c' hc' => h e he c' (List.mem_cons_of_mem _ (List.mem_append.mpr (.inr hc')))⟩
    obtain ⟨v, hv, rfl⟩ := List.mem_map.mp hp
    obtain ⟨e, he, rfl⟩ := List.mem_map.mp (mem_vals.mp hv)
    exact ⟨h e he c List.mem_cons_self, shd_vb k _ fun e' he' c' hc' => h e' (List.mem_filter.mp he').1 c' (List.mem_cons_of_mem _ (List.mem_append.mpr (.inl hc')))⟩
end Net
end

section
set_option Elab.async false
set_option linter.all false
set_option maxRecDepth 100000
/-! M18: points told apart. -/
namespace Net
open PySem L2 Fo
theorem pt_inj {a b : List Int} : ptD a = ptD b ↔ a = b :=
  ⟨fun e => (List.map_inj_right (fun a b e => by cases e; rfl)).mp (D.tup.inj e), fun e => e ▸ rfl⟩
theorem pl_pt (l : List Int) : (ptD l).pl = true := pl_tup.mpr fun d hd => by obtain ⟨i, _, rfl⟩ := List.mem_map.mp hd; rfl
theorem eq_pt {M : Mem} {a b : List Int} : eqD M (ptD a) (ptD b) = some (decide (a = b)) := by
  have h1 := pt_dp a
  have h2 := pt_dp b
  refine eqD_pl (pl_pt a) (pl_pt b) (by omega) (by omega) ?_
  rw [decide_eq_true_eq, pt_inj]
theorem in_rows {M : Mem} {p : List Int} {A : List (List Int)} : inD M (ptD p) (.lst (rowsD A)) = some (decide (p ∈ A)) := by
  have h1 := pt_dp p
  have h2 := rows_dp A
  refine inD_lst (pl_pt p) (rows_pl A) (by omega) (show D.dpL (rowsD A) + 1 ≤ 64 by omega) ?_
  rw [decide_eq_true_eq]
  unfold rowsD
  constructor
  · exact fun h => List.mem_map.mpr ⟨p, h, rfl⟩
  · intro h
    obtain ⟨x, hx, e⟩ := List.mem_map.mp h
    exact pt_inj.mp e ▸ hx
theorem zeros {M : Mem} {n : Nat} (h0 : 0 < n) (h1 : n ≤ 1000) : bop M .mul (.tup [.int 0]) (.int (n : Int)) = some (ptD (List.replicate n 0)) := by
  have e : (List.replicate ((n : Int)).toNat [D.int 0]).flatten = (List.replicate n (0 : Int)).map .int := by
    rw [Int.toNat_natCast]
    clear h0 h1
    induction n with
    | zero => rfl
    | succ n ih => rw [List.replicate_succ, List.replicate_succ, List.flatten_cons, ih]; rfl
  show (if [D.int 0] ≠ [] ∧ (1 : Int) ≤ n ∧ (n : Int) ≤ 1000 ∧ [D.int 0].length ≤ 1000 then some (D.tup (List.replicate ((n : Int)).toNat [D.int 0]).flatten) else none) = _
  rw [if_pos ⟨by simp, by omega, by omega, by decide⟩, e]
  rfl
theorem pnt_vb {q : Qn} {F : Fo Str} {s : Option (Shp F)} (hv : ∀ t, s = some t → Vb F t) {p : List Int} (hp : p ∈ pnt q F s) : ∀ v, v ∈ p → -20 ≤ v ∧ v ≤ 20 := fun v hvp => by
  cases s with
  | none => cases hp
  | some t =>
    obtain ⟨l, hl, rfl⟩ := List.mem_map.mp ((srt_perm _).mem_iff.mp hp)
    obtain ⟨i, _, rfl⟩ := List.mem_map.mp hvp
    rw [List.getD_eq_getElem?_getD]
    cases e : l[i]? with
    | none => exact ⟨by decide, by decide⟩
    | some v => exact pts_vb F t (hv t rfl) l hl v (List.mem_of_getElem? e)
/-- in a shape: among its points -/
theorem inS_mem {q : Qn} {F : Fo Str} (Q : QF q F) {s : Option (Shp F)} (hw : ∀ t, s = some t → Wf F t) {p : List Int} (hp : p.length = q.cols.length) : (match s with | none => false | some t => hasI F t (envp q.cols p)) = decide (p ∈ pnt q F s) := by
  rw [Bool.eq_iff_iff, decide_eq_true_eq]
  cases s with
  | none => exact ⟨fun h => (Bool.false_ne_true h).elim, fun h => (nomatch h)⟩
  | some t => rw [mem_pnt Q hp]; exact hasI_ok F t _ (hw t rfl)
end Net
end

section
set_option Elab.async false
set_option linter.all false
set_option maxRecDepth 100000
/-! M19: what a lot of points is due. -/
namespace Net
open PySem L2 Fo
def refD : D := .tup [.str (Str.ofString "refused")]
theorem ref_tl : refD.tl ≤ 100 := by decide +kernel
theorem none_ok : D.pl (.str (Str.ofString "none")) = true := by decide +kernel
theorem oSh_ok {F : Fo Str} {s : Option (Shp F)} (hz : Fo.sz F ≤ 6) (hd : F.depth ≤ 6) (hs : ∀ t, s = some t → Bd 5 F t ∧ Vb F t) : (oSh F s).pl = true ∧ (oSh F s).sm = true ∧ (oSh F s).dp ≤ 30 ∧ (oSh F s).tl ≤ 5000000 := by
  cases s with
  | none => exact ⟨rfl, rfl, show D.dp .non ≤ 30 by decide, show D.tl .non ≤ 5000000 by decide⟩
  | some t =>
    obtain ⟨b, v⟩ := hs t rfl
    refine ⟨dsh_pl F t, dsh_sm F t v, ?_, ?_⟩
    · have := dsh_dp F t
      show D.dpL (dsh F t) + 1 ≤ 30
      omega
    · have := dsh_tl F t b
      have h6 : 6 ^ Fo.sz F ≤ 6 ^ 6 := Nat.pow_le_pow_right (by decide) hz
      have e : (6 : Nat) ^ 6 = 46656 := rfl
      show D.tlL (dsh F t) + 3 ≤ 5000000
      omega
theorem due_ok {q : Qn} {F : Fo Str} (Q : QF q F) (hz : Fo.sz F ≤ 6) {N : List (List Int)} (hs : srt N = N) (hl : ∀ x, x ∈ N → x.length = q.cols.length) (nd : N.Nodup) (hb : ∀ t, shp q F N = some t → Bd 5 F t) (hv : ∀ x, x ∈ N → ∀ v, v ∈ x → -20 ≤ v ∧ v ≤ 20) :
    ∃ (v due : D) (b : Bool), (if pnt q F (shp q F N) = srt N then oSh F (shp q F N) else .str (Str.ofString "none")) = v ∧
      (if N = [] then D.non else if num F (shd F (N.map (envp q.cols))) = N.length then .tup (dsh F (shd F (N.map (envp q.cols)))) else .tup [.str (Str.ofString "refused")]) = due ∧
      (∀ M, eqD M v (.str (Str.ofString "none")) = some b) ∧ (if b = true then refD else v) = due ∧ due.pl = true ∧ due.sm = true ∧ due.dp ≤ 30 ∧ due.tl ≤ 5000000 := by
  have vb : ∀ t, shp q F N = some t → Vb F t := fun t ht => by
    unfold shp at ht
    split at ht
    · cases ht
    · cases ht
      refine shd_vb F _ fun e he c hc => ?_
      obtain ⟨x, hx, rfl⟩ := List.mem_map.mp he
      unfold envp
      rw [List.getD_eq_getElem?_getD]
      cases g : x[q.cols.idxOf c]? with
      | none => exact ⟨by decide, by decide⟩
      | some v => exact hv x hx v (List.mem_of_getElem? g)
  obtain ⟨o1, o2, o3, o4⟩ := oSh_ok (s := shp q F N) hz Q.dep fun t ht => ⟨hb t ht, vb t ht⟩
  by_cases h : N = []
  · subst h
    refine ⟨.non, .non, false, ?_, if_pos rfl, fun M => ?_, rfl, rfl, rfl, by decide, by decide⟩
    · have e0 : shp q F [] = none := if_pos rfl
      rw [e0, hs]
      exact if_pos rfl
    · exact eqD_pl rfl none_ok (by decide) (by decide) (by simp)
  · by_cases hn : num F (shd F (N.map (envp q.cols))) = N.length
    · have hc := (told_iff Q hl nd h).mp hn
      have e : oSh F (shp q F N) = .tup (dsh F (shd F (N.map (envp q.cols)))) := by
        unfold shp; rw [if_neg h]; rfl
      rw [e] at o1 o2 o3 o4
      refine ⟨_, .tup (dsh F (shd F (N.map (envp q.cols)))), false, ?_, by rw [if_neg h, if_pos hn], fun M => ?_, if_neg Bool.false_ne_true, o1, o2, o3, o4⟩
      · rw [if_pos hc, e]
      · exact eqD_pl o1 none_ok (by omega) (by decide) (by simp)
    · have hc : ¬ pnt q F (shp q F N) = srt N := fun c => hn ((told_iff Q hl nd h).mpr c)
      refine ⟨_, refD, true, if_neg hc, by rw [if_neg h, if_neg hn]; rfl, fun M => ?_, if_pos rfl, by decide +kernel, rfl, by decide, Nat.le_trans ref_tl (by decide)⟩
      exact eqD_pl none_ok none_ok (by decide) (by decide) (by simp)
end Net
end

section
set_option Elab.async false
set_option linter.all false
set_option maxRecDepth 100000
set_option maxHeartbeats 0
/-! The small program of K55, its check, its head. Printed by netprint.py. -/
namespace K55
open PySem PySem.Spec PyProof.Rows L2 Net
def top (i : Nat) : Stmt := PySem.Challenge.pw_enoughlooks_k55_shapes_and_their_points.main.body.getD i (.Pass ⟨0, 0, 0, 0⟩)
/-- 0 atoms_of : question, column, .0, index, atom -/
def b_atoms_of : Ss := (.cons (.ret (.b1 .tuple (.new (.comp (.tp [(.nm 3), (.nm 4)]) (.enum (.ix (.var 0) (.int (1)))) (.cmp .isin (.var 1) (.ix (.var 4) (.int (2)))) (.var 3) [2, 3, 4]))))
    .nil)
def i_atoms_of : FI := ⟨"atoms_of", 2, 5, false, b_atoms_of⟩
/-- 1 is_above : question, one, other, mine, its, .0, atom -/
def b_is_above : Ss := (.cons (.set (.tp [(.nm 3), (.nm 4)]) (.tup (.cons (.call 0 (.cons (.var 0) (.cons (.var 1) .nil))) (.cons (.call 0 (.cons (.var 0) (.cons (.var 2) .nil))) .nil))))
    (.cons (.ite (.cmp .eq (.var 3) (.var 4)) (.cons (.ret (.cmp .lt (.index (.ix (.var 0) (.int (0))) (.var 1)) (.index (.ix (.var 0) (.int (0))) (.var 2))))
    .nil) .nil)
    (.cons (.ret (.b1 .all (.new (.comp (.nm 6) (.seq (.var 4)) (.bl true) (.cmp .isin (.var 6) (.var 3)) [5, 6]))))
    .nil)))
def i_is_above : FI := ⟨"is_above", 3, 7, false, b_is_above⟩
/-- 2 above_of : question, column, .0, one -/
def b_above_of : Ss := (.cons (.ret (.new (.comp (.nm 3) (.seq (.ix (.var 0) (.int (0)))) (.call 1 (.cons (.var 0) (.cons (.var 3) (.cons (.var 1) .nil)))) (.var 3) [2, 3])))
    .nil)
def i_above_of : FI := ⟨"above_of", 2, 4, false, b_above_of⟩
/-- 3 path_of : question, column, above -/
def b_path_of : Ss := (.cons (.set (.nm 2) (.call 2 (.cons (.var 0) (.cons (.var 1) .nil))))
    (.cons (.ret (.tup (.star (.new (.sortedBy (.var 2) [0] (.b1 .len (.call 2 (.cons (.var 1) (.cons (.var 0) .nil)))))) (.cons (.var 1) .nil))))
    .nil))
def i_path_of : FI := ⟨"path_of", 2, 3, false, b_path_of⟩
/-- 4 parent_of : question, column, path -/
def b_parent_of : Ss := (.cons (.set (.nm 2) (.call 3 (.cons (.var 0) (.cons (.var 1) .nil))))
    (.cons (.ret (.ite (.cmp .gt (.b1 .len (.var 2)) (.int (1))) (.ix (.var 2) (.neg (.int (2)))) .non))
    .nil))
def i_parent_of : FI := ⟨"parent_of", 2, 3, false, b_parent_of⟩
/-- 5 children_of : question, column, .0, one -/
def b_children_of : Ss := (.cons (.ret (.b1 .tuple (.new (.comp (.nm 3) (.seq (.ix (.var 0) (.int (0)))) (.cmp .eq (.call 4 (.cons (.var 0) (.cons (.var 3) .nil))) (.var 1)) (.var 3) [2, 3]))))
    .nil)
def i_children_of : FI := ⟨"children_of", 2, 4, false, b_children_of⟩
/-- 6 roots_of : question, .0, one -/
def b_roots_of : Ss := (.cons (.ret (.b1 .tuple (.new (.comp (.nm 2) (.seq (.ix (.var 0) (.int (0)))) (.cmp .isN (.call 4 (.cons (.var 0) (.cons (.var 2) .nil))) .non) (.var 2) [1, 2]))))
    .nil)
def i_roots_of : FI := ⟨"roots_of", 1, 3, false, b_roots_of⟩
def lb_line_below_1 : Ss := (.cons (.set (.nm 2) (.tup (.star (.var 2) (.cons (.var 3) (.star (.call 7 (.cons (.var 0) (.cons (.call 5 (.cons (.var 0) (.cons (.var 3) .nil))) .nil))) .nil)))))
    .nil)
/-- 7 line_below : question, columns, found, column -/
def b_line_below : Ss := (.cons (.set (.nm 2) (.tup .nil))
    (.cons (.loop (.nm 3) (.seq (.var 1)) lb_line_below_1)
    (.cons (.ret (.var 2))
    .nil)))
def i_line_below : FI := ⟨"line_below", 2, 4, false, b_line_below⟩
/-- 8 line_of : question -/
def b_line_of : Ss := (.cons (.ret (.call 7 (.cons (.var 0) (.cons (.call 6 (.cons (.var 0) .nil)) .nil))))
    .nil)
def i_line_of : FI := ⟨"line_of", 1, 1, false, b_line_of⟩
def ci_places_many_1 : I := (.seq (.var 2))
def ce_places_many_1 : E := (.bin .add (.int (1)) (.call 9 (.cons (.var 4) .nil)))
/-- 9 places_many : shape, .0, branch, _value, inner -/
def b_places_many : Ss := (.cons (.ite (.cmp .isN (.var 0) .non) (.cons (.ret (.int (0)))
    .nil) .nil)
    (.cons (.ret (.b1 .sum (.new (.comp2 (.nm 2) (.seq (.var 0)) (.bl true) (.tp [(.nm 3), (.nm 4)]) ci_places_many_1 (.bl true) ce_places_many_1 [1, 2, 3, 4] [3, 4]))))
    .nil))
def i_places_many : FI := ⟨"places_many", 1, 5, false, b_places_many⟩
def ce_number_in_1 : E := (.call 10 (.cons (.var 5) .nil))
def lb_number_in_1 : Ss := (.cons (.set (.nm 1) (.bin .mul (.var 1) (.b1 .sum (.new (.comp (.tp [(.nm 4), (.nm 5)]) (.seq (.var 2)) (.bl true) ce_number_in_1 [3, 4, 5])))))
    .nil)
/-- 10 number_in : shape, number, branch, .0, _value, inner -/
def b_number_in : Ss := (.cons (.ite (.cmp .isN (.var 0) .non) (.cons (.ret (.int (0)))
    .nil) .nil)
    (.cons (.set (.nm 1) (.int (1)))
    (.cons (.loop (.nm 2) (.seq (.var 0)) lb_number_in_1)
    (.cons (.ret (.var 1))
    .nil))))
def i_number_in : FI := ⟨"number_in", 1, 6, false, b_number_in⟩
def ce_shaped_1 : E := (.tup (.cons (.var 9) (.cons (.call 11 (.cons (.var 0) (.cons (.var 7) (.cons (.ix (.var 5) (.var 9)) .nil)))) .nil)))
def lb_shaped_1 : Ss := (.cons (.expr (.append (.setdef (.var 5) (.ix (.var 6) (.var 4)) (.newM (.lst .nil))) (.var 6)))
    .nil)
def lb_shaped_2 : Ss := (.cons (.set (.nm 5) (.newM .dic0))
    (.cons (.loop (.nm 6) (.seq (.var 2)) lb_shaped_1)
    (.cons (.set (.nm 7) (.call 5 (.cons (.var 0) (.cons (.var 4) .nil))))
    (.cons (.expr (.append (.var 3) (.b1 .tuple (.new (.comp (.nm 9) (.seq (.new (.sorted (.var 5)))) (.bl true) ce_shaped_1 [8, 9])))))
    .nil))))
/-- 11 shaped : question, columns, rows, branches, column, groups, row, children, .0, value -/
def b_shaped : Ss := (.cons (.set (.nm 3) (.newM (.lst .nil)))
    (.cons (.loop (.nm 4) (.seq (.var 1)) lb_shaped_2)
    (.cons (.ret (.b1 .tuple (.var 3)))
    .nil)))
def i_shaped : FI := ⟨"shaped", 3, 10, false, b_shaped⟩
def ci_rows_in_1 : I := (.seq (.var 3))
def ce_rows_in_1 : E := (.tup (.star (.var 7) (.star (.var 8) .nil)))
def ci_rows_in_2 : I := (.seq (.call 12 (.cons (.var 6) .nil)))
def ce_rows_in_2 : E := (.tup (.cons (.var 5) (.star (.var 7) .nil)))
def lb_rows_in_1 : Ss := (.cons (.set (.nm 3) (.new (.comp2 (.tp [(.nm 5), (.nm 6)]) (.seq (.var 2)) (.bl true) (.nm 7) ci_rows_in_2 (.bl true) ce_rows_in_2 [4, 5, 6, 7] [7])))
    (.cons (.set (.nm 1) (.new (.comp2 (.nm 7) (.seq (.var 1)) (.bl true) (.nm 8) ci_rows_in_1 (.bl true) ce_rows_in_1 [4, 7, 8] [8])))
    .nil))
/-- 12 rows_in : shape, rows, branch, some, .0, value, inner, row, more -/
def b_rows_in : Ss := (.cons (.set (.nm 1) (.new (.lst (.cons (.tup .nil) .nil))))
    (.cons (.loop (.nm 2) (.seq (.var 0)) lb_rows_in_1)
    (.cons (.ret (.var 1))
    .nil)))
def i_rows_in : FI := ⟨"rows_in", 1, 9, false, b_rows_in⟩
/-- 13 seats_of : question, line, .0, column -/
def b_seats_of : Ss := (.cons (.set (.nm 1) (.call 8 (.cons (.var 0) .nil)))
    (.cons (.ret (.new (.comp (.nm 3) (.seq (.ix (.var 0) (.int (0)))) (.bl true) (.index (.var 1) (.var 3)) [2, 3])))
    .nil))
def i_seats_of : FI := ⟨"seats_of", 1, 4, false, b_seats_of⟩
/-- 14 off_line : seats, row, .0, seat -/
def b_off_line : Ss := (.cons (.ret (.b1 .tuple (.new (.comp (.nm 3) (.seq (.var 0)) (.bl true) (.ix (.var 1) (.var 3)) [2, 3]))))
    .nil)
def i_off_line : FI := ⟨"off_line", 2, 4, false, b_off_line⟩
/-- 15 points_of : question, shape, seats, .0, row -/
def b_points_of : Ss := (.cons (.set (.nm 2) (.call 13 (.cons (.var 0) .nil)))
    (.cons (.ret (.ite (.cmp .isN (.var 1) .non) (.tup .nil) (.b1 .tuple (.new (.sorted (.new (.comp (.nm 4) (.seq (.call 12 (.cons (.var 1) .nil))) (.bl true) (.call 14 (.cons (.var 2) (.cons (.var 4) .nil))) [3, 4])))))))
    .nil))
def i_points_of : FI := ⟨"points_of", 2, 5, false, b_points_of⟩
/-- 16 shape_of : question, points, found, .0, point -/
def b_shape_of : Ss := (.cons (.ite (.cmp .eq (.var 1) (.tup .nil)) (.cons (.ret .non)
    .nil) .nil)
    (.cons (.set (.nm 2) (.call 11 (.cons (.var 0) (.cons (.call 6 (.cons (.var 0) .nil)) (.cons (.new (.comp (.nm 4) (.seq (.var 1)) (.bl true) (.new (.dict (.zip (.ix (.var 0) (.int (0))) (.var 4)))) [3, 4])) .nil)))))
    (.cons (.ite (.cmp .ne (.call 10 (.cons (.var 2) .nil)) (.b1 .len (.var 1))) (.cons (.raise 0)
    .nil) .nil)
    (.cons (.ret (.var 2))
    .nil))))
def i_shape_of : FI := ⟨"shape_of", 2, 5, false, b_shape_of⟩
def lb_has_items_1 : Ss := (.cons (.set (.nm 6) (.get (.new (.dict (.seq (.var 5)))) (.ix (.var 3) (.var 4))))
    (.cons (.ite (.or (.cons (.cmp .isN (.var 6) .non) (.cons (.not (.call 17 (.cons (.var 0) (.cons (.call 5 (.cons (.var 0) (.cons (.var 4) .nil))) (.cons (.var 6) (.cons (.var 3) .nil)))))) .nil))) (.cons (.ret (.bl false))
    .nil) .nil)
    .nil))
/-- 17 has_items : question, columns, shape, items, column, branch, inner -/
def b_has_items : Ss := (.cons (.loop (.tp [(.nm 4), (.nm 5)]) (.zip (.var 1) (.var 2)) lb_has_items_1)
    (.cons (.ret (.bl true))
    .nil))
def i_has_items : FI := ⟨"has_items", 4, 7, false, b_has_items⟩
/-- 18 is_in : question, shape, point -/
def b_is_in : Ss := (.cons (.ret (.and (.cons (.cmp .notN (.var 1) .non) (.cons (.call 17 (.cons (.var 0) (.cons (.call 6 (.cons (.var 0) .nil)) (.cons (.var 1) (.cons (.new (.dict (.zip (.ix (.var 0) (.int (0))) (.var 2)))) .nil))))) .nil))))
    .nil)
def i_is_in : FI := ⟨"is_in", 3, 3, false, b_is_in⟩
/-- 19 _law_bag : _law_script, .0, _law_cell -/
def b_law_bag : Ss := (.cons (.ret (.newM (.lst (.cons (.int (0)) (.cons (.int (1234567891)) (.cons (.int (0)) (.cons (.new (.comp (.nm 2) (.seq (.sl (.var 0) .no (.at (.int (63))))) (.bl true) (.b1 .abs (.var 2)) [1, 2])) .nil)))))))
    .nil)
def i_law_bag : FI := ⟨"_law_bag", 1, 3, true, b_law_bag⟩
/-- 20 _law_take : _law_bag_here, _law_many, _law_cell, _law_stirred, _law_value, _law_begin, _law_second -/
def b_law_take : Ss := (.cons (.ite (.cmp .eq (.ix (.var 0) (.int (0))) (.int (0))) (.cons (.set (.nm 2) (.ix (.bin .add (.sl (.ix (.var 0) (.int (3))) (.at (.ix (.var 0) (.int (2)))) .no) (.new (.lst (.cons (.int (0)) .nil)))) (.int (0))))
    (.cons (.augIx (.var 0) (.int (2)) (.int (1)))
    (.cons (.ite (.cmp .ge (.var 2) (.bin .pow (.int (10)) (.int (18)))) (.cons (.setIx (.var 0) (.int (0)) (.var 2))
    .nil) .nil)
    (.cons (.set (.nm 3) (.bin .add (.bin .add (.bin .mul (.ix (.var 0) (.int (1))) (.int (48271))) (.bin .mod (.b1 .int (.var 2)) (.int (2147483647)))) (.bin .mul (.int (7919)) (.ix (.var 0) (.int (2))))))
    (.cons (.setIx (.var 0) (.int (1)) (.bin .mod (.b1 .int (.var 3)) (.int (2147483647))))
    .nil))))) .nil)
    (.cons (.ite (.cmp .gt (.ix (.var 0) (.int (0))) (.int (0))) (.cons (.set (.nm 4) (.bin .mod (.b1 .int (.ix (.var 0) (.int (0)))) (.var 1)))
    (.cons (.setIx (.var 0) (.int (0)) (.bin .fdiv (.b1 .int (.ix (.var 0) (.int (0)))) (.var 1)))
    (.cons (.ret (.var 4))
    .nil))) .nil)
    (.cons (.set (.nm 5) (.bin .mod (.b1 .int (.bin .mul (.bin .add (.ix (.var 0) (.int (1))) (.int (1))) (.int (39373)))) (.int (1000000007))))
    (.cons (.set (.nm 6) (.bin .mod (.b1 .int (.bin .mul (.bin .mod (.b1 .int (.bin .mul (.var 5) (.var 5))) (.int (998244353))) (.int (30011)))) (.int (998244353))))
    (.cons (.ret (.bin .mod (.b1 .int (.bin .fdiv (.var 6) (.int (7)))) (.var 1)))
    .nil)))))
def i_law_take : FI := ⟨"_law_take", 2, 7, false, b_law_take⟩
/-- 21 _law_some : _law_bag_here, _law_things -/
def b_law_some : Ss := (.cons (.ret (.ix (.var 1) (.call 20 (.cons (.var 0) (.cons (.b1 .len (.var 1)) .nil)))))
    .nil)
def i_law_some : FI := ⟨"_law_some", 2, 2, false, b_law_some⟩
def lb_law_mixed_1 : Ss := (.cons (.expr (.insert (.var 2) (.call 20 (.cons (.var 0) (.cons (.bin .add (.b1 .len (.var 2)) (.int (1))) .nil))) (.var 3)))
    .nil)
/-- 22 _law_mixed : _law_bag_here, _law_things, _law_found, _law_thing -/
def b_law_mixed : Ss := (.cons (.set (.nm 2) (.newM (.lst .nil)))
    (.cons (.loop (.nm 3) (.seq (.var 1)) lb_law_mixed_1)
    (.cons (.ret (.var 2))
    .nil)))
def i_law_mixed : FI := ⟨"_law_mixed", 2, 4, false, b_law_mixed⟩
/-- 23 _law_alike : _law_found, _law_due -/
def b_law_alike : Ss := (.cons (.ret (.and (.cons (.cmp .eq (.var 0) (.var 1)) (.cons (.cmp .eq (.b1 .repr (.var 0)) (.b1 .repr (.var 1))) .nil))))
    .nil)
def i_law_alike : FI := ⟨"_law_alike", 2, 2, false, b_law_alike⟩
def lb_law_forest_1 : Ss := (.cons (.expr (.append (.var 2) (.call 21 (.cons (.var 0) (.cons (.bin .add (.bin .add (.new (.lst (.cons .non .nil))) (.new (.list (.rng1 (.var 3))))) (.new (.list (.rng1 (.var 3))))) .nil)))))
    .nil)
/-- 24 _law_forest : _law_bag_here, _law_many, _law_found, _law_at -/
def b_law_forest : Ss := (.cons (.set (.nm 2) (.newM (.lst .nil)))
    (.cons (.loop (.nm 3) (.rng1 (.var 1)) lb_law_forest_1)
    (.cons (.ret (.var 2))
    .nil)))
def i_law_forest : FI := ⟨"_law_forest", 2, 4, false, b_law_forest⟩
def lw_law_line_1 : E := (.cmp .notN (.ix (.var 0) (.ix (.var 2) (.int (0)))) .non)
def lb_law_line_1 : Ss := (.cons (.set (.nm 2) (.bin .add (.new (.lst (.cons (.ix (.var 0) (.ix (.var 2) (.int (0)))) .nil))) (.var 2)))
    .nil)
/-- 25 _law_line : _law_parents, _law_at, _law_found -/
def b_law_line : Ss := (.cons (.set (.nm 2) (.new (.lst (.cons (.var 1) .nil))))
    (.cons (.while lw_law_line_1 lb_law_line_1)
    (.cons (.ret (.var 2))
    .nil)))
def i_law_line : FI := ⟨"_law_line", 2, 3, false, b_law_line⟩
def lb_law_nested_question_1 : Ss := (.cons (.expr (.append (.var 8) (.tup (.cons (.var 9) (.cons (.var 10) (.cons (.call 27 (.cons (.var 0) (.cons (.var 2) (.cons (.var 3) (.cons (.var 4) .nil))))) .nil))))))
    .nil)
def lb_law_nested_question_2 : Ss := (.cons (.expr (.append (.var 5) (.tup (.cons (.call 21 (.cons (.var 0) (.cons (.new (.lst (.cons (.str (Str.ofString "has")) (.cons (.str (Str.ofString "not")) (.cons (.str (Str.ofString "has")) .nil))))) .nil))) (.cons (.var 4) .nil)))))
    .nil)
def lb_law_nested_question_3 : Ss := (.cons (.loop (.nm 6) (.rng1 (.call 21 (.cons (.var 0) (.cons (.new (.lst (.cons (.int (0)) (.cons (.int (0)) (.cons (.int (1)) (.cons (.int (1)) (.cons (.int (2)) .nil))))))) .nil)))) lb_law_nested_question_2)
    .nil)
/-- 26 _law_nested_question : _law_bag_here, _law_most, _law_names, _law_parents, _law_at, _law_ends, _law_turn, _law_tables, _law_atoms, _law_word, _law_table, _law_columns, .0 -/
def b_law_nested_question : Ss := (.cons (.set (.nm 2) (.sl (.call 22 (.cons (.var 0) (.cons (.new (.lst (.cons (.str (Str.ofString "a")) (.cons (.str (Str.ofString "b")) (.cons (.str (Str.ofString "c")) (.cons (.str (Str.ofString "d")) (.cons (.str (Str.ofString "x1")) (.cons (.str (Str.ofString "y")) .nil)))))))) .nil))) .no (.at (.bin .add (.int (1)) (.call 20 (.cons (.var 0) (.cons (.var 1) .nil)))))))
    (.cons (.set (.nm 3) (.call 24 (.cons (.var 0) (.cons (.b1 .len (.var 2)) .nil))))
    (.cons (.set (.nm 5) (.newM (.comp (.nm 4) (.rng1 (.b1 .len (.var 2))) (.cmp .notin (.var 4) (.var 3)) (.tup (.cons (.str (Str.ofString "has")) (.cons (.var 4) .nil))) [12, 4])))
    (.cons (.loop (.nm 4) (.rng1 (.b1 .len (.var 2))) lb_law_nested_question_3)
    (.cons (.par 7 8 (.call 22 (.cons (.var 0) (.cons (.new (.lst (.cons (.str (Str.ofString "r")) (.cons (.str (Str.ofString "s")) (.cons (.str (Str.ofString "t")) (.cons (.str (Str.ofString "u")) (.cons (.str (Str.ofString "v")) (.cons (.str (Str.ofString "w")) (.cons (.str (Str.ofString "p")) (.cons (.str (Str.ofString "q7")) .nil)))))))))) .nil))) (.newM (.lst .nil)))
    (.cons (.loop (.tp [(.tp [(.nm 9), (.nm 4)]), (.nm 10)]) (.zip (.var 5) (.var 7)) lb_law_nested_question_1)
    (.cons (.set (.nm 11) (.b1 .tuple (.call 22 (.cons (.var 0) (.cons (.var 2) .nil)))))
    (.cons (.ret (.tup (.cons (.var 11) (.cons (.b1 .tuple (.call 22 (.cons (.var 0) (.cons (.var 8) .nil)))) (.cons (.call 28 (.cons (.var 0) (.cons (.var 11) .nil))) .nil)))))
    .nil))))))))
def i_law_nested_question : FI := ⟨"_law_nested_question", 2, 13, false, b_law_nested_question⟩
/-- 27 _law_columns_mixed : _law_bag_here, _law_names, _law_parents, _law_at, .0, _law_one -/
def b_law_columns_mixed : Ss := (.cons (.ret (.b1 .tuple (.call 22 (.cons (.var 0) (.cons (.new (.comp (.nm 5) (.seq (.call 25 (.cons (.var 2) (.cons (.var 3) .nil)))) (.bl true) (.ix (.var 1) (.var 5)) [4, 5])) .nil)))))
    .nil)
def i_law_columns_mixed : FI := ⟨"_law_columns_mixed", 4, 6, false, b_law_columns_mixed⟩
def lb_law_ranges_1 : Ss := (.cons (.ite (.cmp .eq (.call 20 (.cons (.var 0) (.cons (.int (3)) .nil))) (.int (0))) (.cons (.set (.nm 4) (.call 21 (.cons (.var 0) (.cons (.new (.lst (.cons .non (.cons (.int (0)) (.cons (.int (1)) (.cons (.int (2)) (.cons (.neg (.int (3))) .nil))))))) .nil))))
    (.cons (.set (.nm 5) (.call 21 (.cons (.var 0) (.cons (.new (.lst (.cons .non (.cons (.int (3)) (.cons (.int (4)) (.cons (.int (6)) (.cons (.ite (.cmp .notN (.var 4) .non) (.var 4) (.int (2))) (.cons (.int (5)) .nil)))))))) .nil))))
    (.cons (.expr (.append (.var 2) (.tup (.cons (.var 3) (.cons (.var 4) (.cons (.ite (.or (.cons (.cmp .isN (.var 4) .non) (.cons (.cmp .isN (.var 5) .non) (.cons (.cmp .le (.var 4) (.var 5)) .nil)))) (.var 5) (.var 4)) .nil))))))
    .nil))) .nil)
    .nil)
/-- 28 _law_ranges : _law_bag_here, _law_columns, _law_found, _law_column, _law_low, _law_high -/
def b_law_ranges : Ss := (.cons (.set (.nm 2) (.newM (.lst .nil)))
    (.cons (.loop (.nm 3) (.seq (.call 22 (.cons (.var 0) (.cons (.new (.list (.seq (.var 1)))) .nil)))) lb_law_ranges_1)
    (.cons (.ret (.b1 .tuple (.var 2)))
    .nil)))
def i_law_ranges : FI := ⟨"_law_ranges", 2, 6, false, b_law_ranges⟩
/-- 29 _law_atoms_of : _law_question, _law_column, .0, _law_index, _law_atom -/
def b_law_atoms_of : Ss := (.cons (.ret (.new (.comp (.tp [(.nm 3), (.nm 4)]) (.enum (.ix (.var 0) (.int (1)))) (.cmp .isin (.var 1) (.ix (.var 4) (.int (2)))) (.var 3) [2, 3, 4])))
    .nil)
def i_law_atoms_of : FI := ⟨"_law_atoms_of", 2, 5, false, b_law_atoms_of⟩
/-- 30 _law_is_above : _law_question, _law_one, _law_other, _law_mine, _law_its, .0, _law_index -/
def b_law_is_above : Ss := (.cons (.set (.tp [(.nm 3), (.nm 4)]) (.tup (.cons (.call 29 (.cons (.var 0) (.cons (.var 1) .nil))) (.cons (.call 29 (.cons (.var 0) (.cons (.var 2) .nil))) .nil))))
    (.cons (.ite (.or (.cons (.cmp .eq (.var 1) (.var 2)) (.cons (.cmp .ne (.new (.comp (.nm 6) (.seq (.var 4)) (.cmp .notin (.var 6) (.var 3)) (.var 6) [5, 6])) (.new (.lst .nil))) .nil))) (.cons (.ret (.bl false))
    .nil) .nil)
    (.cons (.ret (.or (.cons (.cmp .gt (.b1 .len (.var 3)) (.b1 .len (.var 4))) (.cons (.cmp .lt (.index (.ix (.var 0) (.int (0))) (.var 1)) (.index (.ix (.var 0) (.int (0))) (.var 2))) .nil))))
    .nil)))
def i_law_is_above : FI := ⟨"_law_is_above", 3, 7, false, b_law_is_above⟩
def lb_law_path_1 : Ss := (.cons (.set (.nm 5) (.b1 .len (.new (.comp (.nm 7) (.seq (.var 3)) (.call 30 (.cons (.var 0) (.cons (.var 7) (.cons (.var 2) .nil)))) (.var 7) [6, 7]))))
    (.cons (.expr (.append (.var 4) (.tup (.cons (.var 5) (.cons (.var 2) .nil)))))
    .nil))
/-- 31 _law_path : _law_question, _law_column, _law_one, _law_upper, _law_found, _law_at, .0, _law_other -/
def b_law_path : Ss := (.cons (.set (.nm 3) (.new (.comp (.nm 2) (.seq (.ix (.var 0) (.int (0)))) (.call 30 (.cons (.var 0) (.cons (.var 2) (.cons (.var 1) .nil)))) (.var 2) [6, 2])))
    (.cons (.set (.nm 4) (.newM (.lst .nil)))
    (.cons (.loop (.nm 2) (.seq (.var 3)) lb_law_path_1)
    (.cons (.ret (.bin .add (.new (.comp (.tp [(.nm 5), (.nm 2)]) (.seq (.new (.sorted (.var 4)))) (.bl true) (.var 2) [6, 5, 2])) (.new (.lst (.cons (.var 1) .nil)))))
    .nil))))
def i_law_path : FI := ⟨"_law_path", 2, 8, false, b_law_path⟩
def lb_law_children_1 : Ss := (.cons (.set (.nm 4) (.call 31 (.cons (.var 0) (.cons (.var 3) .nil))))
    (.cons (.ite (.cmp .eq (.ite (.cmp .gt (.b1 .len (.var 4)) (.int (1))) (.ix (.var 4) (.neg (.int (2)))) .non) (.var 1)) (.cons (.expr (.append (.var 2) (.var 3)))
    .nil) .nil)
    .nil))
/-- 32 _law_children : _law_question, _law_column, _law_found, _law_one, _law_path_here -/
def b_law_children : Ss := (.cons (.set (.nm 2) (.newM (.lst .nil)))
    (.cons (.loop (.nm 3) (.seq (.ix (.var 0) (.int (0)))) lb_law_children_1)
    (.cons (.ret (.var 2))
    .nil)))
def i_law_children : FI := ⟨"_law_children", 2, 5, false, b_law_children⟩
/-- 33 _law_range_of : _law_question, _law_column, _law_found, .0, _law_one, _law_low, _law_high -/
def b_law_range_of : Ss := (.cons (.set (.nm 2) (.new (.comp (.tp [(.nm 4), (.nm 5), (.nm 6)]) (.seq (.ix (.var 0) (.int (2)))) (.cmp .eq (.var 4) (.var 1)) (.tup (.cons (.var 5) (.cons (.var 6) .nil))) [3, 4, 5, 6])))
    (.cons (.ret (.ite (.cmp .ne (.var 2) (.new (.lst .nil))) (.ix (.var 2) (.int (0))) (.tup (.cons .non (.cons .non .nil)))))
    .nil))
def i_law_range_of : FI := ⟨"_law_range_of", 2, 7, false, b_law_range_of⟩
/-- 34 _law_is_in_range : _law_question, _law_column, _law_value, _law_low, _law_high -/
def b_law_is_in_range : Ss := (.cons (.set (.tp [(.nm 3), (.nm 4)]) (.call 33 (.cons (.var 0) (.cons (.var 1) .nil))))
    (.cons (.ret (.and (.cons (.or (.cons (.cmp .isN (.var 3) .non) (.cons (.cmp .le (.var 3) (.var 2)) .nil))) (.cons (.or (.cons (.cmp .isN (.var 4) .non) (.cons (.cmp .le (.var 2) (.var 4)) .nil))) .nil))))
    .nil))
def i_law_is_in_range : FI := ⟨"_law_is_in_range", 3, 5, false, b_law_is_in_range⟩
def ce_law_places_1 : E := (.bin .add (.int (1)) (.call 35 (.cons (.var 4) .nil)))
def ce_law_places_2 : E := (.b1 .sum (.new (.comp (.tp [(.nm 3), (.nm 4)]) (.seq (.var 2)) (.bl true) ce_law_places_1 [1, 3, 4])))
/-- 35 _law_places : _law_shape_here, .0, _law_branch, _law_value, _law_below -/
def b_law_places : Ss := (.cons (.ite (.cmp .isN (.var 0) .non) (.cons (.ret (.int (0)))
    .nil) .nil)
    (.cons (.ret (.b1 .sum (.new (.comp (.nm 2) (.seq (.var 0)) (.bl true) ce_law_places_2 [1, 2]))))
    .nil))
def i_law_places : FI := ⟨"_law_places", 1, 5, false, b_law_places⟩
def lb_law_line_of_1 : Ss := (.cons (.expr (.extend (.var 2) (.bin .add (.new (.lst (.cons (.var 3) .nil))) (.call 36 (.cons (.var 0) (.cons (.call 32 (.cons (.var 0) (.cons (.var 3) .nil))) .nil))))))
    .nil)
/-- 36 _law_line_of : _law_question, _law_columns, _law_found, _law_column -/
def b_law_line_of : Ss := (.cons (.set (.nm 2) (.newM (.lst .nil)))
    (.cons (.loop (.nm 3) (.seq (.var 1)) lb_law_line_of_1)
    (.cons (.ret (.var 2))
    .nil)))
def i_law_line_of : FI := ⟨"_law_line_of", 2, 4, false, b_law_line_of⟩
def ce_law_spread_1 : E := (.bin .add (.var 7) (.var 10))
def lb_law_spread_1 : Ss := (.cons (.expr (.extend (.var 4) (.new (.comp (.nm 10) (.seq (.var 3)) (.bl true) ce_law_spread_1 [8, 10]))))
    .nil)
def ce_law_spread_2 : E := (.bin .add (.tup (.cons (.var 5) .nil)) (.var 9))
def lb_law_spread_2 : Ss := (.cons (.expr (.extend (.var 3) (.new (.comp (.nm 9) (.seq (.call 37 (.cons (.var 6) .nil))) (.bl true) ce_law_spread_2 [8, 9]))))
    .nil)
def lb_law_spread_3 : Ss := (.cons (.par 3 4 (.newM (.lst .nil)) (.newM (.lst .nil)))
    (.cons (.loop (.tp [(.nm 5), (.nm 6)]) (.seq (.var 2)) lb_law_spread_2)
    (.cons (.loop (.nm 7) (.seq (.var 1)) lb_law_spread_1)
    (.cons (.set (.nm 1) (.var 4))
    .nil))))
/-- 37 _law_spread : _law_shape_here, _law_found, _law_branch, _law_some_here, _law_longer, _law_value, _law_below, _law_one, .0, _law_rest, _law_other -/
def b_law_spread : Ss := (.cons (.ite (.cmp .isN (.var 0) .non) (.cons (.ret (.new (.lst .nil)))
    .nil) .nil)
    (.cons (.set (.nm 1) (.new (.lst (.cons (.tup .nil) .nil))))
    (.cons (.loop (.nm 2) (.seq (.var 0)) lb_law_spread_3)
    (.cons (.ret (.var 1))
    .nil))))
def i_law_spread : FI := ⟨"_law_spread", 1, 11, false, b_law_spread⟩
/-- 38 _law_points : _law_question, _law_shape_here, _law_line_here, _law_places_here, .0, _law_column, _law_one, _law_at -/
def b_law_points : Ss := (.cons (.set (.nm 2) (.call 36 (.cons (.var 0) (.cons (.call 32 (.cons (.var 0) (.cons .non .nil))) .nil))))
    (.cons (.set (.nm 3) (.new (.comp (.nm 5) (.seq (.ix (.var 0) (.int (0)))) (.bl true) (.index (.var 2) (.var 5)) [4, 5])))
    (.cons (.ret (.new (.sorted (.new (.comp (.nm 6) (.seq (.call 37 (.cons (.var 1) .nil))) (.bl true) (.b1 .tuple (.new (.comp (.nm 7) (.seq (.var 3)) (.bl true) (.ix (.var 6) (.var 7)) [4, 7]))) [4, 6])))))
    .nil)))
def i_law_points : FI := ⟨"_law_points", 2, 8, false, b_law_points⟩
def ce_law_shaped_1 : E := (.ix (.var 10) (.var 5))
def ce_law_shaped_2 : E := (.var 10)
def lb_law_shaped_1 : Ss := (.cons (.set (.nm 8) (.new (.comp (.nm 10) (.seq (.var 3)) (.cmp .eq (.ix (.var 10) (.var 5)) (.var 7)) ce_law_shaped_2 [9, 10])))
    (.cons (.expr (.append (.var 6) (.tup (.cons (.var 7) (.cons (.call 39 (.cons (.var 0) (.cons (.call 32 (.cons (.var 0) (.cons (.var 5) .nil))) (.cons (.bin .add (.var 2) (.tup (.cons (.var 7) .nil))) (.cons (.var 8) .nil))))) .nil)))))
    .nil))
def lb_law_shaped_2 : Ss := (.cons (.set (.nm 6) (.newM (.lst .nil)))
    (.cons (.loop (.nm 7) (.seq (.new (.sortedSet (.new (.comp (.nm 10) (.seq (.var 3)) (.bl true) ce_law_shaped_1 [9, 10]))))) lb_law_shaped_1)
    (.cons (.expr (.append (.var 4) (.b1 .tuple (.var 6))))
    .nil)))
/-- 39 _law_shaped : _law_question, _law_columns, _law_prefix, _law_points_here, _law_found, _law_column, _law_branch, _law_value, _law_rest, .0, _law_point -/
def b_law_shaped : Ss := (.cons (.ite (.cmp .eq (.var 3) (.new (.lst .nil))) (.cons (.ret .non)
    .nil) .nil)
    (.cons (.set (.nm 4) (.newM (.lst .nil)))
    (.cons (.loop (.nm 5) (.seq (.var 1)) lb_law_shaped_2)
    (.cons (.ret (.b1 .tuple (.var 4)))
    .nil))))
def i_law_shaped : FI := ⟨"_law_shaped", 4, 11, false, b_law_shaped⟩
/-- 40 _law_shape : _law_question, _law_points_here, _law_some_here, _law_shape_here, .0, _law_point -/
def b_law_shape : Ss := (.cons (.set (.nm 2) (.new (.comp (.nm 5) (.seq (.var 1)) (.bl true) (.new (.dict (.zip (.ix (.var 0) (.int (0))) (.var 5)))) [4, 5])))
    (.cons (.set (.nm 3) (.call 39 (.cons (.var 0) (.cons (.call 32 (.cons (.var 0) (.cons .non .nil))) (.cons (.tup .nil) (.cons (.var 2) .nil))))))
    (.cons (.ret (.ite (.cmp .eq (.call 38 (.cons (.var 0) (.cons (.var 3) .nil))) (.new (.sorted (.var 1)))) (.var 3) (.str (Str.ofString "none"))))
    .nil)))
def i_law_shape : FI := ⟨"_law_shape", 2, 6, false, b_law_shape⟩
def ce_law_drawn_shape_1 : E := (.tup (.cons (.var 13) (.cons (.call 41 (.cons (.var 0) (.cons (.var 1) (.cons (.var 10) (.cons (.var 3) .nil))))) .nil)))
def ce_law_drawn_shape_2 : E := (.var 13)
def ce_law_drawn_shape_3 : E := (.bin .add (.var 8) (.call 20 (.cons (.var 0) (.cons (.int (7)) .nil))))
def lb_law_drawn_shape_1 : Ss := (.cons (.set (.tp [(.nm 6), (.nm 7)]) (.call 33 (.cons (.var 1) (.cons (.var 5) .nil))))
    (.cons (.set (.nm 8) (.ite (.cmp .notN (.var 6) .non) (.var 6) (.ite (.cmp .notN (.var 7) .non) (.bin .sub (.var 7) (.int (6))) (.neg (.int (2))))))
    (.cons (.set (.nm 9) (.bin .add (.new (.lst (.cons (.var 8) .nil))) (.new (.comp (.nm 12) (.rng1 (.call 21 (.cons (.var 0) (.cons (.new (.lst (.cons (.int (0)) (.cons (.int (1)) (.cons (.int (2)) (.cons (.var 3) .nil)))))) .nil)))) (.bl true) ce_law_drawn_shape_3 [11, 12]))))
    (.cons (.set (.nm 9) (.new (.comp (.nm 13) (.seq (.new (.sortedSet (.bin .add (.sl (.var 9) (.at (.call 20 (.cons (.var 0) (.cons (.int (2)) .nil)))) .no) (.sl (.var 9) (.at (.neg (.int (1)))) .no))))) (.or (.cons (.cmp .isN (.var 7) .non) (.cons (.cmp .le (.var 13) (.var 7)) .nil))) ce_law_drawn_shape_2 [11, 13])))
    (.cons (.set (.nm 9) (.ite (.cmp .ne (.var 9) (.new (.lst .nil))) (.var 9) (.new (.lst (.cons (.var 8) .nil)))))
    (.cons (.set (.nm 10) (.call 32 (.cons (.var 1) (.cons (.var 5) .nil))))
    (.cons (.expr (.append (.var 4) (.b1 .tuple (.new (.comp (.nm 13) (.seq (.var 9)) (.bl true) ce_law_drawn_shape_1 [11, 13])))))
    .nil)))))))
/-- 41 _law_drawn_shape : _law_bag_here, _law_question, _law_columns, _law_wide, _law_found, _law_column, _law_low, _law_high, _law_begin, _law_values, _law_below, .0, _law_turn, _law_value -/
def b_law_drawn_shape : Ss := (.cons (.set (.nm 4) (.newM (.lst .nil)))
    (.cons (.loop (.nm 5) (.seq (.var 2)) lb_law_drawn_shape_1)
    (.cons (.ret (.b1 .tuple (.var 4)))
    .nil)))
def i_law_drawn_shape : FI := ⟨"_law_drawn_shape", 4, 14, false, b_law_drawn_shape⟩
/-- 42 _law_any_shape : _law_bag_here, _law_question -/
def b_law_any_shape : Ss := (.cons (.ite (.cmp .eq (.call 20 (.cons (.var 0) (.cons (.int (12)) .nil))) (.int (0))) (.cons (.ret .non)
    .nil) .nil)
    (.cons (.ret (.call 41 (.cons (.var 0) (.cons (.var 1) (.cons (.call 32 (.cons (.var 1) (.cons .non .nil))) (.cons (.call 21 (.cons (.var 0) (.cons (.new (.lst (.cons (.int (1)) (.cons (.int (2)) (.cons (.int (3)) .nil))))) .nil))) .nil))))))
    .nil))
def i_law_any_shape : FI := ⟨"_law_any_shape", 2, 2, false, b_law_any_shape⟩
/-- 43 _law_told_shape : _law_question, _law_points_here -/
def b_law_told_shape : Ss := (.cons (.try (.cons (.ret (.call 16 (.cons (.var 0) (.cons (.var 1) .nil))))
    .nil) 0 (.cons (.ret (.tup (.cons (.str (Str.ofString "refused")) .nil)))
    .nil))
    .nil)
def i_law_told_shape : FI := ⟨"_law_told_shape", 2, 2, false, b_law_told_shape⟩
def lb_law_1 : Ss := (.cons (.set (.nm 9) (.b1 .tuple (.new (.comp (.nm 15) (.seq (.ite (.cmp .ne (.var 5) (.new (.lst .nil))) (.call 21 (.cons (.var 1) (.cons (.var 5) .nil))) (.bin .mul (.tup (.cons (.int (0)) .nil)) (.b1 .len (.ix (.var 3) (.int (0))))))) (.bl true) (.ite (.cmp .eq (.call 20 (.cons (.var 1) (.cons (.int (2)) .nil))) (.int (0))) (.bin .sub (.call 20 (.cons (.var 1) (.cons (.int (6)) .nil))) (.int (2))) (.var 15)) [14, 15]))))
    (.cons (.ite (.not (.call 23 (.cons (.call 18 (.cons (.var 3) (.cons (.var 4) (.cons (.var 9) .nil)))) (.cons (.cmp .isin (.var 9) (.var 5)) .nil)))) (.cons (.ret (.bl false))
    .nil) .nil)
    (.cons (.set (.nm 10) (.cmp .eq (.new (.comp (.tp [(.nm 16), (.nm 15)]) (.zip (.ix (.var 3) (.int (0))) (.var 9)) (.not (.call 34 (.cons (.var 3) (.cons (.var 16) (.cons (.var 15) .nil))))) (.int (1)) [14, 16, 15])) (.new (.lst .nil))))
    (.cons (.set (.nm 11) (.ite (.or (.cons (.cmp .isin (.var 9) (.var 5)) (.cons (.not (.var 10)) .nil))) (.new (.comp (.nm 17) (.seq (.var 5)) (.cmp .ne (.var 17) (.var 9)) (.var 17) [14, 17])) (.bin .add (.var 5) (.new (.lst (.cons (.var 9) .nil))))))
    (.cons (.set (.nm 11) (.b1 .tuple (.new (.sorted (.sl (.var 11) (.at (.call 20 (.cons (.var 1) (.cons (.int (2)) .nil)))) .no)))))
    (.cons (.set (.nm 12) (.b1 .repr (.var 11)))
    (.cons (.set (.nm 13) (.call 40 (.cons (.var 3) (.cons (.new (.list (.seq (.var 11)))) .nil))))
    (.cons (.set (.nm 13) (.ite (.cmp .eq (.var 13) (.str (Str.ofString "none"))) (.tup (.cons (.str (Str.ofString "refused")) .nil)) (.var 13)))
    (.cons (.ite (.or (.cons (.not (.call 23 (.cons (.call 43 (.cons (.var 3) (.cons (.var 11) .nil))) (.cons (.var 13) .nil)))) (.cons (.cmp .ne (.b1 .repr (.var 11)) (.var 12)) .nil))) (.cons (.ret (.bl false))
    .nil) .nil)
    .nil)))))))))
def lb_law_2 : Ss := (.cons (.set (.nm 3) (.call 26 (.cons (.var 1) (.cons (.call 21 (.cons (.var 1) (.cons (.new (.lst (.cons (.int (4)) (.cons (.int (3)) (.cons (.int (5)) .nil))))) .nil))) .nil))))
    (.cons (.set (.nm 4) (.call 42 (.cons (.var 1) (.cons (.var 3) .nil))))
    (.cons (.set (.nm 5) (.call 38 (.cons (.var 3) (.cons (.var 4) .nil))))
    (.cons (.ite (.cmp .gt (.b1 .len (.var 5)) (.int (50))) (.cons .cont
    .nil) .nil)
    (.cons (.set (.nm 6) (.b1 .tuple (.call 36 (.cons (.var 3) (.cons (.call 32 (.cons (.var 3) (.cons .non .nil))) .nil)))))
    (.cons (.set (.nm 7) (.new (.lst (.cons (.call 8 (.cons (.var 3) .nil)) (.cons (.call 15 (.cons (.var 3) (.cons (.var 4) .nil))) (.cons (.call 9 (.cons (.var 4) .nil)) (.cons (.call 43 (.cons (.var 3) (.cons (.b1 .tuple (.var 5)) .nil))) .nil)))))))
    (.cons (.ite (.not (.call 23 (.cons (.var 7) (.cons (.new (.lst (.cons (.var 6) (.cons (.b1 .tuple (.var 5)) (.cons (.call 35 (.cons (.var 4) .nil)) (.cons (.var 4) .nil)))))) .nil)))) (.cons (.ret (.bl false))
    .nil) .nil)
    (.cons (.loop (.nm 8) (.rng1 (.int (4))) lb_law_1)
    .nil))))))))
/-- 44 law : _law_script, _law_bag_here, _law_turn, _law_question, _law_shape_here, _law_points_here, _law_line_here, _law_told, _law_again, _law_point, _law_is_point, _law_near, _law_kept, _law_due, .0, _law_value, _law_column, _law_one -/
def b_law : Ss := (.cons (.set (.nm 1) (.call 19 (.cons (.var 0) .nil)))
    (.cons (.loop (.nm 2) (.rng1 (.int (2))) lb_law_2)
    (.cons (.ret (.bl true))
    .nil)))
def i_law : FI := ⟨"law", 1, 18, false, b_law⟩
def r_atoms_of : Net.Row := ⟨i_atoms_of, ["question", "column", ".0", "index", "atom"], false, top 4⟩
def r_is_above : Net.Row := ⟨i_is_above, ["question", "one", "other", "mine", "its", ".0", "atom"], false, top 6⟩
def r_above_of : Net.Row := ⟨i_above_of, ["question", "column", ".0", "one"], false, top 7⟩
def r_path_of : Net.Row := ⟨i_path_of, ["question", "column", "above"], true, top 8⟩
def r_parent_of : Net.Row := ⟨i_parent_of, ["question", "column", "path"], false, top 9⟩
def r_children_of : Net.Row := ⟨i_children_of, ["question", "column", ".0", "one"], false, top 10⟩
def r_roots_of : Net.Row := ⟨i_roots_of, ["question", ".0", "one"], false, top 11⟩
def r_line_below : Net.Row := ⟨i_line_below, ["question", "columns", "found", "column"], false, top 13⟩
def r_line_of : Net.Row := ⟨i_line_of, ["question"], false, top 14⟩
def r_places_many : Net.Row := ⟨i_places_many, ["shape", ".0", "branch", "_value", "inner"], false, top 15⟩
def r_number_in : Net.Row := ⟨i_number_in, ["shape", "number", "branch", ".0", "_value", "inner"], false, top 16⟩
def r_shaped : Net.Row := ⟨i_shaped, ["question", "columns", "rows", "branches", "column", "groups", "row", "children", ".0", "value"], false, top 17⟩
def r_rows_in : Net.Row := ⟨i_rows_in, ["shape", "rows", "branch", "some", ".0", "value", "inner", "row", "more"], false, top 18⟩
def r_seats_of : Net.Row := ⟨i_seats_of, ["question", "line", ".0", "column"], false, top 19⟩
def r_off_line : Net.Row := ⟨i_off_line, ["seats", "row", ".0", "seat"], false, top 20⟩
def r_points_of : Net.Row := ⟨i_points_of, ["question", "shape", "seats", ".0", "row"], false, top 21⟩
def r_shape_of : Net.Row := ⟨i_shape_of, ["question", "points", "found", ".0", "point"], false, top 22⟩
def r_has_items : Net.Row := ⟨i_has_items, ["question", "columns", "shape", "items", "column", "branch", "inner"], false, top 23⟩
def r_is_in : Net.Row := ⟨i_is_in, ["question", "shape", "point"], false, top 24⟩
def r_law_bag : Net.Row := ⟨i_law_bag, ["_law_script", ".0", "_law_cell"], false, top 26⟩
def r_law_take : Net.Row := ⟨i_law_take, ["_law_bag_here", "_law_many", "_law_cell", "_law_stirred", "_law_value", "_law_begin", "_law_second"], false, top 27⟩
def r_law_some : Net.Row := ⟨i_law_some, ["_law_bag_here", "_law_things"], false, top 28⟩
def r_law_mixed : Net.Row := ⟨i_law_mixed, ["_law_bag_here", "_law_things", "_law_found", "_law_thing"], false, top 29⟩
def r_law_alike : Net.Row := ⟨i_law_alike, ["_law_found", "_law_due"], false, top 30⟩
def r_law_forest : Net.Row := ⟨i_law_forest, ["_law_bag_here", "_law_many", "_law_found", "_law_at"], false, top 31⟩
def r_law_line : Net.Row := ⟨i_law_line, ["_law_parents", "_law_at", "_law_found"], false, top 32⟩
def r_law_nested_question : Net.Row := ⟨i_law_nested_question, ["_law_bag_here", "_law_most", "_law_names", "_law_parents", "_law_at", "_law_ends", "_law_turn", "_law_tables", "_law_atoms", "_law_word", "_law_table", "_law_columns", ".0"], false, top 33⟩
def r_law_columns_mixed : Net.Row := ⟨i_law_columns_mixed, ["_law_bag_here", "_law_names", "_law_parents", "_law_at", ".0", "_law_one"], false, top 34⟩
def r_law_ranges : Net.Row := ⟨i_law_ranges, ["_law_bag_here", "_law_columns", "_law_found", "_law_column", "_law_low", "_law_high"], false, top 35⟩
def r_law_atoms_of : Net.Row := ⟨i_law_atoms_of, ["_law_question", "_law_column", ".0", "_law_index", "_law_atom"], false, top 36⟩
def r_law_is_above : Net.Row := ⟨i_law_is_above, ["_law_question", "_law_one", "_law_other", "_law_mine", "_law_its", ".0", "_law_index"], false, top 37⟩
def r_law_path : Net.Row := ⟨i_law_path, ["_law_question", "_law_column", "_law_one", "_law_upper", "_law_found", "_law_at", ".0", "_law_other"], false, top 38⟩
def r_law_children : Net.Row := ⟨i_law_children, ["_law_question", "_law_column", "_law_found", "_law_one", "_law_path_here"], false, top 39⟩
def r_law_range_of : Net.Row := ⟨i_law_range_of, ["_law_question", "_law_column", "_law_found", ".0", "_law_one", "_law_low", "_law_high"], false, top 40⟩
def r_law_is_in_range : Net.Row := ⟨i_law_is_in_range, ["_law_question", "_law_column", "_law_value", "_law_low", "_law_high"], false, top 41⟩
def r_law_places : Net.Row := ⟨i_law_places, ["_law_shape_here", ".0", "_law_branch", "_law_value", "_law_below"], false, top 42⟩
def r_law_line_of : Net.Row := ⟨i_law_line_of, ["_law_question", "_law_columns", "_law_found", "_law_column"], false, top 43⟩
def r_law_spread : Net.Row := ⟨i_law_spread, ["_law_shape_here", "_law_found", "_law_branch", "_law_some_here", "_law_longer", "_law_value", "_law_below", "_law_one", ".0", "_law_rest", "_law_other"], false, top 44⟩
def r_law_points : Net.Row := ⟨i_law_points, ["_law_question", "_law_shape_here", "_law_line_here", "_law_places_here", ".0", "_law_column", "_law_one", "_law_at"], false, top 45⟩
def r_law_shaped : Net.Row := ⟨i_law_shaped, ["_law_question", "_law_columns", "_law_prefix", "_law_points_here", "_law_found", "_law_column", "_law_branch", "_law_value", "_law_rest", ".0", "_law_point"], false, top 46⟩
def r_law_shape : Net.Row := ⟨i_law_shape, ["_law_question", "_law_points_here", "_law_some_here", "_law_shape_here", ".0", "_law_point"], false, top 47⟩
def r_law_drawn_shape : Net.Row := ⟨i_law_drawn_shape, ["_law_bag_here", "_law_question", "_law_columns", "_law_wide", "_law_found", "_law_column", "_law_low", "_law_high", "_law_begin", "_law_values", "_law_below", ".0", "_law_turn", "_law_value"], false, top 48⟩
def r_law_any_shape : Net.Row := ⟨i_law_any_shape, ["_law_bag_here", "_law_question"], false, top 49⟩
def r_law_told_shape : Net.Row := ⟨i_law_told_shape, ["_law_question", "_law_points_here"], false, top 50⟩
def r_law : Net.Row := ⟨i_law, ["_law_script", "_law_bag_here", "_law_turn", "_law_question", "_law_shape_here", "_law_points_here", "_law_line_here", "_law_told", "_law_again", "_law_point", "_law_is_point", "_law_near", "_law_kept", "_law_due", ".0", "_law_value", "_law_column", "_law_one"], false, top 51⟩
def rows : List Net.Row := [r_atoms_of, r_is_above, r_above_of, r_path_of, r_parent_of, r_children_of, r_roots_of, r_line_below, r_line_of, r_places_many, r_number_in, r_shaped, r_rows_in, r_seats_of, r_off_line, r_points_of, r_shape_of, r_has_items, r_is_in, r_law_bag, r_law_take, r_law_some, r_law_mixed, r_law_alike, r_law_forest, r_law_line, r_law_nested_question, r_law_columns_mixed, r_law_ranges, r_law_atoms_of, r_law_is_above, r_law_path, r_law_children, r_law_range_of, r_law_is_in_range, r_law_places, r_law_line_of, r_law_spread, r_law_points, r_law_shaped, r_law_shape, r_law_drawn_shape, r_law_any_shape, r_law_told_shape, r_law]
def free : List Str := ["tuple", "enumerate", "all", "sorted", "len", "sum", "dict", "zip", "abs", "int", "repr", "range", "list", "set"]
def exl : List Str := ["NoShape"]
theorem chk : rows.all (chkRow rows free (exN exl)) = true := by decide +kernel
abbrev n_atoms_of : Nat := 0
abbrev n_is_above : Nat := 1
abbrev n_above_of : Nat := 2
abbrev n_path_of : Nat := 3
abbrev n_parent_of : Nat := 4
abbrev n_children_of : Nat := 5
abbrev n_roots_of : Nat := 6
abbrev n_line_below : Nat := 7
abbrev n_line_of : Nat := 8
abbrev n_places_many : Nat := 9
abbrev n_number_in : Nat := 10
abbrev n_shaped : Nat := 11
abbrev n_rows_in : Nat := 12
abbrev n_seats_of : Nat := 13
abbrev n_off_line : Nat := 14
abbrev n_points_of : Nat := 15
abbrev n_shape_of : Nat := 16
abbrev n_has_items : Nat := 17
abbrev n_is_in : Nat := 18
abbrev n_law_bag : Nat := 19
abbrev n_law_take : Nat := 20
abbrev n_law_some : Nat := 21
abbrev n_law_mixed : Nat := 22
abbrev n_law_alike : Nat := 23
abbrev n_law_forest : Nat := 24
abbrev n_law_line : Nat := 25
abbrev n_law_nested_question : Nat := 26
abbrev n_law_columns_mixed : Nat := 27
abbrev n_law_ranges : Nat := 28
abbrev n_law_atoms_of : Nat := 29
abbrev n_law_is_above : Nat := 30
abbrev n_law_path : Nat := 31
abbrev n_law_children : Nat := 32
abbrev n_law_range_of : Nat := 33
abbrev n_law_is_in_range : Nat := 34
abbrev n_law_places : Nat := 35
abbrev n_law_line_of : Nat := 36
abbrev n_law_spread : Nat := 37
abbrev n_law_points : Nat := 38
abbrev n_law_shaped : Nat := 39
abbrev n_law_shape : Nat := 40
abbrev n_law_drawn_shape : Nat := 41
abbrev n_law_any_shape : Nat := 42
abbrev n_law_told_shape : Nat := 43
abbrev n_law : Nat := 44
abbrev tb : Nat → Option FI := tbOf rows
theorem u_atoms_of (W k : Nat) (a0 a1 : D) (M : Mem) : callF tb W (k + 1) 0 [a0, a1] M = leave false M.length (Net.exs (callF tb W k) M.length W b_atoms_of [some a0, some a1, none, none, none] M) := by rw [call_eq (fi := i_atoms_of) rfl rfl]; rfl
theorem u_is_above (W k : Nat) (a0 a1 a2 : D) (M : Mem) : callF tb W (k + 1) 1 [a0, a1, a2] M = leave false M.length (Net.exs (callF tb W k) M.length W b_is_above [some a0, some a1, some a2, none, none, none, none] M) := by rw [call_eq (fi := i_is_above) rfl rfl]; rfl
theorem u_above_of (W k : Nat) (a0 a1 : D) (M : Mem) : callF tb W (k + 1) 2 [a0, a1] M = leave false M.length (Net.exs (callF tb W k) M.length W b_above_of [some a0, some a1, none, none] M) := by rw [call_eq (fi := i_above_of) rfl rfl]; rfl
theorem u_path_of (W k : Nat) (a0 a1 : D) (M : Mem) : callF tb W (k + 1) 3 [a0, a1] M = leave false M.length (Net.exs (callF tb W k) M.length W b_path_of [some a0, some a1, none] M) := by rw [call_eq (fi := i_path_of) rfl rfl]; rfl
theorem u_parent_of (W k : Nat) (a0 a1 : D) (M : Mem) : callF tb W (k + 1) 4 [a0, a1] M = leave false M.length (Net.exs (callF tb W k) M.length W b_parent_of [some a0, some a1, none] M) := by rw [call_eq (fi := i_parent_of) rfl rfl]; rfl
theorem u_children_of (W k : Nat) (a0 a1 : D) (M : Mem) : callF tb W (k + 1) 5 [a0, a1] M = leave false M.length (Net.exs (callF tb W k) M.length W b_children_of [some a0, some a1, none, none] M) := by rw [call_eq (fi := i_children_of) rfl rfl]; rfl
theorem u_roots_of (W k : Nat) (a0 : D) (M : Mem) : callF tb W (k + 1) 6 [a0] M = leave false M.length (Net.exs (callF tb W k) M.length W b_roots_of [some a0, none, none] M) := by rw [call_eq (fi := i_roots_of) rfl rfl]; rfl
theorem u_line_below (W k : Nat) (a0 a1 : D) (M : Mem) : callF tb W (k + 1) 7 [a0, a1] M = leave false M.length (Net.exs (callF tb W k) M.length W b_line_below [some a0, some a1, none, none] M) := by rw [call_eq (fi := i_line_below) rfl rfl]; rfl
theorem u_line_of (W k : Nat) (a0 : D) (M : Mem) : callF tb W (k + 1) 8 [a0] M = leave false M.length (Net.exs (callF tb W k) M.length W b_line_of [some a0] M) := by rw [call_eq (fi := i_line_of) rfl rfl]; rfl
theorem u_places_many (W k : Nat) (a0 : D) (M : Mem) : callF tb W (k + 1) 9 [a0] M = leave false M.length (Net.exs (callF tb W k) M.length W b_places_many [some a0, none, none, none, none] M) := by rw [call_eq (fi := i_places_many) rfl rfl]; rfl
theorem u_number_in (W k : Nat) (a0 : D) (M : Mem) : callF tb W (k + 1) 10 [a0] M = leave false M.length (Net.exs (callF tb W k) M.length W b_number_in [some a0, none, none, none, none, none] M) := by rw [call_eq (fi := i_number_in) rfl rfl]; rfl
theorem u_shaped (W k : Nat) (a0 a1 a2 : D) (M : Mem) : callF tb W (k + 1) 11 [a0, a1, a2] M = leave false M.length (Net.exs (callF tb W k) M.length W b_shaped [some a0, some a1, some a2, none, none, none, none, none, none, none] M) := by rw [call_eq (fi := i_shaped) rfl rfl]; rfl
theorem u_rows_in (W k : Nat) (a0 : D) (M : Mem) : callF tb W (k + 1) 12 [a0] M = leave false M.length (Net.exs (callF tb W k) M.length W b_rows_in [some a0, none, none, none, none, none, none, none, none] M) := by rw [call_eq (fi := i_rows_in) rfl rfl]; rfl
theorem u_seats_of (W k : Nat) (a0 : D) (M : Mem) : callF tb W (k + 1) 13 [a0] M = leave false M.length (Net.exs (callF tb W k) M.length W b_seats_of [some a0, none, none, none] M) := by rw [call_eq (fi := i_seats_of) rfl rfl]; rfl
theorem u_off_line (W k : Nat) (a0 a1 : D) (M : Mem) : callF tb W (k + 1) 14 [a0, a1] M = leave false M.length (Net.exs (callF tb W k) M.length W b_off_line [some a0, some a1, none, none] M) := by rw [call_eq (fi := i_off_line) rfl rfl]; rfl
theorem u_points_of (W k : Nat) (a0 a1 : D) (M : Mem) : callF tb W (k + 1) 15 [a0, a1] M = leave false M.length (Net.exs (callF tb W k) M.length W b_points_of [some a0, some a1, none, none, none] M) := by rw [call_eq (fi := i_points_of) rfl rfl]; rfl
theorem u_shape_of (W k : Nat) (a0 a1 : D) (M : Mem) : callF tb W (k + 1) 16 [a0, a1] M = leave false M.length (Net.exs (callF tb W k) M.length W b_shape_of [some a0, some a1, none, none, none] M) := by rw [call_eq (fi := i_shape_of) rfl rfl]; rfl
theorem u_has_items (W k : Nat) (a0 a1 a2 a3 : D) (M : Mem) : callF tb W (k + 1) 17 [a0, a1, a2, a3] M = leave false M.length (Net.exs (callF tb W k) M.length W b_has_items [some a0, some a1, some a2, some a3, none, none, none] M) := by rw [call_eq (fi := i_has_items) rfl rfl]; rfl
theorem u_is_in (W k : Nat) (a0 a1 a2 : D) (M : Mem) : callF tb W (k + 1) 18 [a0, a1, a2] M = leave false M.length (Net.exs (callF tb W k) M.length W b_is_in [some a0, some a1, some a2] M) := by rw [call_eq (fi := i_is_in) rfl rfl]; rfl
theorem u_law_bag (W k : Nat) (a0 : D) (M : Mem) : callF tb W (k + 1) 19 [a0] M = leave true M.length (Net.exs (callF tb W k) M.length W b_law_bag [some a0, none, none] M) := by rw [call_eq (fi := i_law_bag) rfl rfl]; rfl
theorem u_law_take (W k : Nat) (a0 a1 : D) (M : Mem) : callF tb W (k + 1) 20 [a0, a1] M = leave false M.length (Net.exs (callF tb W k) M.length W b_law_take [some a0, some a1, none, none, none, none, none] M) := by rw [call_eq (fi := i_law_take) rfl rfl]; rfl
theorem u_law_some (W k : Nat) (a0 a1 : D) (M : Mem) : callF tb W (k + 1) 21 [a0, a1] M = leave false M.length (Net.exs (callF tb W k) M.length W b_law_some [some a0, some a1] M) := by rw [call_eq (fi := i_law_some) rfl rfl]; rfl
theorem u_law_mixed (W k : Nat) (a0 a1 : D) (M : Mem) : callF tb W (k + 1) 22 [a0, a1] M = leave false M.length (Net.exs (callF tb W k) M.length W b_law_mixed [some a0, some a1, none, none] M) := by rw [call_eq (fi := i_law_mixed) rfl rfl]; rfl
theorem u_law_alike (W k : Nat) (a0 a1 : D) (M : Mem) : callF tb W (k + 1) 23 [a0, a1] M = leave false M.length (Net.exs (callF tb W k) M.length W b_law_alike [some a0, some a1] M) := by rw [call_eq (fi := i_law_alike) rfl rfl]; rfl
theorem u_law_forest (W k : Nat) (a0 a1 : D) (M : Mem) : callF tb W (k + 1) 24 [a0, a1] M = leave false M.length (Net.exs (callF tb W k) M.length W b_law_forest [some a0, some a1, none, none] M) := by rw [call_eq (fi := i_law_forest) rfl rfl]; rfl
theorem u_law_line (W k : Nat) (a0 a1 : D) (M : Mem) : callF tb W (k + 1) 25 [a0, a1] M = leave false M.length (Net.exs (callF tb W k) M.length W b_law_line [some a0, some a1, none] M) := by rw [call_eq (fi := i_law_line) rfl rfl]; rfl
theorem u_law_nested_question (W k : Nat) (a0 a1 : D) (M : Mem) : callF tb W (k + 1) 26 [a0, a1] M = leave false M.length (Net.exs (callF tb W k) M.length W b_law_nested_question [some a0, some a1, none, none, none, none, none, none, none, none, none, none, none] M) := by rw [call_eq (fi := i_law_nested_question) rfl rfl]; rfl
theorem u_law_columns_mixed (W k : Nat) (a0 a1 a2 a3 : D) (M : Mem) : callF tb W (k + 1) 27 [a0, a1, a2, a3] M = leave false M.length (Net.exs (callF tb W k) M.length W b_law_columns_mixed [some a0, some a1, some a2, some a3, none, none] M) := by rw [call_eq (fi := i_law_columns_mixed) rfl rfl]; rfl
theorem u_law_ranges (W k : Nat) (a0 a1 : D) (M : Mem) : callF tb W (k + 1) 28 [a0, a1] M = leave false M.length (Net.exs (callF tb W k) M.length W b_law_ranges [some a0, some a1, none, none, none, none] M) := by rw [call_eq (fi := i_law_ranges) rfl rfl]; rfl
theorem u_law_atoms_of (W k : Nat) (a0 a1 : D) (M : Mem) : callF tb W (k + 1) 29 [a0, a1] M = leave false M.length (Net.exs (callF tb W k) M.length W b_law_atoms_of [some a0, some a1, none, none, none] M) := by rw [call_eq (fi := i_law_atoms_of) rfl rfl]; rfl
theorem u_law_is_above (W k : Nat) (a0 a1 a2 : D) (M : Mem) : callF tb W (k + 1) 30 [a0, a1, a2] M = leave false M.length (Net.exs (callF tb W k) M.length W b_law_is_above [some a0, some a1, some a2, none, none, none, none] M) := by rw [call_eq (fi := i_law_is_above) rfl rfl]; rfl
theorem u_law_path (W k : Nat) (a0 a1 : D) (M : Mem) : callF tb W (k + 1) 31 [a0, a1] M = leave false M.length (Net.exs (callF tb W k) M.length W b_law_path [some a0, some a1, none, none, none, none, none, none] M) := by rw [call_eq (fi := i_law_path) rfl rfl]; rfl
theorem u_law_children (W k : Nat) (a0 a1 : D) (M : Mem) : callF tb W (k + 1) 32 [a0, a1] M = leave false M.length (Net.exs (callF tb W k) M.length W b_law_children [some a0, some a1, none, none, none] M) := by rw [call_eq (fi := i_law_children) rfl rfl]; rfl
theorem u_law_range_of (W k : Nat) (a0 a1 : D) (M : Mem) : callF tb W (k + 1) 33 [a0, a1] M = leave false M.length (Net.exs (callF tb W k) M.length W b_law_range_of [some a0, some a1, none, none, none, none, none] M) := by rw [call_eq (fi := i_law_range_of) rfl rfl]; rfl
theorem u_law_is_in_range (W k : Nat) (a0 a1 a2 : D) (M : Mem) : callF tb W (k + 1) 34 [a0, a1, a2] M = leave false M.length (Net.exs (callF tb W k) M.length W b_law_is_in_range [some a0, some a1, some a2, none, none] M) := by rw [call_eq (fi := i_law_is_in_range) rfl rfl]; rfl
theorem u_law_places (W k : Nat) (a0 : D) (M : Mem) : callF tb W (k + 1) 35 [a0] M = leave false M.length (Net.exs (callF tb W k) M.length W b_law_places [some a0, none, none, none, none] M) := by rw [call_eq (fi := i_law_places) rfl rfl]; rfl
theorem u_law_line_of (W k : Nat) (a0 a1 : D) (M : Mem) : callF tb W (k + 1) 36 [a0, a1] M = leave false M.length (Net.exs (callF tb W k) M.length W b_law_line_of [some a0, some a1, none, none] M) := by rw [call_eq (fi := i_law_line_of) rfl rfl]; rfl
theorem u_law_spread (W k : Nat) (a0 : D) (M : Mem) : callF tb W (k + 1) 37 [a0] M = leave false M.length (Net.exs (callF tb W k) M.length W b_law_spread [some a0, none, none, none, none, none, none, none, none, none, none] M) := by rw [call_eq (fi := i_law_spread) rfl rfl]; rfl
theorem u_law_points (W k : Nat) (a0 a1 : D) (M : Mem) : callF tb W (k + 1) 38 [a0, a1] M = leave false M.length (Net.exs (callF tb W k) M.length W b_law_points [some a0, some a1, none, none, none, none, none, none] M) := by rw [call_eq (fi := i_law_points) rfl rfl]; rfl
theorem u_law_shaped (W k : Nat) (a0 a1 a2 a3 : D) (M : Mem) : callF tb W (k + 1) 39 [a0, a1, a2, a3] M = leave false M.length (Net.exs (callF tb W k) M.length W b_law_shaped [some a0, some a1, some a2, some a3, none, none, none, none, none, none, none] M) := by rw [call_eq (fi := i_law_shaped) rfl rfl]; rfl
theorem u_law_shape (W k : Nat) (a0 a1 : D) (M : Mem) : callF tb W (k + 1) 40 [a0, a1] M = leave false M.length (Net.exs (callF tb W k) M.length W b_law_shape [some a0, some a1, none, none, none, none] M) := by rw [call_eq (fi := i_law_shape) rfl rfl]; rfl
theorem u_law_drawn_shape (W k : Nat) (a0 a1 a2 a3 : D) (M : Mem) : callF tb W (k + 1) 41 [a0, a1, a2, a3] M = leave false M.length (Net.exs (callF tb W k) M.length W b_law_drawn_shape [some a0, some a1, some a2, some a3, none, none, none, none, none, none, none, none, none, none] M) := by rw [call_eq (fi := i_law_drawn_shape) rfl rfl]; rfl
theorem u_law_any_shape (W k : Nat) (a0 a1 : D) (M : Mem) : callF tb W (k + 1) 42 [a0, a1] M = leave false M.length (Net.exs (callF tb W k) M.length W b_law_any_shape [some a0, some a1] M) := by rw [call_eq (fi := i_law_any_shape) rfl rfl]; rfl
theorem u_law_told_shape (W k : Nat) (a0 a1 : D) (M : Mem) : callF tb W (k + 1) 43 [a0, a1] M = leave false M.length (Net.exs (callF tb W k) M.length W b_law_told_shape [some a0, some a1] M) := by rw [call_eq (fi := i_law_told_shape) rfl rfl]; rfl
theorem u_law (W k : Nat) (a0 : D) (M : Mem) : callF tb W (k + 1) 44 [a0] M = leave false M.length (Net.exs (callF tb W k) M.length W b_law [some a0, none, none, none, none, none, none, none, none, none, none, none, none, none, none, none, none, none] M) := by rw [call_eq (fi := i_law) rfl rfl]; rfl
end K55
end

section
set_option Elab.async false
set_option linter.all false
set_option maxRecDepth 100000
set_option maxHeartbeats 0
/-! The head of K55. Printed by netprint.py. -/
namespace K55
open PySem PySem.Spec PyProof.Rows L2 Net
def loose0 : List PySem.Str := [Str.ofString "LookError", Str.ofString "NoShape", Str.ofString "atoms_of", Str.ofString "is_above", Str.ofString "above_of", Str.ofString "path_of", Str.ofString "parent_of", Str.ofString "children_of", Str.ofString "roots_of", Str.ofString "line_below", Str.ofString "line_of", Str.ofString "places_many", Str.ofString "number_in", Str.ofString "shaped", Str.ofString "rows_in", Str.ofString "seats_of", Str.ofString "off_line", Str.ofString "points_of", Str.ofString "shape_of", Str.ofString "has_items", Str.ofString "is_in", Str.ofString "_law_bag", Str.ofString "_law_take", Str.ofString "_law_some", Str.ofString "_law_mixed", Str.ofString "_law_alike", Str.ofString "_law_forest", Str.ofString "_law_line", Str.ofString "_law_nested_question", Str.ofString "_law_columns_mixed", Str.ofString "_law_ranges", Str.ofString "_law_atoms_of", Str.ofString "_law_is_above", Str.ofString "_law_path", Str.ofString "_law_children", Str.ofString "_law_range_of", Str.ofString "_law_is_in_range", Str.ofString "_law_places"]
def loose1 : List PySem.Str := [Str.ofString "_law_line_of", Str.ofString "_law_spread", Str.ofString "_law_points", Str.ofString "_law_shaped", Str.ofString "_law_shape", Str.ofString "_law_drawn_shape", Str.ofString "_law_any_shape", Str.ofString "_law_told_shape"]
def loose : List PySem.Str := loose0 ++ loose1
abbrev R : PySem.W.OpenRow := PySem.W.OpenLaw.row PySem.Challenge.rw_enoughlooks_k55_shapes_and_their_points
abbrev hk : PySem.W.Hook := hookN 3 (faN rows free exl) (fnN rows) (lamsN rows)
def ob (s : PySem.W.SharedT) : AlN := obsN 3 (faN rows free exl) (fnN rows) (lamsN rows) (HandSHeadRun.getT s)
theorem ob_eq (s : PySem.W.SharedT) : ob s = hk.obs s.abs := obsN_eq (HandSHeadRun.getT_eq s)
theorem run (w : World) : HandSHeadRun.RunEq R (PySem.W.view R.prog [51]) hk ob 6000 loose w := by
  intro os
  kernel_rfl
open PySem.W PySem.Calls in
theorem holds_of {k W : Nat} (room : Room (4 * k) callerA) (ans : ∀ ns : List Int, ns.length ≤ 63 → ∃ M, callF tb W k 44 [.scr ns] [] = .ok (.bl true) M) : PySem.Challenge.rw_enoughlooks_k55_shapes_and_their_points.Holds := by
  w_on; o_law
  refine HandSHeadRun.head_any (r := OpenLaw.row PySem.Challenge.rw_enoughlooks_k55_shapes_and_their_points) (q := view (OpenLaw.row PySem.Challenge.rw_enoughlooks_k55_shapes_and_their_points).prog [51]) (H := hk) (ob := ob) (M := 6000) (loose := loose) (d := HandSHeadRun.topDef (OpenLaw.row PySem.Challenge.rw_enoughlooks_k55_shapes_and_their_points).prog 51) (kwd := []) ob_eq
    (by kernel_rfl) (fun s => by kernel_rfl) run (by kernel_rfl) (by kernel_rfl) (by kernel_rfl) (by rfl) (by first | assumption | decide +kernel) (by decide +kernel) ⟨rfl, rfl, rfl, rfl, rfl, by decide +kernel⟩ ?hw ?hc
  case hw => w_witness2
  case hc =>
    exact net_walk (l := PySem.Challenge.rw_enoughlooks_k55_shapes_and_their_points) (n := 63) (k := k) (fl := 44) (W := W) (rows := rows) (free := free) (exs := exl) (x := "_law_script") (r := r_law) rfl (by decide) (by kernel_rfl) room chk (by decide +kernel) rfl (by decide +kernel) (by kernel_rfl) ans
end K55
end

section
set_option Elab.async false
set_option linter.all false
set_option maxRecDepth 100000
namespace K55
open PySem L2 Net Fo
local macro_rules | `(tactic| walk_at "RUN") => `(tactic| try simp only [ev_v, ev_non, ev_bl, ev_int, ev_str, ev_tup, ev_new, ev_newM, ev_bin, ev_cmp, ev_ix, ev_call, ev_b1, ev_neg, ev_not, ev_and, ev_or, ev_ite, ev_sl, ev_index, ev_get, ev_setdef, ev_append, ev_extend, ev_insert, evs_nil, evs_cons, evs_star, Net.evP, evI_seq, evI_enum, evI_zip, evC_comp, evC_comp2, evC_lst, evC_dic, evC_list, ex_loop, ex_ret, ex_set, ex_expr, ex_ite, exs_one, exs_cons, exs_nil, go_next, go_ret, rs_ok, rs_of, rs_st,
  List.getElem?_cons_zero, List.getElem?_cons_succ, asg_tp, asgs_nil, asgs_cons, asg_nm, List.length_cons, List.length_nil, List.set_cons_zero, List.set_cons_succ, Nat.zero_lt_succ, Nat.succ_lt_succ_iff, if_true, wipeD, items_tup, items_lst, seq_tup, seq_lst, dict_tup, dict_lst, dict_dic, deps_tup, deps_lst,
  frz_lst, frz_dic, ix_t0, ix_t1, ix_t2, ix_l0, b1_tuple, b1_len, len_tup, len_lst, Option.map_some, Option.map_none, cop_eq, cop_ne, cop_in, cop_ni, cop_is, cop_isn, lt_int, gt_int, le_int, ge_int, leave_ret0, pure_non, pure_bl, pure_int, pure_str, evC_sortedBy, evC_sorted, evC_sortedSet, evC_dict, evI_rng1, evAnd1, evAnd2, evOr1, evOr2, Nat.zero_add, Nat.reduceAdd, sz0, sz1, sz2, sz3, sz4, sz5, sz6, sz8, Option.isSome_some, is_os, bop_add, bop_sub, Bool.not_true, Bool.not_false, Bool.or_true, Bool.or_false, Bool.false_or, Bool.true_or, Bool.and_true, Bool.true_and, Bool.false_and, Bool.and_false, nx_next, nx_cont, ok_ok, iteD_t, iteD_f, isNon_tup, isNon_non, isNon_int, seq_at, items_at, dict_at, Bool.true_eq_false, if_false, slotD, List.map_cons, List.map_nil, cLL_nil, lL_nil, b1_sum_nats, ex_raise, ex_pass, ex_cont, go_exc, go_cont, ex_try, cop_ne_int, lenRows, isNon_oI, oI_pure, ex_par, and_self,  exc_st, exc_bind, try_exc, try_ret, try_next, calm_ret, q_ix0, q_ix1, q_ix2, a_ix2, Function.comp, List.nil_append])
theorem ev_atoms_of (W k : Nat) (q : Qn) (c : Str) (M : Mem) : callF tb W (k + 1) 0 [q.d, .str c] M = .ok (.tup (nats (q.of c))) M := by
  rw [u_atoms_of]
  unfold b_atoms_of
  walk_at "RUN"
  rw [List.zipIdx_map, List.map_map, compL_pure (f := fun p : Atm × Nat => if decide (c ∈ p.1.cs) = true then some (.int p.2) else none)]
  · rw [filterMap_ite]
    walk_at "RUN"
    rw [leave_ret0 (by rw [pure_tup]; exact all_pure_map fun _ _ => rfl)]
    unfold Qn.of nats
    rw [List.map_map]; rfl
  · rintro ⟨a, i⟩ _
    unfold stepC
    dsimp only [Function.comp, Prod.map, id]
    walk_at "RUN"
    rw [in_strs]
    by_cases h : c ∈ a.cs <;> simp [h]
theorem ev_is_above (W k : Nat) (q : Qn) {x y : Str} (hx : x ∈ q.cols) (hy : y ∈ q.cols) (M : Mem) : callF tb W (k + 2) 1 [q.d, .str x, .str y] M = .ok (.bl (q.ab x y)) M := by
  rw [u_is_above]
  unfold b_is_above
  walk_at "RUN"
  rw [ev_atoms_of W k]
  walk_at "RUN"
  rw [ev_atoms_of W k]
  walk_at "RUN"
  rw [eq_nats]
  walk_at "RUN"
  by_cases h : q.of x = q.of y
  · simp only [decide_eq_true h]
    walk_at "RUN"
    rw [idxR_sts hx]
    walk_at "RUN"
    rw [idxR_sts hy]
    walk_at "RUN"
    unfold Qn.ab Qn.ix
    rw [if_pos h]
    simp
    exact leave_ret0 rfl
  · simp only [decide_eq_false h]
    walk_at "RUN"
    rw [show nats (q.of y) = (q.of y).map fun n : Nat => D.int (n : Int) from rfl, compL_pure (f := fun i : Nat => some (.bl (decide (i ∈ q.of x))))]
    · rw [filterMap_some]
      walk_at "RUN"
      rw [show (q.of y).map (fun i => D.bl (decide (i ∈ q.of x))) = bls ((q.of y).map fun i => decide (i ∈ q.of x)) from by unfold bls; rw [List.map_map]; rfl, b1_all]
      walk_at "RUN"
      unfold Qn.ab
      rw [if_neg h, List.all_map, leave_ret0 rfl]
      rfl
    · intro i _
      unfold stepC
      walk_at "RUN"
      rw [in_nats]
      walk_at "RUN"
theorem ev_above_of (W k : Nat) (q : Qn) {c : Str} (hc : c ∈ q.cols) (M : Mem) : callF tb W (k + 3) 2 [q.d, .str c] M = .ok (.lst (sts (q.up c))) M := by
  rw [u_above_of]
  unfold b_above_of
  walk_at "RUN"
  rw [sts, compL_pure (f := fun x : Str => if q.ab x c = true then some (.str x) else none)]
  · rw [filterMap_ite]
    walk_at "RUN"
    exact leave_lst (n := 0) (pure_sts _)
  · intro x hx
    unfold stepC
    walk_at "RUN"
    rw [ev_is_above W k q hx hc]
    walk_at "RUN"
    cases q.ab x c <;> simp
theorem ev_path_of (W k : Nat) {q : Qn} (N : NQ q) {c : Str} (hc : c ∈ q.cols) (hz : q.cols.length < sizeLine) (M : Mem) : callF tb W (k + 4) 3 [q.d, .str c] M = .ok (.tup (sts (q.pth c ++ [c]))) M := by
  rw [u_path_of]
  unfold b_path_of
  walk_at "RUN"
  rw [ev_above_of W k q hc]
  walk_at "RUN"
  rw [sts, keysL_pure (f := fun x => (q.rk x : Int))]
  · rw [List.nil_append]
    have e := N.path_sort hc
    have e2 := sortBy_map D.str ((q.up c).map fun x => (q.rk x : Int)) (q.up c)
    rw [e] at e2
    walk_at "RUN"
    rw [e2]
    have hl : (sts (q.pth c) ++ [D.str c]).length ≤ sizeLine := by
      have h1 := (Fo.pth_ok N.abv _ c hc (Nat.le_of_lt (Fo.rk_len N.abv hc))).1.length_eq
      have h2 := Fo.rk_len N.abv hc
      have h3 : (Fo.up q.cols q.ab c).length = Fo.rk q.cols q.ab c := rfl
      rw [List.length_append, List.length_map, h1]
      show (Fo.up q.cols q.ab c).length + 1 ≤ _
      omega
    rw [if_pos hl]
    walk_at "RUN"
    rw [show sts (q.pth c) ++ [D.str c] = sts (q.pth c ++ [c]) by simp [sts]]
    exact leave_tup (n := 0) (pure_sts _)
  · intro x hx
    unfold Net.stepK
    walk_at "RUN"
    rw [ev_above_of W k q ((Fo.mem_up N.abv).mp hx).1]
    walk_at "RUN"
    simp [Fo.rk]
theorem pth_last {q : Qn} (N : NQ q) {c : Str} (hc : c ∈ q.cols) (n : Nat) (M : Mem) : (q.pth c = [] ∧ q.par c = none) ∨ ∃ p l, q.pth c = l ++ [p] ∧ q.par c = some p := by
  have h := Fo.pth_last N.abv hc (Nat.le_of_lt (Fo.rk_len N.abv hc))
  rcases List.eq_nil_or_concat (q.pth c) with e | ⟨l, p, e⟩
  · left
    refine ⟨e, ?_⟩
    show Fo.par q.cols q.ab c = none
    rw [← h]
    show (q.pth c).getLast? = none
    rw [e]; rfl
  · right
    rw [List.concat_eq_append] at e
    refine ⟨p, l, e, ?_⟩
    show Fo.par q.cols q.ab c = some p
    rw [← h]
    show (q.pth c).getLast? = some p
    rw [e]; simp
theorem ev_parent_of (W k : Nat) {q : Qn} (N : NQ q) {c : Str} (hc : c ∈ q.cols) (hz : q.cols.length < sizeLine) (M : Mem) : callF tb W (k + 5) 4 [q.d, .str c] M = .ok (oS (q.par c)) M := by
  rw [u_parent_of]
  unfold b_parent_of
  walk_at "RUN"
  rw [ev_path_of W k N hc hz]
  walk_at "RUN"
  rcases pth_last N hc 0 M with ⟨e1, e2⟩ | ⟨p, l, e1, e2⟩
  · rw [e1, e2]
    simp
    walk_at "RUN"
    exact leave_ret0 rfl
  · rw [e1, e2]
    have el : sts (l ++ [p] ++ [c]) = sts l ++ [D.str p, D.str c] := by simp [sts]
    rw [el, ix_m2]
    have hd : decide ((1 : Int) < ((sts l ++ [D.str p, D.str c]).length : Nat)) = true := decide_eq_true (by simp; omega)
    rw [hd]
    walk_at "RUN"
    exact leave_ret0 rfl
theorem ev_children_of (W k : Nat) {q : Qn} (N : NQ q) {c : Str} (hc : c ∈ q.cols) (hz : q.cols.length < sizeLine) (M : Mem) : callF tb W (k + 6) 5 [q.d, .str c] M = .ok (.tup (sts (q.kids c))) M := by
  rw [u_children_of]
  unfold b_children_of
  walk_at "RUN"
  rw [sts, compL_pure (f := fun x : Str => if decide (q.par x = some c) = true then some (.str x) else none)]
  · rw [filterMap_ite]
    walk_at "RUN"
    exact leave_tup (n := 0) (pure_sts _)
  · intro x hx
    unfold stepC
    walk_at "RUN"
    rw [ev_parent_of W k N hx hz]
    walk_at "RUN"
    rw [eq_os (fun y hy => N.ok y (Fo.par_some N.abv hx hy).1) (N.ok c hc)]
    cases decide (q.par x = some c) <;> rfl
theorem ev_roots_of (W k : Nat) {q : Qn} (N : NQ q) (hz : q.cols.length < sizeLine) (M : Mem) : callF tb W (k + 6) 6 [q.d] M = .ok (.tup (sts q.roots)) M := by
  rw [u_roots_of]
  unfold b_roots_of
  walk_at "RUN"
  rw [sts, compL_pure (f := fun x : Str => if decide (q.par x = none) = true then some (.str x) else none)]
  · rw [filterMap_ite]
    walk_at "RUN"
    exact leave_tup (n := 0) (pure_sts _)
  · intro x hx
    unfold stepC
    walk_at "RUN"
    rw [ev_parent_of W k N hx hz]
    walk_at "RUN"
    cases q.par x <;> rfl
end K55
end

section
set_option Elab.async false
set_option linter.all false
set_option maxRecDepth 100000
namespace K55
open PySem L2 Net Fo
local macro_rules | `(tactic| walk_at "RUN") => `(tactic| try simp only [ev_v, ev_non, ev_bl, ev_int, ev_str, ev_tup, ev_new, ev_newM, ev_bin, ev_cmp, ev_ix, ev_call, ev_b1, ev_neg, ev_not, ev_and, ev_or, ev_ite, ev_sl, ev_index, ev_get, ev_setdef, ev_append, ev_extend, ev_insert, evs_nil, evs_cons, evs_star, Net.evP, evI_seq, evI_enum, evI_zip, evC_comp, evC_comp2, evC_lst, evC_dic, evC_list, ex_loop, ex_ret, ex_set, ex_expr, ex_ite, exs_one, exs_cons, exs_nil, go_next, go_ret, rs_ok, rs_of, rs_st,
  List.getElem?_cons_zero, List.getElem?_cons_succ, asg_tp, asgs_nil, asgs_cons, asg_nm, List.length_cons, List.length_nil, List.set_cons_zero, List.set_cons_succ, Nat.zero_lt_succ, Nat.succ_lt_succ_iff, if_true, wipeD, items_tup, items_lst, seq_tup, seq_lst, dict_tup, dict_lst, dict_dic, deps_tup, deps_lst,
  frz_lst, frz_dic, ix_t0, ix_t1, ix_t2, ix_l0, b1_tuple, b1_len, len_tup, len_lst, Option.map_some, Option.map_none, cop_eq, cop_ne, cop_in, cop_ni, cop_is, cop_isn, lt_int, gt_int, le_int, ge_int, leave_ret0, pure_non, pure_bl, pure_int, pure_str, evC_sortedBy, evC_sorted, evC_sortedSet, evC_dict, evI_rng1, evAnd1, evAnd2, evOr1, evOr2, Nat.zero_add, Nat.reduceAdd, sz0, sz1, sz2, sz3, sz4, sz5, sz6, sz8, Option.isSome_some, is_os, bop_add, bop_sub, Bool.not_true, Bool.not_false, Bool.or_true, Bool.or_false, Bool.false_or, Bool.true_or, Bool.and_true, Bool.true_and, Bool.false_and, Bool.and_false, nx_next, nx_cont, ok_ok, iteD_t, iteD_f, isNon_tup, isNon_non, isNon_int, seq_at, items_at, dict_at, Bool.true_eq_false, if_false, slotD, List.map_cons, List.map_nil, cLL_nil, lL_nil, b1_sum_nats, ex_raise, ex_pass, ex_cont, go_exc, go_cont, ex_try, cop_ne_int, lenRows, isNon_oI, oI_pure, ex_par, and_self,  exc_st, exc_bind, try_exc, try_ret, try_next, calm_ret, q_ix0, q_ix1, q_ix2, a_ix2, Function.comp, List.nil_append])
theorem el_atoms_of (W k : Nat) (q : Qn) (c : Str) (M : Mem) : callF tb W (k + 1) 29 [q.d, .str c] M = .ok (.lst (nats (q.of c))) M := by
  rw [u_law_atoms_of]
  unfold b_law_atoms_of
  walk_at "RUN"
  rw [List.zipIdx_map, List.map_map, compL_pure (f := fun p : Atm × Nat => if decide (c ∈ p.1.cs) = true then some (.int p.2) else none)]
  · rw [filterMap_ite]
    walk_at "RUN"
    rw [leave_ret0 (by rw [pure_lst]; exact all_pure_map fun _ _ => rfl)]
    unfold Qn.of nats
    rw [List.map_map]; rfl
  · rintro ⟨a, i⟩ _
    unfold stepC
    dsimp only [Function.comp, Prod.map, id]
    walk_at "RUN"
    rw [in_strs]
    by_cases h : c ∈ a.cs <;> simp [h]
theorem el_is_above (W k : Nat) {q : Qn} (N : NQ q) {x y : Str} (hx : x ∈ q.cols) (hy : y ∈ q.cols) (M : Mem) : callF tb W (k + 2) 30 [q.d, .str x, .str y] M = .ok (.bl (q.ab x y)) M := by
  rw [u_law_is_above]
  unfold b_law_is_above
  walk_at "RUN"
  rw [el_atoms_of W k]
  walk_at "RUN"
  rw [el_atoms_of W k]
  walk_at "RUN"
  rw [eq_str2 (N.ok x hx) (N.ok y hy)]
  rw [← Qn.ab2_eq]
  unfold Qn.ab2
  by_cases e : x = y
  · rw [if_pos (.inl e), decide_eq_true e]
    walk_at "RUN"
    exact leave_ret0 rfl
  · rw [decide_eq_false e]
    walk_at "RUN"
    rw [show nats (q.of y) = (q.of y).map fun n : Nat => D.int (n : Int) from rfl, compL_pure (f := fun i : Nat => if decide (i ∉ q.of x) = true then some (.int i) else none)]
    · rw [filterMap_ite]
      walk_at "RUN"
      rw [show (List.filter (fun i => decide (i ∉ q.of x)) (q.of y)).map (fun n : Nat => D.int (n : Int)) = nats (List.filter (fun i => decide (i ∉ q.of x)) (q.of y)) from rfl, eq_nil_nats]
      by_cases f : (q.of y).filter (fun i => decide (i ∉ q.of x)) = []
      · rw [decide_eq_true f, if_neg (by rintro (h | h); exact e h; exact h f)]
        walk_at "RUN"
        have l1 : (nats (q.of x)).length = (q.of x).length := List.length_map _
        rw [l1, List.length_map]
        by_cases g : (q.of y).length < (q.of x).length
        · rw [decide_eq_true g, decide_eq_true (by omega)]
          walk_at "RUN"
          exact leave_ret0 rfl
        · rw [decide_eq_false g, decide_eq_false (by omega)]
          walk_at "RUN"
          rw [idxR_sts hx]
          walk_at "RUN"
          rw [idxR_sts hy]
          walk_at "RUN"
          rw [leave_ret0 rfl]
          unfold Qn.ix
          congr 2
          rw [decide_eq_decide]
          omega
      · rw [decide_eq_false f, if_pos (.inr f)]
        walk_at "RUN"
        exact leave_ret0 rfl
    · intro i _
      unfold stepC
      walk_at "RUN"
      rw [in_nats_l]
      by_cases h : i ∈ q.of x <;> simp [h]
theorem el_path (W k : Nat) {q : Qn} (N : NQ q) {c : Str} (hc : c ∈ q.cols) (hz : q.cols.length < sizeLine) (M : Mem) : callF tb W (k + 3) 31 [q.d, .str c] M = .ok (.lst (sts (q.pth c ++ [c]))) M := by
  rw [u_law_path]
  unfold b_law_path
  walk_at "RUN"
  rw [sts, compL_pure (f := fun x : Str => if q.ab x c = true then some (.str x) else none)]
  · rw [filterMap_ite]
    walk_at "RUN"
    have up_lt : ∀ x, x ∈ q.up c → x ∈ q.cols := fun x hx => ((Fo.mem_up N.abv).mp hx).1
    have up_len : (q.up c).length < sizeLine := by
      have h2 := Fo.rk_len N.abv hc
      have h3 : (Fo.up q.cols q.ab c).length = Fo.rk q.cols q.ab c := rfl
      show (Fo.up q.cols q.ab c).length < _
      omega
    generalize hL : loopL _ _ _ _ _ _ = L
    have key : ∃ ρ' M', L = .next ρ' M' ∧ ((∃ a b e, ρ' = [some q.d, some (.str c), a, some (.lst (sts (q.up c))), some (.loc M.length), b, none, e]) ∧ M' = M ++ [.lst ((q.up c).map fun x => .tup [.int (q.rk x), .str x])]) := by
      rw [← hL]
      refine loopL_run (enc := D.str) (fun (pre : List Str) ρ' M' => (∃ a b e, ρ' = [some q.d, some (.str c), a, some (.lst (sts (q.up c))), some (.loc M.length), b, none, e]) ∧ M' = M ++ [.lst (pre.map fun x => .tup [.int (q.rk x), .str x])]) (q.up c) ⟨⟨_, _, _, rfl⟩, rfl⟩ ?_
      rintro pre x post ρ M' hp ⟨⟨a, b, e, rfl⟩, rfl⟩
      have hx : x ∈ q.up c := by rw [hp]; simp
      obtain ⟨x1, x2⟩ := (Fo.mem_up N.abv).mp hx
      unfold stepL lb_law_path_1
      walk_at "RUN"
      rw [sts, compL_pure (f := fun y : Str => if q.ab y x = true then some (.str y) else none)]
      · rw [filterMap_ite]
        walk_at "RUN"
        rw [append_at (by rw [List.length_map]; have := congrArg List.length hp; simp at this; omega)]
        walk_at "RUN"
        have e2 : (List.filter (fun y => q.ab y x) (q.up c)).length = q.rk x := by
          show (List.filter (fun y => q.ab y x) (List.filter (fun y => q.ab y c) q.cols)).length = (List.filter (fun y => q.ab y x) q.cols).length
          rw [List.filter_filter]
          congr 1
          apply List.filter_congr
          intro y hy
          cases h : q.ab y x with
          | false => rfl
          | true => rw [N.abv.tr y x c hy x1 hc h x2]; rfl
        refine ⟨still_nil, ⟨_, _, _, rfl⟩, ?_⟩
        rw [List.map_append, List.length_map, e2]
        rfl
      · intro y hy
        unfold stepC
        walk_at "RUN"
        rw [el_is_above W k N ((Fo.mem_up N.abv).mp hy).1 x1]
        walk_at "RUN"
        cases q.ab y x <;> simp
    obtain ⟨ρ', M', rfl, ⟨a, b, e, rfl⟩, rfl⟩ := key
    clear hL
    walk_at "RUN"
    rw [sortD_like (by
      intro d e hd he
      obtain ⟨x, _, rfl⟩ := List.mem_map.mp hd
      obtain ⟨y, _, rfl⟩ := List.mem_map.mp he
      rfl)]
    walk_at "RUN"
    obtain ⟨l, e1, e2, e3⟩ := sort_enc (enc := fun x : Str => D.tup [.int (q.rk x), .str x]) (l := q.up c)
    have e4 : l = q.pth c := Fo.pth_uniq N.abv hc (Nat.le_of_lt (Fo.rk_len N.abv hc)) e2 (e3.imp fun h => Int.ofNat_le.mp (le_key h))
    rw [e1, e4]
    walk_at "RUN"
    rw [compL_pure (f := fun x : Str => some (.str x))]
    · rw [filterMap_some]
      walk_at "RUN"
      rw [bop_lst (by
        have := e2.length_eq
        rw [e4] at this
        rw [List.length_map, this]
        show _ + 1 ≤ _
        omega)]
      walk_at "RUN"
      rw [leave_pure (by rw [pure_lst, show List.map D.str (q.pth c) ++ [D.str c] = sts (q.pth c ++ [c]) by simp [sts]]; exact pure_sts _)]
      simp [sts]
    · intro x hx
      unfold stepC
      walk_at "RUN"
  · intro x hx
    unfold stepC
    walk_at "RUN"
    rw [el_is_above W k N hx hc]
    walk_at "RUN"
    cases q.ab x c <;> simp
theorem lst_par {q : Qn} (N : NQ q) {c : Str} (hc : c ∈ q.cols) {M : Mem} : iteD .bad (.bl (decide ((1 : Int) < ((sts (q.pth c ++ [c])).length : Nat)))) (Rs.of M (ixD M (.lst (sts (q.pth c ++ [c]))) (.int (-2)))) (.ok .non M) = .ok (oS (q.par c)) M := by
  rcases pth_last N hc 0 M with ⟨e1, e2⟩ | ⟨p, l, e1, e2⟩
  · rw [e1, e2]
    rfl
  · rw [e1, e2]
    have el : sts (l ++ [p] ++ [c]) = sts l ++ [D.str p, D.str c] := by simp [sts]
    rw [el, ix_m2l]
    have hd : decide ((1 : Int) < ((sts l ++ [D.str p, D.str c]).length : Nat)) = true := decide_eq_true (by simp; omega)
    rw [hd]
    rfl
theorem el_children (W k : Nat) {q : Qn} (N : NQ q) {p : Option Str} (hp : ∀ x, p = some x → x ∈ q.cols) (hz : q.cols.length < sizeLine) (M : Mem) : callF tb W (k + 4) 32 [q.d, oS p] M = .ok (.lst (sts (q.cols.filter fun c => decide (q.par c = p)))) M := by
  rw [u_law_children]
  unfold b_law_children
  walk_at "RUN"
  generalize hL : loopL _ _ _ _ _ _ = L
  have key : ∃ ρ' M', L = .next ρ' M' ∧ ((∃ a b, ρ' = [some q.d, some (oS p), some (.loc M.length), a, b]) ∧ M' = M ++ [.lst (sts (q.cols.filter fun c => decide (q.par c = p)))]) := by
    rw [← hL]
    refine loopL_run (enc := D.str) (fun (pre : List Str) ρ' M' => (∃ a b, ρ' = [some q.d, some (oS p), some (.loc M.length), a, b]) ∧ M' = M ++ [.lst (sts (pre.filter fun c => decide (q.par c = p)))]) q.cols ⟨⟨_, _, rfl⟩, rfl⟩ ?_
    rintro pre x post ρ M' hp2 ⟨⟨a, b, rfl⟩, rfl⟩
    have hx : x ∈ q.cols := by rw [hp2]; simp
    unfold stepL lb_law_children_1
    walk_at "RUN"
    rw [el_path W k N hx hz]
    walk_at "RUN"
    rw [lst_par N hx]
    walk_at "RUN"
    rw [eq_oss (fun y hy => N.ok y (Fo.par_some N.abv hx hy).1) (fun y hy => N.ok y (hp y hy))]
    cases h : decide (q.par x = p) with
    | true =>
      walk_at "RUN"
      rw [append_at (by
        rw [List.length_map]
        have h1 := List.length_filter_le (fun c => decide (q.par c = p)) pre
        have h2 := congrArg List.length hp2
        simp at h2
        omega)]
      walk_at "RUN"
      refine ⟨still_nil, ⟨_, _, rfl⟩, ?_⟩
      rw [List.filter_append]
      simp [h, sts]
    | false =>
      walk_at "RUN"
      refine ⟨still_nil, ⟨_, _, rfl⟩, ?_⟩
      rw [List.filter_append]
      simp [h]
  obtain ⟨ρ', M', rfl, ⟨a, b, rfl⟩, rfl⟩ := key
  clear hL
  walk_at "RUN"
  exact leave_loc (pure_sts _)
end K55
end

section
set_option Elab.async false
set_option linter.all false
set_option maxRecDepth 100000
namespace K55
open PySem L2 Net Fo
local macro_rules | `(tactic| walk_at "RUN") => `(tactic| try simp only [ev_v, ev_non, ev_bl, ev_int, ev_str, ev_tup, ev_new, ev_newM, ev_bin, ev_cmp, ev_ix, ev_call, ev_b1, ev_neg, ev_not, ev_and, ev_or, ev_ite, ev_sl, ev_index, ev_get, ev_setdef, ev_append, ev_extend, ev_insert, evs_nil, evs_cons, evs_star, Net.evP, evI_seq, evI_enum, evI_zip, evC_comp, evC_comp2, evC_lst, evC_dic, evC_list, ex_loop, ex_ret, ex_set, ex_expr, ex_ite, exs_one, exs_cons, exs_nil, go_next, go_ret, rs_ok, rs_of, rs_st,
  List.getElem?_cons_zero, List.getElem?_cons_succ, asg_tp, asgs_nil, asgs_cons, asg_nm, List.length_cons, List.length_nil, List.set_cons_zero, List.set_cons_succ, Nat.zero_lt_succ, Nat.succ_lt_succ_iff, if_true, wipeD, items_tup, items_lst, seq_tup, seq_lst, dict_tup, dict_lst, dict_dic, deps_tup, deps_lst,
  frz_lst, frz_dic, ix_t0, ix_t1, ix_t2, ix_l0, b1_tuple, b1_len, len_tup, len_lst, Option.map_some, Option.map_none, cop_eq, cop_ne, cop_in, cop_ni, cop_is, cop_isn, lt_int, gt_int, le_int, ge_int, leave_ret0, pure_non, pure_bl, pure_int, pure_str, evC_sortedBy, evC_sorted, evC_sortedSet, evC_dict, evI_rng1, evAnd1, evAnd2, evOr1, evOr2, Nat.zero_add, Nat.reduceAdd, sz0, sz1, sz2, sz3, sz4, sz5, sz6, sz8, Option.isSome_some, is_os, bop_add, bop_sub, Bool.not_true, Bool.not_false, Bool.or_true, Bool.or_false, Bool.false_or, Bool.true_or, Bool.and_true, Bool.true_and, Bool.false_and, Bool.and_false, nx_next, nx_cont, ok_ok, iteD_t, iteD_f, isNon_tup, isNon_non, isNon_int, seq_at, items_at, dict_at, Bool.true_eq_false, if_false, slotD, List.map_cons, List.map_nil, cLL_nil, lL_nil, b1_sum_nats, ex_raise, ex_pass, ex_cont, go_exc, go_cont, ex_try, cop_ne_int, lenRows, isNon_oI, oI_pure, ex_par, and_self,  exc_st, exc_bind, try_exc, try_ret, try_next, calm_ret, q_ix0, q_ix1, q_ix2, a_ix2, Function.comp, List.nil_append])
theorem fuel {k n : Nat} (h : n ≤ k) : ∃ j, k = j + n := ⟨k - n, by omega⟩
theorem line_loop (W : Nat) {q : Qn} (N : NQ q) (hz : q.cols.length < sizeLine) : ∀ (F : Fo Str) (k : Nat) (cd : D) (acc : List Str) (a : Option D) (M : Mem) (base : Nat), F.Fits q.kids → (∀ c, c ∈ F.pre → c ∈ q.cols) → F.depth + 6 ≤ k → acc.length + F.pre.length ≤ sizeLine →
    ∃ b, loopL [] M (stepL (callF tb W k) base W (.nm 3) lb_line_below_1) (sts F.heads) [some q.d, some cd, some (.tup (sts acc)), a] M = .next [some q.d, some cd, some (.tup (sts (acc ++ F.pre))), b] M
  | .nil, k, cd, acc, a, M, base, _, _, _, _ => ⟨a, by simp [Fo.Fo.heads, Fo.Fo.pre, loopL]⟩
  | .cons c kd r, k, cd, acc, a, M, base, hf, hc, hk, hl => by
    obtain ⟨f1, f2, f3⟩ := hf
    have hpre : (Fo.Fo.cons c kd r).pre = c :: (kd.pre ++ r.pre) := rfl
    rw [hpre] at hl hc
    have hd : (Fo.Fo.cons c kd r).depth = max (kd.depth + 1) r.depth := rfl
    rw [hd] at hk
    have hcc : c ∈ q.cols := hc c List.mem_cons_self
    simp only [List.length_cons, List.length_append] at hl
    have hh : sts (Fo.Fo.cons c kd r).heads = .str c :: sts r.heads := rfl
    rw [hh, loopL]
    obtain ⟨j, rfl⟩ := fuel (show 7 ≤ k by omega)
    have hs : stepL (callF tb W (j + 7)) base W (.nm 3) lb_line_below_1 (.str c) [some q.d, some cd, some (.tup (sts acc)), a] M = .next [some q.d, some cd, some (.tup (sts (acc ++ (c :: kd.pre)))), some (.str c)] M := by
      unfold stepL lb_line_below_1
      walk_at "RUN"
      rw [ev_children_of W (j + 1) N hcc hz, f1]
      walk_at "RUN"
      rw [u_line_below]
      unfold b_line_below
      walk_at "RUN"
      obtain ⟨b, e⟩ := line_loop W N hz kd (j + 6) (.tup (sts kd.heads)) [] none M M.length f2 (fun x hx => hc x (List.mem_cons_of_mem _ (List.mem_append.mpr (.inl hx)))) (by omega) (by simp; omega)
      rw [show D.tup [] = .tup (sts []) from rfl, e]
      walk_at "RUN"
      rw [leave_tup (n := 0) (pure_sts _)]
      walk_at "RUN"
      rw [show sts acc ++ D.str c :: (sts kd.pre ++ []) = sts (acc ++ (c :: kd.pre)) by simp [sts]]
      rw [if_pos (by simp; omega)]
      walk_at "RUN"
    rw [hs]
    simp only [if_pos still_refl]
    obtain ⟨b, e⟩ := line_loop W N hz r (j + 7) cd (acc ++ (c :: kd.pre)) (some (.str c)) M base f3 (fun x hx => hc x (List.mem_cons_of_mem _ (List.mem_append.mpr (.inr hx)))) (by omega) (by simp; omega)
    refine ⟨b, ?_⟩
    rw [e, hpre]
    simp
theorem ev_line_below (W k : Nat) {q : Qn} (N : NQ q) (hz : q.cols.length < sizeLine) (F : Fo Str) (hf : F.Fits q.kids) (hc : ∀ c, c ∈ F.pre → c ∈ q.cols) (hk : F.depth + 7 ≤ k) (hl : F.pre.length ≤ sizeLine) (M : Mem) : callF tb W k 7 [q.d, .tup (sts F.heads)] M = .ok (.tup (sts F.pre)) M := by
  obtain ⟨j, rfl⟩ := fuel (show 1 ≤ k by omega)
  rw [u_line_below]
  unfold b_line_below
  walk_at "RUN"
  obtain ⟨b, e⟩ := line_loop W N hz F j (.tup (sts F.heads)) [] none M M.length hf hc (by omega) (by simpa using hl)
  rw [show D.tup [] = .tup (sts []) from rfl, e]
  walk_at "RUN"
  exact leave_tup (n := 0) (pure_sts _)
theorem ev_line_of (W k : Nat) {q : Qn} {F : Fo Str} (Q : QF q F) (hk : 14 ≤ k) (M : Mem) : callF tb W k 8 [q.d] M = .ok (.tup (sts F.pre)) M := by
  obtain ⟨j, rfl⟩ := fuel (show 14 ≤ k by omega)
  rw [u_line_of]
  unfold b_line_of
  walk_at "RUN"
  rw [ev_roots_of W (j + 7) Q.N Q.hz]
  walk_at "RUN"
  rw [← Q.heads, ev_line_below W (j + 13) Q.N Q.hz F Q.fits Q.mem (by have := Q.dep; omega) (by have := Q.psz; rw [Net.sizeLine_eq]; omega)]
  walk_at "RUN"
  exact leave_tup (n := 0) (pure_sts _)
def pls : (F : Fo Str) → Shp F → List Nat
  | .nil, _ => []
  | .cons _ k r, s => (s.1.map fun p => 1 + plc k p.2) ++ pls r s.2
theorem pls_sum : ∀ (F : Fo Str) (s : Shp F), (pls F s).sum = plc F s
  | .nil, _ => rfl
  | .cons c k r, s => by
    show ((s.1.map fun p => 1 + plc k p.2) ++ pls r s.2).sum = _
    rw [List.sum_append, pls_sum r s.2]; rfl
theorem pls_len : ∀ (F : Fo Str) (s : Shp F), (pls F s).length ≤ plc F s
  | .nil, _ => Nat.le_refl _
  | .cons c k r, s => by
    have := pls_len r s.2
    show ((s.1.map fun p => 1 + plc k p.2) ++ pls r s.2).length ≤ (s.1.map fun p => 1 + plc k p.2).sum + plc r s.2
    rw [List.length_append, List.length_map]
    have h : s.1.length ≤ (s.1.map fun p => 1 + plc k p.2).sum := by
      induction s.1 with
      | nil => simp
      | cons a l ih => simp only [List.map_cons, List.sum_cons, List.length_cons]; omega
    omega
theorem plc_sub {c : Str} {k r : Fo Str} {s : Shp (.cons c k r)} {p : Int × Shp k} (hp : p ∈ s.1) : plc k p.2 + 1 ≤ plc (.cons c k r) s := by
  show _ ≤ (s.1.map fun p => 1 + plc k p.2).sum + plc r s.2
  have : ∀ l : List (Int × Shp k), p ∈ l → 1 + plc k p.2 ≤ (l.map fun p => 1 + plc k p.2).sum := by
    intro l
    induction l with
    | nil => intro h; cases h
    | cons a l ih =>
      intro h
      rw [List.map_cons, List.sum_cons]
      rcases List.mem_cons.mp h with rfl | h
      · omega
      · have := ih h; omega
  have := this _ hp
  omega
theorem places_loop (W : Nat) : ∀ (F : Fo Str) (k : Nat) (s : Shp F) (sd : D) (acc : List D) (M : Mem) (base : Nat), F.depth ≤ k → plc F s ≤ sizeLine → acc.length + (pls F s).length ≤ sizeLine →
    compLL [] M (stepC2 (callF tb W k) base (.nm 2) (.bl true) (.tp [.nm 3, .nm 4]) ci_places_many_1 (.bl true) ce_places_many_1 [3, 4] [some sd, none, none, none, none]) (dsh F s) acc M = .ok (acc ++ nats (pls F s)) M
  | .nil, k, s, sd, acc, M, base, _, _, _ => by simp [dsh, pls, nats, compLL]
  | .cons c kd r, k, s, sd, acc, M, base, hk, hz, hl => by
    have hd : (Fo.Fo.cons c kd r).depth = max (kd.depth + 1) r.depth := rfl
    rw [hd] at hk
    have hp : pls (.cons c kd r) s = (s.1.map fun p => 1 + plc kd p.2) ++ pls r s.2 := rfl
    rw [hp, List.length_append, List.length_map] at hl
    obtain ⟨j, rfl⟩ := fuel (show 1 ≤ k by omega)
    have hr : plc r s.2 ≤ plc (.cons c kd r) s := Nat.le_add_left _ _
    rw [dsh_cons, cLL_cons (acc' := acc ++ nats (s.1.map fun p => 1 + plc kd p.2))]
    · rw [places_loop W r (j + 1) s.2 sd _ M base (by omega) (by omega) (by simp [nats]; omega), hp]
      simp [nats]
    · unfold stepC2 ci_places_many_1
      walk_at "RUN"
      rw [compLL_one (f := fun p : Int × Shp kd => .int ((1 + plc kd p.2 : Nat) : Int)) s.1 acc ?_ (by omega)]
      · simp [nats]
      · intro p hp' acc hlt
        unfold stepD plD ce_places_many_1
        walk_at "RUN"
        rw [u_places_many]
        unfold b_places_many
        walk_at "RUN"
        have h1 := plc_sub hp'
        have h2 := pls_len kd p.2
        rw [places_loop W kd j p.2 _ [] M M.length (by omega) (by omega) (by simp; omega)]
        walk_at "RUN"
        rw [pls_sum, leave_ret0 rfl]
        walk_at "RUN"
        rw [if_pos hlt]
        simp
theorem ev_places_many (W k : Nat) (F : Fo Str) (s : Option (Shp F)) (hk : F.depth + 1 ≤ k) (hz : ∀ t, s = some t → plc F t ≤ sizeLine) (M : Mem) : callF tb W k 9 [oSh F s] M = .ok (.int ((match s with | none => 0 | some t => plc F t : Nat) : Int)) M := by
  obtain ⟨j, rfl⟩ := fuel (show 1 ≤ k by omega)
  cases s with
  | none =>
    rw [u_places_many]
    unfold b_places_many oSh
    walk_at "RUN"
    exact leave_ret0 rfl
  | some t =>
    have h1 := hz t rfl
    have h2 := pls_len F t
    rw [u_places_many]
    unfold b_places_many oSh
    walk_at "RUN"
    rw [places_loop W F j t _ [] M M.length (by omega) h1 (by simp; omega)]
    walk_at "RUN"
    rw [pls_sum, leave_ret0 rfl]
end K55
end

section
set_option Elab.async false
set_option linter.all false
set_option maxRecDepth 100000
namespace K55
open PySem L2 Net Fo
local macro_rules | `(tactic| walk_at "RUN") => `(tactic| try simp only [ev_v, ev_non, ev_bl, ev_int, ev_str, ev_tup, ev_new, ev_newM, ev_bin, ev_cmp, ev_ix, ev_call, ev_b1, ev_neg, ev_not, ev_and, ev_or, ev_ite, ev_sl, ev_index, ev_get, ev_setdef, ev_append, ev_extend, ev_insert, evs_nil, evs_cons, evs_star, Net.evP, evI_seq, evI_enum, evI_zip, evC_comp, evC_comp2, evC_lst, evC_dic, evC_list, ex_loop, ex_ret, ex_set, ex_expr, ex_ite, exs_one, exs_cons, exs_nil, go_next, go_ret, rs_ok, rs_of, rs_st,
  List.getElem?_cons_zero, List.getElem?_cons_succ, asg_tp, asgs_nil, asgs_cons, asg_nm, List.length_cons, List.length_nil, List.set_cons_zero, List.set_cons_succ, Nat.zero_lt_succ, Nat.succ_lt_succ_iff, if_true, wipeD, items_tup, items_lst, seq_tup, seq_lst, dict_tup, dict_lst, dict_dic, deps_tup, deps_lst,
  frz_lst, frz_dic, ix_t0, ix_t1, ix_t2, ix_l0, b1_tuple, b1_len, len_tup, len_lst, Option.map_some, Option.map_none, cop_eq, cop_ne, cop_in, cop_ni, cop_is, cop_isn, lt_int, gt_int, le_int, ge_int, leave_ret0, pure_non, pure_bl, pure_int, pure_str, evC_sortedBy, evC_sorted, evC_sortedSet, evC_dict, evI_rng1, evAnd1, evAnd2, evOr1, evOr2, Nat.zero_add, Nat.reduceAdd, sz0, sz1, sz2, sz3, sz4, sz5, sz6, sz8, Option.isSome_some, is_os, bop_add, bop_sub, Bool.not_true, Bool.not_false, Bool.or_true, Bool.or_false, Bool.false_or, Bool.true_or, Bool.and_true, Bool.true_and, Bool.false_and, Bool.and_false, nx_next, nx_cont, ok_ok, iteD_t, iteD_f, isNon_tup, isNon_non, isNon_int, seq_at, items_at, dict_at, Bool.true_eq_false, if_false, slotD, List.map_cons, List.map_nil, cLL_nil, lL_nil, b1_sum_nats, ex_raise, ex_pass, ex_cont, go_exc, go_cont, ex_try, cop_ne_int, lenRows, isNon_oI, oI_pure, ex_par, and_self,  exc_st, exc_bind, try_exc, try_ret, try_next, calm_ret, q_ix0, q_ix1, q_ix2, a_ix2, Function.comp, List.nil_append])
theorem rows_loop (W : Nat) : ∀ (F : Fo Str) (k : Nat) (s : Shp F) (sd : D) (A : List (List Int)) (x3 x4 x5 x6 x7 x8 x9 : Option D) (M : Mem) (base : Nat), F.depth ≤ k → Bd 5 F s → Fo.sz F ≤ 6 → A.length * 5 ^ Fo.sz F ≤ sizeLine → (∀ a, a ∈ A → a.length + Fo.sz F ≤ 100) →
    ∃ y3 y4 y5 y6 y7 y8 y9, loopL [] M (stepL (callF tb W k) base W (.nm 2) lb_rows_in_1) (dsh F s) [some sd, some (.lst (rowsD A)), x3, x4, x5, x6, x7, x8, x9] M = .next [some sd, some (.lst (rowsD (pr A (pts F s)))), y3, y4, y5, y6, y7, y8, y9] M
  | .nil, k, s, sd, A, x3, x4, x5, x6, x7, x8, x9, M, base, _, _, _, _, _ => ⟨x3, x4, x5, x6, x7, x8, x9, by
      show loopL [] M _ [] _ M = _
      rw [lL_nil, show pts Fo.nil s = [[]] from rfl, pr_nilr]⟩
  | .cons c kd r, k, s, sd, A, x3, x4, x5, x6, x7, x8, x9, M, base, hk, hb, hz, hl, ha => by
    have hd : (Fo.Fo.cons c kd r).depth = max (kd.depth + 1) r.depth := rfl
    rw [hd] at hk
    rw [sz_cons] at hz hl ha
    obtain ⟨b1, b2, b3⟩ := hb
    obtain ⟨j, rfl⟩ := fuel (show 1 ≤ k by omega)
    have hbl := brp_len (m := 5) (by decide) b1 b2
    have p5 := pow5 (show Fo.sz kd ≤ 6 by omega)
    have eL : A.length * 5 ^ (Fo.sz kd + Fo.sz r + 1) = A.length * (5 * 5 ^ Fo.sz kd) * 5 ^ Fo.sz r := by
      rw [← pow_two 5 _ _ (by decide), Nat.mul_assoc, Nat.mul_assoc, Nat.mul_assoc]
    rw [eL] at hl
    have hAB : (pr A (brp kd s.1)).length ≤ A.length * (5 * 5 ^ Fo.sz kd) := by
      rw [pr_length]; exact Nat.mul_le_mul_left _ hbl
    have one : 1 ≤ 5 ^ Fo.sz r := Nat.pow_pos (by decide)
    have hAB2 : (pr A (brp kd s.1)).length * 5 ^ Fo.sz r ≤ sizeLine := Nat.le_trans (Nat.mul_le_mul_right _ hAB) hl
    have hAB3 : (pr A (brp kd s.1)).length ≤ sizeLine := Nat.le_trans (Nat.le_mul_of_pos_right _ one) hAB2
    have bl : ∀ l, l ∈ brp kd s.1 → l.length = Fo.sz kd + 1 := fun l h => by
      obtain ⟨p, m, hp, hm, rfl⟩ := mem_brp.mp h
      have := pts_len kd _ _ hm
      simp [Fo.sz, this]
    have hs : stepL (callF tb W (j + 1)) base W (.nm 2) lb_rows_in_1 (.tup (s.1.map (plD kd))) [some sd, some (.lst (rowsD A)), x3, x4, x5, x6, x7, x8, x9] M =
        .next [some sd, some (.lst (rowsD (pr A (brp kd s.1)))), some (.tup (s.1.map (plD kd))), some (.lst (rowsD (brp kd s.1))), x5, x6, x7, x8, x9] M := by
      unfold stepL lb_rows_in_1
      walk_at "RUN"
      rw [compLL_app (f := fun p : Int × Shp kd => (pts kd p.2).map fun l => ptD (p.1 :: l)) s.1 [] ?_ ?_]
      · have e : (s.1.flatMap fun p : Int × Shp kd => (pts kd p.2).map fun l => ptD (p.1 :: l)) = rowsD (brp kd s.1) := by
          unfold rowsD brp
          rw [List.map_flatMap]
          congr 1
          funext p
          rw [List.map_map]; rfl
        rw [List.nil_append, e]
        walk_at "RUN"
        rw [show rowsD A = A.map ptD from rfl, compLL_app (f := fun a : List Int => (brp kd s.1).map fun b => ptD (a ++ b)) A [] ?_ ?_]
        · rw [List.nil_append, rowsD_pr]
          walk_at "RUN"
        · intro a haa acc hacc
          unfold stepC2 ci_rows_in_1 ptD
          walk_at "RUN"
          rw [show rowsD (brp kd s.1) = (brp kd s.1).map ptD from rfl, compLL_one (f := fun b => ptD (a ++ b)) (brp kd s.1) acc ?_ (by simpa using hacc)]
          · rfl
          · intro b hbb acc hlt
            unfold stepD ce_rows_in_1 ptD
            walk_at "RUN"
            have h1 := ha a haa
            have h2 := bl b hbb
            rw [if_pos (by rw [Net.sizeLine_eq]; simp; omega)]
            walk_at "RUN"
            rw [if_pos hlt]
            simp
        · rw [List.length_nil, Nat.zero_add, rowsD_pr, show (rowsD (pr A (brp kd s.1))).length = (pr A (brp kd s.1)).length from List.length_map _]
          exact hAB3
      · intro p hp acc hacc
        unfold stepC2 ci_rows_in_2 plD
        walk_at "RUN"
        rw [u_rows_in]
        unfold b_rows_in
        walk_at "RUN"
        have q5 := pow5 (show Fo.sz kd ≤ 6 by omega)
        obtain ⟨y3, y4, y5, y6, y7, y8, y9, e⟩ := rows_loop W kd j p.2 (.tup (dsh kd p.2)) [[]] none none none none none none none M M.length (by omega) (b2 p hp) (by omega) (by rw [Net.sizeLine_eq]; simp; omega) (by intro a h; rw [List.mem_singleton.mp h]; simp; omega)
        rw [show [D.tup []] = rowsD [[]] from rfl, e]
        walk_at "RUN"
        rw [leave_lst (n := 0) (pure_rows _), pr_one]
        walk_at "RUN"
        rw [show rowsD (pts kd p.2) = (pts kd p.2).map ptD from rfl, compLL_one (f := fun l => ptD (p.1 :: l)) (pts kd p.2) acc ?_ (by simpa using hacc)]
        intro l hl2 acc hlt
        unfold stepD ce_rows_in_2 ptD
        walk_at "RUN"
        have h2 := pts_len kd _ _ hl2
        have h3 : kd.pre.length = Fo.sz kd := rfl
        rw [if_pos (by rw [Net.sizeLine_eq]; simp; omega)]
        walk_at "RUN"
        rw [if_pos hlt]
        simp
      · have e : ((s.1.flatMap fun p : Int × Shp kd => (pts kd p.2).map fun l => ptD (p.1 :: l))).length = (brp kd s.1).length := by
          unfold brp
          rw [List.length_flatMap, List.length_flatMap]
          simp
        rw [List.length_nil, Nat.zero_add, e, Net.sizeLine_eq]
        omega
    rw [dsh_cons, lL_cons hs]
    obtain ⟨y3, y4, y5, y6, y7, y8, y9, e⟩ := rows_loop W r (j + 1) s.2 sd (pr A (brp kd s.1)) _ _ x5 x6 x7 x8 x9 M base (by omega) b3 (by omega) hAB2 (fun a h => by
      obtain ⟨x, y, hx, hy, rfl⟩ := mem_pr.mp h
      have h1 := ha x hx
      have h2 := bl y hy
      rw [List.length_append]
      omega)
    exact ⟨y3, y4, y5, y6, y7, y8, y9, by rw [e, pts_cons, pr_assoc]⟩
theorem ev_rows_in (W k : Nat) (F : Fo Str) (s : Shp F) (hk : F.depth + 1 ≤ k) (hb : Bd 5 F s) (hz : Fo.sz F ≤ 6) (M : Mem) : callF tb W k 12 [.tup (dsh F s)] M = .ok (.lst (rowsD (pts F s))) M := by
  obtain ⟨j, rfl⟩ := fuel (show 1 ≤ k by omega)
  rw [u_rows_in]
  unfold b_rows_in
  walk_at "RUN"
  have q5 := pow5 hz
  obtain ⟨y3, y4, y5, y6, y7, y8, y9, e⟩ := rows_loop W F j s (.tup (dsh F s)) [[]] none none none none none none none M M.length (by omega) hb hz (by rw [Net.sizeLine_eq]; simp; omega) (by intro a h; rw [List.mem_singleton.mp h]; simp; omega)
  rw [show [D.tup []] = rowsD [[]] from rfl, e]
  walk_at "RUN"
  rw [leave_lst (n := 0) (pure_rows _), pr_one]
end K55
end

section
set_option Elab.async false
set_option linter.all false
set_option maxRecDepth 100000
namespace K55
open PySem L2 Net Fo
local macro_rules | `(tactic| walk_at "RUN") => `(tactic| try simp only [ev_v, ev_non, ev_bl, ev_int, ev_str, ev_tup, ev_new, ev_newM, ev_bin, ev_cmp, ev_ix, ev_call, ev_b1, ev_neg, ev_not, ev_and, ev_or, ev_ite, ev_sl, ev_index, ev_get, ev_setdef, ev_append, ev_extend, ev_insert, evs_nil, evs_cons, evs_star, Net.evP, evI_seq, evI_enum, evI_zip, evC_comp, evC_comp2, evC_lst, evC_dic, evC_list, ex_loop, ex_ret, ex_set, ex_expr, ex_ite, exs_one, exs_cons, exs_nil, go_next, go_ret, rs_ok, rs_of, rs_st,
  List.getElem?_cons_zero, List.getElem?_cons_succ, asg_tp, asgs_nil, asgs_cons, asg_nm, List.length_cons, List.length_nil, List.set_cons_zero, List.set_cons_succ, Nat.zero_lt_succ, Nat.succ_lt_succ_iff, if_true, wipeD, items_tup, items_lst, seq_tup, seq_lst, dict_tup, dict_lst, dict_dic, deps_tup, deps_lst,
  frz_lst, frz_dic, ix_t0, ix_t1, ix_t2, ix_l0, b1_tuple, b1_len, len_tup, len_lst, Option.map_some, Option.map_none, cop_eq, cop_ne, cop_in, cop_ni, cop_is, cop_isn, lt_int, gt_int, le_int, ge_int, leave_ret0, pure_non, pure_bl, pure_int, pure_str, evC_sortedBy, evC_sorted, evC_sortedSet, evC_dict, evI_rng1, evAnd1, evAnd2, evOr1, evOr2, Nat.zero_add, Nat.reduceAdd, sz0, sz1, sz2, sz3, sz4, sz5, sz6, sz8, Option.isSome_some, is_os, bop_add, bop_sub, Bool.not_true, Bool.not_false, Bool.or_true, Bool.or_false, Bool.false_or, Bool.true_or, Bool.and_true, Bool.true_and, Bool.false_and, Bool.and_false, nx_next, nx_cont, ok_ok, iteD_t, iteD_f, isNon_tup, isNon_non, isNon_int, seq_at, items_at, dict_at, Bool.true_eq_false, if_false, slotD, List.map_cons, List.map_nil, cLL_nil, lL_nil, b1_sum_nats, ex_raise, ex_pass, ex_cont, go_exc, go_cont, ex_try, cop_ne_int, lenRows, isNon_oI, oI_pure, ex_par, and_self,  exc_st, exc_bind, try_exc, try_ret, try_next, calm_ret, q_ix0, q_ix1, q_ix2, a_ix2, Function.comp, List.nil_append])
theorem num_loop (W : Nat) : ∀ (F : Fo Str) (k : Nat) (s : Shp F) (sd : D) (n : Nat) (x2 x3 x4 x5 : Option D) (M : Mem) (base : Nat), F.depth ≤ k → Bd 5 F s → Fo.sz F ≤ 6 →
    ∃ y2 y3 y4 y5, loopL [] M (stepL (callF tb W k) base W (.nm 2) lb_number_in_1) (dsh F s) [some sd, some (.int (n : Int)), x2, x3, x4, x5] M = .next [some sd, some (.int ((n * num F s : Nat) : Int)), y2, y3, y4, y5] M
  | .nil, k, s, sd, n, x2, x3, x4, x5, M, base, _, _, _ => ⟨x2, x3, x4, x5, by
      show loopL [] M _ [] _ M = _
      rw [lL_nil, show num Fo.nil s = 1 from rfl, Nat.mul_one]⟩
  | .cons c kd r, k, s, sd, n, x2, x3, x4, x5, M, base, hk, hb, hz => by
    have hd : (Fo.Fo.cons c kd r).depth = max (kd.depth + 1) r.depth := rfl
    rw [hd] at hk
    rw [sz_cons] at hz
    obtain ⟨b1, b2, b3⟩ := hb
    obtain ⟨j, rfl⟩ := fuel (show 1 ≤ k by omega)
    have p5 := pow5 (show Fo.sz kd ≤ 6 by omega)
    have sl := sum_le s.1 (fun p => num kd p.2) (5 ^ Fo.sz kd) fun p hp => num_le (by decide) kd p.2 (b2 p hp)
    have sl2 : (s.1.map fun p => num kd p.2).sum ≤ 5 * 15625 := Nat.le_trans sl (Nat.mul_le_mul b1 p5)
    have hs : stepL (callF tb W (j + 1)) base W (.nm 2) lb_number_in_1 (.tup (s.1.map (plD kd))) [some sd, some (.int (n : Int)), x2, x3, x4, x5] M =
        .next [some sd, some (.int ((n * (s.1.map fun p => num kd p.2).sum : Nat) : Int)), some (.tup (s.1.map (plD kd))), x3, x4, x5] M := by
      unfold stepL lb_number_in_1
      walk_at "RUN"
      rw [compL_pure (f := fun p : Int × Shp kd => some (.int ((num kd p.2 : Nat) : Int))) s.1 []]
      · rw [filterMap_some]
        walk_at "RUN"
        rw [show (s.1.map fun p => D.int ((num kd p.2 : Nat) : Int)) = nats (s.1.map fun p => num kd p.2) by unfold nats; rw [List.map_map]; rfl, b1_sum_nats]
        walk_at "RUN"
        have e : bop M .mul (.int (n : Int)) (.int (((s.1.map fun p => num kd p.2).sum : Nat) : Int)) = some (.int ((n * (s.1.map fun p => num kd p.2).sum : Nat) : Int)) := by
          rw [bop_mul (.inr (by rw [Int.natAbs_natCast]; exact Nat.lt_of_le_of_lt sl2 (by decide)))]
          simp
        rw [e]
        walk_at "RUN"
      · intro p hp
        unfold stepC plD ce_number_in_1
        walk_at "RUN"
        rw [u_number_in]
        unfold b_number_in
        walk_at "RUN"
        obtain ⟨y2, y3, y4, y5, e⟩ := num_loop W kd j p.2 (.tup (dsh kd p.2)) 1 none none none none M M.length (by omega) (b2 p hp) (by omega)
        rw [show D.int 1 = D.int ((1 : Nat) : Int) from rfl, e]
        walk_at "RUN"
        rw [leave_ret0 rfl, Nat.one_mul]
        walk_at "RUN"
    rw [dsh_cons, lL_cons hs]
    obtain ⟨y2, y3, y4, y5, e⟩ := num_loop W r (j + 1) s.2 sd (n * (s.1.map fun p => num kd p.2).sum) _ x3 x4 x5 M base (by omega) b3 (by omega)
    exact ⟨y2, y3, y4, y5, by rw [e, Nat.mul_assoc]; rfl⟩
theorem ev_number_in (W k : Nat) (F : Fo Str) (s : Shp F) (hk : F.depth + 1 ≤ k) (hb : Bd 5 F s) (hz : Fo.sz F ≤ 6) (M : Mem) : callF tb W k 10 [.tup (dsh F s)] M = .ok (.int ((num F s : Nat) : Int)) M := by
  obtain ⟨j, rfl⟩ := fuel (show 1 ≤ k by omega)
  rw [u_number_in]
  unfold b_number_in
  walk_at "RUN"
  obtain ⟨y2, y3, y4, y5, e⟩ := num_loop W F j s (.tup (dsh F s)) 1 none none none none M M.length (by omega) hb hz
  rw [show D.int 1 = D.int ((1 : Nat) : Int) from rfl, e]
  walk_at "RUN"
  rw [leave_ret0 rfl, Nat.one_mul]
theorem ev_seats_of (W k : Nat) {q : Qn} {F : Fo Str} (Q : QF q F) (hk : 15 ≤ k) (M : Mem) : callF tb W k 13 [q.d] M = .ok (.lst (nats (pos q F))) M := by
  obtain ⟨j, rfl⟩ := fuel (show 1 ≤ k by omega)
  rw [u_seats_of]
  unfold b_seats_of
  walk_at "RUN"
  rw [ev_line_of W j Q (by omega)]
  walk_at "RUN"
  rw [sts, compL_pure (f := fun c : Str => some (.int ((F.pre.idxOf c : Nat) : Int))) q.cols []]
  · rw [filterMap_some]
    walk_at "RUN"
    rw [show (q.cols.map fun c => D.int ((F.pre.idxOf c : Nat) : Int)) = nats (pos q F) by unfold nats pos; rw [List.map_map]; rfl]
    exact leave_lst (n := 0) (pure_nats _)
  · intro c hc
    unfold stepC
    walk_at "RUN"
    rw [idxR_sts (Q.perm.mem_iff.mpr hc)]
    walk_at "RUN"
theorem ev_off_line (W k : Nat) {q : Qn} {F : Fo Str} (Q : QF q F) {l : List Int} (hl : l.length = F.pre.length) (M : Mem) : callF tb W (k + 1) 14 [.lst (nats (pos q F)), ptD l] M = .ok (ptD (off q F l)) M := by
  rw [u_off_line]
  unfold b_off_line
  walk_at "RUN"
  rw [show nats (pos q F) = (pos q F).map fun n : Nat => D.int (n : Int) from rfl, compL_pure (f := fun i : Nat => some (.int (l.getD i 0))) (pos q F) []]
  · rw [filterMap_some]
    walk_at "RUN"
    rw [show ((pos q F).map fun i => D.int (l.getD i 0)) = (off q F l).map .int by unfold off; rw [List.map_map]; rfl]
    exact leave_ret0 (pure_row _)
  · intro i hi
    unfold stepC ptD
    walk_at "RUN"
    obtain ⟨c, hc, rfl⟩ := List.mem_map.mp hi
    have h1 : F.pre.idxOf c < l.length := by rw [hl]; exact List.idxOf_lt_length_of_mem (Q.perm.mem_iff.mpr hc)
    rw [ix_nat, List.getElem?_map, List.getElem?_eq_getElem h1]
    walk_at "RUN"
    rw [List.getD_eq_getElem?_getD, List.getElem?_eq_getElem h1]
    rfl
theorem ev_points_of (W k : Nat) {q : Qn} {F : Fo Str} (Q : QF q F) (hk : 16 ≤ k) (s : Option (Shp F)) (hb : ∀ t, s = some t → Bd 5 F t) (M : Mem) : callF tb W k 15 [q.d, oSh F s] M = .ok (.tup (rowsD (pnt q F s))) M := by
  obtain ⟨j, rfl⟩ := fuel (show 2 ≤ k by omega)
  have hn : 0 < q.cols.length := List.length_pos_iff.mpr Q.N.ne
  rw [u_points_of]
  unfold b_points_of
  walk_at "RUN"
  rw [ev_seats_of W (j + 1) Q (by omega)]
  cases s with
  | none =>
    unfold oSh
    walk_at "RUN"
    exact leave_tup (n := 0) rfl
  | some t =>
    unfold oSh
    walk_at "RUN"
    rw [ev_rows_in W (j + 1) F t (by have := Q.dep; omega) (hb t rfl) Q.psz]
    walk_at "RUN"
    rw [show rowsD (pts F t) = (pts F t).map ptD from rfl, compL_pure (f := fun l : List Int => some (ptD (off q F l))) (pts F t) []]
    · rw [filterMap_some]
      walk_at "RUN"
      rw [show ((pts F t).map fun l => ptD (off q F l)) = rowsD ((pts F t).map (off q F)) by unfold rowsD; rw [List.map_map]; rfl]
      rw [sortD_pts (n := q.cols.length) hn (fun a ha => by obtain ⟨l, _, rfl⟩ := List.mem_map.mp ha; exact off_len)]
      walk_at "RUN"
      exact leave_tup (n := 0) (pure_rows _)
    · intro l hl
      unfold stepC
      walk_at "RUN"
      rw [ev_off_line W j Q (pts_len F t l hl)]
      walk_at "RUN"
end K55
end

section
set_option Elab.async false
set_option linter.all false
set_option maxRecDepth 100000
namespace K55
open PySem L2 Net Fo
local macro_rules | `(tactic| walk_at "RUN") => `(tactic| try simp only [ev_v, ev_non, ev_bl, ev_int, ev_str, ev_tup, ev_new, ev_newM, ev_bin, ev_cmp, ev_ix, ev_call, ev_b1, ev_neg, ev_not, ev_and, ev_or, ev_ite, ev_sl, ev_index, ev_get, ev_setdef, ev_append, ev_extend, ev_insert, evs_nil, evs_cons, evs_star, Net.evP, evI_seq, evI_enum, evI_zip, evC_comp, evC_comp2, evC_lst, evC_dic, evC_list, ex_loop, ex_ret, ex_set, ex_expr, ex_ite, exs_one, exs_cons, exs_nil, go_next, go_ret, rs_ok, rs_of, rs_st,
  List.getElem?_cons_zero, List.getElem?_cons_succ, asg_tp, asgs_nil, asgs_cons, asg_nm, List.length_cons, List.length_nil, List.set_cons_zero, List.set_cons_succ, Nat.zero_lt_succ, Nat.succ_lt_succ_iff, if_true, wipeD, items_tup, items_lst, seq_tup, seq_lst, dict_tup, dict_lst, dict_dic, deps_tup, deps_lst,
  frz_lst, frz_dic, ix_t0, ix_t1, ix_t2, ix_l0, b1_tuple, b1_len, len_tup, len_lst, Option.map_some, Option.map_none, cop_eq, cop_ne, cop_in, cop_ni, cop_is, cop_isn, lt_int, gt_int, le_int, ge_int, leave_ret0, pure_non, pure_bl, pure_int, pure_str, evC_sortedBy, evC_sorted, evC_sortedSet, evC_dict, evI_rng1, evAnd1, evAnd2, evOr1, evOr2, Nat.zero_add, Nat.reduceAdd, sz0, sz1, sz2, sz3, sz4, sz5, sz6, sz8, Option.isSome_some, is_os, bop_add, bop_sub, Bool.not_true, Bool.not_false, Bool.or_true, Bool.or_false, Bool.false_or, Bool.true_or, Bool.and_true, Bool.true_and, Bool.false_and, Bool.and_false, nx_next, nx_cont, ok_ok, iteD_t, iteD_f, isNon_tup, isNon_non, isNon_int, seq_at, items_at, dict_at, Bool.true_eq_false, if_false, slotD, List.map_cons, List.map_nil, cLL_nil, lL_nil, b1_sum_nats, ex_raise, ex_pass, ex_cont, go_exc, go_cont, ex_try, cop_ne_int, lenRows, isNon_oI, oI_pure, ex_par, and_self,  exc_st, exc_bind, try_exc, try_ret, try_next, calm_ret, q_ix0, q_ix1, q_ix2, a_ix2, Function.comp, List.nil_append])
theorem shaped_loop (W : Nat) {q : Qn} (N : NQ q) (hz : q.cols.length < sizeLine) : ∀ (F : Fo Str) (k : Nat) (R : List (Env Str)) (cd rd : D) (ds : List D) (Z : Mem) (x4 x5 x6 x7 x8 x9 : Option D) (M M0 : Mem), F.Fits q.kids → (∀ c, c ∈ F.pre → c ∈ q.cols) → F.depth + 6 ≤ k → R.length ≤ 60 → ds.length + F.pre.length ≤ 1000 → D.items M rd = some (R.map (envD q.cols)) →
    ∃ y4 y5 y6 y7 y8 y9 Z', loopL [] M0 (stepL (callF tb W k) M.length W (.nm 4) lb_shaped_2) (sts F.heads) [some q.d, some cd, some rd, some (.loc M.length), x4, x5, x6, x7, x8, x9] (M ++ .lst ds :: Z) =
      .next [some q.d, some cd, some rd, some (.loc M.length), y4, y5, y6, y7, y8, y9] (M ++ .lst (ds ++ dsh F (shd F R)) :: Z')
  | .nil, k, R, cd, rd, ds, Z, x4, x5, x6, x7, x8, x9, M, M0, _, _, _, _, _, _ => ⟨x4, x5, x6, x7, x8, x9, Z, by
      show loopL [] M0 _ [] _ _ = _
      rw [lL_nil, show dsh Fo.nil (shd Fo.nil R) = [] from rfl, List.append_nil]⟩
  | .cons c kd r, k, R, cd, rd, ds, Z, x4, x5, x6, x7, x8, x9, M, M0, hf, hc, hk, hR, hl, hrd => by
    obtain ⟨f1, f2, f3⟩ := hf
    have hpre : (Fo.Fo.cons c kd r).pre = c :: (kd.pre ++ r.pre) := rfl
    rw [hpre] at hc hl
    simp only [List.length_cons, List.length_append] at hl
    have hd : (Fo.Fo.cons c kd r).depth = max (kd.depth + 1) r.depth := rfl
    rw [hd] at hk
    have hcc : c ∈ q.cols := hc c List.mem_cons_self
    have hh : sts (Fo.Fo.cons c kd r).heads = .str c :: sts r.heads := rfl
    obtain ⟨j, rfl⟩ := fuel (show 7 ≤ k by omega)
    have hs : ∃ y5 y6 y7 y8 y9 Z', stepL (callF tb W (j + 7)) M.length W (.nm 4) lb_shaped_2 (.str c) [some q.d, some cd, some rd, some (.loc M.length), x4, x5, x6, x7, x8, x9] (M ++ .lst ds :: Z) =
        .next [some q.d, some cd, some rd, some (.loc M.length), some (.str c), y5, y6, y7, y8, y9] (M ++ .lst (ds ++ [.tup ((shd (Fo.cons c kd r) R).1.map (plD kd))]) :: Z') := by
      obtain ⟨M1, hM1⟩ : ∃ M1 : Mem, M1 = M ++ .lst ds :: Z := ⟨_, rfl⟩
      rw [← hM1]
      have hb : M.length ≤ M1.length := by rw [hM1]; simp
      have hrd1 : D.items M1 rd = some (R.map (envD q.cols)) := by rw [hM1]; exact items_app hrd
      have hdp := deps_lt hrd1
      unfold stepL lb_shaped_2
      walk_at "RUN"
      rw [items_app hrd1]
      walk_at "RUN"
      generalize hL : loopL _ _ _ _ _ _ = L
      have key : ∃ ρ' M', L = .next ρ' M' ∧ (∃ a vs n Z', ρ' = [some q.d, some cd, some rd, some (.loc M.length), some (.str c), some (.loc M1.length), a, x7, x8, x9] ∧ Grp q.cols c M1 R M' vs n Z') := by
        rw [← hL]
        refine loopL_run (enc := envD q.cols) (fun (pre : List (Env Str)) ρ' M' => ∃ a vs n Z', ρ' = [some q.d, some cd, some rd, some (.loc M.length), some (.str c), some (.loc M1.length), a, x7, x8, x9] ∧ Grp q.cols c M1 pre M' vs n Z') R ⟨x6, [], fun _ => 0, [], rfl, Grp.nil⟩ ?_
        rintro pre x post ρ M' hp ⟨a, vs, n, Z', rfl, G⟩
        have hpl : pre.length < sizeLine := by
          have := congrArg List.length hp
          rw [List.length_append, List.length_cons] at this
          rw [Net.sizeLine_eq]; omega
        obtain ⟨o, M2, e1, e2, M3, vs', n', Z2, e3, G3⟩ := G.step hb hpl x
        unfold stepL lb_shaped_1
        walk_at "RUN"
        rw [G.mem, dict_mid]
        walk_at "RUN"
        rw [env_get hcc]
        walk_at "RUN"
        rw [← G.mem, show D.key (.int (x c)) = some (.inl (x c)) from rfl, e1]
        walk_at "RUN"
        rw [if_neg (by rw [e2]; exact fun z => by cases z), e3]
        walk_at "RUN"
        refine ⟨?_, _, _, _, _, rfl, G3⟩
        rw [G3.mem]
        exact still_app hdp
      obtain ⟨ρ', M', rfl, a, vs, n, Z', rfl, G⟩ := key
      clear hL
      walk_at "RUN"
      rw [ev_children_of W (j + 1) N hcc hz, f1]
      walk_at "RUN"
      have hlocB : D.seq M' (.loc M.length) = some ds := by rw [G.mem, hM1, List.append_assoc, List.cons_append]; exact seq_mid
      have hseqG : D.seq M' (.loc M1.length) = none := by rw [G.mem]; exact seq_mid_d
      have hdicG : D.dict M' (.loc M1.length) = some (vs.map fun v => (.inl v, .loc (n v))) := by rw [G.mem]; exact dict_mid
      have hvl := G.len
      rw [hlocB, hseqG, hdicG]
      walk_at "RUN"
      rw [keysI]
      walk_at "RUN"
      rw [if_pos (by omega), sort_vals G.nd G.vl]
      walk_at "RUN"
      rw [compL_pure (f := fun v : Int => some (.tup [.int v, .tup (dsh kd (shd kd (R.filter fun e => decide (e c = v))))])) (vals (R.map fun e => e c)) []]
      · rw [filterMap_some]
        walk_at "RUN"
        have eL : M' = M ++ .lst ds :: (Z ++ .dic (vs.map fun v => (.inl v, .loc (n v))) :: Z') := by
          rw [G.mem, hM1, List.append_assoc, List.cons_append]
        rw [eL, append_mid (Nat.le_refl _) (by rw [Net.sizeLine_eq]; omega)]
        walk_at "RUN"
        have e' : ((vals (R.map fun e => e c)).map fun v => D.tup [.int v, .tup (dsh kd (shd kd (R.filter fun e => decide (e c = v))))]) = (shd (Fo.cons c kd r) R).1.map (plD kd) := by
          show _ = List.map (plD kd) ((vals (R.map fun e => e c)).map fun v => (v, shd kd (R.filter fun e => decide (e c = v))))
          rw [List.map_map]
          rfl
        rw [e']
        exact ⟨_, _, _, _, _, _, rfl⟩
      · intro v hv
        have hv2 : v ∈ vs := (G.vl v).mpr (mem_vals.mp hv)
        obtain ⟨g1, g2⟩ := G.at_ v hv2
        unfold stepC ce_shaped_1
        walk_at "RUN"
        have hix : ixD M' (.loc M1.length) (.int v) = some (.loc (n v)) := by
          unfold ixD
          rw [hdicG]
          exact kget_map vs (fun v => .inl v) (fun v => .loc (n v)) (fun a b _ _ h => Sum.inl.inj h) hv2
        rw [hix]
        walk_at "RUN"
        rw [u_shaped]
        unfold b_shaped
        walk_at "RUN"
        have hit : D.items M' (.loc (n v)) = some ((R.filter fun e => decide (e c = v)).map (envD q.cols)) := by
          show D.seq M' (.loc (n v)) = _
          rw [seq_loc, g2]
        obtain ⟨y4, y5, y6, y7, y8, y9, Z3, e⟩ := shaped_loop W N hz kd (j + 6) (R.filter fun e => decide (e c = v)) (.tup (sts kd.heads)) (.loc (n v)) [] [] none none none none none none M' (M' ++ [.lst []]) f2 (fun x hx => hc x (List.mem_cons_of_mem _ (List.mem_append.mpr (.inl hx)))) (by omega) (Nat.le_trans (List.length_filter_le _ _) hR) (by simp; omega) hit
        rw [e]
        walk_at "RUN"
        rw [items_mid]
        walk_at "RUN"
        rw [leave_pure (by rw [pure_tup]; exact dsh_pure _ _)]
        walk_at "RUN"
    obtain ⟨y5, y6, y7, y8, y9, Z', e⟩ := hs
    rw [hh, lL_step e still_nil]
    obtain ⟨z4, z5, z6, z7, z8, z9, Z2, e2⟩ := shaped_loop W N hz r (j + 7) R cd rd (ds ++ [.tup ((shd (Fo.cons c kd r) R).1.map (plD kd))]) Z' (some (.str c)) y5 y6 y7 y8 y9 M M0 f3 (fun x hx => hc x (List.mem_cons_of_mem _ (List.mem_append.mpr (.inr hx)))) (by omega) hR (by simp; omega) hrd
    refine ⟨z4, z5, z6, z7, z8, z9, Z2, ?_⟩
    rw [e2, List.append_assoc]
    rfl
theorem ev_shaped (W k : Nat) {q : Qn} {F : Fo Str} (Q : QF q F) (hk : 13 ≤ k) (R : List (Env Str)) (hR : R.length ≤ 60) (M : Mem) : callF tb W k 11 [q.d, .tup (sts q.roots), .lst (R.map (envD q.cols))] M = .ok (.tup (dsh F (shd F R))) M := by
  obtain ⟨j, rfl⟩ := fuel (show 1 ≤ k by omega)
  rw [u_shaped]
  unfold b_shaped
  walk_at "RUN"
  have hd := Q.dep
  obtain ⟨y4, y5, y6, y7, y8, y9, Z3, e⟩ := shaped_loop W Q.N Q.hz F j R (.tup (sts q.roots)) (.lst (R.map (envD q.cols))) [] [] none none none none none none M (M ++ [.lst []]) Q.fits Q.mem (by omega) hR (by have := Q.psz; simp; omega) rfl
  rw [Q.heads] at e
  rw [e]
  walk_at "RUN"
  rw [items_mid]
  walk_at "RUN"
  rw [leave_pure (by rw [pure_tup]; exact dsh_pure _ _)]
end K55
end

section
set_option Elab.async false
set_option linter.all false
set_option maxRecDepth 100000
namespace K55
open PySem L2 Net Fo
local macro_rules | `(tactic| walk_at "RUN") => `(tactic| try simp only [ev_v, ev_non, ev_bl, ev_int, ev_str, ev_tup, ev_new, ev_newM, ev_bin, ev_cmp, ev_ix, ev_call, ev_b1, ev_neg, ev_not, ev_and, ev_or, ev_ite, ev_sl, ev_index, ev_get, ev_setdef, ev_append, ev_extend, ev_insert, evs_nil, evs_cons, evs_star, Net.evP, evI_seq, evI_enum, evI_zip, evC_comp, evC_comp2, evC_lst, evC_dic, evC_list, ex_loop, ex_ret, ex_set, ex_expr, ex_ite, exs_one, exs_cons, exs_nil, go_next, go_ret, rs_ok, rs_of, rs_st,
  List.getElem?_cons_zero, List.getElem?_cons_succ, asg_tp, asgs_nil, asgs_cons, asg_nm, List.length_cons, List.length_nil, List.set_cons_zero, List.set_cons_succ, Nat.zero_lt_succ, Nat.succ_lt_succ_iff, if_true, wipeD, items_tup, items_lst, seq_tup, seq_lst, dict_tup, dict_lst, dict_dic, deps_tup, deps_lst,
  frz_lst, frz_dic, ix_t0, ix_t1, ix_t2, ix_l0, b1_tuple, b1_len, len_tup, len_lst, Option.map_some, Option.map_none, cop_eq, cop_ne, cop_in, cop_ni, cop_is, cop_isn, lt_int, gt_int, le_int, ge_int, leave_ret0, pure_non, pure_bl, pure_int, pure_str, evC_sortedBy, evC_sorted, evC_sortedSet, evC_dict, evI_rng1, evAnd1, evAnd2, evOr1, evOr2, Nat.zero_add, Nat.reduceAdd, sz0, sz1, sz2, sz3, sz4, sz5, sz6, sz8, Option.isSome_some, is_os, bop_add, bop_sub, Bool.not_true, Bool.not_false, Bool.or_true, Bool.or_false, Bool.false_or, Bool.true_or, Bool.and_true, Bool.true_and, Bool.false_and, Bool.and_false, nx_next, nx_cont, ok_ok, iteD_t, iteD_f, isNon_tup, isNon_non, isNon_int, seq_at, items_at, dict_at, Bool.true_eq_false, if_false, slotD, List.map_cons, List.map_nil, cLL_nil, lL_nil, b1_sum_nats, ex_raise, ex_pass, ex_cont, go_exc, go_cont, ex_try, cop_ne_int, lenRows, isNon_oI, oI_pure, ex_par, and_self,  exc_st, exc_bind, try_exc, try_ret, try_next, calm_ret, q_ix0, q_ix1, q_ix2, a_ix2, Function.comp, List.nil_append])
theorem ev_shape_of (W k : Nat) {q : Qn} {F : Fo Str} (Q : QF q F) (hk : 14 ≤ k) (P : List (List Int)) (hP : ∀ p, p ∈ P → p.length = q.cols.length) (hl : P.length ≤ 60) (hb : P ≠ [] → Bd 5 F (shd F (P.map (envp q.cols)))) (M : Mem) :
    callF tb W k 16 [q.d, .tup (rowsD P)] M = if P = [] then .ok .non M else if num F (shd F (P.map (envp q.cols))) = P.length then .ok (.tup (dsh F (shd F (P.map (envp q.cols))))) M else .exc 0 [] M := by
  obtain ⟨j, rfl⟩ := fuel (show 1 ≤ k by omega)
  rw [u_shape_of]
  unfold b_shape_of
  walk_at "RUN"
  rw [eq_rows_nil]
  by_cases h : P = []
  · rw [decide_eq_true h, if_pos h]
    walk_at "RUN"
    exact leave_ret0 rfl
  · rw [decide_eq_false h, if_neg h]
    walk_at "RUN"
    obtain ⟨j', rfl⟩ := fuel (show 6 ≤ j by omega)
    rw [ev_roots_of W j' Q.N Q.hz]
    walk_at "RUN"
    rw [show rowsD P = P.map ptD from rfl, compL_pure (f := fun p : List Int => some (envD q.cols (envp q.cols p))) P []]
    · rw [filterMap_some]
      walk_at "RUN"
      have hd := Q.dep
      rw [show (P.map fun p => envD q.cols (envp q.cols p)) = (P.map (envp q.cols)).map (envD q.cols) by rw [List.map_map]; rfl, ev_shaped W (j' + 6) Q (by omega) _ (by rw [List.length_map]; exact hl)]
      walk_at "RUN"
      rw [ev_number_in W (j' + 6) F _ (by omega) (hb h) Q.psz]
      walk_at "RUN"
      rw [List.length_map]
      by_cases hn : num F (shd F (P.map (envp q.cols))) = P.length
      · rw [if_pos hn, decide_eq_true (by rw [hn])]
        walk_at "RUN"
        exact leave_tup (n := 0) (dsh_pure _ _)
      · rw [if_neg hn, decide_eq_false (by omega)]
        walk_at "RUN"
        exact leave_exc
    · intro p hp
      unfold stepC ptD
      walk_at "RUN"
      obtain ⟨ps, e1, e2⟩ := dict_point Q.N.nd (hP p hp)
      rw [e1]
      walk_at "RUN"
      rw [e2]
theorem has_loop (W : Nat) {q : Qn} (N : NQ q) (hz : q.cols.length < sizeLine) (e : Env Str) : ∀ (F : Fo Str) (s : Shp F) (k : Nat) (cd sd : D) (x4 x5 x6 : Option D) (M : Mem) (base : Nat), F.Fits q.kids → (∀ c, c ∈ F.pre → c ∈ q.cols) → F.depth + 6 ≤ k → Wf F s →
    ∃ y4 y5 y6, loopL [] M (stepL (callF tb W k) base W (.tp [.nm 4, .nm 5]) lb_has_items_1) (((sts F.heads).zip (dsh F s)).map fun p => .tup [p.1, p.2]) [some q.d, some cd, some sd, some (envD q.cols e), x4, x5, x6] M =
      if hasI F s e = true then .next [some q.d, some cd, some sd, some (envD q.cols e), y4, y5, y6] M else .ret (.bl false) M
  | .nil, s, k, cd, sd, x4, x5, x6, M, base, _, _, _, _ => ⟨x4, x5, x6, by
      show loopL [] M _ [] _ _ = _
      rw [lL_nil]; rfl⟩
  | .cons c kd r, s, k, cd, sd, x4, x5, x6, M, base, hf, hc, hk, wf => by
    obtain ⟨f1, f2, f3⟩ := hf
    have hpre : (Fo.Fo.cons c kd r).pre = c :: (kd.pre ++ r.pre) := rfl
    rw [hpre] at hc
    have hd : (Fo.Fo.cons c kd r).depth = max (kd.depth + 1) r.depth := rfl
    rw [hd] at hk
    obtain ⟨w1, w2, w3, w4⟩ := wf
    have hcc : c ∈ q.cols := hc c List.mem_cons_self
    obtain ⟨j, rfl⟩ := fuel (show 7 ≤ k by omega)
    have hI := hasI_cons (c := c) (k := kd) (r := r) (s := s) (e := e)
    have hl : ((sts (Fo.Fo.cons c kd r).heads).zip (dsh (.cons c kd r) s)).map (fun p => D.tup [p.1, p.2]) = .tup [.str c, .tup (s.1.map (plD kd))] :: ((sts r.heads).zip (dsh r s.2)).map fun p => .tup [p.1, p.2] := rfl
    rw [hl]
    have hkv : pairsD (s.1.map (plD kd)) = some (s.1.map fun p => ((.inl p.1, .tup (dsh kd p.2)) : Key × D)) := pairsD_map s.1 (fun p => .int p.1) (fun p => .inl p.1) (fun p => .tup (dsh kd p.2)) fun p _ => rfl
    have hmg : mergeD [] (s.1.map fun p => ((.inl p.1, .tup (dsh kd p.2)) : Key × D)) = s.1.map fun p => (.inl p.1, .tup (dsh kd p.2)) := by
      rw [mergeD_nd]
      · rfl
      · rw [List.nil_append, List.map_map]
        have := pw_ne w2
        rw [show s.1.map ((fun x : Key × D => x.1) ∘ fun p : Int × Shp kd => ((.inl p.1, .tup (dsh kd p.2)) : Key × D)) = (s.1.map (·.1)).map Sum.inl by rw [List.map_map]; rfl]
        exact List.Pairwise.map _ (fun a b h z => h (Sum.inl.inj z)) this
    have hget : ∀ p, p ∈ s.1 → p.1 = e c → kget (s.1.map fun p => ((.inl p.1, .tup (dsh kd p.2)) : Key × D)) (.inl (e c)) = some (.tup (dsh kd p.2)) := fun p hp he => by
      rw [← he]
      exact kget_map s.1 (fun p => .inl p.1) (fun p => .tup (dsh kd p.2)) (fun a b ha hb h => br_key w2 ha hb (Sum.inl.inj h)) hp
    cases z : s.1.find? fun p => decide (p.1 = e c) with
    | none =>
      rw [z] at hI
      refine ⟨none, none, none, ?_⟩
      rw [hI, loopL]
      have hs : stepL (callF tb W (j + 7)) base W (.tp [.nm 4, .nm 5]) lb_has_items_1 (.tup [.str c, .tup (s.1.map (plD kd))]) [some q.d, some cd, some sd, some (envD q.cols e), x4, x5, x6] M = .ret (.bl false) M := by
        unfold stepL lb_has_items_1
        walk_at "RUN"
        rw [hkv]
        walk_at "RUN"
        rw [hmg, env_get hcc]
        walk_at "RUN"
        rw [show D.key (.int (e c)) = some (.inl (e c)) from rfl]
        walk_at "RUN"
        rw [kget_none s.1 (fun p => .inl p.1) (fun p => .tup (dsh kd p.2)) (fun p hp h => by
          have := List.find?_eq_none.mp z p hp
          simp [Sum.inl.inj h] at this)]
        walk_at "RUN"
        rw [show (none : Option D).getD .non = .non from rfl]
        walk_at "RUN"
      rw [hs]
      rfl
    | some p =>
      rw [z] at hI
      have hp := List.mem_of_find?_eq_some z
      have hv : p.1 = e c := of_decide_eq_true (List.find?_some (p := fun p : Int × Shp kd => decide (p.1 = e c)) z)
      have hs : stepL (callF tb W (j + 7)) base W (.tp [.nm 4, .nm 5]) lb_has_items_1 (.tup [.str c, .tup (s.1.map (plD kd))]) [some q.d, some cd, some sd, some (envD q.cols e), x4, x5, x6] M = if hasI kd p.2 e = true then .next [some q.d, some cd, some sd, some (envD q.cols e), some (.str c), some (.tup (s.1.map (plD kd))), some (.tup (dsh kd p.2))] M else .ret (.bl false) M := by
        unfold stepL lb_has_items_1
        walk_at "RUN"
        rw [hkv]
        walk_at "RUN"
        rw [hmg, env_get hcc]
        walk_at "RUN"
        rw [show D.key (.int (e c)) = some (.inl (e c)) from rfl]
        walk_at "RUN"
        rw [hget p hp hv]
        walk_at "RUN"
        rw [show (some (D.tup (dsh kd p.2))).getD .non = .tup (dsh kd p.2) from rfl]
        walk_at "RUN"
        rw [ev_children_of W (j + 1) N hcc hz, f1]
        walk_at "RUN"
        rw [u_has_items]
        unfold b_has_items
        walk_at "RUN"
        obtain ⟨y4, y5, y6, e1⟩ := has_loop W N hz e kd p.2 (j + 6) (.tup (sts kd.heads)) (.tup (dsh kd p.2)) none none none M M.length f2 (fun x hx => hc x (List.mem_cons_of_mem _ (List.mem_append.mpr (.inl hx)))) (by omega) (w3 p hp)
        rw [e1]
        by_cases h : hasI kd p.2 e = true
        · rw [if_pos h, if_pos h]
          walk_at "RUN"
          rw [leave_ret0 rfl]
          walk_at "RUN"
        · rw [if_neg h, if_neg h]
          walk_at "RUN"
          rw [leave_ret0 rfl]
          walk_at "RUN"
      by_cases h : hasI kd p.2 e = true
      · rw [if_pos h] at hs
        obtain ⟨y4, y5, y6, e1⟩ := has_loop W N hz e r s.2 (j + 7) cd sd (some (.str c)) (some (.tup (s.1.map (plD kd)))) (some (.tup (dsh kd p.2))) M base f3 (fun x hx => hc x (List.mem_cons_of_mem _ (List.mem_append.mpr (.inr hx)))) (by omega) w4
        refine ⟨y4, y5, y6, ?_⟩
        rw [lL_cons hs, e1, hI, Option.any_some, h, Bool.true_and]
      · rw [if_neg h] at hs
        refine ⟨none, none, none, ?_⟩
        rw [hI, loopL, hs]
        dsimp only
        have : hasI kd p.2 e = false := by cases q : hasI kd p.2 e <;> simp_all
        rw [Option.any_some, this]; rfl
theorem ev_is_in (W k : Nat) {q : Qn} {F : Fo Str} (Q : QF q F) (hk : 14 ≤ k) (s : Option (Shp F)) (hw : ∀ t, s = some t → Wf F t) {p : List Int} (hp : p.length = q.cols.length) (M : Mem) :
    callF tb W k 18 [q.d, oSh F s, ptD p] M = .ok (.bl (match s with | none => false | some t => hasI F t (envp q.cols p))) M := by
  obtain ⟨j, rfl⟩ := fuel (show 7 ≤ k by omega)
  rw [u_is_in]
  unfold b_is_in
  cases s with
  | none =>
    unfold oSh
    walk_at "RUN"
    exact leave_ret0 rfl
  | some t =>
    unfold oSh ptD
    walk_at "RUN"
    rw [ev_roots_of W j Q.N Q.hz]
    walk_at "RUN"
    obtain ⟨ps, e1, e2⟩ := dict_point Q.N.nd hp
    rw [e1]
    walk_at "RUN"
    rw [e2]
    have hd := Q.dep
    rw [u_has_items]
    unfold b_has_items
    walk_at "RUN"
    obtain ⟨y4, y5, y6, e3⟩ := has_loop W Q.N Q.hz (envp q.cols p) F t (j + 5) (.tup (sts q.roots)) (.tup (dsh F t)) none none none M M.length Q.fits Q.mem (by omega) (hw t rfl)
    rw [Q.heads] at e3
    rw [e3]
    by_cases h : hasI F t (envp q.cols p) = true
    · rw [if_pos h, h]
      walk_at "RUN"
      rw [leave_ret0 rfl]
      walk_at "RUN"
      exact leave_ret0 rfl
    · have : hasI F t (envp q.cols p) = false := by cases q : hasI F t (envp q.cols p) <;> simp_all
      rw [if_neg h, this]
      walk_at "RUN"
      rw [leave_ret0 rfl]
      walk_at "RUN"
      exact leave_ret0 rfl
end K55
end

section
set_option Elab.async false
set_option linter.all false
set_option maxRecDepth 100000
namespace K55
open PySem L2 Net Fo
local macro_rules | `(tactic| walk_at "RUN") => `(tactic| try simp only [ev_v, ev_non, ev_bl, ev_int, ev_str, ev_tup, ev_new, ev_newM, ev_bin, ev_cmp, ev_ix, ev_call, ev_b1, ev_neg, ev_not, ev_and, ev_or, ev_ite, ev_sl, ev_index, ev_get, ev_setdef, ev_append, ev_extend, ev_insert, evs_nil, evs_cons, evs_star, Net.evP, evI_seq, evI_enum, evI_zip, evC_comp, evC_comp2, evC_lst, evC_dic, evC_list, ex_loop, ex_ret, ex_set, ex_expr, ex_ite, exs_one, exs_cons, exs_nil, go_next, go_ret, rs_ok, rs_of, rs_st,
  List.getElem?_cons_zero, List.getElem?_cons_succ, asg_tp, asgs_nil, asgs_cons, asg_nm, List.length_cons, List.length_nil, List.set_cons_zero, List.set_cons_succ, Nat.zero_lt_succ, Nat.succ_lt_succ_iff, if_true, wipeD, items_tup, items_lst, seq_tup, seq_lst, dict_tup, dict_lst, dict_dic, deps_tup, deps_lst,
  frz_lst, frz_dic, ix_t0, ix_t1, ix_t2, ix_l0, b1_tuple, b1_len, len_tup, len_lst, Option.map_some, Option.map_none, cop_eq, cop_ne, cop_in, cop_ni, cop_is, cop_isn, lt_int, gt_int, le_int, ge_int, leave_ret0, pure_non, pure_bl, pure_int, pure_str, evC_sortedBy, evC_sorted, evC_sortedSet, evC_dict, evI_rng1, evAnd1, evAnd2, evOr1, evOr2, Nat.zero_add, Nat.reduceAdd, sz0, sz1, sz2, sz3, sz4, sz5, sz6, sz8, Option.isSome_some, is_os, bop_add, bop_sub, Bool.not_true, Bool.not_false, Bool.or_true, Bool.or_false, Bool.false_or, Bool.true_or, Bool.and_true, Bool.true_and, Bool.false_and, Bool.and_false, nx_next, nx_cont, ok_ok, iteD_t, iteD_f, isNon_tup, isNon_non, isNon_int, seq_at, items_at, dict_at, Bool.true_eq_false, if_false, slotD, List.map_cons, List.map_nil, cLL_nil, lL_nil, b1_sum_nats, ex_raise, ex_pass, ex_cont, go_exc, go_cont, ex_try, cop_ne_int, lenRows, isNon_oI, oI_pure, ex_par, and_self,  exc_st, exc_bind, try_exc, try_ret, try_next, calm_ret, q_ix0, q_ix1, q_ix2, a_ix2, Function.comp, List.nil_append])
theorem el_range_of (W k : Nat) {q : Qn} (N : NQ q) (R : RQ q) {c : Str} (hc : c ∈ q.cols) (M : Mem) : callF tb W (k + 1) 33 [q.d, .str c] M = .ok (.tup [oI (q.rg c).1, oI (q.rg c).2]) M := by
  rw [u_law_range_of]
  unfold b_law_range_of
  walk_at "RUN"
  rw [compL_pure (f := fun r : Rng => if decide (r.c = c) = true then some (.tup [oI r.lo, oI r.hi]) else none) q.rgs []]
  · rw [filterMap_ite]
    walk_at "RUN"
    have h1 : D.plL ((q.rgs.filter fun r => decide (r.c = c)).map fun r => D.tup [oI r.lo, oI r.hi]) = true := plL_iff.mpr fun d hd => by
      obtain ⟨r, _, rfl⟩ := List.mem_map.mp hd
      exact pl_tup.mpr fun d hd => by
        rcases List.mem_cons.mp hd with rfl | hd
        · exact oI_pl
        · rw [List.mem_singleton.mp hd]; exact oI_pl
    have h2 : D.dp (.lst ((q.rgs.filter fun r => decide (r.c = c)).map fun r => D.tup [oI r.lo, oI r.hi])) ≤ 0 + 1 + 1 := dp_lst fun d hd => by
      obtain ⟨r, _, rfl⟩ := List.mem_map.mp hd
      exact dp_tup fun d hd => by
        rcases List.mem_cons.mp hd with rfl | hd
        · exact oI_dp
        · rw [List.mem_singleton.mp hd]; exact oI_dp
    rw [eq_nil h1 (by omega)]
    unfold Qn.rg
    cases z : q.rgs.filter fun r => decide (r.c = c) with
    | nil =>
      walk_at "RUN"
      simp
      walk_at "RUN"
      rw [leave_ret0 rfl]
      rfl
    | cons r l =>
      walk_at "RUN"
      simp
      walk_at "RUN"
      exact leave_ret0 (by rw [pure_tup]; simp [oI_pure])
  · intro r hr
    unfold stepC Rng.d
    walk_at "RUN"
    rw [eq_str2 (N.ok _ (R.col r hr)) (N.ok _ hc)]
    by_cases h : r.c = c
    · simp [h]
      walk_at "RUN"
    · simp [h]
theorem el_is_in_range (W k : Nat) {q : Qn} (N : NQ q) (R : RQ q) {c : Str} (hc : c ∈ q.cols) (v : Int) (M : Mem) : callF tb W (k + 2) 34 [q.d, .str c, .int v] M = .ok (.bl (inB (q.rg c) v)) M := by
  rw [u_law_is_in_range]
  unfold b_law_is_in_range
  walk_at "RUN"
  rw [el_range_of W k N R hc]
  walk_at "RUN"
  unfold inB
  cases h1 : (q.rg c).1 with
  | none =>
    cases h2 : (q.rg c).2 with
    | none =>
      unfold oI
      walk_at "RUN"
      exact leave_ret0 rfl
    | some hi =>
      unfold oI
      walk_at "RUN"
      exact leave_ret0 rfl
  | some lo =>
    unfold oI
    walk_at "RUN"
    by_cases h : lo ≤ v
    · rw [decide_eq_true h]
      cases h2 : (q.rg c).2 with
      | none =>
        walk_at "RUN"
        exact leave_ret0 rfl
      | some hi =>
        walk_at "RUN"
        exact leave_ret0 rfl
    · rw [decide_eq_false h]
      cases h2 : (q.rg c).2 with
      | none =>
        walk_at "RUN"
        exact leave_ret0 rfl
      | some hi =>
        walk_at "RUN"
        exact leave_ret0 rfl
/-- the sums of the branches -/
def brs : (F : Fo Str) → Shp F → List Nat
  | .nil, _ => []
  | .cons _ k r, s => (s.1.map fun p => 1 + plc k p.2).sum :: brs r s.2
theorem brs_sum : ∀ (F : Fo Str) (s : Shp F), (brs F s).sum = plc F s
  | .nil, _ => rfl
  | .cons c k r, s => by
    show ((s.1.map fun p => 1 + plc k p.2).sum :: brs r s.2).sum = _
    rw [List.sum_cons, brs_sum r s.2]; rfl
theorem lplaces_loop (W : Nat) : ∀ (F : Fo Str) (k : Nat) (s : Shp F) (sd : D) (acc : List D) (M : Mem) (base : Nat), F.depth ≤ k →
    compL [] M (stepC (callF tb W k) base (.nm 2) (.bl true) ce_law_places_2 [some sd, none, none, none, none]) (dsh F s) acc M = .ok (acc ++ nats (brs F s)) M
  | .nil, k, s, sd, acc, M, base, _ => by simp [dsh, brs, nats, compL]
  | .cons c kd r, k, s, sd, acc, M, base, hk => by
    have hd : (Fo.Fo.cons c kd r).depth = max (kd.depth + 1) r.depth := rfl
    rw [hd] at hk
    obtain ⟨j, rfl⟩ := fuel (show 1 ≤ k by omega)
    have hs : stepC (callF tb W (j + 1)) base (.nm 2) (.bl true) ce_law_places_2 [some sd, none, none, none, none] (.tup (s.1.map (plD kd))) M = .ok (some (.int (((s.1.map fun p => 1 + plc kd p.2).sum : Nat) : Int))) M := by
      unfold stepC ce_law_places_2
      walk_at "RUN"
      rw [compL_pure (f := fun p : Int × Shp kd => some (.int ((1 + plc kd p.2 : Nat) : Int))) s.1 []]
      · rw [filterMap_some]
        walk_at "RUN"
        rw [show (s.1.map fun p => D.int ((1 + plc kd p.2 : Nat) : Int)) = nats (s.1.map fun p => 1 + plc kd p.2) by unfold nats; rw [List.map_map]; rfl, b1_sum_nats]
        walk_at "RUN"
      · intro p hp
        unfold stepC plD ce_law_places_1
        walk_at "RUN"
        rw [u_law_places]
        unfold b_law_places
        walk_at "RUN"
        rw [lplaces_loop W kd j p.2 _ [] M M.length (by omega)]
        walk_at "RUN"
        rw [brs_sum, leave_ret0 rfl]
        walk_at "RUN"
        simp
    rw [dsh_cons, compL, hs]
    simp only [if_pos still_refl]
    rw [lplaces_loop W r (j + 1) s.2 sd _ M base (by omega)]
    show Rs.ok _ M = Rs.ok (acc ++ nats ((s.1.map fun p => 1 + plc kd p.2).sum :: brs r s.2)) M
    simp [nats]
theorem el_places (W k : Nat) (F : Fo Str) (s : Option (Shp F)) (hk : F.depth + 1 ≤ k) (M : Mem) : callF tb W k 35 [oSh F s] M = .ok (.int ((match s with | none => 0 | some t => plc F t : Nat) : Int)) M := by
  obtain ⟨j, rfl⟩ := fuel (show 1 ≤ k by omega)
  cases s with
  | none =>
    rw [u_law_places]
    unfold b_law_places oSh
    walk_at "RUN"
    exact leave_ret0 rfl
  | some t =>
    rw [u_law_places]
    unfold b_law_places oSh
    walk_at "RUN"
    rw [lplaces_loop W F j t _ [] M M.length (by omega)]
    walk_at "RUN"
    rw [brs_sum, leave_ret0 rfl]
theorem lline_loop (W : Nat) {q : Qn} (N : NQ q) (hz : q.cols.length < sizeLine) : ∀ (F : Fo Str) (k : Nat) (cd : D) (acc : List Str) (a : Option D) (M M0 : Mem), F.Fits q.kids → (∀ c, c ∈ F.pre → c ∈ q.cols) → F.depth + 4 ≤ k → acc.length + F.pre.length ≤ sizeLine →
    ∃ b, loopL [] M0 (stepL (callF tb W k) M.length W (.nm 3) lb_law_line_of_1) (sts F.heads) [some q.d, some cd, some (.loc M.length), a] (M ++ [.lst (sts acc)]) = .next [some q.d, some cd, some (.loc M.length), b] (M ++ [.lst (sts (acc ++ F.pre))])
  | .nil, k, cd, acc, a, M, M0, _, _, _, _ => ⟨a, by
      show loopL [] M0 _ [] _ _ = _
      rw [lL_nil, show (Fo.Fo.nil : Fo Str).pre = [] from rfl, List.append_nil]⟩
  | .cons c kd r, k, cd, acc, a, M, M0, hf, hc, hk, hl => by
    obtain ⟨f1, f2, f3⟩ := hf
    have hpre : (Fo.Fo.cons c kd r).pre = c :: (kd.pre ++ r.pre) := rfl
    rw [hpre] at hl hc
    have hd : (Fo.Fo.cons c kd r).depth = max (kd.depth + 1) r.depth := rfl
    rw [hd] at hk
    have hcc : c ∈ q.cols := hc c List.mem_cons_self
    simp only [List.length_cons, List.length_append] at hl
    have hh : sts (Fo.Fo.cons c kd r).heads = .str c :: sts r.heads := rfl
    obtain ⟨j, rfl⟩ := fuel (show 5 ≤ k by omega)
    have hs : stepL (callF tb W (j + 5)) M.length W (.nm 3) lb_law_line_of_1 (.str c) [some q.d, some cd, some (.loc M.length), a] (M ++ [.lst (sts acc)]) = .next [some q.d, some cd, some (.loc M.length), some (.str c)] (M ++ [.lst (sts (acc ++ (c :: kd.pre)))]) := by
      unfold stepL lb_law_line_of_1
      walk_at "RUN"
      rw [show D.str c = oS (some c) from rfl, el_children W (j + 1) N (p := some c) (fun x hx => by cases hx; exact hcc) hz, show (q.cols.filter fun x => decide (q.par x = some c)) = kd.heads from f1]
      walk_at "RUN"
      rw [u_law_line_of]
      unfold b_law_line_of
      walk_at "RUN"
      obtain ⟨b, e⟩ := lline_loop W N hz kd (j + 4) (.lst (sts kd.heads)) [] none (M ++ [.lst (sts acc)]) ((M ++ [.lst (sts acc)]) ++ [.lst (sts [])]) f2 (fun x hx => hc x (List.mem_cons_of_mem _ (List.mem_append.mpr (.inl hx)))) (by omega) (by simp; omega)
      rw [show Cell.lst [] = .lst (sts []) from rfl, e]
      walk_at "RUN"
      rw [leave_loc (pure_sts _)]
      walk_at "RUN"
      rw [show oS (some c) = D.str c from rfl, bop_lst (by simp; omega)]
      walk_at "RUN"
      rw [extend_at (by simp; omega)]
      walk_at "RUN"
      rw [show sts acc ++ ([D.str c] ++ sts kd.pre) = sts (acc ++ (c :: kd.pre)) by simp [sts]]
    rw [hh, lL_step hs still_nil]
    obtain ⟨b, e⟩ := lline_loop W N hz r (j + 5) cd (acc ++ (c :: kd.pre)) (some (.str c)) M M0 f3 (fun x hx => hc x (List.mem_cons_of_mem _ (List.mem_append.mpr (.inr hx)))) (by omega) (by simp; omega)
    refine ⟨b, ?_⟩
    rw [e, hpre]
    simp
theorem el_line_of (W k : Nat) {q : Qn} {F : Fo Str} (Q : QF q F) (hk : 12 ≤ k) (M : Mem) : callF tb W k 36 [q.d, .lst (sts q.roots)] M = .ok (.lst (sts F.pre)) M := by
  obtain ⟨j, rfl⟩ := fuel (show 1 ≤ k by omega)
  rw [u_law_line_of]
  unfold b_law_line_of
  walk_at "RUN"
  have hd := Q.dep
  have hp := Q.psz
  obtain ⟨b, e⟩ := lline_loop W Q.N Q.hz F j (.lst (sts q.roots)) [] none M (M ++ [.lst []]) Q.fits Q.mem (by omega) (by rw [Net.sizeLine_eq]; simp; omega)
  rw [Q.heads] at e
  rw [show Cell.lst [] = .lst (sts []) from rfl] at e ⊢
  rw [e]
  walk_at "RUN"
  exact leave_loc (pure_sts _)
theorem el_roots (W k : Nat) {q : Qn} (N : NQ q) (hz : q.cols.length < sizeLine) (M : Mem) : callF tb W (k + 4) 32 [q.d, .non] M = .ok (.lst (sts q.roots)) M := el_children W k N (p := none) (fun x hx => by cases hx) hz M
end K55
end

section
set_option Elab.async false
set_option linter.all false
set_option maxRecDepth 100000
namespace K55
open PySem L2 Net Fo
local macro_rules | `(tactic| walk_at "RUN") => `(tactic| try simp only [ev_v, ev_non, ev_bl, ev_int, ev_str, ev_tup, ev_new, ev_newM, ev_bin, ev_cmp, ev_ix, ev_call, ev_b1, ev_neg, ev_not, ev_and, ev_or, ev_ite, ev_sl, ev_index, ev_get, ev_setdef, ev_append, ev_extend, ev_insert, evs_nil, evs_cons, evs_star, Net.evP, evI_seq, evI_enum, evI_zip, evC_comp, evC_comp2, evC_lst, evC_dic, evC_list, ex_loop, ex_ret, ex_set, ex_expr, ex_ite, exs_one, exs_cons, exs_nil, go_next, go_ret, rs_ok, rs_of, rs_st,
  List.getElem?_cons_zero, List.getElem?_cons_succ, asg_tp, asgs_nil, asgs_cons, asg_nm, List.length_cons, List.length_nil, List.set_cons_zero, List.set_cons_succ, Nat.zero_lt_succ, Nat.succ_lt_succ_iff, if_true, wipeD, items_tup, items_lst, seq_tup, seq_lst, dict_tup, dict_lst, dict_dic, deps_tup, deps_lst,
  frz_lst, frz_dic, ix_t0, ix_t1, ix_t2, ix_l0, b1_tuple, b1_len, len_tup, len_lst, Option.map_some, Option.map_none, cop_eq, cop_ne, cop_in, cop_ni, cop_is, cop_isn, lt_int, gt_int, le_int, ge_int, leave_ret0, pure_non, pure_bl, pure_int, pure_str, evC_sortedBy, evC_sorted, evC_sortedSet, evC_dict, evI_rng1, evAnd1, evAnd2, evOr1, evOr2, Nat.zero_add, Nat.reduceAdd, sz0, sz1, sz2, sz3, sz4, sz5, sz6, sz8, Option.isSome_some, is_os, bop_add, bop_sub, Bool.not_true, Bool.not_false, Bool.or_true, Bool.or_false, Bool.false_or, Bool.true_or, Bool.and_true, Bool.true_and, Bool.false_and, Bool.and_false, nx_next, nx_cont, ok_ok, iteD_t, iteD_f, isNon_tup, isNon_non, isNon_int, seq_at, items_at, dict_at, Bool.true_eq_false, if_false, slotD, List.map_cons, List.map_nil, cLL_nil, lL_nil, b1_sum_nats, ex_raise, ex_pass, ex_cont, go_exc, go_cont, ex_try, cop_ne_int, lenRows, isNon_oI, oI_pure, ex_par, and_self,  exc_st, exc_bind, try_exc, try_ret, try_next, calm_ret, q_ix0, q_ix1, q_ix2, a_ix2, Function.comp, List.nil_append])
theorem spread_loop (W : Nat) : ∀ (F : Fo Str) (k : Nat) (s : Shp F) (sd fd : D) (A : List (List Int)) (Z : Mem) (x2 x3 x4 x5 x6 x7 x8 x9 x10 : Option D) (M M0 : Mem), F.depth ≤ k → Bd 5 F s → Fo.sz F ≤ 6 → A.length * 5 ^ Fo.sz F ≤ sizeLine → (∀ a, a ∈ A → a.length + Fo.sz F ≤ 100) → Own M.length (M ++ Z) fd (rowsD A) →
    ∃ fd' y2 y3 y4 y5 y6 y7 y8 y9 y10 Z', loopL [] M0 (stepL (callF tb W k) M.length W (.nm 2) lb_law_spread_3) (dsh F s) [some sd, some fd, x2, x3, x4, x5, x6, x7, x8, x9, x10] (M ++ Z) = .next [some sd, some fd', y2, y3, y4, y5, y6, y7, y8, y9, y10] (M ++ Z') ∧ Own M.length (M ++ Z') fd' (rowsD (pr A (pts F s)))
  | .nil, k, s, sd, fd, A, Z, x2, x3, x4, x5, x6, x7, x8, x9, x10, M, M0, _, _, _, _, _, o => ⟨fd, x2, x3, x4, x5, x6, x7, x8, x9, x10, Z, by
      show loopL [] M0 _ [] _ _ = _
      rw [lL_nil], by rw [show pts Fo.nil s = [[]] from rfl, pr_nilr]; exact o⟩
  | .cons c kd r, k, s, sd, fd, A, Z, x2, x3, x4, x5, x6, x7, x8, x9, x10, M, M0, hk, hb, hz, hl, ha, o => by
    have hd : (Fo.Fo.cons c kd r).depth = max (kd.depth + 1) r.depth := rfl
    rw [hd] at hk
    rw [sz_cons] at hz hl ha
    obtain ⟨b1, b2, b3⟩ := hb
    obtain ⟨j, rfl⟩ := fuel (show 1 ≤ k by omega)
    have hbl := brp_len (m := 5) (by decide) b1 b2
    have p5 := pow5 (show Fo.sz kd ≤ 6 by omega)
    have eL : A.length * 5 ^ (Fo.sz kd + Fo.sz r + 1) = A.length * (5 * 5 ^ Fo.sz kd) * 5 ^ Fo.sz r := by
      rw [← pow_two 5 _ _ (by decide), Nat.mul_assoc, Nat.mul_assoc, Nat.mul_assoc]
    rw [eL] at hl
    have hAB : (pr A (brp kd s.1)).length ≤ A.length * (5 * 5 ^ Fo.sz kd) := by
      rw [pr_length]; exact Nat.mul_le_mul_left _ hbl
    have one : 1 ≤ 5 ^ Fo.sz r := Nat.pow_pos (by decide)
    have hAB2 : (pr A (brp kd s.1)).length * 5 ^ Fo.sz r ≤ sizeLine := Nat.le_trans (Nat.mul_le_mul_right _ hAB) hl
    have hAB3 : (pr A (brp kd s.1)).length ≤ sizeLine := Nat.le_trans (Nat.le_mul_of_pos_right _ one) hAB2
    have bl : ∀ l, l ∈ brp kd s.1 → l.length = Fo.sz kd + 1 := fun l h => by
      obtain ⟨p, m, hp, hm, rfl⟩ := mem_brp.mp h
      have := pts_len kd _ _ hm
      simp [Fo.sz, this]
    have hs : ∃ y3 y5 y6 y7 y8 y9 y10 Z' fd', stepL (callF tb W (j + 1)) M.length W (.nm 2) lb_law_spread_3 (.tup (s.1.map (plD kd))) [some sd, some fd, x2, x3, x4, x5, x6, x7, x8, x9, x10] (M ++ Z) =
        .next [some sd, some fd', some (.tup (s.1.map (plD kd))), y3, some fd', y5, y6, y7, y8, y9, y10] (M ++ Z') ∧ Own M.length (M ++ Z') fd' (rowsD (pr A (brp kd s.1))) := by
      obtain ⟨M1, hM1⟩ : ∃ M1 : Mem, M1 = M ++ Z := ⟨_, rfl⟩
      have hb1 : M.length ≤ M1.length := by rw [hM1]; simp
      rw [← hM1] at o ⊢
      unfold stepL lb_law_spread_3
      walk_at "RUN"
      rw [mid_len, mid_app]
      generalize hL : loopL _ _ _ _ _ _ = L
      have key : ∃ ρ' M', L = .next ρ' M' ∧ ((∃ y5 y6 y8 y9, ρ' = [some sd, some fd, some (.tup (s.1.map (plD kd))), some (.loc M1.length), some (.loc (M1.length + 1)), y5, y6, x7, y8, y9, x10]) ∧ M' = M1 ++ .lst (rowsD (brp kd s.1)) :: .lst [] :: []) := by
        rw [← hL]
        refine loopL_run (enc := plD kd) (fun (pre : List (Int × Shp kd)) ρ' M' => (∃ y5 y6 y8 y9, ρ' = [some sd, some fd, some (.tup (s.1.map (plD kd))), some (.loc M1.length), some (.loc (M1.length + 1)), y5, y6, x7, y8, y9, x10]) ∧ M' = M1 ++ .lst (rowsD (brp kd pre)) :: .lst [] :: []) s.1 ⟨⟨_, _, _, _, rfl⟩, rfl⟩ ?_
        rintro pre p post ρ M' hp ⟨⟨y5, y6, y8, y9, rfl⟩, rfl⟩
        have hpm : p ∈ s.1 := by rw [hp]; simp
        have hlen : (brp kd pre).length + (pts kd p.2).length ≤ 5 * 5 ^ Fo.sz kd := by
          have e : brp kd s.1 = brp kd pre ++ ((pts kd p.2).map fun l => p.1 :: l) ++ brp kd post := by
            rw [hp]; unfold brp; simp
          have := congrArg List.length e
          simp only [List.length_append, List.length_map] at this
          omega
        unfold stepL lb_law_spread_2 plD
        walk_at "RUN"
        rw [seq_mid]
        walk_at "RUN"
        rw [u_law_spread]
        unfold b_law_spread
        walk_at "RUN"
        have q5 := pow5 (show Fo.sz kd ≤ 6 by omega)
        obtain ⟨fd2, z2, z3, z4, z5, z6, z7, z8, z9, z10, Z2, e, o2⟩ := spread_loop W kd j p.2 (.tup (dsh kd p.2)) (.lst (rowsD [[]])) [[]] [] none none none none none none none none none (M1 ++ .lst (rowsD (brp kd pre)) :: .lst [] :: []) (M1 ++ .lst (rowsD (brp kd pre)) :: .lst [] :: []) (by omega) (b2 p hpm) (by omega) (by rw [Net.sizeLine_eq]; simp; omega) (by intro a h; rw [List.mem_singleton.mp h]; simp; omega) ⟨rfl, fun m z => by cases z⟩
        rw [List.append_nil] at e
        rw [show [D.tup []] = rowsD [[]] from rfl, e]
        walk_at "RUN"
        rw [o2.leave (pure_rows _), pr_one]
        walk_at "RUN"
        rw [show rowsD (pts kd p.2) = (pts kd p.2).map ptD from rfl, compL_pure (f := fun l : List Int => some (ptD (p.1 :: l))) (pts kd p.2) []]
        · rw [filterMap_some]
          walk_at "RUN"
          rw [extend_mid hb1 (by rw [lenRows, List.length_map, Net.sizeLine_eq]; omega)]
          walk_at "RUN"
          refine ⟨still_nil, ⟨_, _, _, _, rfl⟩, ?_⟩
          congr 2
          unfold brp rowsD
          simp
        · intro l hl2
          unfold stepC ce_law_spread_2 ptD
          walk_at "RUN"
          have h2 := pts_len kd _ _ hl2
          have h3 : kd.pre.length = Fo.sz kd := rfl
          rw [bop_tup (by rw [Net.sizeLine_eq]; simp; omega)]
          walk_at "RUN"
          simp
      obtain ⟨ρ', M', rfl, ⟨y5, y6, y8, y9, rfl⟩, rfl⟩ := key
      clear hL
      walk_at "RUN"
      have oi : D.items (M1 ++ .lst (rowsD (brp kd s.1)) :: .lst [] :: []) fd = some (rowsD A) := items_app o.items
      have od := deps_lt o.items
      rw [oi]
      walk_at "RUN"
      generalize hL : loopL _ _ _ _ _ _ = L
      have key : ∃ ρ' M', L = .next ρ' M' ∧ ((∃ y7 y8 y10, ρ' = [some sd, some fd, some (.tup (s.1.map (plD kd))), some (.loc M1.length), some (.loc (M1.length + 1)), y5, y6, y7, y8, y9, y10]) ∧ M' = M1 ++ .lst (rowsD (brp kd s.1)) :: .lst (rowsD (pr A (brp kd s.1))) :: []) := by
        rw [← hL]
        refine loopL_run (enc := ptD) (fun (pre : List (List Int)) ρ' M' => (∃ y7 y8 y10, ρ' = [some sd, some fd, some (.tup (s.1.map (plD kd))), some (.loc M1.length), some (.loc (M1.length + 1)), y5, y6, y7, y8, y9, y10]) ∧ M' = M1 ++ .lst (rowsD (brp kd s.1)) :: .lst (rowsD (pr pre (brp kd s.1))) :: []) A ⟨⟨_, _, _, rfl⟩, rfl⟩ ?_
        rintro pre a post ρ M' hp ⟨⟨y7, y8, y10, rfl⟩, rfl⟩
        have ham : a ∈ A := by rw [hp]; simp
        have hlen : (pr pre (brp kd s.1)).length + (brp kd s.1).length ≤ sizeLine := by
          have e : pr A (brp kd s.1) = pr pre (brp kd s.1) ++ ((brp kd s.1).map fun l => a ++ l) ++ pr post (brp kd s.1) := by
            rw [hp]; unfold pr; simp
          have := congrArg List.length e
          simp only [List.length_append, List.length_map] at this
          omega
        unfold stepL lb_law_spread_1 ptD
        walk_at "RUN"
        rw [seq_mid2]
        walk_at "RUN"
        rw [items_mid]
        walk_at "RUN"
        rw [show rowsD (brp kd s.1) = (brp kd s.1).map ptD from rfl, compL_pure (f := fun l : List Int => some (ptD (a ++ l))) (brp kd s.1) []]
        · rw [filterMap_some]
          walk_at "RUN"
          rw [extend_mid2 hb1 (by rw [lenRows, List.length_map]; exact hlen)]
          walk_at "RUN"
          refine ⟨?_, ⟨_, _, _, rfl⟩, ?_⟩
          · exact still_app od
          · congr 3
            unfold pr rowsD
            simp
        · intro l hl2
          unfold stepC ce_law_spread_1 ptD
          walk_at "RUN"
          have h1 := ha a ham
          have h2 := bl l hl2
          rw [bop_tup (by rw [Net.sizeLine_eq]; simp; omega)]
          walk_at "RUN"
          simp
      obtain ⟨ρ', M', rfl, ⟨y7, y8, y10, rfl⟩, rfl⟩ := key
      clear hL
      walk_at "RUN"
      refine ⟨some (.loc M1.length), y5, y6, y7, y8, y9, y10, Z ++ .lst (rowsD (brp kd s.1)) :: .lst (rowsD (pr A (brp kd s.1))) :: [], .loc (M1.length + 1), ?_, ?_, ?_⟩
      rotate_left
      · rw [← List.append_assoc, ← hM1]; exact seq_mid2
      · intro m hm; cases hm; omega
      · rw [hM1, List.append_assoc]
    obtain ⟨y3, y5, y6, y7, y8, y9, y10, Z', fd', e, o'⟩ := hs
    rw [dsh_cons, lL_step e still_nil]
    obtain ⟨fd2, z2, z3, z4, z5, z6, z7, z8, z9, z10, Z2, e2, o2⟩ := spread_loop W r (j + 1) s.2 sd fd' (pr A (brp kd s.1)) Z' (some (.tup (s.1.map (plD kd)))) y3 (some fd') y5 y6 y7 y8 y9 y10 M M0 (by omega) b3 (by omega) hAB2 (fun a h => by
      obtain ⟨x, y, hx, hy, rfl⟩ := mem_pr.mp h
      have h1 := ha x hx
      have h2 := bl y hy
      rw [List.length_append]
      omega) o'
    refine ⟨fd2, z2, z3, z4, z5, z6, z7, z8, z9, z10, Z2, e2, ?_⟩
    rw [pts_cons, ← pr_assoc]
    exact o2
theorem el_spread (W k : Nat) (F : Fo Str) (s : Option (Shp F)) (hk : F.depth + 1 ≤ k) (hb : ∀ t, s = some t → Bd 5 F t) (hz : Fo.sz F ≤ 6) (M : Mem) : callF tb W k 37 [oSh F s] M = .ok (.lst (rowsD (sprd F s))) M := by
  obtain ⟨j, rfl⟩ := fuel (show 1 ≤ k by omega)
  rw [u_law_spread]
  unfold b_law_spread
  cases s with
  | none =>
    unfold oSh
    walk_at "RUN"
    exact leave_ret0 rfl
  | some t =>
    unfold oSh
    walk_at "RUN"
    have q5 := pow5 hz
    obtain ⟨fd2, z2, z3, z4, z5, z6, z7, z8, z9, z10, Z2, e, o2⟩ := spread_loop W F j t (.tup (dsh F t)) (.lst (rowsD [[]])) [[]] [] none none none none none none none none none M M (by omega) (hb t rfl) hz (by rw [Net.sizeLine_eq]; simp; omega) (by intro a h; rw [List.mem_singleton.mp h]; simp; omega) ⟨rfl, fun m z => by cases z⟩
    rw [List.append_nil] at e
    rw [show [D.tup []] = rowsD [[]] from rfl, e]
    walk_at "RUN"
    rw [o2.leave (pure_rows _), pr_one]
    rfl
theorem el_points (W k : Nat) {q : Qn} {F : Fo Str} (Q : QF q F) (hk : 13 ≤ k) (s : Option (Shp F)) (hb : ∀ t, s = some t → Bd 5 F t) (M : Mem) : callF tb W k 38 [q.d, oSh F s] M = .ok (.lst (rowsD (pnt q F s))) M := by
  obtain ⟨j, rfl⟩ := fuel (show 5 ≤ k by omega)
  have hn : 0 < q.cols.length := List.length_pos_iff.mpr Q.N.ne
  have hd := Q.dep
  rw [u_law_points]
  unfold b_law_points
  walk_at "RUN"
  rw [el_roots W j Q.N Q.hz]
  walk_at "RUN"
  rw [el_line_of W (j + 4) Q (by omega)]
  walk_at "RUN"
  rw [show sts q.cols = q.cols.map D.str from rfl, compL_pure (f := fun c : Str => some (.int ((F.pre.idxOf c : Nat) : Int))) q.cols []]
  · rw [filterMap_some]
    walk_at "RUN"
    rw [show (q.cols.map fun c => D.int ((F.pre.idxOf c : Nat) : Int)) = nats (pos q F) by unfold nats pos; rw [List.map_map]; rfl]
    rw [el_spread W (j + 4) F s (by omega) hb Q.psz]
    walk_at "RUN"
    have hpl := sprd_len (F := F) (s := s)
    rw [pnt_eq]
    generalize sprd F s = A at *
    rw [show rowsD A = A.map ptD from rfl, compL_pure (f := fun l : List Int => some (ptD (off q F l))) A []]
    · rw [filterMap_some]
      walk_at "RUN"
      rw [show (A.map fun l => ptD (off q F l)) = rowsD (A.map (off q F)) by unfold rowsD; rw [List.map_map]; rfl]
      rw [sortD_pts (n := q.cols.length) hn (fun a ha => by obtain ⟨l, _, rfl⟩ := List.mem_map.mp ha; exact off_len)]
      walk_at "RUN"
      exact leave_lst (n := 0) (pure_rows _)
    · intro l hl
      unfold stepC
      walk_at "RUN"
      rw [show nats (pos q F) = (pos q F).map fun n : Nat => D.int (n : Int) from rfl, compL_pure (f := fun i : Nat => some (.int (l.getD i 0))) (pos q F) []]
      · rw [filterMap_some]
        walk_at "RUN"
        rw [show ((pos q F).map fun i => D.int (l.getD i 0)) = (off q F l).map .int by unfold off; rw [List.map_map]; rfl]
        rfl
      · intro i hi
        unfold stepC ptD
        walk_at "RUN"
        obtain ⟨c, hc, rfl⟩ := List.mem_map.mp hi
        have h1 : F.pre.idxOf c < l.length := by rw [hpl l hl]; exact List.idxOf_lt_length_of_mem (Q.perm.mem_iff.mpr hc)
        rw [ix_nat, List.getElem?_map, List.getElem?_eq_getElem h1]
        walk_at "RUN"
        rw [List.getD_eq_getElem?_getD, List.getElem?_eq_getElem h1]
        rfl
  · intro c hc
    unfold stepC
    walk_at "RUN"
    rw [idxR_sts (Q.perm.mem_iff.mpr hc)]
    walk_at "RUN"
end K55
end

section
set_option Elab.async false
set_option linter.all false
set_option maxRecDepth 100000
namespace K55
open PySem L2 Net Fo
local macro_rules | `(tactic| walk_at "RUN") => `(tactic| try simp only [ev_v, ev_non, ev_bl, ev_int, ev_str, ev_tup, ev_new, ev_newM, ev_bin, ev_cmp, ev_ix, ev_call, ev_b1, ev_neg, ev_not, ev_and, ev_or, ev_ite, ev_sl, ev_index, ev_get, ev_setdef, ev_append, ev_extend, ev_insert, evs_nil, evs_cons, evs_star, Net.evP, evI_seq, evI_enum, evI_zip, evC_comp, evC_comp2, evC_lst, evC_dic, evC_list, ex_loop, ex_ret, ex_set, ex_expr, ex_ite, exs_one, exs_cons, exs_nil, go_next, go_ret, rs_ok, rs_of, rs_st,
  List.getElem?_cons_zero, List.getElem?_cons_succ, asg_tp, asgs_nil, asgs_cons, asg_nm, List.length_cons, List.length_nil, List.set_cons_zero, List.set_cons_succ, Nat.zero_lt_succ, Nat.succ_lt_succ_iff, if_true, wipeD, items_tup, items_lst, seq_tup, seq_lst, dict_tup, dict_lst, dict_dic, deps_tup, deps_lst,
  frz_lst, frz_dic, ix_t0, ix_t1, ix_t2, ix_l0, b1_tuple, b1_len, len_tup, len_lst, Option.map_some, Option.map_none, cop_eq, cop_ne, cop_in, cop_ni, cop_is, cop_isn, lt_int, gt_int, le_int, ge_int, leave_ret0, pure_non, pure_bl, pure_int, pure_str, evC_sortedBy, evC_sorted, evC_sortedSet, evC_dict, evI_rng1, evAnd1, evAnd2, evOr1, evOr2, Nat.zero_add, Nat.reduceAdd, sz0, sz1, sz2, sz3, sz4, sz5, sz6, sz8, Option.isSome_some, is_os, bop_add, bop_sub, Bool.not_true, Bool.not_false, Bool.or_true, Bool.or_false, Bool.false_or, Bool.true_or, Bool.and_true, Bool.true_and, Bool.false_and, Bool.and_false, nx_next, nx_cont, ok_ok, iteD_t, iteD_f, isNon_tup, isNon_non, isNon_int, seq_at, items_at, dict_at, Bool.true_eq_false, if_false, slotD, List.map_cons, List.map_nil, cLL_nil, lL_nil, b1_sum_nats, ex_raise, ex_pass, ex_cont, go_exc, go_cont, ex_try, cop_ne_int, lenRows, isNon_oI, oI_pure, ex_par, and_self,  exc_st, exc_bind, try_exc, try_ret, try_next, calm_ret, q_ix0, q_ix1, q_ix2, a_ix2, Function.comp, List.nil_append])
mutual
theorem lshaped_loop (W : Nat) {q : Qn} (N : NQ q) (hz : q.cols.length < sizeLine) (F : Fo Str) (k : Nat) (R : List (Env Str)) (cd : D) (pf : List D) (ds : List D) (Z : Mem) (x5 x6 x7 x8 x9 x10 : Option D) (M M0 : Mem) (hf : F.Fits q.kids) (hc : ∀ c, c ∈ F.pre → c ∈ q.cols) (hk : F.depth + 5 ≤ k) (hR : R.length ≤ 60) (hl : ds.length + F.pre.length ≤ 1000) (hpf : pf.length + F.depth ≤ 1000) :
    ∃ y5 y6 y7 y8 y9 y10 Z', loopL [] M0 (stepL (callF tb W k) M.length W (.nm 5) lb_law_shaped_2) (sts F.heads) [some q.d, some cd, some (.tup pf), some (.lst (R.map (envD q.cols))), some (.loc M.length), x5, x6, x7, x8, x9, x10] (M ++ .lst ds :: Z) =
      .next [some q.d, some cd, some (.tup pf), some (.lst (R.map (envD q.cols))), some (.loc M.length), y5, y6, y7, y8, y9, y10] (M ++ .lst (ds ++ dsh F (shd F R)) :: Z') := by
  match F with
  | .nil => exact ⟨x5, x6, x7, x8, x9, x10, Z, by
      show loopL [] M0 _ [] _ _ = _
      rw [lL_nil, show dsh Fo.nil (shd Fo.nil R) = [] from rfl, List.append_nil]⟩
  | .cons c kd r =>
    obtain ⟨f1, f2, f3⟩ := hf
    have hpre : (Fo.Fo.cons c kd r).pre = c :: (kd.pre ++ r.pre) := rfl
    rw [hpre] at hc hl
    simp only [List.length_cons, List.length_append] at hl
    have hd : (Fo.Fo.cons c kd r).depth = max (kd.depth + 1) r.depth := rfl
    rw [hd] at hk hpf
    have hcc : c ∈ q.cols := hc c List.mem_cons_self
    have hh : sts (Fo.Fo.cons c kd r).heads = .str c :: sts r.heads := rfl
    obtain ⟨j, rfl⟩ := fuel (show 6 ≤ k by omega)
    have hs : ∃ y6 y7 y8 y9 y10 Z', stepL (callF tb W (j + 6)) M.length W (.nm 5) lb_law_shaped_2 (.str c) [some q.d, some cd, some (.tup pf), some (.lst (R.map (envD q.cols))), some (.loc M.length), x5, x6, x7, x8, x9, x10] (M ++ .lst ds :: Z) =
        .next [some q.d, some cd, some (.tup pf), some (.lst (R.map (envD q.cols))), some (.loc M.length), some (.str c), y6, y7, y8, y9, y10] (M ++ .lst (ds ++ [.tup ((shd (Fo.cons c kd r) R).1.map (plD kd))]) :: Z') := by
      obtain ⟨M1, hM1⟩ : ∃ M1 : Mem, M1 = M ++ .lst ds :: Z := ⟨_, rfl⟩
      rw [← hM1]
      have hb : M.length ≤ M1.length := by rw [hM1]; simp
      unfold stepL lb_law_shaped_2
      walk_at "RUN"
      rw [compL_pure (f := fun e : Env Str => some (.int (e c))) R []]
      · rw [filterMap_some]
        walk_at "RUN"
        rw [show (R.map fun e => D.int (e c)) = (R.map fun e => e c).map D.int by rw [List.map_map]; rfl, intsOf_ints]
        walk_at "RUN"
        have d1 : (R.map fun e => e c).length = R.length := List.length_map _
        have d2 := dedup_len (l := R.map fun e => e c)
        rw [if_pos ⟨by omega, by omega⟩, sort_vals (Fo.dedup_nd _) (fun v => Fo.mem_dedup)]
        walk_at "RUN"
        generalize hL : loopL _ _ _ _ _ _ = L
        have key : ∃ ρ' M', L = .next ρ' M' ∧ ((∃ y7 y8 y9 y10, ρ' = [some q.d, some cd, some (.tup pf), some (.lst (R.map (envD q.cols))), some (.loc M.length), some (.str c), some (.loc M1.length), y7, y8, y9, y10]) ∧ M' = M1 ++ [.lst ((vals (R.map fun e => e c)).map fun v => .tup [.int v, .tup (dsh kd (shd kd (R.filter fun e => decide (e c = v))))])]) := by
          rw [← hL]
          refine loopL_run (enc := D.int) (fun (pre : List Int) ρ' M' => (∃ y7 y8 y9 y10, ρ' = [some q.d, some cd, some (.tup pf), some (.lst (R.map (envD q.cols))), some (.loc M.length), some (.str c), some (.loc M1.length), y7, y8, y9, y10]) ∧ M' = M1 ++ [.lst (pre.map fun v => .tup [.int v, .tup (dsh kd (shd kd (R.filter fun e => decide (e c = v))))])]) (vals (R.map fun e => e c)) ⟨⟨_, _, _, _, rfl⟩, rfl⟩ ?_
          rintro pre v post ρ M' hp ⟨⟨y7, y8, y9, y10, rfl⟩, rfl⟩
          have hv : v ∈ vals (R.map fun e => e c) := by rw [hp]; simp
          have hpl : pre.length < sizeLine := by
            have h1 := congrArg List.length hp
            have h2 := vals_len (l := R.map fun e => e c)
            rw [List.length_append, List.length_cons] at h1
            rw [Net.sizeLine_eq]; omega
          unfold stepL lb_law_shaped_1
          walk_at "RUN"
          rw [compL_pure (f := fun e : Env Str => if decide (e c = v) = true then some (envD q.cols e) else none) R []]
          · rw [filterMap_ite]
            walk_at "RUN"
            rw [show D.str c = oS (some c) from rfl, el_children W (j + 2) N (p := some c) (fun x hx => by cases hx; exact hcc) hz, show (q.cols.filter fun x => decide (q.par x = some c)) = kd.heads from f1]
            walk_at "RUN"
            rw [bop_tup (by rw [Net.sizeLine_eq]; simp; omega)]
            walk_at "RUN"
            have hne : (R.filter fun e => decide (e c = v)) ≠ [] := by
              obtain ⟨e, he, ev⟩ := List.mem_map.mp (mem_vals.mp hv)
              exact List.ne_nil_of_mem (List.mem_filter.mpr ⟨he, decide_eq_true ev⟩)
            rw [lshaped_call W N hz kd (j + 6) (R.filter fun e => decide (e c = v)) (pf ++ [D.int v]) _ f2 (fun x hx => hc x (List.mem_cons_of_mem _ (List.mem_append.mpr (.inl hx)))) (by omega) (Nat.le_trans (List.length_filter_le _ _) hR) (by omega) (by simp; omega), if_neg hne]
            walk_at "RUN"
            rw [app_at2 hb (by rw [List.length_map]; exact hpl)]
            walk_at "RUN"
            refine ⟨still_nil, ⟨_, _, _, _, rfl⟩, ?_⟩
            simp
          · intro e he
            unfold stepC ce_law_shaped_2
            walk_at "RUN"
            rw [env_get hcc]
            walk_at "RUN"
            by_cases h : e c = v <;> simp [h]
        obtain ⟨ρ', M', rfl, ⟨y7, y8, y9, y10, rfl⟩, rfl⟩ := key
        clear hL
        walk_at "RUN"
        have eL : M1 ++ [Cell.lst ((vals (R.map fun e => e c)).map fun v => D.tup [.int v, .tup (dsh kd (shd kd (R.filter fun e => decide (e c = v))))])] = M ++ .lst ds :: (Z ++ [Cell.lst ((vals (R.map fun e => e c)).map fun v => D.tup [.int v, .tup (dsh kd (shd kd (R.filter fun e => decide (e c = v))))])]) := by
          rw [hM1, List.append_assoc, List.cons_append]
        have e1 : D.seq (M1 ++ [Cell.lst ((vals (R.map fun e => e c)).map fun v => D.tup [.int v, .tup (dsh kd (shd kd (R.filter fun e => decide (e c = v))))])]) (.loc M.length) = some ds := by rw [eL]; exact seq_mid
        rw [e1]
        walk_at "RUN"
        rw [eL, append_mid (Nat.le_refl _) (by rw [Net.sizeLine_eq]; omega)]
        walk_at "RUN"
        have e' : ((vals (R.map fun e => e c)).map fun v => D.tup [.int v, .tup (dsh kd (shd kd (R.filter fun e => decide (e c = v))))]) = (shd (Fo.cons c kd r) R).1.map (plD kd) := by
          show _ = List.map (plD kd) ((vals (R.map fun e => e c)).map fun v => (v, shd kd (R.filter fun e => decide (e c = v))))
          rw [List.map_map]
          rfl
        rw [e']
        exact ⟨_, _, _, _, _, _, rfl⟩
      · intro e he
        unfold stepC ce_law_shaped_1
        walk_at "RUN"
        rw [env_get hcc]
        walk_at "RUN"
    obtain ⟨y6, y7, y8, y9, y10, Z', e⟩ := hs
    rw [hh, lL_step e still_nil]
    obtain ⟨z5, z6, z7, z8, z9, z10, Z2, e2⟩ := lshaped_loop W N hz r (j + 6) R cd pf (ds ++ [.tup ((shd (Fo.cons c kd r) R).1.map (plD kd))]) Z' (some (.str c)) y6 y7 y8 y9 y10 M M0 f3 (fun x hx => hc x (List.mem_cons_of_mem _ (List.mem_append.mpr (.inr hx)))) (by omega) hR (by simp; omega) (by omega)
    refine ⟨z5, z6, z7, z8, z9, z10, Z2, ?_⟩
    rw [e2, List.append_assoc]
    rfl
termination_by (F, 0)
theorem lshaped_call (W : Nat) {q : Qn} (N : NQ q) (hz : q.cols.length < sizeLine) (F : Fo Str) (k : Nat) (R : List (Env Str)) (pf : List D) (M : Mem) (hf : F.Fits q.kids) (hc : ∀ c, c ∈ F.pre → c ∈ q.cols) (hk : F.depth + 6 ≤ k) (hR : R.length ≤ 60) (hl : F.pre.length ≤ 1000) (hpf : pf.length + F.depth ≤ 1000) :
    callF tb W k 39 [q.d, .lst (sts F.heads), .tup pf, .lst (R.map (envD q.cols))] M = .ok (if R = [] then .non else .tup (dsh F (shd F R))) M := by
  obtain ⟨j, rfl⟩ := fuel (show 1 ≤ k by omega)
  rw [u_law_shaped]
  unfold b_law_shaped
  walk_at "RUN"
  rw [eq_envs_nil]
  by_cases h : R = []
  · rw [decide_eq_true h, if_pos h]
    walk_at "RUN"
    exact leave_ret0 rfl
  · rw [decide_eq_false h, if_neg h]
    walk_at "RUN"
    obtain ⟨y5, y6, y7, y8, y9, y10, Z3, e⟩ := lshaped_loop W N hz F j R (.lst (sts F.heads)) pf [] [] none none none none none none M (M ++ [.lst []]) hf hc (by omega) hR (by simpa using hl) hpf
    rw [e]
    walk_at "RUN"
    rw [items_mid]
    walk_at "RUN"
    rw [leave_pure (by rw [pure_tup]; exact dsh_pure _ _)]
termination_by (F, 1)
end
end K55
end

section
set_option Elab.async false
set_option linter.all false
set_option maxRecDepth 100000
namespace K55
open PySem L2 Net Fo
local macro_rules | `(tactic| walk_at "RUN") => `(tactic| try simp only [ev_v, ev_non, ev_bl, ev_int, ev_str, ev_tup, ev_new, ev_newM, ev_bin, ev_cmp, ev_ix, ev_call, ev_b1, ev_neg, ev_not, ev_and, ev_or, ev_ite, ev_sl, ev_index, ev_get, ev_setdef, ev_append, ev_extend, ev_insert, evs_nil, evs_cons, evs_star, Net.evP, evI_seq, evI_enum, evI_zip, evC_comp, evC_comp2, evC_lst, evC_dic, evC_list, ex_loop, ex_ret, ex_set, ex_expr, ex_ite, exs_one, exs_cons, exs_nil, go_next, go_ret, rs_ok, rs_of, rs_st,
  List.getElem?_cons_zero, List.getElem?_cons_succ, asg_tp, asgs_nil, asgs_cons, asg_nm, List.length_cons, List.length_nil, List.set_cons_zero, List.set_cons_succ, Nat.zero_lt_succ, Nat.succ_lt_succ_iff, if_true, wipeD, items_tup, items_lst, seq_tup, seq_lst, dict_tup, dict_lst, dict_dic, deps_tup, deps_lst,
  frz_lst, frz_dic, ix_t0, ix_t1, ix_t2, ix_l0, b1_tuple, b1_len, len_tup, len_lst, Option.map_some, Option.map_none, cop_eq, cop_ne, cop_in, cop_ni, cop_is, cop_isn, lt_int, gt_int, le_int, ge_int, leave_ret0, pure_non, pure_bl, pure_int, pure_str, evC_sortedBy, evC_sorted, evC_sortedSet, evC_dict, evI_rng1, evAnd1, evAnd2, evOr1, evOr2, Nat.zero_add, Nat.reduceAdd, sz0, sz1, sz2, sz3, sz4, sz5, sz6, sz8, Option.isSome_some, is_os, bop_add, bop_sub, Bool.not_true, Bool.not_false, Bool.or_true, Bool.or_false, Bool.false_or, Bool.true_or, Bool.and_true, Bool.true_and, Bool.false_and, Bool.and_false, nx_next, nx_cont, ok_ok, iteD_t, iteD_f, isNon_tup, isNon_non, isNon_int, seq_at, items_at, dict_at, Bool.true_eq_false, if_false, slotD, List.map_cons, List.map_nil, cLL_nil, lL_nil, b1_sum_nats, ex_raise, ex_pass, ex_cont, go_exc, go_cont, ex_try, cop_ne_int, lenRows, isNon_oI, oI_pure, ex_par, and_self,  exc_st, exc_bind, try_exc, try_ret, try_next, calm_ret, q_ix0, q_ix1, q_ix2, a_ix2, Function.comp, List.nil_append])
theorem el_shape (W k : Nat) {q : Qn} {F : Fo Str} (Q : QF q F) (hk : 14 ≤ k) (P : List (List Int)) (hP : ∀ p, p ∈ P → p.length = q.cols.length) (hl : P.length ≤ 60) (hb : ∀ t, shp q F P = some t → Bd 5 F t) (M : Mem) :
    callF tb W k 40 [q.d, .lst (rowsD P)] M = .ok (if pnt q F (shp q F P) = srt P then oSh F (shp q F P) else .str (Str.ofString "none")) M := by
  obtain ⟨j, rfl⟩ := fuel (show 5 ≤ k by omega)
  have hn : 0 < q.cols.length := List.length_pos_iff.mpr Q.N.ne
  have hd := Q.dep
  have hps := Q.psz
  rw [u_law_shape]
  unfold b_law_shape
  walk_at "RUN"
  rw [show rowsD P = P.map ptD from rfl, compL_pure (f := fun p : List Int => some (envD q.cols (envp q.cols p))) P []]
  · rw [filterMap_some]
    walk_at "RUN"
    rw [el_roots W j Q.N Q.hz]
    walk_at "RUN"
    rw [show (P.map fun p => envD q.cols (envp q.cols p)) = (P.map (envp q.cols)).map (envD q.cols) by rw [List.map_map]; rfl, ← Q.heads, lshaped_call W Q.N Q.hz F (j + 4) _ [] M Q.fits Q.mem (by omega) (by rw [List.length_map]; exact hl) (by omega) (by simp; omega)]
    have es : (if P.map (envp q.cols) = [] then D.non else .tup (dsh F (shd F (P.map (envp q.cols))))) = oSh F (shp q F P) := by
      unfold shp
      cases P with
      | nil => rfl
      | cons p P => rfl
    rw [es]
    walk_at "RUN"
    rw [el_points W (j + 4) Q (by omega) (shp q F P) hb]
    walk_at "RUN"
    rw [show P.map ptD = rowsD P from rfl, sortD_pts (n := q.cols.length) hn hP]
    walk_at "RUN"
    rw [eq_rows]
    by_cases h : pnt q F (shp q F P) = srt P
    · rw [decide_eq_true h, if_pos h]
      walk_at "RUN"
      refine leave_ret0 ?_
      cases shp q F P with
      | none => rfl
      | some t => unfold oSh; rw [pure_tup]; exact dsh_pure _ _
    · rw [decide_eq_false h, if_neg h]
      walk_at "RUN"
      exact leave_ret0 rfl
  · intro p hp
    unfold stepC ptD
    walk_at "RUN"
    obtain ⟨ps, e1, e2⟩ := dict_point Q.N.nd (hP p hp)
    rw [e1]
    walk_at "RUN"
    rw [e2]
theorem el_told (W k : Nat) {q : Qn} {F : Fo Str} (Q : QF q F) (hk : 15 ≤ k) (P : List (List Int)) (hP : ∀ p, p ∈ P → p.length = q.cols.length) (hl : P.length ≤ 60) (hb : ∀ t, shp q F P = some t → Bd 5 F t) (M : Mem) :
    callF tb W k 43 [q.d, .tup (rowsD P)] M = .ok (if P = [] then .non else if num F (shd F (P.map (envp q.cols))) = P.length then .tup (dsh F (shd F (P.map (envp q.cols)))) else .tup [.str (Str.ofString "refused")]) M := by
  obtain ⟨j, rfl⟩ := fuel (show 1 ≤ k by omega)
  rw [u_law_told_shape]
  unfold b_law_told_shape
  walk_at "RUN"
  have hb' : P ≠ [] → Bd 5 F (shd F (P.map (envp q.cols))) := fun h => hb _ (if_neg h)
  rw [ev_shape_of W j Q (by omega) P hP hl hb']
  by_cases h : P = []
  · rw [if_pos h, if_pos h]
    walk_at "RUN"
    exact leave_ret0 rfl
  · rw [if_neg h, if_neg h]
    by_cases hn : num F (shd F (P.map (envp q.cols))) = P.length
    · rw [if_pos hn, if_pos hn]
      walk_at "RUN"
      exact leave_tup (n := 0) (dsh_pure _ _)
    · rw [if_neg hn, if_neg hn]
      walk_at "RUN"
      exact leave_ret0 rfl
end K55
end

section
set_option Elab.async false
set_option linter.all false
set_option maxRecDepth 100000
namespace K55
open PySem L2 Net Fo
local macro_rules | `(tactic| walk_at "RUN") => `(tactic| try simp only [ev_v, ev_non, ev_bl, ev_int, ev_str, ev_tup, ev_new, ev_newM, ev_bin, ev_cmp, ev_ix, ev_call, ev_b1, ev_neg, ev_not, ev_and, ev_or, ev_ite, ev_sl, ev_index, ev_get, ev_setdef, ev_append, ev_extend, ev_insert, evs_nil, evs_cons, evs_star, evP_no, evP_at, evI_seq, evI_enum, evI_zip, evC_comp, evC_comp2, evC_lst, evC_dic, evC_list, ex_loop, ex_ret, ex_set, ex_expr, ex_ite, exs_one, exs_cons, exs_nil, go_next, go_ret, rs_ok, rs_of, rs_st,
  List.getElem?_cons_zero, List.getElem?_cons_succ, asg_tp, asgs_nil, asgs_cons, asg_nm, List.length_cons, List.length_nil, List.set_cons_zero, List.set_cons_succ, Nat.zero_lt_succ, Nat.succ_lt_succ_iff, if_true, wipeD, items_tup, items_lst, seq_tup, seq_lst, dict_tup, dict_lst, dict_dic, deps_tup, deps_lst,
  frz_lst, frz_dic, ix_t0, ix_t1, ix_t2, ix_l0, b1_tuple, b1_len, len_tup, len_lst, Option.map_some, Option.map_none, cop_eq, cop_ne, cop_in, cop_ni, cop_is, cop_isn, lt_int, gt_int, le_int, ge_int, leave_ret0, pure_non, pure_bl, pure_int, pure_str, evC_sortedBy, evC_sorted, evC_sortedSet, evC_dict, evI_rngR, evAnd1, evAnd2, evOr1, evOr2, Nat.zero_add, Nat.reduceAdd, sz0, sz1, sz2, sz3, sz4, sz5, sz6, sz8, Option.isSome_some, is_os, bop_add, bop_sub, Bool.not_true, Bool.not_false, Bool.or_true, Bool.or_false, Bool.false_or, Bool.true_or, Bool.and_true, Bool.true_and, Bool.false_and, Bool.and_false, nx_next, nx_cont, ok_ok, iteD_t, iteD_f, isNon_tup, isNon_non, isNon_int, seq_at, items_at, dict_at, Bool.true_eq_false, if_false, slotD, List.map_cons, List.map_nil, cLL_nil, lL_nil, b1_sum_nats, ex_raise, ex_pass, ex_cont, go_exc, go_cont, ex_try, cop_ne_int, lenRows, isNon_oI, isNon_oI, oI_pure, ex_par, and_self, ex_while, ix_b0, ix_b1, ix_b2, ix_b3, sl_lst, b1_int, exc_st, exc_bind, try_exc, try_ret, try_next, calm_ret, q_ix0, q_ix1, q_ix2, a_ix2, Function.comp, List.nil_append])
theorem take_ok (W k : Nat) {B : Cell} (hB : Bag B) (R : Mem) {m : Int} (hm : 0 < m) (hm2 : m ≤ 1000) : ∃ v B', callF tb W (k + 1) 20 [.loc 0, .int m] (B :: R) = .ok (.int v) (B' :: R) ∧ 0 ≤ v ∧ v < m ∧ Bag B' := by
  obtain ⟨x, y, z, ns, rfl, hns⟩ := hB
  rw [u_law_take]
  unfold b_law_take
  -- the second half
  have half : ∀ (x y z : Int) (p2 p3 : Option D), ∃ v B', leave false (Cell.lst [.int x, .int y, .int z, .lst (ns.map .int)] :: R).length ((ex (callF tb W k) (Cell.lst [.int x, .int y, .int z, .lst (ns.map .int)] :: R).length W (.ite (.cmp .gt (.ix (.var 0) (.int (0))) (.int (0))) (.cons (.set (.nm 4) (.bin .mod (.b1 .int (.ix (.var 0) (.int (0)))) (.var 1)))
    (.cons (.setIx (.var 0) (.int (0)) (.bin .fdiv (.b1 .int (.ix (.var 0) (.int (0)))) (.var 1)))
    (.cons (.ret (.var 4))
    .nil))) .nil) [some (.loc 0), some (.int m), p2, p3, none, none, none] (Cell.lst [.int x, .int y, .int z, .lst (ns.map .int)] :: R)).go fun ρ M => Net.exs (callF tb W k) (Cell.lst [.int x, .int y, .int z, .lst (ns.map .int)] :: R).length W (.cons (.set (.nm 5) (.bin .mod (.b1 .int (.bin .mul (.bin .add (.ix (.var 0) (.int (1))) (.int (1))) (.int (39373)))) (.int (1000000007))))
    (.cons (.set (.nm 6) (.bin .mod (.b1 .int (.bin .mul (.bin .mod (.b1 .int (.bin .mul (.var 5) (.var 5))) (.int (998244353))) (.int (30011)))) (.int (998244353))))
    (.cons (.ret (.bin .mod (.b1 .int (.bin .fdiv (.var 6) (.int (7)))) (.var 1)))
    .nil))) ρ M) = .ok (.int v) (B' :: R) ∧ 0 ≤ v ∧ v < m ∧ Bag B' := by
    intro x y z p2 p3
    walk_at "RUN"
    by_cases h : 0 < x
    · rw [decide_eq_true h]
      walk_at "RUN"
      rw [bop_mod hm]
      walk_at "RUN"
      rw [set_bag0 (v := x / m) rfl (by
        walk_at "RUN"
        rw [bop_fdiv hm (by
          have : m.natAbs < 2 ^ 10 := by omega
          exact Nat.lt_of_le_of_lt (Nat.log2_lt (by omega) |>.mpr this |> Nat.le_of_lt) (by decide))]
        walk_at "RUN")]
      walk_at "RUN"
      exact ⟨x % m, _, leave_bag rfl, Int.emod_nonneg _ (by omega), Int.emod_lt_of_pos _ hm, _, _, _, ns, rfl, hns⟩
    · rw [decide_eq_false h]
      walk_at "RUN"
      rw [bop_mul (.inr (by decide))]
      walk_at "RUN"
      rw [bop_mod (by decide)]
      walk_at "RUN"
      have hb : ∀ u : Int, (u % 1000000007).natAbs < 2 ^ 64 := fun u => by
        have h1 := Int.emod_nonneg u (show (1000000007 : Int) ≠ 0 by decide)
        have h2 := Int.emod_lt_of_pos u (show (0 : Int) < 1000000007 by decide)
        omega
      rw [bop_mul (.inr (hb _))]
      walk_at "RUN"
      rw [bop_mod (by decide)]
      walk_at "RUN"
      rw [bop_mul (.inr (by decide))]
      walk_at "RUN"
      rw [bop_mod (by decide)]
      walk_at "RUN"
      rw [bop_fdiv (by decide) (by decide)]
      walk_at "RUN"
      rw [bop_mod hm]
      walk_at "RUN"
      exact ⟨_, _, leave_bag rfl, Int.emod_nonneg _ (by omega), Int.emod_lt_of_pos _ hm, _, _, _, ns, rfl, hns⟩
  by_cases hx : x = 0
  · have e1 : ∃ x' y' p2 p3, ex (callF tb W k) (Cell.lst [.int x, .int y, .int z, .lst (ns.map .int)] :: R).length W (.ite (.cmp .eq (.ix (.var 0) (.int (0))) (.int (0))) (.cons (.set (.nm 2) (.ix (.bin .add (.sl (.ix (.var 0) (.int (3))) (.at (.ix (.var 0) (.int (2)))) .no) (.new (.lst (.cons (.int (0)) .nil)))) (.int (0))))
    (.cons (.augIx (.var 0) (.int (2)) (.int (1)))
    (.cons (.ite (.cmp .ge (.var 2) (.bin .pow (.int (10)) (.int (18)))) (.cons (.setIx (.var 0) (.int (0)) (.var 2))
    .nil) .nil)
    (.cons (.set (.nm 3) (.bin .add (.bin .add (.bin .mul (.ix (.var 0) (.int (1))) (.int (48271))) (.bin .mod (.b1 .int (.var 2)) (.int (2147483647)))) (.bin .mul (.int (7919)) (.ix (.var 0) (.int (2))))))
    (.cons (.setIx (.var 0) (.int (1)) (.bin .mod (.b1 .int (.var 3)) (.int (2147483647))))
    .nil))))) .nil) [some (.loc 0), some (.int m), none, none, none, none, none] (Cell.lst [.int x, .int y, .int z, .lst (ns.map .int)] :: R) =
      .next [some (.loc 0), some (.int m), p2, p3, none, none, none] (Cell.lst [.int x', .int y', .int (z + 1), .lst (ns.map .int)] :: R) := by
      walk_at "RUN"
      rw [decide_eq_true hx]
      walk_at "RUN"
      rw [cutLmap]
      have hcl := cutL_len ns (some z) none
      rw [bop_lst (by rw [Net.sizeLine_eq]; simp; omega)]
      walk_at "RUN"
      obtain ⟨i, hi⟩ := first_int (M := []) (cutL ns (some z) none)
      have hi' : ∀ M, ixD M (.lst ((cutL ns (some z) none).map D.int ++ [.int 0])) (.int 0) = some (.int i) := fun M => hi
      rw [hi']
      walk_at "RUN"
      rw [aug_bag rfl]
      walk_at "RUN"
      rw [bop_pow (by decide)]
      walk_at "RUN"
      by_cases hc : (10 : Int) ^ (18 : Int).toNat ≤ i
      · rw [decide_eq_true hc]
        walk_at "RUN"
        rw [set_bag0 (v := i) rfl (by walk_at "RUN")]
        walk_at "RUN"
        rw [bop_mul (.inr (by decide))]
        walk_at "RUN"
        rw [bop_mod (by decide)]
        walk_at "RUN"
        rw [bop_mul (.inl (by decide))]
        walk_at "RUN"
        rw [set_bag1 (v := (y * 48271 + i % 2147483647 + 7919 * (z + 1)) % 2147483647) rfl (by
          walk_at "RUN"
          rw [bop_mod (by decide)]
          walk_at "RUN")]
        exact ⟨_, _, _, _, rfl⟩
      · rw [decide_eq_false hc]
        walk_at "RUN"
        rw [bop_mul (.inr (by decide))]
        walk_at "RUN"
        rw [bop_mod (by decide)]
        walk_at "RUN"
        rw [bop_mul (.inl (by decide))]
        walk_at "RUN"
        rw [set_bag1 (v := (y * 48271 + i % 2147483647 + 7919 * (z + 1)) % 2147483647) rfl (by
          walk_at "RUN"
          rw [bop_mod (by decide)]
          walk_at "RUN")]
        exact ⟨_, _, _, _, rfl⟩
    obtain ⟨x', y', p2, p3, e⟩ := e1
    rw [exs_cons, e, go_next, exs_cons]
    exact half x' y' (z + 1) p2 p3
  · have e1 : ex (callF tb W k) (Cell.lst [.int x, .int y, .int z, .lst (ns.map .int)] :: R).length W (.ite (.cmp .eq (.ix (.var 0) (.int (0))) (.int (0))) (.cons (.set (.nm 2) (.ix (.bin .add (.sl (.ix (.var 0) (.int (3))) (.at (.ix (.var 0) (.int (2)))) .no) (.new (.lst (.cons (.int (0)) .nil)))) (.int (0))))
    (.cons (.augIx (.var 0) (.int (2)) (.int (1)))
    (.cons (.ite (.cmp .ge (.var 2) (.bin .pow (.int (10)) (.int (18)))) (.cons (.setIx (.var 0) (.int (0)) (.var 2))
    .nil) .nil)
    (.cons (.set (.nm 3) (.bin .add (.bin .add (.bin .mul (.ix (.var 0) (.int (1))) (.int (48271))) (.bin .mod (.b1 .int (.var 2)) (.int (2147483647)))) (.bin .mul (.int (7919)) (.ix (.var 0) (.int (2))))))
    (.cons (.setIx (.var 0) (.int (1)) (.bin .mod (.b1 .int (.var 3)) (.int (2147483647))))
    .nil))))) .nil) [some (.loc 0), some (.int m), none, none, none, none, none] (Cell.lst [.int x, .int y, .int z, .lst (ns.map .int)] :: R) =
      .next [some (.loc 0), some (.int m), none, none, none, none, none] (Cell.lst [.int x, .int y, .int z, .lst (ns.map .int)] :: R) := by
      walk_at "RUN"
      rw [decide_eq_false hx]
      walk_at "RUN"
    rw [exs_cons, e1, go_next, exs_cons]
    exact half x y z none none
theorem some_ok (W k : Nat) {B : Cell} (hB : Bag B) (R : Mem) {ds : List D} (h : ds ≠ []) (hl : ds.length ≤ 1000) (hp : ds.all D.pure = true) : ∃ d B', callF tb W (k + 2) 21 [.loc 0, .lst ds] (B :: R) = .ok d (B' :: R) ∧ d ∈ ds ∧ Bag B' := by
  rw [u_law_some]
  unfold b_law_some
  walk_at "RUN"
  have hpos : 0 < ds.length := List.length_pos_iff.mpr h
  obtain ⟨v, B', e, h0, h1, hB'⟩ := take_ok W k hB R (m := (ds.length : Int)) (by omega) (by omega)
  rw [e]
  walk_at "RUN"
  obtain ⟨d, e2, hd⟩ := ix_mem (M := B' :: R) h0 h1
  rw [e2]
  walk_at "RUN"
  exact ⟨d, B', leave_bag (List.all_eq_true.mp hp d hd), hd, hB'⟩
theorem mixed_ok (W k : Nat) {B : Cell} (hB : Bag B) (R : Mem) {ds : List D} (hl : ds.length ≤ 900) (hp : ds.all D.pure = true) : ∃ ds' B', callF tb W (k + 2) 22 [.loc 0, .lst ds] (B :: R) = .ok (.lst ds') (B' :: R) ∧ ds'.Perm ds ∧ Bag B' := by
  rw [u_law_mixed]
  unfold b_law_mixed
  walk_at "RUN"
  generalize hL : loopL _ _ _ _ _ _ = L
  have key : ∃ ρ' M', L = .next ρ' M' ∧ (∃ a f B', ρ' = [some (.loc 0), some (.lst ds), some (.loc (R.length + 1)), a] ∧ M' = B' :: (R ++ [.lst f]) ∧ Bag B' ∧ f.Perm ds) := by
    rw [← hL]
    have hid : ds = ds.map id := by simp
    rw [show loopL [] (B :: R ++ [Cell.lst []]) (stepL (callF tb W (k + 1)) (R.length + 1) W (T.nm 3) lb_law_mixed_1) ds = loopL [] (B :: R ++ [Cell.lst []]) (stepL (callF tb W (k + 1)) (R.length + 1) W (T.nm 3) lb_law_mixed_1) (ds.map id) from by rw [← hid]]
    refine loopL_run (enc := id) (fun (pre : List D) ρ' M' => ∃ a f B', ρ' = [some (.loc 0), some (.lst ds), some (.loc (R.length + 1)), a] ∧ M' = B' :: (R ++ [.lst f]) ∧ Bag B' ∧ f.Perm pre) ds ⟨_, [], B, rfl, rfl, hB, .refl _⟩ ?_
    rintro pre x post ρ M' hpp ⟨a, f, B1, rfl, rfl, hB1, hf⟩
    have hfl : f.length < 900 := by
      have h1 := congrArg List.length hpp
      have h2 := hf.length_eq
      rw [List.length_append, List.length_cons] at h1
      omega
    unfold stepL lb_law_mixed_1
    walk_at "RUN"
    rw [seq_own]
    walk_at "RUN"
    rw [lenD_own]
    walk_at "RUN"
    obtain ⟨v, B2, e, h0, h1, hB2⟩ := take_ok W k hB1 (R ++ [.lst f]) (m := (f.length : Int) + 1) (by omega) (by omega)
    rw [e]
    walk_at "RUN"
    rw [insert_own (by rw [Net.sizeLine_eq]; omega) h0 (by omega)]
    walk_at "RUN"
    exact ⟨still_nil, _, _, B2, rfl, rfl, hB2, (ins_perm f _ _).trans (hf.append_right _)⟩
  obtain ⟨ρ', M', rfl, a, f, B', rfl, rfl, hB', hf⟩ := key
  clear hL
  walk_at "RUN"
  refine ⟨f, B', leave_own ?_, hf, hB'⟩
  rw [List.all_eq_true] at hp ⊢
  exact fun d hd => hp d (hf.mem_iff.mp hd)
end K55
end

section
set_option Elab.async false
set_option linter.all false
set_option maxRecDepth 100000
namespace K55
open PySem L2 Net Fo
local macro_rules | `(tactic| walk_at "RUN") => `(tactic| try simp only [ev_v, ev_non, ev_bl, ev_int, ev_str, ev_tup, ev_new, ev_newM, ev_bin, ev_cmp, ev_ix, ev_call, ev_b1, ev_neg, ev_not, ev_and, ev_or, ev_ite, ev_sl, ev_index, ev_get, ev_setdef, ev_append, ev_extend, ev_insert, evs_nil, evs_cons, evs_star, evP_no, evP_at, evI_seq, evI_enum, evI_zip, evC_comp, evC_comp2, evC_lst, evC_dic, evC_list, ex_loop, ex_ret, ex_set, ex_expr, ex_ite, exs_one, exs_cons, exs_nil, go_next, go_ret, rs_ok, rs_of, rs_st,
  List.getElem?_cons_zero, List.getElem?_cons_succ, asg_tp, asgs_nil, asgs_cons, asg_nm, List.length_cons, List.length_nil, List.set_cons_zero, List.set_cons_succ, Nat.zero_lt_succ, Nat.succ_lt_succ_iff, if_true, wipeD, items_tup, items_lst, seq_tup, seq_lst, dict_tup, dict_lst, dict_dic, deps_tup, deps_lst,
  frz_lst, frz_dic, ix_t0, ix_t1, ix_t2, ix_l0, b1_tuple, b1_len, len_tup, len_lst, Option.map_some, Option.map_none, cop_eq, cop_ne, cop_in, cop_ni, cop_is, cop_isn, lt_int, gt_int, le_int, ge_int, leave_ret0, pure_non, pure_bl, pure_int, pure_str, evC_sortedBy, evC_sorted, evC_sortedSet, evC_dict, evI_rngR, evAnd1, evAnd2, evOr1, evOr2, Nat.zero_add, Nat.reduceAdd, sz0, sz1, sz2, sz3, sz4, sz5, sz6, sz8, Option.isSome_some, is_os, bop_add, bop_sub, Bool.not_true, Bool.not_false, Bool.or_true, Bool.or_false, Bool.false_or, Bool.true_or, Bool.and_true, Bool.true_and, Bool.false_and, Bool.and_false, nx_next, nx_cont, ok_ok, iteD_t, iteD_f, isNon_tup, isNon_non, isNon_int, seq_at, items_at, dict_at, Bool.true_eq_false, if_false, slotD, List.map_cons, List.map_nil, cLL_nil, lL_nil, b1_sum_nats, ex_raise, ex_pass, ex_cont, go_exc, go_cont, ex_try, cop_ne_int, lenRows, isNon_oI, isNon_oI, oI_pure, ex_par, and_self, ex_while, ix_b0, ix_b1, ix_b2, ix_b3, sl_lst, b1_int, exc_st, exc_bind, try_exc, try_ret, try_next, calm_ret, q_ix0, q_ix1, q_ix2, a_ix2, Function.comp, List.nil_append])
theorem forest_ok (W k : Nat) {B : Cell} (hB : Bag B) (R : Mem) {n : Nat} (hn : n ≤ 10) : ∃ ps B', callF tb W (k + 3) 24 [.loc 0, .int (n : Int)] (B :: R) = .ok (.lst (pars ps)) (B' :: R) ∧ ps.length = n ∧ ParOk ps ∧ Bag B' := by
  rw [u_law_forest]
  unfold b_law_forest
  walk_at "RUN"
  rw [rngR_ok (by omega)]
  walk_at "RUN"
  generalize hL : loopL _ _ _ _ _ _ = L
  have key : ∃ ρ' M', L = .next ρ' M' ∧ (∃ a ps B', ρ' = [some (.loc 0), some (.int (n : Int)), some (.loc (R.length + 1)), a] ∧ M' = B' :: (R ++ [.lst (pars ps)]) ∧ Bag B' ∧ ps.length = (List.range n).length ∧ ParOk ps) := by
    rw [← hL]
    refine loopL_run (enc := fun i : Nat => D.int (i : Int)) (fun (pre : List Nat) ρ' M' => ∃ a ps B', ρ' = [some (.loc 0), some (.int (n : Int)), some (.loc (R.length + 1)), a] ∧ M' = B' :: (R ++ [.lst (pars ps)]) ∧ Bag B' ∧ ps.length = pre.length ∧ ParOk ps) (List.range n) ⟨_, [], B, rfl, rfl, hB, rfl, fun i j h => by simp at h⟩ ?_
    rintro pre x post ρ M' hp ⟨a, ps, B1, rfl, rfl, hB1, hl, ok⟩
    have hx : x = pre.length := by
      have h1 : (List.range n)[pre.length]? = (pre ++ x :: post)[pre.length]? := by rw [hp]
      rw [List.getElem?_append_right (Nat.le_refl _), Nat.sub_self, List.getElem?_cons_zero] at h1
      have h2 := (List.getElem?_eq_some_iff.mp h1)
      obtain ⟨h3, h4⟩ := h2
      rw [List.getElem_range] at h4
      exact h4.symm
    have hpn : pre.length < n := by
      have h1 := congrArg List.length hp
      rw [List.length_range, List.length_append, List.length_cons] at h1
      omega
    unfold stepL lb_law_forest_1
    walk_at "RUN"
    rw [seq_own]
    walk_at "RUN"
    rw [rngR_ok (by omega)]
    walk_at "RUN"
    have hnl : (nats (List.range x)).length = x := by unfold nats; rw [List.length_map, List.length_range]
    rw [bop_lst (by rw [hnl, Net.sizeLine_eq]; simp; omega)]
    walk_at "RUN"
    rw [rngR_ok (by omega)]
    walk_at "RUN"
    rw [bop_lst (by rw [List.length_append, hnl, Net.sizeLine_eq]; simp; omega)]
    walk_at "RUN"
    obtain ⟨d, B2, e, hd, hB2⟩ := some_ok W k hB1 (R ++ [.lst (pars ps)]) (ds := [.non] ++ nats (List.range x) ++ nats (List.range x)) (by simp) (by rw [List.length_append, List.length_append, hnl]; simp; omega) (by rw [List.all_append, List.all_append, pure_nats]; rfl)
    rw [e]
    walk_at "RUN"
    rw [append_own (by unfold pars; rw [List.length_map, Net.sizeLine_eq]; omega)]
    walk_at "RUN"
    obtain ⟨o, ho, ho2⟩ : ∃ o : Option Nat, d = oN o ∧ ∀ j, o = some j → j < x := by
      have cs : ∀ d, d ∈ nats (List.range x) → ∃ o : Option Nat, d = oN o ∧ ∀ j, o = some j → j < x := fun d hd => by
        obtain ⟨j, hj, rfl⟩ := List.mem_map.mp hd
        exact ⟨some j, rfl, fun i e => by cases e; exact List.mem_range.mp hj⟩
      rcases List.mem_append.mp hd with hd | hd
      · rcases List.mem_append.mp hd with hd | hd
        · rw [List.mem_singleton.mp hd]; exact ⟨none, rfl, fun j e => by cases e⟩
        · exact cs d hd
      · exact cs d hd
    refine ⟨still_nil, _, ps ++ [o], B2, rfl, ?_, hB2, by simp [hl], fun i j h => ?_⟩
    · rw [ho]; unfold pars; simp
    · by_cases hi : i < ps.length
      · rw [List.getElem?_append_left hi] at h
        exact ok i j h
      · rw [List.getElem?_append_right (by omega)] at h
        have : i - ps.length = 0 := by
          have := (List.getElem?_eq_some_iff.mp h).1
          simp at this; omega
        rw [this] at h
        simp at h
        have := ho2 j h
        omega
  obtain ⟨ρ', M', rfl, a, ps, B', rfl, rfl, hB', hl, ok⟩ := key
  clear hL
  walk_at "RUN"
  exact ⟨ps, B', leave_own (pars_pure ps), by simpa using hl, ok, hB'⟩
theorem line_while (W k : Nat) {ps : List (Option Nat)} (ok : ParOk ps) (a1 : Option D) (M : Mem) (base : Nat) : ∀ (n i : Nat) (rest : List Nat), i < n → i < ps.length → i + rest.length ≤ 1000 →
    whileL (fun ρ M => ev (callF tb W k) base lw_law_line_1 ρ M) (fun ρ M => Net.exs (callF tb W k) base W lb_law_line_1 ρ M) n [some (.lst (pars ps)), a1, some (.lst (nats (i :: rest)))] M = .next [some (.lst (pars ps)), a1, some (.lst (nats (ln ps i ++ rest)))] M
  | 0, i, rest, h, _, _ => by omega
  | n + 1, i, rest, h, hi, hl => by
    rw [whileL]
    have e0 : nats (i :: rest) = .int (i : Int) :: nats rest := rfl
    have hix : ∀ M, ixD M (.lst (pars ps)) (.int (i : Int)) = some (oN ps[i]) := fun M => by
      rw [ix_nat_l]; unfold pars; rw [List.getElem?_map, List.getElem?_eq_getElem hi]; rfl
    have et : ev (callF tb W k) base lw_law_line_1 [some (.lst (pars ps)), a1, some (.lst (nats (i :: rest)))] M = .ok (.bl (!isNon (oN ps[i]))) M := by
      unfold lw_law_line_1
      rw [e0]
      walk_at "RUN"
      rw [hix]
      walk_at "RUN"
    rw [et]
    cases z : ps[i] with
    | none =>
      have e : ps[i]? = some none := by rw [List.getElem?_eq_getElem hi, z]
      rw [ln_root (by rw [e]; exact fun j z => by cases z)]
      rfl
    | some j =>
      have e : ps[i]? = some (some j) := by rw [List.getElem?_eq_getElem hi, z]
      have hj := ok i j e
      have hnl : (nats rest).length = rest.length := by unfold nats; rw [List.length_map]
      have eb : Net.exs (callF tb W k) base W lb_law_line_1 [some (.lst (pars ps)), a1, some (.lst (nats (i :: rest)))] M = .next [some (.lst (pars ps)), a1, some (.lst (nats (j :: i :: rest)))] M := by
        unfold lb_law_line_1
        rw [e0]
        walk_at "RUN"
        rw [hix, z]
        unfold oN
        walk_at "RUN"
        rw [bop_lst (by rw [Net.sizeLine_eq]; simp [hnl]; omega)]
        walk_at "RUN"
        rfl
      rw [rs_st]
      show (match Net.exs (callF tb W k) base W lb_law_line_1 [some (.lst (pars ps)), a1, some (.lst (nats (i :: rest)))] M with
        | .next ρ' M' => whileL _ _ n ρ' M'
        | .cont ρ' M' => whileL _ _ n ρ' M'
        | .brk ρ' M' => .next ρ' M'
        | r => r) = _
      rw [eb]
      have := line_while W k ok a1 M base n j (i :: rest) (by omega) (by omega) (by simp; omega)
      rw [ln_step ok e, List.append_assoc]
      exact this
theorem line_ok (W k : Nat) (hW : 20 ≤ W) {ps : List (Option Nat)} (ok : ParOk ps) (hp : ps.length ≤ 10) {i : Nat} (hi : i < ps.length) (M : Mem) : callF tb W (k + 1) 25 [.lst (pars ps), .int (i : Int)] M = .ok (.lst (nats (ln ps i))) M := by
  rw [u_law_line]
  unfold b_law_line
  walk_at "RUN"
  have := line_while W k ok (some (.int (i : Int))) M M.length W i [] (by omega) hi (by simp; omega)
  rw [show nats [i] = [D.int (i : Int)] from rfl] at this
  rw [this]
  walk_at "RUN"
  rw [List.append_nil]
  exact leave_lst (n := 0) (pure_nats _)
theorem cols_mixed_ok (W k : Nat) (hW : 20 ≤ W) {B : Cell} (hB : Bag B) (R : Mem) {nms : List Str} {ps : List (Option Nat)} (ok : ParOk ps) (hp : ps.length ≤ 10) (hnp : nms.length = ps.length) {i : Nat} (hi : i < ps.length) :
    ∃ cs B', callF tb W (k + 3) 27 [.loc 0, .lst (sts nms), .lst (pars ps), .int (i : Int)] (B :: R) = .ok (.tup (sts cs)) (B' :: R) ∧ cs.Perm ((ln ps i).map fun j => nms.getD j (Str.ofString "")) ∧ Bag B' := by
  rw [u_law_columns_mixed]
  unfold b_law_columns_mixed
  walk_at "RUN"
  rw [line_ok W (k + 1) hW ok hp hi]
  walk_at "RUN"
  rw [show nats (ln ps i) = (ln ps i).map fun j : Nat => D.int (j : Int) from rfl, compL_pure (f := fun j : Nat => some (.str (nms.getD j (Str.ofString "")))) (ln ps i) []]
  · rw [filterMap_some]
    walk_at "RUN"
    have hln := ln_len ok i
    obtain ⟨ds', B', e, hd, hB'⟩ := mixed_ok W k hB R (ds := (ln ps i).map fun j => D.str (nms.getD j (Str.ofString ""))) (by rw [List.length_map]; omega) (all_pure_map fun _ _ => rfl)
    rw [e]
    walk_at "RUN"
    obtain ⟨cs, hcs⟩ : ∃ cs : List Str, ds' = sts cs := by
      have : ∀ l : List D, (∀ d, d ∈ l → ∃ s, d = D.str s) → ∃ cs : List Str, l = sts cs := by
        intro l
        induction l with
        | nil => intro _; exact ⟨[], rfl⟩
        | cons d l ih =>
          intro h
          obtain ⟨s, rfl⟩ := h d List.mem_cons_self
          obtain ⟨cs, rfl⟩ := ih fun x hx => h x (List.mem_cons_of_mem _ hx)
          exact ⟨s :: cs, rfl⟩
      exact this ds' fun d hd2 => by
        obtain ⟨j, _, rfl⟩ := List.mem_map.mp (hd.mem_iff.mp hd2)
        exact ⟨_, rfl⟩
    subst hcs
    refine ⟨cs, B', leave_bag (by rw [pure_tup]; exact pure_sts _), ?_, hB'⟩
    rw [show ((ln ps i).map fun j => D.str (nms.getD j (Str.ofString ""))) = sts ((ln ps i).map fun j => nms.getD j (Str.ofString "")) by unfold sts; rw [List.map_map]; rfl] at hd
    exact strs_perm hd
  · intro j hj
    unfold stepC
    walk_at "RUN"
    have hj2 := ln_le ok i i (Nat.le_refl _) j hj
    have hj3 : j < nms.length := by omega
    rw [ix_nat_l, List.getElem?_map, List.getElem?_eq_getElem hj3]
    walk_at "RUN"
    rw [List.getD_eq_getElem?_getD, List.getElem?_eq_getElem hj3]
    rfl
end K55
end

section
set_option Elab.async false
set_option linter.all false
set_option maxRecDepth 100000
namespace K55
open PySem L2 Net Fo
local macro_rules | `(tactic| walk_at "RUN") => `(tactic| try simp only [ev_v, ev_non, ev_bl, ev_int, ev_str, ev_tup, ev_new, ev_newM, ev_bin, ev_cmp, ev_ix, ev_call, ev_b1, ev_neg, ev_not, ev_and, ev_or, ev_ite, ev_sl, ev_index, ev_get, ev_setdef, ev_append, ev_extend, ev_insert, evs_nil, evs_cons, evs_star, evP_no, evP_at, evI_seq, evI_enum, evI_zip, evC_comp, evC_comp2, evC_lst, evC_dic, evC_list, ex_loop, ex_ret, ex_set, ex_expr, ex_ite, exs_one, exs_cons, exs_nil, go_next, go_ret, rs_ok, rs_of, rs_st,
  List.getElem?_cons_zero, List.getElem?_cons_succ, asg_tp, asgs_nil, asgs_cons, asg_nm, List.length_cons, List.length_nil, List.set_cons_zero, List.set_cons_succ, Nat.zero_lt_succ, Nat.succ_lt_succ_iff, if_true, wipeD, items_tup, items_lst, seq_tup, seq_lst, dict_tup, dict_lst, dict_dic, deps_tup, deps_lst,
  frz_lst, frz_dic, ix_t0, ix_t1, ix_t2, ix_l0, b1_tuple, b1_len, len_tup, len_lst, Option.map_some, Option.map_none, cop_eq, cop_ne, cop_in, cop_ni, cop_is, cop_isn, lt_int, gt_int, le_int, ge_int, leave_ret0, pure_non, pure_bl, pure_int, pure_str, evC_sortedBy, evC_sorted, evC_sortedSet, evC_dict, evI_rngR, evAnd1, evAnd2, evOr1, evOr2, Nat.zero_add, Nat.reduceAdd, sz0, sz1, sz2, sz3, sz4, sz5, sz6, sz8, Option.isSome_some, is_os, bop_add, bop_sub, Bool.not_true, Bool.not_false, Bool.or_true, Bool.or_false, Bool.false_or, Bool.true_or, Bool.and_true, Bool.true_and, Bool.false_and, Bool.and_false, nx_next, nx_cont, ok_ok, iteD_t, iteD_f, isNon_tup, isNon_non, isNon_int, seq_at, items_at, dict_at, Bool.true_eq_false, if_false, slotD, List.map_cons, List.map_nil, cLL_nil, lL_nil, b1_sum_nats, ex_raise, ex_pass, ex_cont, go_exc, go_cont, ex_try, cop_ne_int, lenRows, isNon_oI, isNon_oI, oI_pure, ex_par, and_self, ex_while, ix_b0, ix_b1, ix_b2, ix_b3, sl_lst, b1_int, exc_st, exc_bind, try_exc, try_ret, try_next, calm_ret, q_ix0, q_ix1, q_ix2, a_ix2, Function.comp, List.nil_append])
theorem ranges_ok (W k : Nat) {B : Cell} (hB : Bag B) (R : Mem) {cols : List Str} (hl : cols.length ≤ 10) : ∃ (rgs : List Rng) (B' : Cell), callF tb W (k + 3) 28 [.loc 0, .tup (sts cols)] (B :: R) = .ok (.tup (rgs.map Rng.d)) (B' :: R) ∧ (∀ r, r ∈ rgs → r.c ∈ cols) ∧ (∀ r, r ∈ rgs → RngOk r) ∧ Bag B' := by
  rw [u_law_ranges]
  unfold b_law_ranges
  walk_at "RUN"
  obtain ⟨ds', B1, e, hd, hB1⟩ := mixed_ok W k hB (R ++ [.lst []]) (ds := sts cols) (by rw [List.length_map]; omega) (pure_sts _)
  rw [List.cons_append, e]
  obtain ⟨cs, rfl, hcs⟩ := sts_perm hd
  walk_at "RUN"
  generalize hL : loopL _ _ _ _ _ _ = L
  have key : ∃ ρ' M', L = .next ρ' M' ∧ (∃ a b c, ∃ rgs : List Rng, ∃ B' : Cell, ρ' = [some (.loc 0), some (.tup (sts cols)), some (.loc (R.length + 1)), a, b, c] ∧ M' = B' :: (R ++ [.lst (rgs.map Rng.d)]) ∧ Bag B' ∧ rgs.length ≤ cs.length ∧ (∀ r, r ∈ rgs → r.c ∈ cs) ∧ (∀ r, r ∈ rgs → RngOk r)) := by
    rw [← hL]
    refine loopL_run (enc := D.str) (fun (pre : List Str) ρ' M' => ∃ a b c, ∃ rgs : List Rng, ∃ B' : Cell, ρ' = [some (.loc 0), some (.tup (sts cols)), some (.loc (R.length + 1)), a, b, c] ∧ M' = B' :: (R ++ [.lst (rgs.map Rng.d)]) ∧ Bag B' ∧ rgs.length ≤ pre.length ∧ (∀ r, r ∈ rgs → r.c ∈ cs) ∧ (∀ r, r ∈ rgs → RngOk r)) cs ⟨_, _, _, [], B1, rfl, rfl, hB1, Nat.le_refl _, fun r h => (nomatch h), fun r h => (nomatch h)⟩ ?_
    rintro pre x post ρ M' hp ⟨a, b, c, rgs, B2, rfl, rfl, hB2, hrl, hr1, hr2⟩
    have hxc : x ∈ cs := by rw [hp]; simp
    have hpl : pre.length < 10 := by
      have h1 := congrArg List.length hp
      have h2 := hcs.length_eq
      rw [List.length_append, List.length_cons] at h1
      omega
    unfold stepL lb_law_ranges_1
    walk_at "RUN"
    obtain ⟨v, B3, e3, _, _, hB3⟩ := take_ok W (k + 1) hB2 (R ++ [.lst (rgs.map Rng.d)]) (m := 3) (by decide) (by decide)
    rw [e3]
    walk_at "RUN"
    by_cases hv : v = 0
    · rw [decide_eq_true hv]
      walk_at "RUN"
      obtain ⟨d4, B4, e4, hd4, hB4⟩ := some_ok W k hB3 (R ++ [.lst (rgs.map Rng.d)]) (ds := [.non, .int 0, .int 1, .int 2, .int (-3)]) (by simp) (by decide) rfl
      rw [e4]
      walk_at "RUN"
      have h4 : ∃ lo : Option Int, d4 = oI lo ∧ Smo lo := by
        simp only [List.mem_cons, List.not_mem_nil, or_false] at hd4
        rcases hd4 with h | h | h | h | h
        · exact ⟨none, h, smo_lit (by decide)⟩
        · exact ⟨some 0, h, smo_lit (by decide)⟩
        · exact ⟨some 1, h, smo_lit (by decide)⟩
        · exact ⟨some 2, h, smo_lit (by decide)⟩
        · exact ⟨some (-3), h, smo_lit (by decide)⟩
      obtain ⟨lo, rfl, hlo⟩ := h4
      have mid : ∃ u : Int, (-10 ≤ u ∧ u ≤ 10) ∧ iteD .bad (.bl !Net.isNon (oI lo)) (Rs.ok (oI lo) (B4 :: (R ++ [.lst (rgs.map Rng.d)]))) (Rs.ok (.int 2) (B4 :: (R ++ [.lst (rgs.map Rng.d)]))) = Rs.ok (.int u) (B4 :: (R ++ [.lst (rgs.map Rng.d)])) := by
        cases lo with
        | none => exact ⟨2, by decide, rfl⟩
        | some l => exact ⟨l, hlo l rfl, rfl⟩
      obtain ⟨u, hus, hu⟩ := mid
      rw [hu]
      walk_at "RUN"
      obtain ⟨d5, B5, e5, hd5, hB5⟩ := some_ok W k hB4 (R ++ [.lst (rgs.map Rng.d)]) (ds := [.non, .int 3, .int 4, .int 6, .int u, .int 5]) (by simp) (by simp) rfl
      rw [e5]
      walk_at "RUN"
      have h5 : ∃ hi : Option Int, d5 = oI hi ∧ Smo hi := by
        simp only [List.mem_cons, List.not_mem_nil, or_false] at hd5
        rcases hd5 with h | h | h | h | h | h
        · exact ⟨none, h, smo_lit (by decide)⟩
        · exact ⟨some 3, h, smo_lit (by decide)⟩
        · exact ⟨some 4, h, smo_lit (by decide)⟩
        · exact ⟨some 6, h, smo_lit (by decide)⟩
        · exact ⟨some u, h, fun v e => by cases e; exact hus⟩
        · exact ⟨some 5, h, smo_lit (by decide)⟩
      obtain ⟨hi, rfl, hhi⟩ := h5
      rw [seq_own]
      walk_at "RUN"
      have fin : ∀ hi' : Option Int, (∀ lo' hi0, lo = some lo' → hi' = some hi0 → lo' ≤ hi0) → Smo hi' → Nx (Rt.next [some (.loc 0), some (.tup (sts cols)), some (.loc (R.length + 1)), some (.str x), some (oI lo), some (oI hi)] (B5 :: (R ++ [.lst (rgs.map Rng.d ++ [.tup [.str x, oI lo, oI hi']])]))) fun ρ' M' => Still [] (B1 :: (R ++ [.lst []])) M' ∧ ∃ a b c, ∃ rgs' : List Rng, ∃ B' : Cell, ρ' = [some (.loc 0), some (.tup (sts cols)), some (.loc (R.length + 1)), a, b, c] ∧ M' = B' :: (R ++ [.lst (rgs'.map Rng.d)]) ∧ Bag B' ∧ rgs'.length ≤ (pre ++ [x]).length ∧ (∀ r, r ∈ rgs' → r.c ∈ cs) ∧ (∀ r, r ∈ rgs' → RngOk r) := by
        intro hi' hle hsm
        refine ⟨still_nil, _, _, _, rgs ++ [⟨x, lo, hi'⟩], B5, rfl, by simp [Rng.d], hB5, by simp; omega, fun r hr => ?_, fun r hr => ?_⟩
        · rcases List.mem_append.mp hr with h | h
          · exact hr1 r h
          · rw [List.mem_singleton.mp h]; exact hxc
        · rcases List.mem_append.mp hr with h | h
          · exact hr2 r h
          · rw [List.mem_singleton.mp h]; exact ⟨hle, hlo, hsm⟩
      have hsz : (rgs.map Rng.d).length < sizeLine := by rw [List.length_map, Net.sizeLine_eq]; omega
      cases lo with
      | none =>
        simp only [Option.isNone_none]
        walk_at "RUN"
        rw [append_own hsz]
        walk_at "RUN"
        exact fin hi (fun lo' hi0 h => by cases h) hhi
      | some l =>
        cases hi with
        | none =>
          simp only [Option.isNone_none, Option.isNone_some]
          walk_at "RUN"
          rw [append_own hsz]
          walk_at "RUN"
          exact fin none (fun lo' hi0 h h2 => by cases h2) hhi
        | some h =>
          simp only [Option.isNone_some]
          walk_at "RUN"
          rw [show oI (some l) = .int l from rfl, show oI (some h) = .int h from rfl]
          walk_at "RUN"
          by_cases hlh : l ≤ h
          · rw [decide_eq_true hlh]
            walk_at "RUN"
            rw [append_own hsz]
            walk_at "RUN"
            exact fin (some h) (fun lo' hi0 e1 e2 => by cases e1; cases e2; exact hlh) hhi
          · rw [decide_eq_false hlh]
            walk_at "RUN"
            rw [append_own hsz]
            walk_at "RUN"
            exact fin (some l) (fun lo' hi0 e1 e2 => by cases e1; cases e2; exact Int.le_refl _) hlo
    · rw [decide_eq_false hv]
      walk_at "RUN"
      exact ⟨still_nil, _, _, _, rgs, B3, rfl, rfl, hB3, by simp; omega, hr1, hr2⟩
  obtain ⟨ρ', M', rfl, a, b, c, rgs, B', rfl, rfl, hB', hrl, hr1, hr2⟩ := key
  clear hL
  walk_at "RUN"
  rw [show D.items (B' :: (R ++ [.lst (rgs.map Rng.d)])) (.loc (R.length + 1)) = some (rgs.map Rng.d) from seq_own]
  walk_at "RUN"
  exact ⟨rgs, B', leave_bagZ (by rw [pure_tup]; exact all_pure_map fun r _ => rng_pure r), fun r h => hcs.mem_iff.mp (hr1 r h), hr2, hB'⟩
end K55
end

section
set_option Elab.async false
set_option linter.all false
set_option maxRecDepth 100000
namespace K55
open PySem L2 Net Fo
local macro_rules | `(tactic| walk_at "RUN") => `(tactic| try simp only [ev_v, ev_non, ev_bl, ev_int, ev_str, ev_tup, ev_new, ev_newM, ev_bin, ev_cmp, ev_ix, ev_call, ev_b1, ev_neg, ev_not, ev_and, ev_or, ev_ite, ev_sl, ev_index, ev_get, ev_setdef, ev_append, ev_extend, ev_insert, evs_nil, evs_cons, evs_star, evP_no, evP_at, evI_seq, evI_enum, evI_zip, evC_comp, evC_comp2, evC_lst, evC_dic, evC_list, ex_loop, ex_ret, ex_set, ex_expr, ex_ite, exs_one, exs_cons, exs_nil, go_next, go_ret, rs_ok, rs_of, rs_st,
  List.getElem?_cons_zero, List.getElem?_cons_succ, asg_tp, asgs_nil, asgs_cons, asg_nm, List.length_cons, List.length_nil, List.set_cons_zero, List.set_cons_succ, Nat.zero_lt_succ, Nat.succ_lt_succ_iff, if_true, wipeD, items_tup, items_lst, seq_tup, seq_lst, dict_tup, dict_lst, dict_dic, deps_tup, deps_lst,
  frz_lst, frz_dic, ix_t0, ix_t1, ix_t2, ix_l0, b1_tuple, b1_len, len_tup, len_lst, Option.map_some, Option.map_none, cop_eq, cop_ne, cop_in, cop_ni, cop_is, cop_isn, lt_int, gt_int, le_int, ge_int, leave_ret0, pure_non, pure_bl, pure_int, pure_str, evC_sortedBy, evC_sorted, evC_sortedSet, evC_dict, evI_rngR, evAnd1, evAnd2, evOr1, evOr2, Nat.zero_add, Nat.reduceAdd, sz0, sz1, sz2, sz3, sz4, sz5, sz6, sz8, Option.isSome_some, is_os, bop_add, bop_sub, Bool.not_true, Bool.not_false, Bool.or_true, Bool.or_false, Bool.false_or, Bool.true_or, Bool.and_true, Bool.true_and, Bool.false_and, Bool.and_false, nx_next, nx_cont, ok_ok, iteD_t, iteD_f, isNon_tup, isNon_non, isNon_int, seq_at, items_at, dict_at, Bool.true_eq_false, if_false, slotD, List.map_cons, List.map_nil, cLL_nil, lL_nil, b1_sum_nats, ex_raise, ex_pass, ex_cont, go_exc, go_cont, ex_try, cop_ne_int, lenRows, isNon_oI, isNon_oI, oI_pure, ex_par, and_self, ex_while, ix_b0, ix_b1, ix_b2, ix_b3, sl_lst, b1_int, exc_st, exc_bind, try_exc, try_ret, try_next, calm_ret, q_ix0, q_ix1, q_ix2, a_ix2, Function.comp, List.nil_append])
theorem mixed_ok' (W k : Nat) {B : Cell} (hB : Bag B) (R : Mem) {td : D} {ds : List D} (ht : D.items (B :: R) td = some ds) (hd0 : ∀ n, n ∈ td.deps → 0 < n) (hl : ds.length ≤ 900) (hp : ds.all D.pure = true) : ∃ ds' B', callF tb W (k + 2) 22 [.loc 0, td] (B :: R) = .ok (.lst ds') (B' :: R) ∧ ds'.Perm ds ∧ Bag B' := by
  rw [u_law_mixed]
  unfold b_law_mixed
  walk_at "RUN"
  have hdl := deps_bag ht
  have ht1 : D.items (B :: (R ++ [.lst []])) td = some ds := items_bag ht hd0
  rw [show B :: R ++ [Cell.lst []] = B :: (R ++ [.lst []]) from rfl, ht1]
  walk_at "RUN"
  generalize hL : loopL _ _ _ _ _ _ = L
  have key : ∃ ρ' M', L = .next ρ' M' ∧ (∃ a f B', ρ' = [some (.loc 0), some td, some (.loc (R.length + 1)), a] ∧ M' = B' :: (R ++ [.lst f]) ∧ Bag B' ∧ f.Perm ds) := by
    rw [← hL]
    have hid : ds = ds.map id := by simp
    rw [show loopL td.deps (B :: (R ++ [Cell.lst []])) (stepL (callF tb W (k + 1)) (R.length + 1) W (T.nm 3) lb_law_mixed_1) ds = loopL td.deps (B :: (R ++ [Cell.lst []])) (stepL (callF tb W (k + 1)) (R.length + 1) W (T.nm 3) lb_law_mixed_1) (ds.map id) from by rw [← hid]]
    refine loopL_run (enc := id) (fun (pre : List D) ρ' M' => ∃ a f B', ρ' = [some (.loc 0), some td, some (.loc (R.length + 1)), a] ∧ M' = B' :: (R ++ [.lst f]) ∧ Bag B' ∧ f.Perm pre) ds ⟨_, [], B, rfl, rfl, hB, .refl _⟩ ?_
    rintro pre x post ρ M' hpp ⟨a, f, B1, rfl, rfl, hB1, hf⟩
    have hfl : f.length < 900 := by
      have h1 := congrArg List.length hpp
      have h2 := hf.length_eq
      rw [List.length_append, List.length_cons] at h1
      omega
    unfold stepL lb_law_mixed_1
    walk_at "RUN"
    rw [seq_own]
    walk_at "RUN"
    rw [lenD_own]
    walk_at "RUN"
    obtain ⟨v, B2, e, h0, h1, hB2⟩ := take_ok W k hB1 (R ++ [.lst f]) (m := (f.length : Int) + 1) (by omega) (by omega)
    rw [e]
    walk_at "RUN"
    rw [insert_own (by rw [Net.sizeLine_eq]; omega) h0 (by omega)]
    walk_at "RUN"
    exact ⟨still_bag fun n hn => ⟨hd0 n hn, hdl n hn⟩, _, _, B2, rfl, rfl, hB2, (ins_perm f _ _).trans (hf.append_right _)⟩
  obtain ⟨ρ', M', rfl, a, f, B', rfl, rfl, hB', hf⟩ := key
  clear hL
  walk_at "RUN"
  refine ⟨f, B', leave_own ?_, hf, hB'⟩
  rw [List.all_eq_true] at hp ⊢
  exact fun d hd => hp d (hf.mem_iff.mp hd)
theorem take_K (W K : Nat) (hK : 1 ≤ K) {B : Cell} (hB : Bag B) (R : Mem) {m : Int} (hm : 0 < m) (hm2 : m ≤ 1000) : ∃ v B', callF tb W K 20 [.loc 0, .int m] (B :: R) = .ok (.int v) (B' :: R) ∧ 0 ≤ v ∧ v < m ∧ Bag B' := by
  obtain ⟨k, rfl⟩ := fuel hK
  exact take_ok W k hB R hm hm2
theorem some_K (W K : Nat) (hK : 2 ≤ K) {B : Cell} (hB : Bag B) (R : Mem) {ds : List D} (h : ds ≠ []) (hl : ds.length ≤ 1000) (hp : ds.all D.pure = true) : ∃ d B', callF tb W K 21 [.loc 0, .lst ds] (B :: R) = .ok d (B' :: R) ∧ d ∈ ds ∧ Bag B' := by
  obtain ⟨k, rfl⟩ := fuel hK
  exact some_ok W k hB R h hl hp
theorem mixed_K (W K : Nat) (hK : 2 ≤ K) {B : Cell} (hB : Bag B) (R : Mem) {td : D} {ds : List D} (ht : D.items (B :: R) td = some ds) (hd0 : ∀ n, n ∈ td.deps → 0 < n) (hl : ds.length ≤ 900) (hp : ds.all D.pure = true) : ∃ ds' B', callF tb W K 22 [.loc 0, td] (B :: R) = .ok (.lst ds') (B' :: R) ∧ ds'.Perm ds ∧ Bag B' := by
  obtain ⟨k, rfl⟩ := fuel hK
  exact mixed_ok' W k hB R ht hd0 hl hp
theorem forest_K (W K : Nat) (hK : 3 ≤ K) {B : Cell} (hB : Bag B) (R : Mem) {n : Nat} (hn : n ≤ 10) : ∃ ps B', callF tb W K 24 [.loc 0, .int (n : Int)] (B :: R) = .ok (.lst (pars ps)) (B' :: R) ∧ ps.length = n ∧ ParOk ps ∧ Bag B' := by
  obtain ⟨k, rfl⟩ := fuel hK
  exact forest_ok W k hB R hn
theorem cols_K (W K : Nat) (hK : 3 ≤ K) (hW : 20 ≤ W) {B : Cell} (hB : Bag B) (R : Mem) {nms : List Str} {ps : List (Option Nat)} (ok : ParOk ps) (hp : ps.length ≤ 10) (hnp : nms.length = ps.length) {i : Nat} (hi : i < ps.length) :
    ∃ cs B', callF tb W K 27 [.loc 0, .lst (sts nms), .lst (pars ps), .int (i : Int)] (B :: R) = .ok (.tup (sts cs)) (B' :: R) ∧ cs.Perm ((ln ps i).map (nmOf nms)) ∧ Bag B' := by
  obtain ⟨k, rfl⟩ := fuel hK
  exact cols_mixed_ok W k hW hB R ok hp hnp hi
theorem ranges_K (W K : Nat) (hK : 3 ≤ K) {B : Cell} (hB : Bag B) (R : Mem) {cols : List Str} (hl : cols.length ≤ 10) : ∃ (rgs : List Rng) (B' : Cell), callF tb W K 28 [.loc 0, .tup (sts cols)] (B :: R) = .ok (.tup (rgs.map Rng.d)) (B' :: R) ∧ (∀ r, r ∈ rgs → r.c ∈ cols) ∧ (∀ r, r ∈ rgs → RngOk r) ∧ Bag B' := by
  obtain ⟨k, rfl⟩ := fuel hK
  exact ranges_ok W k hB R hl
theorem nodeps {d : D} (h : d.deps = []) : ∀ n, n ∈ d.deps → 0 < n := fun n hn => by rw [h] at hn; cases hn
def six : List Str := [Str.ofString "a", Str.ofString "b", Str.ofString "c", Str.ofString "d", Str.ofString "x1", Str.ofString "y"]
def eight : List Str := [Str.ofString "r", Str.ofString "s", Str.ofString "t", Str.ofString "u", Str.ofString "v", Str.ofString "w", Str.ofString "p", Str.ofString "q7"]
theorem six_nd : six.Nodup := by decide +kernel
theorem six_ok : ∀ c, c ∈ six → PyData.strOk c = true := by decide +kernel
theorem question_ok (W K : Nat) (hK : 4 ≤ K) (hW : 20 ≤ W) {B : Cell} (hB : Bag B) (R : Mem) {m : Int} (hm : 0 < m) (hm2 : m ≤ 5) : ∃ (q : Qn) (B' : Cell), callF tb W (K + 1) 26 [.loc 0, .int m] (B :: R) = .ok q.d (B' :: R) ∧ NQ q ∧ RQ q ∧ q.cols.length ≤ 5 ∧ (∀ c, c ∈ q.cols → c ∈ six) ∧ Bag B' := by
  rw [u_law_nested_question]
  unfold b_law_nested_question
  walk_at "RUN"
  obtain ⟨ds0, B1, e1, hd1, hB1⟩ := mixed_K W K (by omega) hB R (td := .lst (sts six)) (ds := sts six) rfl (nodeps rfl) (by decide) (pure_sts _)
  rw [show [D.str (Str.ofString "a"), D.str (Str.ofString "b"), D.str (Str.ofString "c"), D.str (Str.ofString "d"), D.str (Str.ofString "x1"), D.str (Str.ofString "y")] = sts six from rfl, e1]
  obtain ⟨nms0, rfl, hn0⟩ := sts_perm hd1
  walk_at "RUN"
  obtain ⟨v, B2, e2, hv0, hv1, hB2⟩ := take_K W K (by omega) hB1 R hm (by omega)
  rw [e2]
  walk_at "RUN"
  rw [cut_take _ (by omega)]
  have hlen0 : nms0.length = 6 := hn0.length_eq
  obtain ⟨nms, hnms⟩ : ∃ nms : List Str, nms = nms0.take (1 + v).toNat := ⟨_, rfl⟩
  have hsub : ∀ c, c ∈ nms → c ∈ six := fun c h => hn0.mem_iff.mp (List.mem_of_mem_take (hnms ▸ h))
  have hnd : nms.Nodup := by rw [hnms]; exact (hn0.nodup_iff.mpr six_nd).sublist (List.take_sublist _ _)
  have hlen : nms.length ≤ 5 ∧ 0 < nms.length := by rw [hnms, List.length_take, hlen0]; omega
  have hne : nms ≠ [] := List.length_pos_iff.mp hlen.2
  have ht : (sts nms0).take (1 + v).toNat = sts nms := by rw [hnms]; unfold sts; rw [List.map_take]
  rw [ht]
  walk_at "RUN"
  have hsl : (sts nms).length = nms.length := List.length_map _
  rw [hsl]
  obtain ⟨ps, B3, e3, hps, okp, hB3⟩ := forest_K W K (by omega) hB2 R (n := nms.length) (by omega)
  rw [e3]
  walk_at "RUN"
  rw [hsl, rngR_ok (by omega)]
  walk_at "RUN"
  rw [show nats (List.range nms.length) = (List.range nms.length).map fun i : Nat => D.int (i : Int) from rfl, compL_pure (f := fun i : Nat => if decide (some i ∉ ps) = true then some (endD (Str.ofString "has", i)) else none) (List.range nms.length) []]
  · rw [filterMap_ite]
    walk_at "RUN"
    obtain ⟨E0, hE0⟩ : ∃ E0 : List (Str × Nat), E0 = ((List.range nms.length).filter fun i => decide (some i ∉ ps)).map fun i => (Str.ofString "has", i) := ⟨_, rfl⟩
    have hE0l : E0.length ≤ nms.length := by rw [hE0, List.length_map]; have := List.length_filter_le (fun i => decide (some i ∉ ps)) (List.range nms.length); rw [List.length_range] at this; exact this
    have hE0m : ∀ p, p ∈ E0 → p.2 < nms.length := fun p hp => by
      rw [hE0] at hp
      obtain ⟨i, hi, rfl⟩ := List.mem_map.mp hp
      exact List.mem_range.mp (List.mem_filter.mp hi).1
    rw [show (((List.range nms.length).filter fun i => decide (some i ∉ ps)).map fun i => endD (Str.ofString "has", i)) = E0.map endD by rw [hE0, List.map_map]; rfl, hsl, rngR_ok (by omega)]
    walk_at "RUN"
    generalize hL : loopL _ _ _ _ _ _ = L
    have key : ∃ ρ' M', L = .next ρ' M' ∧ (∃ a4 a6 X B', ρ' = [some (.loc 0), some (.int m), some (.lst (sts nms)), some (.lst (pars ps)), a4, some (.loc (R.length + 1)), a6, none, none, none, none, none, none] ∧ M' = B' :: (R ++ [.lst ((E0 ++ X).map endD)]) ∧ Bag B' ∧ X.length ≤ 2 * (List.range nms.length).length ∧ ∀ p, p ∈ E0 ++ X → p.2 < nms.length) := by
      rw [← hL]
      refine loopL_run (enc := fun i : Nat => D.int (i : Int)) (fun (pre : List Nat) ρ' M' => ∃ a4 a6 X B', ρ' = [some (.loc 0), some (.int m), some (.lst (sts nms)), some (.lst (pars ps)), a4, some (.loc (R.length + 1)), a6, none, none, none, none, none, none] ∧ M' = B' :: (R ++ [.lst ((E0 ++ X).map endD)]) ∧ Bag B' ∧ X.length ≤ 2 * pre.length ∧ ∀ p, p ∈ E0 ++ X → p.2 < nms.length) (List.range nms.length) ⟨_, _, [], B3, rfl, by rw [List.append_nil], hB3, Nat.le_refl _, by rw [List.append_nil]; exact hE0m⟩ ?_
      rintro pre x post ρ M' hp ⟨a4, a6, X, B4, rfl, rfl, hB4, hX, hXm⟩
      have hx : x < nms.length := by
        have : x ∈ List.range nms.length := by rw [hp]; simp
        exact List.mem_range.mp this
      have hpre : pre.length < 5 := by
        have h1 := congrArg List.length hp
        rw [List.length_range, List.length_append, List.length_cons] at h1
        omega
      unfold stepL lb_law_nested_question_3
      walk_at "RUN"
      obtain ⟨d5, B5, e5, hd5, hB5⟩ := some_K W K (by omega) hB4 (R ++ [.lst ((E0 ++ X).map endD)]) (ds := [.int 0, .int 0, .int 1, .int 1, .int 2]) (by simp) (by decide) rfl
      rw [e5]
      walk_at "RUN"
      obtain ⟨t, rfl, htl⟩ : ∃ t : Nat, d5 = .int (t : Int) ∧ t ≤ 2 := by
        simp only [List.mem_cons, List.not_mem_nil, or_false] at hd5
        rcases hd5 with h | h | h | h | h
        · exact ⟨0, h, by omega⟩
        · exact ⟨0, h, by omega⟩
        · exact ⟨1, h, by omega⟩
        · exact ⟨1, h, by omega⟩
        · exact ⟨2, h, by omega⟩
      rw [rngR_ok (by omega)]
      walk_at "RUN"
      generalize hL2 : loopL _ _ _ _ _ _ = L2
      have key2 : ∃ ρ' M', L2 = .next ρ' M' ∧ (∃ a6 Y B', ρ' = [some (.loc 0), some (.int m), some (.lst (sts nms)), some (.lst (pars ps)), some (.int (x : Int)), some (.loc (R.length + 1)), a6, none, none, none, none, none, none] ∧ M' = B' :: (R ++ [.lst ((E0 ++ (X ++ Y)).map endD)]) ∧ Bag B' ∧ Y.length ≤ (List.range t).length ∧ ∀ p, p ∈ Y → p.2 < nms.length) := by
        rw [← hL2]
        refine loopL_run (enc := fun i : Nat => D.int (i : Int)) (fun (pre : List Nat) ρ' M' => ∃ a6 Y B', ρ' = [some (.loc 0), some (.int m), some (.lst (sts nms)), some (.lst (pars ps)), some (.int (x : Int)), some (.loc (R.length + 1)), a6, none, none, none, none, none, none] ∧ M' = B' :: (R ++ [.lst ((E0 ++ (X ++ Y)).map endD)]) ∧ Bag B' ∧ Y.length ≤ pre.length ∧ ∀ p, p ∈ Y → p.2 < nms.length) (List.range t) ⟨_, [], B5, rfl, by rw [List.append_nil], hB5, Nat.le_refl _, fun p h => (nomatch h)⟩ ?_
        rintro pre2 y post2 ρ M' hp2 ⟨a6, Y, B6, rfl, rfl, hB6, hY, hYm⟩
        have hpre2 : pre2.length < 2 := by
          have h1 := congrArg List.length hp2
          rw [List.length_range, List.length_append, List.length_cons] at h1
          omega
        unfold stepL lb_law_nested_question_2
        walk_at "RUN"
        rw [seq_own]
        walk_at "RUN"
        obtain ⟨d7, B7, e7, hd7, hB7⟩ := some_K W K (by omega) hB6 (R ++ [.lst ((E0 ++ (X ++ Y)).map endD)]) (ds := [.str (Str.ofString "has"), .str (Str.ofString "not"), .str (Str.ofString "has")]) (by simp) (by decide) rfl
        rw [e7]
        walk_at "RUN"
        obtain ⟨w, rfl⟩ : ∃ w : Str, d7 = .str w := by
          simp only [List.mem_cons, List.not_mem_nil, or_false] at hd7
          rcases hd7 with h | h | h
          · exact ⟨_, h⟩
          · exact ⟨_, h⟩
          · exact ⟨_, h⟩
        rw [append_own (by rw [List.length_map, Net.sizeLine_eq]; simp; omega)]
        walk_at "RUN"
        refine ⟨still_nil, _, Y ++ [(w, x)], B7, rfl, by simp [endD], hB7, by simp; omega, fun p h => ?_⟩
        rcases List.mem_append.mp h with h | h
        · exact hYm p h
        · rw [List.mem_singleton.mp h]; exact hx
      obtain ⟨ρ', M', rfl, a6, Y, B6, rfl, rfl, hB6, hY, hYm⟩ := key2
      clear hL2
      walk_at "RUN"
      refine ⟨still_nil, _, _, X ++ Y, B6, rfl, rfl, hB6, by rw [List.length_append, List.length_append]; simp at hY ⊢; omega, fun p h => ?_⟩
      rw [← List.append_assoc] at h
      rcases List.mem_append.mp h with h | h
      · exact hXm p h
      · exact hYm p h
    obtain ⟨ρ', M', rfl, a4, a6, X, B4, rfl, rfl, hB4, hX, hXm⟩ := key
    clear hL
    walk_at "RUN"
    have hXl : X.length ≤ 2 * nms.length := by rw [List.length_range] at hX; exact hX
    obtain ⟨E, hE⟩ : ∃ E : List (Str × Nat), E = E0 ++ X := ⟨_, rfl⟩
    rw [← hE] at hXm ⊢
    have hEl : E.length ≤ 15 := by rw [hE, List.length_append]; omega
    obtain ⟨ds8, B5, e5, hd8, hB5⟩ := mixed_K W K (by omega) hB4 (R ++ [.lst (E.map endD)]) (td := .lst (sts eight)) (ds := sts eight) rfl (nodeps rfl) (by decide) (pure_sts _)
    rw [show [D.str (Str.ofString "r"), D.str (Str.ofString "s"), D.str (Str.ofString "t"), D.str (Str.ofString "u"), D.str (Str.ofString "v"), D.str (Str.ofString "w"), D.str (Str.ofString "p"), D.str (Str.ofString "q7")] = sts eight from rfl, e5]
    obtain ⟨ts, rfl, hts⟩ := sts_perm hd8
    have htl : ts.length = 8 := hts.length_eq
    walk_at "RUN"
    have hll : (R ++ [Cell.lst (E.map endD)]).length + 1 = R.length + 2 := by simp
    rw [hll, bag_app]
    rw [show D.items (B5 :: (R ++ [Cell.lst (E.map endD), .lst []])) (.loc (R.length + 1)) = some (E.map endD) from seq_own1]
    walk_at "RUN"
    rw [zip_ends]
    generalize hL : loopL _ _ _ _ _ _ = L
    have key : ∃ ρ' M', L = .next ρ' M' ∧ (∃ a4 a9 a10, ∃ As : List Atm, ∃ B' : Cell, ρ' = [some (.loc 0), some (.int m), some (.lst (sts nms)), some (.lst (pars ps)), a4, some (.loc (R.length + 1)), a6, some (.lst (sts ts)), some (.loc (R.length + 2)), a9, a10, none, none] ∧ M' = B' :: (R ++ [.lst (E.map endD), .lst (As.map Atm.d)]) ∧ Bag B' ∧ As.length = (E.zip ts).length ∧ ∀ (i : Nat) (a : Atm) (p : (Str × Nat) × Str), As[i]? = some a → (E.zip ts)[i]? = some p → a.cs.Perm ((ln ps p.1.2).map (nmOf nms))) := by
      rw [← hL]
      refine loopL_run (enc := fun p : (Str × Nat) × Str => D.tup [endD p.1, .str p.2]) (fun (pre : List ((Str × Nat) × Str)) ρ' M' => ∃ a4 a9 a10, ∃ As : List Atm, ∃ B' : Cell, ρ' = [some (.loc 0), some (.int m), some (.lst (sts nms)), some (.lst (pars ps)), a4, some (.loc (R.length + 1)), a6, some (.lst (sts ts)), some (.loc (R.length + 2)), a9, a10, none, none] ∧ M' = B' :: (R ++ [.lst (E.map endD), .lst (As.map Atm.d)]) ∧ Bag B' ∧ As.length = pre.length ∧ ∀ (i : Nat) (a : Atm) (p : (Str × Nat) × Str), As[i]? = some a → pre[i]? = some p → a.cs.Perm ((ln ps p.1.2).map (nmOf nms))) (E.zip ts) ⟨_, _, _, [], B5, rfl, rfl, hB5, rfl, fun i a p h => by simp at h⟩ ?_
      rintro pre ⟨⟨w, i⟩, t⟩ post ρ M' hp ⟨a4, a9, a10, As, B6, rfl, rfl, hB6, hAl, hA⟩
      have hmem : ((w, i), t) ∈ E.zip ts := by rw [hp]; simp
      have hi : i < nms.length := hXm _ (List.of_mem_zip hmem).1
      have hpl : pre.length < 15 := by
        have h1 := congrArg List.length hp
        rw [List.length_zip, List.length_append, List.length_cons] at h1
        omega
      unfold stepL lb_law_nested_question_1 endD
      walk_at "RUN"
      rw [seq_own2]
      walk_at "RUN"
      obtain ⟨cs, B7, e7, hcs, hB7⟩ := cols_K W K (by omega) hW hB6 (R ++ [.lst (E.map endD), .lst (As.map Atm.d)]) (nms := nms) okp (by omega) (by omega) (i := i) (by omega)
      have e7' := e7
      unfold endD at e7'
      rw [e7']
      walk_at "RUN"
      rw [append_own2 (by rw [List.length_map, Net.sizeLine_eq]; omega)]
      walk_at "RUN"
      refine ⟨?_, _, _, _, As ++ [⟨w, t, cs⟩], B7, rfl, by simp [Atm.d, endD], hB7, by simp [hAl], fun j a p h1 h2 => ?_⟩
      · intro n hn
        have : n = R.length + 1 := by
          simp only [List.append_nil, List.mem_singleton, deps_loc] at hn
          exact hn
        subst this
        simp
      · by_cases hj : j < As.length
        · rw [List.getElem?_append_left hj] at h1
          rw [List.getElem?_append_left (by omega)] at h2
          exact hA j a p h1 h2
        · rw [List.getElem?_append_right (by omega)] at h1 h2
          have : j - As.length = 0 := by
            have := (List.getElem?_eq_some_iff.mp h1).1
            simp at this; omega
          rw [this] at h1
          rw [show j - pre.length = 0 by omega] at h2
          simp at h1 h2
          subst h1; subst h2
          exact hcs
    obtain ⟨ρ', M', rfl, a4, a9, a10, As, B6, rfl, rfl, hB6, hAl, hA⟩ := key
    clear hL
    walk_at "RUN"
    have hAll : As.length ≤ 15 := by rw [hAl, List.length_zip]; omega
    obtain ⟨dsc, B7, e7, hd7, hB7⟩ := mixed_K W K (by omega) hB6 (R ++ [.lst (E.map endD), .lst (As.map Atm.d)]) (td := .lst (sts nms)) (ds := sts nms) rfl (nodeps rfl) (by rw [List.length_map]; omega) (pure_sts _)
    rw [e7]
    obtain ⟨cols, rfl, hcols⟩ := sts_perm hd7
    walk_at "RUN"
    have hcl : cols.length = nms.length := hcols.length_eq
    obtain ⟨dsa, B8, e8, hd8a, hB8⟩ := mixed_K W K (by omega) hB7 (R ++ [.lst (E.map endD), .lst (As.map Atm.d)]) (td := .loc (R.length + 2)) (ds := As.map Atm.d) (show D.seq _ (.loc (R.length + 2)) = _ from seq_own2) (fun n hn => by have := List.mem_singleton.mp (show n ∈ [R.length + 2] from hn); omega) (by rw [List.length_map]; omega) (all_pure_map fun a _ => atm_pure a)
    rw [e8]
    obtain ⟨ats, rfl, hats⟩ := atm_perm hd8a
    walk_at "RUN"
    obtain ⟨rgs, B9, e9, hr1, hr2, hB9⟩ := ranges_K W K (by omega) hB8 (R ++ [.lst (E.map endD), .lst (As.map Atm.d)]) (cols := cols) (by omega)
    rw [e9]
    walk_at "RUN"
    refine ⟨⟨cols, ats, rgs⟩, B9, leave_bagZ (qn_pure ⟨cols, ats, rgs⟩), ?_, ⟨hr1, hr2⟩, by rw [hcl]; exact hlen.1, fun c h => hsub c (hcols.mem_iff.mp h), hB9⟩
    refine nq_of hnd hne (fun c h => six_ok c (hsub c h)) okp hps hcols (fun a ha => ?_) fun e he hne2 => ?_
    · have ha2 := hats.mem_iff.mp ha
      obtain ⟨i, hi, ei⟩ := List.getElem_of_mem ha2
      have h1 : As[i]? = some a := by rw [List.getElem?_eq_getElem hi, ei]
      have hi2 : i < (E.zip ts).length := by omega
      have h2 : (E.zip ts)[i]? = some (E.zip ts)[i] := List.getElem?_eq_getElem hi2
      refine ⟨((E.zip ts)[i]).1.2, ?_, hA i a _ h1 h2⟩
      rw [hps]
      exact hXm _ (List.of_mem_zip (List.getElem_mem hi2)).1
    · have hm : (Str.ofString "has", e) ∈ E0 := by
        rw [hE0]
        exact List.mem_map.mpr ⟨e, List.mem_filter.mpr ⟨List.mem_range.mpr (by omega), decide_eq_true hne2⟩, rfl⟩
      obtain ⟨i, hi, ei⟩ := List.getElem_of_mem hm
      have hi8 : i < ts.length := by omega
      have hiE : i < E.length := by rw [hE, List.length_append]; omega
      have hEi : E[i] = (Str.ofString "has", e) := by
        have : E[i]? = some (Str.ofString "has", e) := by rw [hE, List.getElem?_append_left hi, List.getElem?_eq_getElem hi, ei]
        rw [List.getElem?_eq_getElem hiE] at this
        exact Option.some.inj this
      have hiz : i < (E.zip ts).length := by rw [List.length_zip]; omega
      have h2 : (E.zip ts)[i]? = some (E[i], ts[i]) := by rw [List.getElem?_eq_getElem hiz, List.getElem_zip]
      have hiA : i < As.length := by omega
      have h1 : As[i]? = some As[i] := List.getElem?_eq_getElem hiA
      refine ⟨As[i], hats.mem_iff.mpr (List.getElem_mem hiA), ?_⟩
      have := hA i _ _ h1 h2
      rw [hEi] at this
      exact this
  · intro i hi
    unfold stepC
    walk_at "RUN"
    rw [ln_has (by omega)]
    by_cases h : some i ∈ ps <;> simp [h, endD]
    walk_at "RUN"
end K55
end

section
set_option Elab.async false
set_option linter.all false
set_option maxRecDepth 100000
namespace K55
open PySem L2 Net Fo
local macro_rules | `(tactic| walk_at "RUN") => `(tactic| try simp only [ev_v, ev_non, ev_bl, ev_int, ev_str, ev_tup, ev_new, ev_newM, ev_bin, ev_cmp, ev_ix, ev_call, ev_b1, ev_neg, ev_not, ev_and, ev_or, ev_ite, ev_sl, ev_index, ev_get, ev_setdef, ev_append, ev_extend, ev_insert, evs_nil, evs_cons, evs_star, evP_no, evP_at, evI_seq, evI_enum, evI_zip, evC_comp, evC_comp2, evC_lst, evC_dic, evC_list, ex_loop, ex_ret, ex_set, ex_expr, ex_ite, exs_one, exs_cons, exs_nil, go_next, go_ret, rs_ok, rs_of, rs_st,
  List.getElem?_cons_zero, List.getElem?_cons_succ, asg_tp, asgs_nil, asgs_cons, asg_nm, List.length_cons, List.length_nil, List.set_cons_zero, List.set_cons_succ, Nat.zero_lt_succ, Nat.succ_lt_succ_iff, if_true, wipeD, items_tup, items_lst, seq_tup, seq_lst, dict_tup, dict_lst, dict_dic, deps_tup, deps_lst,
  frz_lst, frz_dic, ix_t0, ix_t1, ix_t2, ix_l0, b1_tuple, b1_len, len_tup, len_lst, Option.map_some, Option.map_none, cop_eq, cop_ne, cop_in, cop_ni, cop_is, cop_isn, lt_int, gt_int, le_int, ge_int, leave_ret0, pure_non, pure_bl, pure_int, pure_str, evC_sortedBy, evC_sorted, evC_sortedSet, evC_dict, evI_rngR, evAnd1, evAnd2, evOr1, evOr2, Nat.zero_add, Nat.reduceAdd, sz0, sz1, sz2, sz3, sz4, sz5, sz6, sz8, Option.isSome_some, is_os, bop_add, bop_sub, Bool.not_true, Bool.not_false, Bool.or_true, Bool.or_false, Bool.false_or, Bool.true_or, Bool.and_true, Bool.true_and, Bool.false_and, Bool.and_false, nx_next, nx_cont, ok_ok, iteD_t, iteD_f, isNon_tup, isNon_non, isNon_int, seq_at, items_at, dict_at, Bool.true_eq_false, if_false, slotD, List.map_cons, List.map_nil, cLL_nil, lL_nil, b1_sum_nats, ex_raise, ex_pass, ex_cont, go_exc, go_cont, ex_try, cop_ne_int, lenRows, isNon_oI, isNon_oI, oI_pure, ex_par, and_self, ex_while, ix_b0, ix_b1, ix_b2, ix_b3, sl_lst, b1_int, exc_st, exc_bind, try_exc, try_ret, try_next, calm_ret, q_ix0, q_ix1, q_ix2, a_ix2, Function.comp, List.nil_append])
theorem range_K (W K : Nat) (hK : 1 ≤ K) {q : Qn} (N : NQ q) (R : RQ q) {c : Str} (hc : c ∈ q.cols) (M : Mem) : callF tb W K 33 [q.d, .str c] M = .ok (.tup [oI (q.rg c).1, oI (q.rg c).2]) M := by
  obtain ⟨k, rfl⟩ := fuel hK
  exact el_range_of W k N R hc M
theorem kids_K (W K : Nat) (hK : 4 ≤ K) {q : Qn} (N : NQ q) {c : Str} (hc : c ∈ q.cols) (hz : q.cols.length < sizeLine) (M : Mem) : callF tb W K 32 [q.d, .str c] M = .ok (.lst (sts (q.kids c))) M := by
  obtain ⟨k, rfl⟩ := fuel hK
  exact el_children W k N (p := some c) (fun x hx => by cases hx; exact hc) hz M
mutual
theorem drawn_loop (W : Nat) {q : Qn} (N : NQ q) (RQq : RQ q) (hz : q.cols.length < sizeLine) {wd : Int} (hw : 0 ≤ wd ∧ wd ≤ 3) (F : Fo Str) (K : Nat) (cd : D) (ds : List D) (x5 x6 x7 x8 x9 x10 x11 x12 x13 : Option D) {B : Cell} (hB : Bag B) (R M0 : Mem) (hf : F.Fits q.kids) (hc : ∀ c, c ∈ F.pre → c ∈ q.cols) (hK : F.depth + 4 ≤ K) (hl : ds.length + F.pre.length ≤ 1000) :
    ∃ (s : Shp F) (y5 y6 y7 y8 y9 y10 y11 y12 y13 : Option D) (B' : Cell), loopL [] M0 (stepL (callF tb W K) (R.length + 1) W (.nm 5) lb_law_drawn_shape_1) (sts F.heads) [some (.loc 0), some q.d, some cd, some (.int wd), some (.loc (R.length + 1)), x5, x6, x7, x8, x9, x10, x11, x12, x13] (B :: (R ++ [.lst ds])) =
      .next [some (.loc 0), some q.d, some cd, some (.int wd), some (.loc (R.length + 1)), y5, y6, y7, y8, y9, y10, y11, y12, y13] (B' :: (R ++ [.lst (ds ++ dsh F s)])) ∧ Wf F s ∧ Bd 4 F s ∧ Vb F s ∧ Bag B' := by
  match F with
  | .nil => exact ⟨(), x5, x6, x7, x8, x9, x10, x11, x12, x13, B, by
      show loopL [] M0 _ [] _ _ = _
      rw [lL_nil, show dsh (Fo.nil : Fo Str) () = [] from rfl, List.append_nil], trivial, trivial, trivial, hB⟩
  | .cons c kd r =>
    obtain ⟨f1, f2, f3⟩ := hf
    have hpre : (Fo.Fo.cons c kd r).pre = c :: (kd.pre ++ r.pre) := rfl
    rw [hpre] at hc hl
    simp only [List.length_cons, List.length_append] at hl
    have hd : (Fo.Fo.cons c kd r).depth = max (kd.depth + 1) r.depth := rfl
    rw [hd] at hK
    have hcc : c ∈ q.cols := hc c List.mem_cons_self
    have hh : sts (Fo.Fo.cons c kd r).heads = .str c :: sts r.heads := rfl
    have hs : ∃ (b : List (Int × Shp kd)) (y6 y7 y8 y9 y10 y11 y12 y13 : Option D) (B' : Cell), stepL (callF tb W K) (R.length + 1) W (.nm 5) lb_law_drawn_shape_1 (.str c) [some (.loc 0), some q.d, some cd, some (.int wd), some (.loc (R.length + 1)), x5, x6, x7, x8, x9, x10, x11, x12, x13] (B :: (R ++ [.lst ds])) =
        .next [some (.loc 0), some q.d, some cd, some (.int wd), some (.loc (R.length + 1)), some (.str c), y6, y7, y8, y9, y10, y11, y12, y13] (B' :: (R ++ [.lst (ds ++ [.tup (b.map (plD kd))])])) ∧ b ≠ [] ∧ (b.map (·.1)).Pairwise (· < ·) ∧ b.length ≤ 4 ∧ (∀ p, p ∈ b → (-20 ≤ p.1 ∧ p.1 ≤ 20) ∧ Wf kd p.2 ∧ Bd 4 kd p.2 ∧ Vb kd p.2) ∧ Bag B' := by
      unfold stepL lb_law_drawn_shape_1
      walk_at "RUN"
      rw [range_K W K (by omega) N RQq hcc]
      walk_at "RUN"
      have hsm := RQq.rg_sm (c := c)
      obtain ⟨g, hg⟩ : ∃ g, g = q.rg c := ⟨_, rfl⟩
      rw [← hg] at hsm ⊢
      obtain ⟨beg, hbg⟩ : ∃ beg, beg = begOf g := ⟨_, rfl⟩
      have hbs := beg_sm hsm
      rw [← hbg] at hbs
      have hbeg : ∀ M1 : Mem, iteD .bad (.bl !g.1.isNone) (Rs.ok (oI g.1) M1) (iteD .bad (.bl !g.2.isNone) (Rs.of M1 (bop M1 .sub (oI g.2) (.int 6))) (Rs.ok (.int (-2)) M1)) = Rs.ok (.int beg) M1 := fun M1 => by
        rw [hbg]
        unfold begOf
        cases e1 : g.1 with
        | some l => rfl
        | none => cases e2 : g.2 with
          | some h => rfl
          | none => rfl
      rw [hbeg]
      walk_at "RUN"
      obtain ⟨d1, B1, e1, hd1, hB1⟩ := some_K W K (by omega) hB (R ++ [.lst ds]) (ds := [.int 0, .int 1, .int 2, .int wd]) (by simp) (by simp) rfl
      rw [e1]
      obtain ⟨t, rfl, htl⟩ : ∃ t : Nat, d1 = .int (t : Int) ∧ t ≤ 3 := by
        simp only [List.mem_cons, List.not_mem_nil, or_false] at hd1
        rcases hd1 with h | h | h | h
        · exact ⟨0, h, by omega⟩
        · exact ⟨1, h, by omega⟩
        · exact ⟨2, h, by omega⟩
        · exact ⟨wd.toNat, by rw [h, Int.toNat_of_nonneg hw.1], by omega⟩
      walk_at "RUN"
      rw [rngR_ok (by omega)]
      walk_at "RUN"
      generalize hC : compL _ _ _ _ _ _ = C
      have key : ∃ (L : List Int) (B2 : Cell), C = .ok (L.map D.int) (B2 :: (R ++ [.lst ds])) ∧ Bag B2 ∧ L.length = (List.range t).length ∧ ∀ v, v ∈ L → beg ≤ v ∧ v ≤ beg + 6 := by
        rw [← hC]
        obtain ⟨ds', M', e, L, B2, h1, h2, h3, h4, h5⟩ := compL_run (g := []) (M0 := B1 :: (R ++ [.lst ds])) (enc := fun i : Nat => D.int (i : Int)) (step := stepC (callF tb W K) (R.length + 1) (.nm 12) (.bl true) ce_law_drawn_shape_3 [some (.loc 0), some q.d, some cd, some (.int wd), some (.loc (R.length + 1)), some (.str c), some (oI g.1), some (oI g.2), some (.int beg), x9, x10, none, none, x13]) (fun (pre : List Nat) acc M' => ∃ (L : List Int) (B2 : Cell), acc = L.map D.int ∧ M' = B2 :: (R ++ [.lst ds]) ∧ Bag B2 ∧ L.length = pre.length ∧ ∀ v, v ∈ L → beg ≤ v ∧ v ≤ beg + 6) (List.range t) ⟨[], B1, rfl, rfl, hB1, rfl, fun v h => (nomatch h)⟩ (by
          rintro pre x post acc M' hp ⟨L, B2, rfl, rfl, hB2, hL, hLv⟩
          unfold stepC ce_law_drawn_shape_3
          walk_at "RUN"
          obtain ⟨v, B3, e3, h0, h1, hB3⟩ := take_K W K (by omega) hB2 (R ++ [.lst ds]) (m := 7) (by decide) (by decide)
          rw [e3]
          walk_at "RUN"
          refine ⟨still_nil, L ++ [beg + v], B3, by simp, rfl, hB3, by simp [hL], fun u hu => ?_⟩
          rcases List.mem_append.mp hu with h | h
          · exact hLv u h
          · rw [List.mem_singleton.mp h]; omega)
        exact ⟨L, B2, by rw [show nats (List.range t) = (List.range t).map fun i : Nat => D.int (i : Int) from rfl, e, h1, h2], h3, h4, h5⟩
      obtain ⟨L, B2, rfl, hB2, hLl, hLv⟩ := key
      clear hC
      rw [List.length_range] at hLl
      walk_at "RUN"
      rw [bop_lst (by rw [Net.sizeLine_eq]; simp; omega)]
      walk_at "RUN"
      obtain ⟨V, hV⟩ : ∃ V : List Int, V = beg :: L := ⟨_, rfl⟩
      have hVl : V.length ≤ 4 := by rw [hV, List.length_cons]; omega
      have hVv : ∀ v, v ∈ V → -16 ≤ v ∧ v ≤ 16 := fun v hv => by
        rw [hV] at hv
        rcases List.mem_cons.mp hv with rfl | h
        · omega
        · have := hLv v h; omega
      rw [show [D.int beg] ++ L.map D.int = V.map D.int by rw [hV]; rfl]
      walk_at "RUN"
      obtain ⟨u, B3, e3, _, _, hB3⟩ := take_K W K (by omega) hB2 (R ++ [.lst ds]) (m := 2) (by decide) (by decide)
      rw [e3]
      walk_at "RUN"
      rw [cutLmap, cutLmap]
      have c1 := cutL_len V (some u) none
      have c2 := cutL_len V (some (-1)) none
      rw [bop_lst (by rw [Net.sizeLine_eq]; simp; omega)]
      walk_at "RUN"
      obtain ⟨U, hU⟩ : ∃ U : List Int, U = cutL V (some u) none ++ cutL V (some (-1)) none := ⟨_, rfl⟩
      have hUV : ∀ x, x ∈ U → x ∈ V := fun x hx => by
        rw [hU] at hx
        rcases List.mem_append.mp hx with h | h
        · exact cutL_sub _ _ _ x h
        · exact cutL_sub _ _ _ x h
      have hUl : U.length ≤ 8 := by rw [hU, List.length_append]; omega
      have hUd := dedup_len (l := U)
      rw [← List.map_append, ← hU, intsOf_ints]
      walk_at "RUN"
      rw [if_pos ⟨by omega, by omega⟩, sort_vals (Fo.dedup_nd U) (fun v => Fo.mem_dedup)]
      walk_at "RUN"
      rw [compL_pure (f := fun v : Int => if hiB g.2 v = true then some (.int v) else none) (vals U) []]
      · rw [filterMap_ite]
        walk_at "RUN"
        rw [eq_ints_nil]
        walk_at "RUN"
        obtain ⟨l, hl'⟩ : ∃ l : List Int, l = (vals U).filter (hiB g.2) := ⟨_, rfl⟩
        rw [show List.filter (fun x => hiB g.2 x) (vals U) = l from hl'.symm]
        have hlp : l.Pairwise (· < ·) := by rw [hl']; exact (vals_lt U).sublist List.filter_sublist
        have hlm : ∀ v, v ∈ l → v ∈ V := fun v hv => by
          rw [hl'] at hv
          exact hUV v (mem_vals.mp (List.mem_filter.mp hv).1)
        have hll : l.length ≤ 4 := Nat.le_trans (len_le_of_sub (pw_ne hlp) hlm) hVl
        have hsel : ∀ M1 : Mem, ∃ Vv : List Int, iteD Rs.bad (D.bl (!decide (l = []))) (Rs.ok (D.lst (l.map D.int)) M1) (Rs.ok (D.lst [D.int beg]) M1) = Rs.ok (D.lst (Vv.map D.int)) M1 ∧ Vv ≠ [] ∧ Vv.Pairwise (· < ·) ∧ Vv.length ≤ 4 ∧ ∀ v, v ∈ Vv → -20 ≤ v ∧ v ≤ 20 := fun M1 => by
          by_cases h : l = []
          · rw [decide_eq_true h]
            exact ⟨[beg], rfl, by simp, List.pairwise_singleton _ _, by simp, fun v hv => by rw [List.mem_singleton.mp hv]; omega⟩
          · rw [decide_eq_false h]
            exact ⟨l, rfl, h, hlp, hll, fun v hv => by have := hVv v (hlm v hv); omega⟩
        obtain ⟨Vv, hsel1, v1, v2, v3, v4⟩ := hsel (B3 :: (R ++ [.lst ds]))
        rw [hsel1]
        walk_at "RUN"
        rw [kids_K W K (by omega) N hcc hz, f1]
        walk_at "RUN"
        rw [seq_own]
        walk_at "RUN"
        generalize hC : compL _ _ _ _ _ _ = C
        have key : ∃ (b : List (Int × Shp kd)) (B4 : Cell), C = .ok (b.map (plD kd)) (B4 :: (R ++ [.lst ds])) ∧ Bag B4 ∧ b.map (·.1) = Vv ∧ ∀ p, p ∈ b → Wf kd p.2 ∧ Bd 4 kd p.2 ∧ Vb kd p.2 := by
          rw [← hC]
          obtain ⟨ds', M', e, b, B4, h1, h2, h3, h4, h5⟩ := compL_run (g := []) (M0 := B3 :: (R ++ [.lst ds])) (enc := D.int) (step := stepC (callF tb W K) (R.length + 1) (.nm 13) (.bl true) ce_law_drawn_shape_1 [some (.loc 0), some q.d, some cd, some (.int wd), some (.loc (R.length + 1)), some (.str c), some (oI g.1), some (oI g.2), some (.int beg), some (.lst (Vv.map D.int)), some (.lst (sts kd.heads)), none, x12, none]) (fun (pre : List Int) acc M' => ∃ (b : List (Int × Shp kd)) (B4 : Cell), acc = b.map (plD kd) ∧ M' = B4 :: (R ++ [.lst ds]) ∧ Bag B4 ∧ b.map (·.1) = pre ∧ ∀ p, p ∈ b → Wf kd p.2 ∧ Bd 4 kd p.2 ∧ Vb kd p.2) Vv ⟨[], B3, rfl, rfl, hB3, rfl, fun p h => (nomatch h)⟩ (by
            rintro pre x post acc M' hp ⟨b, B4, rfl, rfl, hB4, hb1, hb2⟩
            unfold stepC ce_law_drawn_shape_1
            walk_at "RUN"
            obtain ⟨s, B5, e5, w1, w2, w3, hB5⟩ := drawn_call W N RQq hz hw kd K hB4 (R ++ [.lst ds]) f2 (fun x hx => hc x (List.mem_cons_of_mem _ (List.mem_append.mpr (.inl hx)))) (by omega) (by omega)
            rw [e5]
            walk_at "RUN"
            refine ⟨still_nil, b ++ [(x, s)], B5, by simp [plD], rfl, hB5, by simp [hb1], fun p hp2 => ?_⟩
            rcases List.mem_append.mp hp2 with h | h
            · exact hb2 p h
            · rw [List.mem_singleton.mp h]; exact ⟨w1, w2, w3⟩)
          exact ⟨b, B4, by rw [e, h1, h2], h3, h4, h5⟩
        obtain ⟨b, B4, rfl, hB4, hb1, hb2⟩ := key
        clear hC
        walk_at "RUN"
        rw [append_own (by rw [Net.sizeLine_eq]; omega)]
        walk_at "RUN"
        refine ⟨b, _, _, _, _, _, _, _, _, B4, rfl, ?_, ?_, ?_, fun p hp => ⟨?_, hb2 p hp⟩, hB4⟩
        · intro z; rw [z] at hb1; exact v1 hb1.symm
        · rw [hb1]; exact v2
        · have := congrArg List.length hb1
          rw [List.length_map] at this
          omega
        · exact v4 p.1 (by rw [← hb1]; exact List.mem_map.mpr ⟨p, hp, rfl⟩)
      · intro v hv
        unfold stepC ce_law_drawn_shape_2
        walk_at "RUN"
        cases e2 : g.2 with
        | none =>
          simp only [Option.isNone_none]
          unfold hiB
          walk_at "RUN"
        | some h =>
          simp only [Option.isNone_some]
          unfold oI hiB
          walk_at "RUN"
          by_cases hvh : v ≤ h <;> simp [hvh]
    obtain ⟨b, y6, y7, y8, y9, y10, y11, y12, y13, B', e, b1, b2, b3, b4, hB'⟩ := hs
    rw [hh, lL_step e still_nil]
    obtain ⟨s, z5, z6, z7, z8, z9, z10, z11, z12, z13, B2, e2, w1, w2, w3, hB2⟩ := drawn_loop W N RQq hz hw r K cd (ds ++ [.tup (b.map (plD kd))]) (some (.str c)) y6 y7 y8 y9 y10 y11 y12 y13 hB' R M0 f3 (fun x hx => hc x (List.mem_cons_of_mem _ (List.mem_append.mpr (.inr hx)))) (by omega) (by simp; omega)
    refine ⟨(b, s), z5, z6, z7, z8, z9, z10, z11, z12, z13, B2, ?_, ⟨b1, b2, fun p hp => (b4 p hp).2.1, w1⟩, ⟨b3, fun p hp => (b4 p hp).2.2.1, w2⟩, ⟨fun p hp => ⟨(b4 p hp).1, (b4 p hp).2.2.2⟩, w3⟩, hB2⟩
    rw [e2, List.append_assoc]
    rfl
termination_by (F, 0)
theorem drawn_call (W : Nat) {q : Qn} (N : NQ q) (RQq : RQ q) (hz : q.cols.length < sizeLine) {wd : Int} (hw : 0 ≤ wd ∧ wd ≤ 3) (F : Fo Str) (K : Nat) {B : Cell} (hB : Bag B) (R : Mem) (hf : F.Fits q.kids) (hc : ∀ c, c ∈ F.pre → c ∈ q.cols) (hK : F.depth + 5 ≤ K) (hl : F.pre.length ≤ 1000) :
    ∃ (s : Shp F) (B' : Cell), callF tb W K 41 [.loc 0, q.d, .lst (sts F.heads), .int wd] (B :: R) = .ok (.tup (dsh F s)) (B' :: R) ∧ Wf F s ∧ Bd 4 F s ∧ Vb F s ∧ Bag B' := by
  obtain ⟨j, rfl⟩ := fuel (show 1 ≤ K by omega)
  rw [u_law_drawn_shape]
  unfold b_law_drawn_shape
  walk_at "RUN"
  obtain ⟨s, y5, y6, y7, y8, y9, y10, y11, y12, y13, B', e, w1, w2, w3, hB'⟩ := drawn_loop W N RQq hz hw F j (.lst (sts F.heads)) [] none none none none none none none none none hB R (B :: (R ++ [.lst []])) hf hc (by omega) (by simpa using hl)
  rw [show B :: R ++ [Cell.lst []] = B :: (R ++ [.lst []]) from rfl, e]
  walk_at "RUN"
  rw [show D.items (B' :: (R ++ [.lst (dsh F s)])) (.loc (R.length + 1)) = some (dsh F s) from seq_own]
  walk_at "RUN"
  exact ⟨s, B', leave_bagZ (by rw [pure_tup]; exact dsh_pure _ _), w1, w2, w3, hB'⟩
termination_by (F, 1)
end
theorem any_K (W K : Nat) (hK : 12 ≤ K) {q : Qn} {F : Fo Str} (Q : QF q F) (RQq : RQ q) {B : Cell} (hB : Bag B) (R : Mem) : ∃ (s : Option (Shp F)) (B' : Cell), callF tb W (K + 1) 42 [.loc 0, q.d] (B :: R) = .ok (oSh F s) (B' :: R) ∧ (∀ t, s = some t → Wf F t ∧ Bd 4 F t ∧ Vb F t) ∧ Bag B' := by
  rw [u_law_any_shape]
  unfold b_law_any_shape
  walk_at "RUN"
  obtain ⟨v, B1, e1, _, _, hB1⟩ := take_K W K (by omega) hB R (m := 12) (by decide) (by decide)
  rw [e1]
  walk_at "RUN"
  by_cases hv : v = 0
  · rw [decide_eq_true hv]
    walk_at "RUN"
    exact ⟨none, B1, leave_bag rfl, fun t h => (nomatch h), hB1⟩
  · rw [decide_eq_false hv]
    walk_at "RUN"
    have er : callF tb W K 32 [q.d, .non] (B1 :: R) = .ok (.lst (sts q.roots)) (B1 :: R) := by
      obtain ⟨k, rfl⟩ := fuel (show 4 ≤ K by omega)
      exact el_roots W k Q.N Q.hz _
    rw [er]
    walk_at "RUN"
    obtain ⟨d, B2, e2, hd, hB2⟩ := some_K W K (by omega) hB1 R (ds := [.int 1, .int 2, .int 3]) (by simp) (by decide) rfl
    rw [e2]
    walk_at "RUN"
    obtain ⟨wd, rfl, hw⟩ : ∃ wd : Int, d = .int wd ∧ 0 ≤ wd ∧ wd ≤ 3 := by
      simp only [List.mem_cons, List.not_mem_nil, or_false] at hd
      rcases hd with h | h | h
      · exact ⟨1, h, by decide⟩
      · exact ⟨2, h, by decide⟩
      · exact ⟨3, h, by decide⟩
    have hdp := Q.dep
    have hps := Q.psz
    obtain ⟨s, B3, e3, w1, w2, w3, hB3⟩ := drawn_call W Q.N RQq Q.hz hw F K hB2 R Q.fits Q.mem (by omega) (by omega)
    rw [Q.heads] at e3
    rw [e3]
    walk_at "RUN"
    exact ⟨some s, B3, leave_bag (by rw [pure_tup]; exact dsh_pure _ _), fun t h => (by cases h; exact ⟨w1, w2, w3⟩), hB3⟩
theorem bag_new (W k : Nat) (ns : List Int) (hl : ns.length ≤ 63) : ∃ B, callF tb W (k + 1) 19 [.scr ns] [] = .ok (.loc 0) [B] ∧ Bag B := by
  rw [u_law_bag]
  unfold b_law_bag
  walk_at "RUN"
  have hs : slV [] (.scr ns) none (some 63) = some (.lst ((cutL ns none (some 63)).map .int)) := rfl
  have hcl := cutL_len ns none (some 63)
  rw [hs]
  walk_at "RUN"
  rw [compL_pure (f := fun i : Int => some (.int (if i < 0 then -i else i))) (cutL ns none (some 63)) []]
  · rw [filterMap_some]
    walk_at "RUN"
    refine ⟨_, rfl, 0, 1234567891, 0, (cutL ns none (some 63)).map fun i => if i < 0 then -i else i, ?_, by rw [List.length_map]; omega⟩
    rw [List.map_map]
    rfl
  · intro i hi
    unfold stepC
    walk_at "RUN"
    rfl
end K55
end

section
set_option Elab.async false
set_option linter.all false
set_option maxRecDepth 100000
namespace K55
open PySem L2 Net Fo
local macro_rules | `(tactic| walk_at "RUN") => `(tactic| try simp only [ev_v, ev_non, ev_bl, ev_int, ev_str, ev_tup, ev_new, ev_newM, ev_bin, ev_cmp, ev_ix, ev_call, ev_b1, ev_neg, ev_not, ev_and, ev_or, ev_ite, ev_sl, ev_index, ev_get, ev_setdef, ev_append, ev_extend, ev_insert, evs_nil, evs_cons, evs_star, evP_no, evP_at, evI_seq, evI_enum, evI_zip, evC_comp, evC_comp2, evC_lst, evC_dic, evC_list, ex_loop, ex_ret, ex_set, ex_expr, ex_ite, exs_one, exs_cons, exs_nil, go_next, go_ret, rs_ok, rs_of, rs_st,
  List.getElem?_cons_zero, List.getElem?_cons_succ, asg_tp, asgs_nil, asgs_cons, asg_nm, List.length_cons, List.length_nil, List.set_cons_zero, List.set_cons_succ, Nat.zero_lt_succ, Nat.succ_lt_succ_iff, if_true, wipeD, items_tup, items_lst, seq_tup, seq_lst, dict_tup, dict_lst, dict_dic, deps_tup, deps_lst,
  frz_lst, frz_dic, ix_t0, ix_t1, ix_t2, ix_l0, b1_tuple, b1_len, len_tup, len_lst, Option.map_some, Option.map_none, cop_eq, cop_ne, cop_in, cop_ni, cop_is, cop_isn, lt_int, gt_int, le_int, ge_int, leave_ret0, pure_non, pure_bl, pure_int, pure_str, evC_sortedBy, evC_sorted, evC_sortedSet, evC_dict, evI_rngR, evAnd1, evAnd2, evOr1, evOr2, Nat.zero_add, Nat.reduceAdd, sz0, sz1, sz2, sz3, sz4, sz5, sz6, sz8, Option.isSome_some, is_os, bop_add, bop_sub, Bool.not_true, Bool.not_false, Bool.or_true, Bool.or_false, Bool.false_or, Bool.true_or, Bool.and_true, Bool.true_and, Bool.false_and, Bool.and_false, nx_next, nx_cont, ok_ok, iteD_t, iteD_f, isNon_tup, isNon_non, isNon_int, seq_at, items_at, dict_at, Bool.true_eq_false, if_false, slotD, List.map_cons, List.map_nil, cLL_nil, lL_nil, b1_sum_nats, ex_raise, ex_pass, ex_cont, go_exc, go_cont, ex_try, cop_ne_int, lenRows, isNon_oI, isNon_oI, oI_pure, ex_par, and_self, ex_while, ix_b0, ix_b1, ix_b2, ix_b3, sl_lst, b1_int, exc_st, exc_bind, try_exc, try_ret, try_next, calm_ret, q_ix0, q_ix1, q_ix2, a_ix2, Function.comp, List.nil_append])
theorem compL_runC {α : Type} {enc : α → D} {g : List Nat} {M0 : Mem} {step : D → Mem → Rs (Option D)} (xs : List α) {M : Mem} {C : Rs (List D)} (hC : compL g M0 step (xs.map enc) [] M = C) (I : List α → List D → Mem → Prop) (h : I [] [] M)
    (hs : ∀ pre x post acc M, xs = pre ++ x :: post → I pre acc M → Ok (step (enc x) M) fun o M' => Still g M0 M' ∧ I (pre ++ [x]) (acc ++ o.toList) M') : ∃ ds M', C = .ok ds M' ∧ I xs ds M' := hC ▸ compL_run I xs h hs
theorem el_alike (W K : Nat) {d : D} (hp : d.pl = true) (hs : d.sm = true) (hd : d.dp ≤ 64) (hl : d.tl ≤ sizeLine) (M : Mem) : callF tb W (K + 1) 23 [d, d] M = .ok (.bl true) M := by
  rw [u_law_alike]
  unfold b_law_alike
  walk_at "RUN"
  obtain ⟨x, hx⟩ := repr_pl hp hs hd hl
  rw [eqD_self hp hd]
  walk_at "RUN"
  rw [hx]
  walk_at "RUN"
  rw [hx]
  walk_at "RUN"
  rw [eq_str3, decide_eq_true rfl]
  walk_at "RUN"
  exact leave_ret0 rfl
theorem el_alike_bl (W K : Nat) (b : Bool) (M : Mem) : callF tb W (K + 1) 23 [.bl b, .bl b] M = .ok (.bl true) M := by
  rw [u_law_alike]
  unfold b_law_alike
  walk_at "RUN"
  obtain ⟨x, hx⟩ := repr_bl (b := b)
  rw [eqD_bl]
  walk_at "RUN"
  rw [hx]
  walk_at "RUN"
  rw [hx]
  walk_at "RUN"
  rw [eq_str3, decide_eq_true rfl]
  walk_at "RUN"
  exact leave_ret0 rfl
theorem is_in_K (W k : Nat) {q : Qn} {F : Fo Str} (Q : QF q F) (hk : 14 ≤ k) (s : Option (Shp F)) (hw : ∀ t, s = some t → Wf F t) {p : List Int} (hp : p.length = q.cols.length) (M : Mem) :
    callF tb W k 18 [q.d, oSh F s, ptD p] M = .ok (.bl (decide (p ∈ pnt q F s))) M := by
  rw [ev_is_in W k Q hk s hw hp, ← inS_mem Q hw hp] <;> cases s <;> rfl
theorem in_range_K (W K : Nat) (hK : 2 ≤ K) {q : Qn} (N : NQ q) (R : RQ q) {c : Str} (hc : c ∈ q.cols) (v : Int) (M : Mem) : callF tb W K 34 [q.d, .str c, .int v] M = .ok (.bl (inB (q.rg c) v)) M := by
  obtain ⟨k, rfl⟩ := fuel hK
  exact el_is_in_range W k N R hc v M
theorem inner_ok (W K : Nat) (hK : 20 ≤ K) {q : Qn} {F : Fo Str} (Q : QF q F) (RQq : RQ q) {s : Option (Shp F)} (hw : ∀ t, s = some t → Wf F t ∧ Bd 4 F t ∧ Vb F t) (hl : (pnt q F s).length ≤ 50) (h5 : q.cols.length ≤ 5) (h6 : ∀ c, c ∈ q.cols → c ∈ six)
    {B : Cell} (hB : Bag B) (i : Nat) (z0 z2 z6 z7 z8 z9 z10 z11 z12 z13 : Option D) :
    ∃ y9 y10 y11 y12 y13 B', stepL (callF tb W (K + 1)) 0 W (.nm 8) lb_law_1 (.int (i : Int)) [z0, some (.loc 0), z2, some q.d, some (oSh F s), some (.lst (rowsD (pnt q F s))), z6, z7, z8, z9, z10, z11, z12, z13, none, none, none, none] [B] = .next [z0, some (.loc 0), z2, some q.d, some (oSh F s), some (.lst (rowsD (pnt q F s))), z6, z7, some (.int (i : Int)), y9, y10, y11, y12, y13, none, none, none, none] [B'] ∧ Bag B' := by
  unfold stepL lb_law_1
  walk_at "RUN"
  obtain ⟨P, hP⟩ : ∃ P, P = pnt q F s := ⟨_, rfl⟩
  rw [← hP] at hl ⊢
  have hPl : ∀ p, p ∈ P → p.length = q.cols.length := fun p hp => pnt_len Q (hP ▸ hp)
  have hPv : ∀ p, p ∈ P → ∀ v, v ∈ p → -20 ≤ v ∧ v ≤ 20 := fun p hp => pnt_vb (fun t e => (hw t e).2.2) (hP ▸ hp)
  have hn : 0 < q.cols.length := List.length_pos_iff.mpr Q.N.ne
  have hz := Q.hz
  generalize hS : (Rs.of [B] _).bind _ = S
  obtain ⟨l, B1, e1, hll, hlv, hB1⟩ : ∃ (l : List Int) (B1 : Cell), S = .ok (ptD l) [B1] ∧ l.length = q.cols.length ∧ (∀ v, v ∈ l → -20 ≤ v ∧ v ≤ 20) ∧ Bag B1 := by
    rw [← hS, show eqD [B] (.lst (rowsD P)) (.lst []) = some (decide (P = [])) from eq_rows (B := [])]
    by_cases h : P = []
    · rw [decide_eq_true h]
      walk_at "RUN"
      rw [show (sts q.cols).length = q.cols.length from List.length_map _, zeros hn (by omega)]
      exact ⟨_, B, rfl, List.length_replicate .., fun v hv => by rw [(List.mem_replicate.mp hv).2]; decide, hB⟩
    · rw [decide_eq_false h]
      walk_at "RUN"
      obtain ⟨d, B1, e1, hd, hB1⟩ := some_K W (K + 1) (by omega) hB [] (ds := rowsD P) (fun e => h (by have := congrArg List.length e; rw [lenRows] at this; exact List.eq_nil_of_length_eq_zero this)) (by rw [lenRows]; omega) (pure_rows P)
      obtain ⟨l, hl2, rfl⟩ := List.mem_map.mp hd
      exact ⟨l, B1, e1, hPl l hl2, hPv l hl2, hB1⟩
  rw [e1]
  walk_at "RUN"
  rw [show D.items [B1] (ptD l) = some (l.map .int) from rfl]
  walk_at "RUN"
  generalize hC : compL _ _ _ _ _ _ = C
  obtain ⟨p, B2, e2, hpl, hpv, hB2⟩ : ∃ (p : List Int) (B2 : Cell), C = .ok (p.map .int) [B2] ∧ p.length = q.cols.length ∧ (∀ v, v ∈ p → -20 ≤ v ∧ v ≤ 20) ∧ Bag B2 := by
    obtain ⟨ds, M', e, p, B2, rfl, rfl, h1, h2, h3⟩ := compL_runC (enc := fun v : Int => D.int v) l hC (fun pre acc M => ∃ (p : List Int) (B2 : Cell), acc = p.map D.int ∧ M = [B2] ∧ p.length = pre.length ∧ (∀ v, v ∈ p → -20 ≤ v ∧ v ≤ 20) ∧ Bag B2) ⟨[], B1, rfl, rfl, rfl, fun v hv => (nomatch hv), hB1⟩ (by
      rintro pre x post acc M hpre ⟨p, B2, rfl, rfl, h1, h2, h3⟩
      unfold stepC
      walk_at "RUN"
      obtain ⟨v, B3, e3, v0, v1, hB3⟩ := take_K W (K + 1) (by omega) h3 [] (m := 2) (by decide) (by decide)
      rw [e3]
      walk_at "RUN"
      by_cases h : v = 0
      · rw [decide_eq_true h]
        walk_at "RUN"
        obtain ⟨u, B4, e4, u0, u1, hB4⟩ := take_K W (K + 1) (by omega) hB3 [] (m := 6) (by decide) (by decide)
        rw [e4]
        walk_at "RUN"
        refine ⟨still_nil, p ++ [u - 2], B4, ?_, rfl, ?_, fun w hw => ?_, hB4⟩
        · simp
        · simp [h1]
        · rcases List.mem_append.mp hw with hw | hw
          · exact h2 w hw
          · rw [List.mem_singleton.mp hw]; omega
      · rw [decide_eq_false h]
        walk_at "RUN"
        refine ⟨still_nil, p ++ [x], B3, ?_, rfl, ?_, fun w hw => ?_, hB3⟩
        · simp
        · simp [h1]
        · rcases List.mem_append.mp hw with hw | hw
          · exact h2 w hw
          · rw [List.mem_singleton.mp hw]; exact hlv x (by rw [hpre]; simp))
    exact ⟨p, B2, e, h1.trans hll, h2, h3⟩
  rw [e2]
  walk_at "RUN"
  rw [show D.tup (p.map D.int) = ptD p from rfl, is_in_K W (K + 1) Q (by omega) s (fun t e => (hw t e).1) hpl, ← hP]
  walk_at "RUN"
  rw [in_rows]
  walk_at "RUN"
  rw [el_alike_bl]
  walk_at "RUN"
  rw [show D.items [B2] (ptD p) = some (p.map .int) from rfl]
  walk_at "RUN"
  rw [show (((sts q.cols).zip (p.map D.int)).map fun p => D.tup [p.fst, p.snd]) = (q.cols.zip p).map fun z => D.tup [.str z.1, .int z.2] by unfold sts; rw [List.zip_map, List.map_map]; rfl, compL_pure (f := fun z : Str × Int => if (!inB (q.rg z.1) z.2) = true then some (.int 1) else none) (q.cols.zip p) []]
  · rw [filterMap_ite]
    walk_at "RUN"
    obtain ⟨ip, hip⟩ : ∃ ip, eqD [B2] (.lst (((q.cols.zip p).filter fun z => !inB (q.rg z.1) z.2).map fun _ => D.int 1)) (.lst []) = some ip := ⟨_, eq_nil (plL_iff.mpr fun d hd => by obtain ⟨_, _, rfl⟩ := List.mem_map.mp hd; rfl) (by
      refine Nat.le_trans (Nat.succ_le_succ (dpL_le.mpr fun d hd => ?_ : D.dpL _ ≤ 0)) (by decide)
      obtain ⟨_, _, rfl⟩ := List.mem_map.mp hd
      exact Nat.le_refl _)⟩
    rw [hip]
    walk_at "RUN"
    rw [in_rows]
    walk_at "RUN"
    generalize hT : Rs.bind _ _ = T
    obtain ⟨N, e3, hN, nd⟩ : ∃ N : List (List Int), T = .ok (.lst (rowsD N)) [B2] ∧ (∀ x, x ∈ N → x = p ∨ x ∈ P) ∧ N.Nodup ∧ N.length ≤ 51 := by
      have ndP : P.Nodup := hP ▸ pnt_nd Q fun t e => (hw t e).1
      have near1 : ∃ N : List (List Int), (Rs.bind (Rs.bind (compL [] [B2]
                  (stepC (callF tb W (K + 1)) 0 (Net.T.nm 17) (E.cmp COp.ne (E.var 17) (E.var 9)) (E.var 17)
                    [z0, some (D.loc 0), z2, some q.d, some (oSh F s), some (D.lst (rowsD P)), z6, z7, some (D.int (i : Int)),
                      some (ptD p), some (D.bl ip), z11, z12, z13, none, none, none, none])
                  (rowsD P) [] [B2]) (fun ds M => Rs.ok (Cell.lst ds) M)) fun c M => Rs.ok c.frz M) = .ok (.lst (rowsD N)) [B2] ∧ (∀ x, x ∈ N → x = p ∨ x ∈ P) ∧ N.Nodup ∧ N.length ≤ 51 := by
        refine ⟨P.filter fun x => !decide (x = p), ?_, fun x hx => .inr (List.mem_filter.mp hx).1, ndP.filter _, by have := List.length_filter_le (fun x => !decide (x = p)) P; omega⟩
        rw [show rowsD P = P.map ptD from rfl, compL_pure (f := fun x : List Int => if (!decide (x = p)) = true then some (ptD x) else none) P []]
        · rw [filterMap_ite]
          rfl
        · intro x hx
          unfold stepC
          walk_at "RUN"
          rw [eq_pt]
          walk_at "RUN"
          cases decide (x = p) <;> rfl
      rw [← hT]
      by_cases hin : p ∈ P
      · rw [decide_eq_true hin]
        walk_at "RUN"
        exact near1
      · rw [decide_eq_false hin]
        cases ip with
        | false =>
          walk_at "RUN"
          exact near1
        | true =>
          walk_at "RUN"
          rw [bop_lst (by rw [lenRows, Net.sizeLine_eq]; show P.length + 1 ≤ _; omega)]
          refine ⟨P ++ [p], ?_, fun x hx => ?_, ?_, by rw [List.length_append, List.length_singleton]; omega⟩
          · unfold rowsD
            rw [List.map_append]
            rfl
          · rcases List.mem_append.mp hx with h | h
            · exact .inr h
            · exact .inl (List.mem_singleton.mp h)
          · rw [List.nodup_append]
            refine ⟨ndP, List.nodup_cons.mpr ⟨List.not_mem_nil, List.nodup_nil⟩, fun a ha b hb e => hin ?_⟩
            rw [List.mem_singleton.mp hb] at e
            exact e ▸ ha
    obtain ⟨nd, nl⟩ := nd
    rw [e3]
    walk_at "RUN"
    obtain ⟨u, B3, e4, u0, u1, hB3⟩ := take_K W (K + 1) (by omega) hB2 [] (m := 2) (by decide) (by decide)
    rw [e4]
    walk_at "RUN"
    rw [show cutL (rowsD N) (some u) none = rowsD (cutL N (some u) none) by unfold rowsD cutL; rw [List.length_map, List.map_take, List.map_drop]]
    obtain ⟨N2, hN2⟩ : ∃ N2, N2 = cutL N (some u) none := ⟨_, rfl⟩
    have sub2 : N2.Sublist N := by rw [hN2]; unfold cutL; exact (List.take_sublist _ _).trans (List.drop_sublist _ _)
    rw [← hN2]
    have len2 : ∀ x, x ∈ N2 → x.length = q.cols.length := fun x hx => by
      rcases hN x (sub2.subset hx) with rfl | h
      · exact hpl
      · exact hPl x h
    rw [sortD_pts hn len2]
    walk_at "RUN"
    obtain ⟨A, hA⟩ : ∃ A, A = srt N2 := ⟨_, rfl⟩
    rw [← hA]
    have pA : A.Perm N2 := hA ▸ srt_perm N2
    have sA : srt A = A := srt_self (hA ▸ srt_sorted N2)
    have ndA : A.Nodup := pA.nodup_iff.mpr (nd.sublist sub2)
    have mA : ∀ x, x ∈ A → x = p ∨ x ∈ P := fun x hx => hN x (sub2.subset (pA.mem_iff.mp hx))
    have lA : ∀ x, x ∈ A → x.length = q.cols.length := fun x hx => len2 x (pA.mem_iff.mp hx)
    have vA : ∀ x, x ∈ A → ∀ v, v ∈ x → -20 ≤ v ∧ v ≤ 20 := fun x hx => by
      rcases mA x hx with rfl | h
      · exact hpv
      · exact hPv x h
    have nA : A.length ≤ 60 := by
      have := pA.length_eq
      have := sub2.length_le
      omega
    have bA : ∀ t, shp q F A = some t → Bd 5 F t := shp_bd Q (fun t e => ⟨(hw t e).1, (hw t e).2.1⟩) lA fun x hx => hP ▸ mA x hx
    obtain ⟨v, due, b, d1, d2, d3, d4, d5, d6, d7, d8⟩ := due_ok Q Q.psz sA lA ndA bA vA
    obtain ⟨tx, htx⟩ := repr_pl (d := .tup (rowsD A)) (rows_pl A) (rows_sm vA) (by have := rows_dp A; show D.dpL (rowsD A) + 1 ≤ 64; omega) (by have := rows_tl (A := A) (fun x hx => by rw [lA x hx]; omega) nA; show D.tlL (rowsD A) + 3 ≤ sizeLine; rw [Net.sizeLine_eq]; omega)
    rw [htx]
    walk_at "RUN"
    rw [el_shape W (K + 1) Q (by omega) A lA nA bA, d1]
    walk_at "RUN"
    rw [d3]
    walk_at "RUN"
    rw [show iteD Rs.bad (D.bl b) (Rs.ok (D.tup [D.str (Str.ofString "refused")]) [B3]) (Rs.ok v [B3]) = Rs.ok due [B3] by rw [← d4]; cases b <;> rfl]
    walk_at "RUN"
    rw [el_told W (K + 1) Q (by omega) A lA nA bA, d2]
    walk_at "RUN"
    rw [el_alike W K d5 d6 (by omega) (by rw [Net.sizeLine_eq]; omega)]
    walk_at "RUN"
    rw [htx]
    walk_at "RUN"
    rw [eq_str3, decide_eq_true rfl]
    walk_at "RUN"
    exact ⟨_, _, _, _, _, B3, rfl, hB3⟩
  · rintro ⟨c, v⟩ hz
    have hc := (List.of_mem_zip hz).1
    unfold stepC
    walk_at "RUN"
    rw [in_range_K W (K + 1) (by omega) Q.N RQq hc]
    walk_at "RUN"
    cases inB (q.rg c) v <;> rfl
end K55
end

section
set_option Elab.async false
set_option linter.all false
set_option maxRecDepth 100000
namespace K55
open PySem L2 Net Fo
local macro_rules | `(tactic| walk_at "RUN") => `(tactic| try simp only [ev_v, ev_non, ev_bl, ev_int, ev_str, ev_tup, ev_new, ev_newM, ev_bin, ev_cmp, ev_ix, ev_call, ev_b1, ev_neg, ev_not, ev_and, ev_or, ev_ite, ev_sl, ev_index, ev_get, ev_setdef, ev_append, ev_extend, ev_insert, evs_nil, evs_cons, evs_star, evP_no, evP_at, evI_seq, evI_enum, evI_zip, evC_comp, evC_comp2, evC_lst, evC_dic, evC_list, ex_loop, ex_ret, ex_set, ex_expr, ex_ite, exs_one, exs_cons, exs_nil, go_next, go_ret, rs_ok, rs_of, rs_st,
  List.getElem?_cons_zero, List.getElem?_cons_succ, asg_tp, asgs_nil, asgs_cons, asg_nm, List.length_cons, List.length_nil, List.set_cons_zero, List.set_cons_succ, Nat.zero_lt_succ, Nat.succ_lt_succ_iff, if_true, wipeD, items_tup, items_lst, seq_tup, seq_lst, dict_tup, dict_lst, dict_dic, deps_tup, deps_lst,
  frz_lst, frz_dic, ix_t0, ix_t1, ix_t2, ix_l0, b1_tuple, b1_len, len_tup, len_lst, Option.map_some, Option.map_none, cop_eq, cop_ne, cop_in, cop_ni, cop_is, cop_isn, lt_int, gt_int, le_int, ge_int, leave_ret0, pure_non, pure_bl, pure_int, pure_str, evC_sortedBy, evC_sorted, evC_sortedSet, evC_dict, evI_rngR, evAnd1, evAnd2, evOr1, evOr2, Nat.zero_add, Nat.reduceAdd, sz0, sz1, sz2, sz3, sz4, sz5, sz6, sz8, Option.isSome_some, is_os, bop_add, bop_sub, Bool.not_true, Bool.not_false, Bool.or_true, Bool.or_false, Bool.false_or, Bool.true_or, Bool.and_true, Bool.true_and, Bool.false_and, Bool.and_false, nx_next, nx_cont, ok_ok, iteD_t, iteD_f, isNon_tup, isNon_non, isNon_int, seq_at, items_at, dict_at, Bool.true_eq_false, if_false, slotD, List.map_cons, List.map_nil, cLL_nil, lL_nil, b1_sum_nats, ex_raise, ex_pass, ex_cont, go_exc, go_cont, ex_try, cop_ne_int, lenRows, isNon_oI, isNon_oI, oI_pure, ex_par, and_self, ex_while, ix_b0, ix_b1, ix_b2, ix_b3, sl_lst, b1_int, exc_st, exc_bind, try_exc, try_ret, try_next, calm_ret, q_ix0, q_ix1, q_ix2, a_ix2, Function.comp, List.nil_append])
theorem loopL_runC {α : Type} {enc : α → D} {g : List Nat} {M0 : Mem} {step : D → Fr → Mem → Rt} (xs : List α) {ρ : Fr} {M : Mem} {C : Rt} (hC : loopL g M0 step (xs.map enc) ρ M = C) (I : List α → Fr → Mem → Prop) (h : I [] ρ M)
    (hs : ∀ pre x post ρ M, xs = pre ++ x :: post → I pre ρ M → Nx (step (enc x) ρ M) fun ρ' M' => Still g M0 M' ∧ I (pre ++ [x]) ρ' M') : ∃ ρ' M', C = .next ρ' M' ∧ I xs ρ' M' := hC ▸ loopL_run I xs h hs
theorem told_self {q : Qn} {F : Fo Str} (Q : QF q F) {s : Option (Shp F)} (hw : ∀ t, s = some t → Wf F t) {P : List (List Int)} (hP : P = pnt q F s) :
    (if P = [] then D.non else if num F (shd F (P.map (envp q.cols))) = P.length then .tup (dsh F (shd F (P.map (envp q.cols)))) else .tup [.str (Str.ofString "refused")]) = oSh F s := by
  have hs : shp q F P = s := hP ▸ shp_pnt Q hw
  by_cases h : P = []
  · rw [if_pos h, (pnt_nil Q hw).mp (hP ▸ h)]
    rfl
  · have e : oSh F s = .tup (dsh F (shd F (P.map (envp q.cols)))) := by
      rw [← hs]; unfold shp; rw [if_neg h]; rfl
    rw [if_neg h, if_pos, e]
    refine (told_iff Q (fun x hx => pnt_len Q (hP ▸ hx)) (hP ▸ pnt_nd Q hw) h).mpr ?_
    rw [hs, ← hP, srt_self (hP ▸ pnt_sorted Q)]
theorem six_tl : ∀ c, c ∈ six → (reprText c).length ≤ 10 := by decide +kernel
def plcO (F : Fo Str) (s : Option (Shp F)) : Nat := match s with
  | none => 0
  | some t => plc F t
theorem ev_many_K (W k : Nat) (F : Fo Str) (s : Option (Shp F)) (hk : F.depth + 1 ≤ k) (hz : ∀ t, s = some t → plc F t ≤ sizeLine) (M : Mem) : callF tb W k 9 [oSh F s] M = .ok (.int (plcO F s : Int)) M := by
  rw [ev_places_many W k F s hk hz]
  cases s <;> rfl
theorem el_many_K (W k : Nat) (F : Fo Str) (s : Option (Shp F)) (hk : F.depth + 1 ≤ k) (M : Mem) : callF tb W k 35 [oSh F s] M = .ok (.int (plcO F s : Int)) M := by
  rw [el_places W k F s hk]
  cases s <;> rfl
theorem turn_ok (W K : Nat) (hK : 20 ≤ K) (hW : 20 ≤ W) {B : Cell} (hB : Bag B) (i : Nat) (z0 z2 z3 z4 z5 z6 z7 z8 z9 z10 z11 z12 z13 : Option D) :
    ∃ y3 y4 y5 y6 y7 y8 y9 y10 y11 y12 y13 B', (stepL (callF tb W (K + 1)) 0 W (.nm 2) lb_law_2 (.int (i : Int)) [z0, some (.loc 0), z2, z3, z4, z5, z6, z7, z8, z9, z10, z11, z12, z13, none, none, none, none] [B] = .next [z0, some (.loc 0), some (.int (i : Int)), y3, y4, y5, y6, y7, y8, y9, y10, y11, y12, y13, none, none, none, none] [B'] ∨ stepL (callF tb W (K + 1)) 0 W (.nm 2) lb_law_2 (.int (i : Int)) [z0, some (.loc 0), z2, z3, z4, z5, z6, z7, z8, z9, z10, z11, z12, z13, none, none, none, none] [B] = .cont [z0, some (.loc 0), some (.int (i : Int)), y3, y4, y5, y6, y7, y8, y9, y10, y11, y12, y13, none, none, none, none] [B']) ∧ Bag B' := by
  unfold stepL lb_law_2
  walk_at "RUN"
  obtain ⟨d, B1, e1, hd, hB1⟩ := some_K W (K + 1) (by omega) hB [] (ds := [.int 4, .int 3, .int 5]) (by simp) (by decide) rfl
  rw [e1]
  walk_at "RUN"
  obtain ⟨m, rfl, hm, hm5⟩ : ∃ m : Int, d = .int m ∧ 0 < m ∧ m ≤ 5 := by
    simp only [List.mem_cons, List.not_mem_nil, or_false] at hd
    rcases hd with h | h | h
    · exact ⟨4, h, by decide⟩
    · exact ⟨3, h, by decide⟩
    · exact ⟨5, h, by decide⟩
  obtain ⟨q, B2, e2, N, RQq, h5, h6, hB2⟩ := question_ok W K (by omega) hW hB1 [] hm hm5
  rw [e2]
  walk_at "RUN"
  obtain ⟨F, Q⟩ := qf_of N (by omega)
  obtain ⟨s, B3, e3, hw, hB3⟩ := any_K W K (by omega) Q RQq hB2 []
  rw [e3]
  walk_at "RUN"
  have hw4 : ∀ t, s = some t → Bd 5 F t := fun t e => bd45 Q (hw t e).2.1
  have hww : ∀ t, s = some t → Wf F t := fun t e => (hw t e).1
  rw [el_points W (K + 1) Q (by omega) s hw4]
  walk_at "RUN"
  obtain ⟨P, hP⟩ : ∃ P, P = pnt q F s := ⟨_, rfl⟩
  rw [← hP]
  by_cases hl : (50 : Int) < (P.length : Int)
  · rw [decide_eq_true hl]
    walk_at "RUN"
    exact ⟨_, _, _, _, _, _, _, _, _, _, _, B3, .inr rfl, hB3⟩
  rw [decide_eq_false hl]
  walk_at "RUN"
  have nP : P.length ≤ 50 := by omega
  have lP : ∀ x, x ∈ P → x.length = q.cols.length := fun x hx => pnt_len Q (hP ▸ hx)
  have sP : shp q F P = s := hP ▸ shp_pnt Q hww
  have er : ∀ M, callF tb W (K + 1) 32 [q.d, .non] M = .ok (.lst (sts q.roots)) M := fun M => by
    obtain ⟨k, hk⟩ := fuel (show 4 ≤ K + 1 by omega)
    rw [hk]
    exact el_roots W k Q.N Q.hz _
  generalize hE : Rt.go _ _ = E
  suffices h : ∃ y3 y4 y5 y6 y7 y8 y9 y10 y11 y12 y13 B', E = .next [z0, some (.loc 0), some (.int (i : Int)), y3, y4, y5, y6, y7, y8, y9, y10, y11, y12, y13, none, none, none, none] [B'] ∧ Bag B' by
    obtain ⟨y3, y4, y5, y6, y7, y8, y9, y10, y11, y12, y13, B', e, h⟩ := h
    exact ⟨y3, y4, y5, y6, y7, y8, y9, y10, y11, y12, y13, B', .inl e, h⟩
  rw [← hE, er]
  clear hE E
  walk_at "RUN"
  rw [el_line_of W (K + 1) Q (by omega)]
  walk_at "RUN"
  rw [ev_line_of W (K + 1) Q (by omega)]
  walk_at "RUN"
  rw [ev_points_of W (K + 1) Q (by omega) s hw4, ← hP]
  walk_at "RUN"
  have hdp := Q.dep
  have hpc : ∀ t, s = some t → plc F t ≤ 15625 := fun t e => by
    have h1 := plc_le F t (hw t e).2.1
    have h2 : (4 + 1) ^ Fo.sz F ≤ (4 + 1) ^ 6 := Nat.pow_le_pow_right (by decide) Q.psz
    have h3 : ((4 + 1) ^ 6 : Nat) = 15625 := rfl
    omega
  rw [ev_many_K W (K + 1) F s (by omega) fun t e => by have := hpc t e; rw [Net.sizeLine_eq]; omega]
  walk_at "RUN"
  rw [el_told W (K + 1) Q (by omega) P lP (by omega) (sP ▸ hw4), told_self Q hww hP]
  walk_at "RUN"
  rw [el_many_K W (K + 1) F s (by omega)]
  walk_at "RUN"
  have hnn : plcO F s ≤ 15625 := by
    cases s with
    | none => exact Nat.zero_le _
    | some t => exact hpc t rfl
  obtain ⟨n, hn⟩ : ∃ n, n = plcO F s := ⟨_, rfl⟩
  rw [← hn] at hnn ⊢
  have hpre : ∀ c, c ∈ F.pre → c ∈ six := fun c hc => h6 c (Q.mem c hc)
  obtain ⟨o1, o2, o3, o4⟩ := oSh_ok (F := F) (s := s) Q.psz Q.dep fun t e => ⟨hw4 t e, (hw t e).2.2⟩
  have a1 : D.pl (.tup (sts F.pre)) = true := pl_tup.mpr fun d hd => by
    obtain ⟨c, hc, rfl⟩ := List.mem_map.mp hd
    exact six_ok c (hpre c hc)
  have a2 : D.sm (.tup (sts F.pre)) = true := smL_iff.mpr fun d hd => by
    obtain ⟨c, hc, rfl⟩ := List.mem_map.mp hd
    rfl
  have a3 : D.dp (.tup (sts F.pre)) ≤ 1 := dp_tup (n := 0) fun d hd => by
    obtain ⟨c, hc, rfl⟩ := List.mem_map.mp hd
    exact Nat.le_refl _
  have a4 : D.tl (.tup (sts F.pre)) ≤ 100 := by
    have h1 := tlL_le (ds := sts F.pre) (n := 10) fun d hd => by
      obtain ⟨c, hc, rfl⟩ := List.mem_map.mp hd
      exact six_tl c (hpre c hc)
    have h2 := Q.psz
    rw [show (sts F.pre).length = F.pre.length from List.length_map _] at h1
    show D.tlL (sts F.pre) + 3 ≤ 100
    omega
  have b2 := rows_sm (A := P) fun x hx => pnt_vb (fun t e => (hw t e).2.2) (hP ▸ hx)
  have b3 := rows_dp P
  have b4 := rows_tl (A := P) (fun x hx => by rw [lP x hx]; omega) (by omega)
  have al : ∀ M, callF tb W (K + 1) 23 [.lst [.tup (sts F.pre), .tup (rowsD P), .int (n : Int), oSh F s], .lst [.tup (sts F.pre), .tup (rowsD P), .int (n : Int), oSh F s]] M = .ok (.bl true) M := fun M => by
    refine el_alike W K ?_ ?_ ?_ ?_ M
    · show D.plL [_, _, _, _] = true
      unfold D.plL D.plL D.plL D.plL D.plL
      rw [a1, show D.pl (.tup (rowsD P)) = true from rows_pl P, o1]
      rfl
    · show D.smL [_, _, _, _] = true
      unfold D.smL D.smL D.smL D.smL D.smL
      rw [a2, show D.sm (.tup (rowsD P)) = true from b2, o2, show D.sm (.int (n : Int)) = true from decide_eq_true (by omega)]
      rfl
    · show D.dpL [_, _, _, _] + 1 ≤ 64
      have : D.dpL [D.tup (sts F.pre), D.tup (rowsD P), D.int (n : Int), oSh F s] ≤ 63 := dpL_le.mpr fun d hd => by
        simp only [List.mem_cons, List.not_mem_nil, or_false] at hd
        rcases hd with rfl | rfl | rfl | rfl
        · omega
        · show D.dpL (rowsD P) + 1 ≤ 63
          omega
        · exact Nat.zero_le _
        · omega
      omega
    · show D.tl (.tup (sts F.pre)) + 2 + (D.tlL (rowsD P) + 3 + 2 + (30 + 2 + ((oSh F s).tl + 2 + 0))) + 3 ≤ sizeLine
      rw [Net.sizeLine_eq]
      omega
  rw [al]
  walk_at "RUN"
  rw [show D.int 4 = D.int ((4 : Nat) : Int) from rfl, rngR_ok (by decide)]
  walk_at "RUN"
  generalize hL : loopL _ _ _ _ _ _ = L
  obtain ⟨ρ', M', e4, y8, y9, y10, y11, y12, y13, B', rfl, rfl, hB'⟩ := loopL_runC (enc := fun i : Nat => D.int (i : Int)) (List.range 4) hL (fun pre ρ M => ∃ (y8 y9 y10 y11 y12 y13 : Option D) (B' : Cell), ρ = [z0, some (.loc 0), some (.int (i : Int)), some q.d, some (oSh F s), some (.lst (rowsD P)), some (.tup (sts F.pre)), some (.lst [.tup (sts F.pre), .tup (rowsD P), .int (n : Int), oSh F s]), y8, y9, y10, y11, y12, y13, none, none, none, none] ∧ M = [B'] ∧ Bag B') ⟨_, _, _, _, _, _, B3, rfl, rfl, hB3⟩ (by
    rintro pre x post ρ M hp ⟨y8, y9, y10, y11, y12, y13, B4, rfl, rfl, hB4⟩
    obtain ⟨w9, w10, w11, w12, w13, B5, e5, hB5⟩ := inner_ok W K hK Q RQq hw (hP ▸ nP) h5 h6 hB4 x z0 (some (.int (i : Int))) (some (.tup (sts F.pre))) (some (.lst [.tup (sts F.pre), .tup (rowsD P), .int (n : Int), oSh F s])) y8 y9 y10 y11 y12 y13
    rw [← hP] at e5
    rw [e5]
    exact ⟨still_nil, _, _, _, _, _, _, B5, rfl, rfl, hB5⟩)
  rw [e4]
  walk_at "RUN"
  exact ⟨_, _, _, _, _, _, _, _, _, _, _, B', rfl, hB'⟩
theorem law_ok (W K : Nat) (hK : 20 ≤ K) (hW : 20 ≤ W) (ns : List Int) (hl : ns.length ≤ 63) : ∃ M, callF tb W (K + 2) 44 [.scr ns] [] = .ok (.bl true) M := by
  rw [u_law]
  unfold b_law
  walk_at "RUN"
  obtain ⟨B, e1, hB⟩ := bag_new W K ns hl
  rw [e1]
  walk_at "RUN"
  rw [show D.int 2 = D.int ((2 : Nat) : Int) from rfl, rngR_ok (by decide)]
  walk_at "RUN"
  generalize hL : loopL _ _ _ _ _ _ = L
  obtain ⟨ρ', M', e4, y2, y3, y4, y5, y6, y7, y8, y9, y10, y11, y12, y13, B', rfl, rfl, hB'⟩ := loopL_runC (enc := fun i : Nat => D.int (i : Int)) (List.range 2) hL (fun pre ρ M => ∃ (y2 y3 y4 y5 y6 y7 y8 y9 y10 y11 y12 y13 : Option D) (B' : Cell), ρ = [some (.scr ns), some (.loc 0), y2, y3, y4, y5, y6, y7, y8, y9, y10, y11, y12, y13, none, none, none, none] ∧ M = [B'] ∧ Bag B') ⟨_, _, _, _, _, _, _, _, _, _, _, _, B, rfl, rfl, hB⟩ (by
    rintro pre x post ρ M hp ⟨y2, y3, y4, y5, y6, y7, y8, y9, y10, y11, y12, y13, B4, rfl, rfl, hB4⟩
    obtain ⟨w3, w4, w5, w6, w7, w8, w9, w10, w11, w12, w13, B5, e5, hB5⟩ := turn_ok W K hK hW hB4 x (some (.scr ns)) y2 y3 y4 y5 y6 y7 y8 y9 y10 y11 y12 y13
    rcases e5 with e5 | e5 <;> rw [e5] <;> exact ⟨still_nil, _, _, _, _, _, _, _, _, _, _, _, _, B5, rfl, rfl, hB5⟩)
  rw [e4]
  walk_at "RUN"
  exact ⟨_, rfl⟩
end K55
end

section
set_option Elab.async false
theorem K55.room28 : L2.Room (4 * 28) PySem.callerA := ⟨rfl, by decide, by decide⟩
theorem PySem.Challenge.cw_enoughlooks_k55_shapes_and_their_points_holds : PySem.Challenge.rw_enoughlooks_k55_shapes_and_their_points.Holds := by
  exact K55.holds_of (k := 28) (W := 100) K55.room28 fun ns hl => K55.law_ok 100 26 (by decide) (by decide) ns hl
end
